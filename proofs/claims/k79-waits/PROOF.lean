import PyProof.Rows.All
import HandS.ForMost
import HandS.Exc
import HandS.TryOnly
import HandS.ExcOwn
import HandS.WordsExc
import HandS.Deep
import HandS.Wide
import HandS.IsInst
import HandS.CallSlots
import HandS.HeadEnd
import HandS.HeadHook1
import HandS.HeadHook2
import HandS.HeadHook4
import HandS.Defaults
import KE.KStateDown
import Lean
import HandS.Head0
import HandS.Head1
import HandS.Head2
import PySem.Challenge.RW_switchways_k79_waiting_and_wide_calls
set_option Elab.async false
set_option linter.all false
set_option maxRecDepth 100000
namespace VS
open PySem PySem.Spec L2
open PyProof.Rows hiding St
/-! ### values and results -/
abbrev D := PyData
structure Ex where
  cls : Str
  fs : List (Str × D)
inductive R (α : Type) where
  | ok (a : α)
  | ex (x : Ex)
  | no
def R.bd {α β : Type} : R α → (α → R β) → R β
  | .ok a, f => f a
  | .ex x, _ => .ex x
  | .no, _ => .no
instance : Monad R where
  pure := R.ok
  bind := R.bd
@[simp] theorem ok_bind {α β : Type} (a : α) (f : α → R β) : (R.ok a >>= f) = f a := rfl
@[simp] theorem ex_bind {α β : Type} (x : Ex) (f : α → R β) : ((R.ex x : R α) >>= f) = .ex x := rfl
@[simp] theorem no_bind {α β : Type} (f : α → R β) : ((R.no : R α) >>= f) = .no := rfl
@[simp] theorem pure_ok {α : Type} (a : α) : (pure a : R α) = .ok a := rfl
/-! ### who owns the lists -/
inductive Ty where
  | S | F | L (t : Ty)
  deriving DecidableEq, Repr
def Ty.el : Ty → Ty
  | .S => .S
  | .F => .F
  | .L t => t
def Ty.tu : Ty → Ty
  | .S => .S
  | .F => .F
  | .L _ => .S
def keyD : Key → D
  | .inl i => .int i
  | .inr x => .str x
/-- a dict's keys and values, tracked as it is -/
def DcW (H : Hp) (a : Addr) (ks : List D) (vs : List V) : Prop :=
  (∃ l : List (Key × V), H a = some (.dK l) ∧ ks = l.map (fun p => keyD p.1) ∧ vs = l.map (·.2)) ∨
  (∃ l : List (List Key × V), H a = some (.dT l) ∧ ks = l.map (fun p => .tuple (p.1.map keyD)) ∧ vs = l.map (·.2))
def DcR (H : Hp) (a : Addr) (ks : List D) (vs : List V) : Prop :=
  DcW H a ks vs ∨
  (∃ (o : Obj) (l : List (Key × V)), H a = some (.frz o (.dK l)) ∧ ks = l.map (fun p => keyD p.1) ∧ vs = l.map (·.2)) ∨
  (∃ (o : Obj) (l : List (List Key × V)), H a = some (.frz o (.dT l)) ∧ ks = l.map (fun p => .tuple (p.1.map keyD)) ∧ vs = l.map (·.2))
/-- where a list's or a dict's own node goes -/
def Nd (t : Ty) (a : Addr) (o' s' o s : List Addr) : Prop := match t with
  | .S => o = o' ∧ s = a :: s'
  | _ => o = a :: o' ∧ s = s'
def LsA (K : PySem.W.Frag) (H : Hp) (t : Ty) (a : Addr) (vs : List V) : Prop := match t with
  | .S => SqL K H a vs
  | _ => H a = some (.lst vs)
theorem DcW.same {H H' : Hp} {a : Addr} {ks : List D} {vs : List V} (e : H' a = H a) (h : DcW H a ks vs) : DcW H' a ks vs := by
  unfold DcW at *; rw [e]; exact h
theorem DcR.same {H H' : Hp} {a : Addr} {ks : List D} {vs : List V} (e : H' a = H a) (h : DcR H a ks vs) : DcR H' a ks vs := by
  unfold DcR DcW at *; rw [e]; exact h
theorem DcW.there {H : Hp} {a : Addr} {ks : List D} {vs : List V} (h : DcW H a ks vs) : ∃ u, H a = some u ∧ Mut (some u) := by
  rcases h with ⟨l, h, _⟩ | ⟨l, h, _⟩ <;> exact ⟨_, h, trivial⟩
theorem DcR.tuple {H : Hp} {a : Addr} {ks : List D} {vs xs : List V} (h : DcR H a ks vs) (r : Rd H a (.tup xs)) : False := by
  rcases r with r | ⟨o, r⟩
  · rcases h with (⟨l, h, _⟩ | ⟨l, h, _⟩) | ⟨o, l, h, _⟩ | ⟨o, l, h, _⟩ <;> (rw [r] at h; cases h)
  · rcases h with (⟨l, h, _⟩ | ⟨l, h, _⟩) | ⟨o, l, h, _⟩ | ⟨o, l, h, _⟩ <;> (rw [r] at h; cases h)
def DcA (H : Hp) (t : Ty) (a : Addr) (ks : List D) (vs : List V) : Prop := match t with
  | .S => DcR H a ks vs
  | _ => DcW H a ks vs
section
variable (K : PySem.W.Frag) (H : Hp)
mutual
/-- the value v stands for the data d; o: the nodes owned with it, s: the shared ones -/
def Rw : D → Ty → V → List Addr → List Addr → Prop
  | .none, _, v, o, s => v = .non ∧ o = [] ∧ s = []
  | .bool b, _, v, o, s => v = .bl b ∧ o = [] ∧ s = []
  | .int i, _, v, o, s => v = .int i ∧ o = [] ∧ s = []
  | .str x, _, v, o, s => v = .str x ∧ o = [] ∧ s = []
  | .tuple ds, t, v, o, s => ∃ a vs, v = .ref a ∧ SqT K H a vs ∧ RwL ds t.tu vs o s
  | .list ds, t, v, o, s => ∃ a vs o' s', v = .ref a ∧ LsA K H t a vs ∧ RwL ds t.el vs o' s' ∧ Nd t a o' s' o s
  | .dict kds, t, v, o, s => ∃ a vs o' s', v = .ref a ∧ DcA H t a (kds.map (·.1)) vs ∧ RwK kds t.el vs o' s' ∧ Nd t a o' s' o s
def RwL : List D → Ty → List V → List Addr → List Addr → Prop
  | [], _, vs, o, s => vs = [] ∧ o = [] ∧ s = []
  | d :: ds, t, vs, o, s => ∃ v vs' o1 s1 o2 s2, vs = v :: vs' ∧ o = o1 ++ o2 ∧ s = s1 ++ s2 ∧ Rw d t v o1 s1 ∧ RwL ds t vs' o2 s2
def RwK : List (D × D) → Ty → List V → List Addr → List Addr → Prop
  | [], _, vs, o, s => vs = [] ∧ o = [] ∧ s = []
  | (_, d) :: ds, t, vs, o, s => ∃ v vs' o1 s1 o2 s2, vs = v :: vs' ∧ o = o1 ++ o2 ∧ s = s1 ++ s2 ∧ Rw d t v o1 s1 ∧ RwK ds t vs' o2 s2
end
end
section
variable {K : PySem.W.Frag} {H H' : Hp} {t : Ty} {v : V} {o s : List Addr}
theorem rw_non : Rw K H .none t v o s ↔ v = .non ∧ o = [] ∧ s = [] := by rw [Rw]
theorem rw_bl {b : Bool} : Rw K H (.bool b) t v o s ↔ v = .bl b ∧ o = [] ∧ s = [] := by rw [Rw]
theorem rw_int {b : Int} : Rw K H (.int b) t v o s ↔ v = .int b ∧ o = [] ∧ s = [] := by rw [Rw]
theorem rw_str {b : Str} : Rw K H (.str b) t v o s ↔ v = .str b ∧ o = [] ∧ s = [] := by rw [Rw]
theorem rw_tup {ds : List D} : Rw K H (.tuple ds) t v o s ↔ ∃ a vs, v = .ref a ∧ SqT K H a vs ∧ RwL K H ds t.tu vs o s := by rw [Rw]
theorem rw_lst {ds : List D} : Rw K H (.list ds) t v o s ↔ ∃ a vs o' s', v = .ref a ∧ LsA K H t a vs ∧ RwL K H ds t.el vs o' s' ∧ Nd t a o' s' o s := by rw [Rw]
theorem rw_dct {kds : List (D × D)} : Rw K H (.dict kds) t v o s ↔ ∃ a vs o' s', v = .ref a ∧ DcA H t a (kds.map (·.1)) vs ∧ RwK K H kds t.el vs o' s' ∧ Nd t a o' s' o s := by rw [Rw]
theorem rwl_nil {vs : List V} : RwL K H [] t vs o s ↔ vs = [] ∧ o = [] ∧ s = [] := by rw [RwL]
theorem rwl_cons {vs : List V} {d : D} {ds : List D} : RwL K H (d :: ds) t vs o s ↔ ∃ v vs' o1 s1 o2 s2, vs = v :: vs' ∧ o = o1 ++ o2 ∧ s = s1 ++ s2 ∧ Rw K H d t v o1 s1 ∧ RwL K H ds t vs' o2 s2 := by rw [RwL]
theorem rwk_nil {vs : List V} : RwK K H [] t vs o s ↔ vs = [] ∧ o = [] ∧ s = [] := by rw [RwK]
theorem rwk_cons {vs : List V} {p : D × D} {ds : List (D × D)} : RwK K H (p :: ds) t vs o s ↔ ∃ v vs' o1 s1 o2 s2, vs = v :: vs' ∧ o = o1 ++ o2 ∧ s = s1 ++ s2 ∧ Rw K H p.2 t v o1 s1 ∧ RwK K H ds t vs' o2 s2 := by
  obtain ⟨a, b⟩ := p
  rw [RwK]
/-- a dict's values are a list of values -/
theorem rwk_iff : ∀ {kds : List (D × D)} {vs : List V} {o s : List Addr}, RwK K H kds t vs o s ↔ RwL K H (kds.map (·.2)) t vs o s
  | [], vs, o, s => by rw [rwk_nil, List.map_nil, rwl_nil]
  | p :: kds, vs, o, s => by
    rw [rwk_cons, List.map_cons, rwl_cons]
    constructor
    · rintro ⟨v, vs', o1, s1, o2, s2, h1, h2, h3, h4, h5⟩
      exact ⟨v, vs', o1, s1, o2, s2, h1, h2, h3, h4, rwk_iff.mp h5⟩
    · rintro ⟨v, vs', o1, s1, o2, s2, h1, h2, h3, h4, h5⟩
      exact ⟨v, vs', o1, s1, o2, s2, h1, h2, h3, h4, rwk_iff.mpr h5⟩
theorem Nd.mem {t : Ty} {a b : Addr} {o' s' o s : List Addr} (h : Nd t a o' s' o s) : (b ∈ o ∨ b ∈ s) ↔ (b = a ∨ b ∈ o' ∨ b ∈ s') := by
  cases t <;> (obtain ⟨rfl, rfl⟩ := h; simp only [List.mem_cons]; grind)
/-- what a value leans on: its nodes and the tuples -/
theorem LsA.frame {a : Addr} {vs : List V} (e : H' a = H a) (h : LsA K H t a vs) : LsA K H' t a vs := by
  cases t with
  | S =>
    rcases h with (h | ⟨o, h⟩) | h
    · exact .inl (.inl (e.trans h))
    · exact .inl (.inr ⟨o, e.trans h⟩)
    · exact .inr h
  | F => exact e.trans h
  | L t => exact e.trans h
theorem DcA.frame {a : Addr} {ks : List D} {vs : List V} (e : H' a = H a) (h : DcA H t a ks vs) : DcA H' t a ks vs := by
  cases t with
  | S => exact DcR.same e h
  | F => exact DcW.same e h
  | L t => exact DcW.same e h
mutual
theorem Rw.frame (ht : ∀ b xs, Rd H b (.tup xs) → Rd H' b (.tup xs)) : ∀ (d : D) {t : Ty} {v : V} {o s : List Addr}, (∀ b, b ∈ o ∨ b ∈ s → H' b = H b) → Rw K H d t v o s → Rw K H' d t v o s
  | .none, _, _, _, _, _, h => by rw [rw_non] at *; exact h
  | .bool b, _, _, _, _, _, h => by rw [rw_bl] at *; exact h
  | .int b, _, _, _, _, _, h => by rw [rw_int] at *; exact h
  | .str b, _, _, _, _, _, h => by rw [rw_str] at *; exact h
  | .tuple ds, _, _, _, _, hb, h => by
    rw [rw_tup] at *
    obtain ⟨a, vs, e, h1, h2⟩ := h
    exact ⟨a, vs, e, h1.elim (fun z => .inl (ht _ _ z)) .inr, RwL.frame ht ds hb h2⟩
  | .list ds, _, _, _, _, hb, h => by
    rw [rw_lst] at *
    obtain ⟨a, vs, o', s', e, h1, h2, h3⟩ := h
    exact ⟨a, vs, o', s', e, h1.frame (hb a (h3.mem.mpr (.inl rfl))), RwL.frame ht ds (fun b z => hb b (h3.mem.mpr (.inr z))) h2, h3⟩
  | .dict kds, _, _, _, _, hb, h => by
    rw [rw_dct] at *
    obtain ⟨a, vs, o', s', e, h1, h2, h3⟩ := h
    exact ⟨a, vs, o', s', e, h1.frame (hb a (h3.mem.mpr (.inl rfl))), RwK.frame ht kds (fun b z => hb b (h3.mem.mpr (.inr z))) h2, h3⟩
theorem RwL.frame (ht : ∀ b xs, Rd H b (.tup xs) → Rd H' b (.tup xs)) : ∀ (d : List D) {t : Ty} {v : List V} {o s : List Addr}, (∀ b, b ∈ o ∨ b ∈ s → H' b = H b) → RwL K H d t v o s → RwL K H' d t v o s
  | [], _, _, _, _, _, h => by rw [rwl_nil] at *; exact h
  | d :: ds, _, _, _, _, hb, h => by
    rw [rwl_cons] at *
    obtain ⟨v, vs', o1, s1, o2, s2, e1, e2, e3, h1, h2⟩ := h
    subst e2 e3
    exact ⟨v, vs', o1, s1, o2, s2, e1, rfl, rfl, Rw.frame ht d (fun b z => hb b (z.imp (List.mem_append_left _) (List.mem_append_left _))) h1, RwL.frame ht ds (fun b z => hb b (z.imp (List.mem_append_right _) (List.mem_append_right _))) h2⟩
theorem RwK.frame (ht : ∀ b xs, Rd H b (.tup xs) → Rd H' b (.tup xs)) : ∀ (d : List (D × D)) {t : Ty} {v : List V} {o s : List Addr}, (∀ b, b ∈ o ∨ b ∈ s → H' b = H b) → RwK K H d t v o s → RwK K H' d t v o s
  | [], _, _, _, _, _, h => by rw [rwk_nil] at *; exact h
  | (_, d) :: ds, _, _, _, _, hb, h => by
    rw [rwk_cons] at *
    obtain ⟨v, vs', o1, s1, o2, s2, e1, e2, e3, h1, h2⟩ := h
    subst e2 e3
    exact ⟨v, vs', o1, s1, o2, s2, e1, rfl, rfl, Rw.frame ht d (fun b z => hb b (z.imp (List.mem_append_left _) (List.mem_append_left _))) h1, RwK.frame ht ds (fun b z => hb b (z.imp (List.mem_append_right _) (List.mem_append_right _))) h2⟩
end
/-! ### more is tracked -/
theorem LsA.same (e : Same H H') {a : Addr} {vs : List V} (h : LsA K H t a vs) : LsA K H' t a vs := by
  cases t with
  | S => exact e.seq h
  | F => exact e _ _ h
  | L t => exact e _ _ h
theorem DcW.grow (e : Same H H') {a : Addr} {ks : List D} {vs : List V} (h : DcW H a ks vs) : DcW H' a ks vs := by
  rcases h with ⟨l, h, r⟩ | ⟨l, h, r⟩
  · exact .inl ⟨l, e _ _ h, r⟩
  · exact .inr ⟨l, e _ _ h, r⟩
theorem DcA.same (e : Same H H') {a : Addr} {ks : List D} {vs : List V} (h : DcA H t a ks vs) : DcA H' t a ks vs := by
  cases t with
  | S =>
    rcases h with h | ⟨o, l, h, r⟩ | ⟨o, l, h, r⟩
    · exact .inl (h.grow e)
    · exact .inr (.inl ⟨o, l, e _ _ h, r⟩)
    · exact .inr (.inr ⟨o, l, e _ _ h, r⟩)
  | F => exact DcW.grow e h
  | L t => exact DcW.grow e h
theorem sqt_same (e : Same H H') {a : Addr} {xs : List V} (h : SqT K H a xs) : SqT K H' a xs := by
  rcases h with (h | ⟨o, h⟩) | h
  · exact .inl (.inl (e _ _ h))
  · exact .inl (.inr ⟨o, e _ _ h⟩)
  · exact .inr h
mutual
theorem Rw.same (e : Same H H') : ∀ (d : D) {t : Ty} {v : V} {o s : List Addr}, Rw K H d t v o s → Rw K H' d t v o s
  | .none, _, _, _, _, h => by rw [rw_non] at *; exact h
  | .bool b, _, _, _, _, h => by rw [rw_bl] at *; exact h
  | .int b, _, _, _, _, h => by rw [rw_int] at *; exact h
  | .str b, _, _, _, _, h => by rw [rw_str] at *; exact h
  | .tuple ds, _, _, _, _, h => by
    rw [rw_tup] at *
    obtain ⟨a, vs, q, h1, h2⟩ := h
    exact ⟨a, vs, q, sqt_same e h1, RwL.same e ds h2⟩
  | .list ds, _, _, _, _, h => by
    rw [rw_lst] at *
    obtain ⟨a, vs, o', s', q, h1, h2, h3⟩ := h
    exact ⟨a, vs, o', s', q, h1.same e, RwL.same e ds h2, h3⟩
  | .dict kds, _, _, _, _, h => by
    rw [rw_dct] at *
    obtain ⟨a, vs, o', s', q, h1, h2, h3⟩ := h
    exact ⟨a, vs, o', s', q, h1.same e, RwK.same e kds h2, h3⟩
theorem RwL.same (e : Same H H') : ∀ (d : List D) {t : Ty} {v : List V} {o s : List Addr}, RwL K H d t v o s → RwL K H' d t v o s
  | [], _, _, _, _, h => by rw [rwl_nil] at *; exact h
  | d :: ds, _, _, _, _, h => by
    rw [rwl_cons] at *
    obtain ⟨v, vs', o1, s1, o2, s2, e1, e2, e3, h1, h2⟩ := h
    exact ⟨v, vs', o1, s1, o2, s2, e1, e2, e3, Rw.same e d h1, RwL.same e ds h2⟩
theorem RwK.same (e : Same H H') : ∀ (d : List (D × D)) {t : Ty} {v : List V} {o s : List Addr}, RwK K H d t v o s → RwK K H' d t v o s
  | [], _, _, _, _, h => by rw [rwk_nil] at *; exact h
  | (_, d) :: ds, _, _, _, _, h => by
    rw [rwk_cons] at *
    obtain ⟨v, vs', o1, s1, o2, s2, e1, e2, e3, h1, h2⟩ := h
    exact ⟨v, vs', o1, s1, o2, s2, e1, e2, e3, Rw.same e d h1, RwK.same e ds h2⟩
end
/-- a write at a list or dict that the value does not lean on -/
theorem Rw.other {a : Addr} {u w : HO} (hm : H a = some u) (mu : Mut (some u)) {d : D} (ho : a ∉ o) (hs : a ∉ s) (h : Rw K H d t v o s) : Rw K (upd H a w) d t v o s := by
  refine Rw.frame (fun b xs hb => ?_) d (fun b hb => upd_ne ?_) h
  · have ne : b ≠ a := by
      rintro rfl
      rcases hb with hb | ⟨ob, hb⟩ <;> rw [hm] at hb <;> cases hb <;> exact mu
    rcases hb with hb | ⟨ob, hb⟩
    · exact .inl ((upd_ne ne).trans hb)
    · exact .inr ⟨ob, (upd_ne ne).trans hb⟩
  · rintro rfl
    exact hb.elim ho hs
theorem RwL.other {a : Addr} {u w : HO} (hm : H a = some u) (mu : Mut (some u)) {d : List D} {vs : List V} (ho : a ∉ o) (hs : a ∉ s) (h : RwL K H d t vs o s) : RwL K (upd H a w) d t vs o s := by
  refine RwL.frame (fun b xs hb => ?_) d (fun b hb => upd_ne ?_) h
  · have ne : b ≠ a := by
      rintro rfl
      rcases hb with hb | ⟨ob, hb⟩ <;> rw [hm] at hb <;> cases hb <;> exact mu
    rcases hb with hb | ⟨ob, hb⟩
    · exact .inl ((upd_ne ne).trans hb)
    · exact .inr ⟨ob, (upd_ne ne).trans hb⟩
  · rintro rfl
    exact hb.elim ho hs
/-! ### less is owned -/
def Ty.le : Ty → Ty → Bool
  | _, .S => true
  | .F, .F => true
  | .F, .L t => Ty.le .F t
  | .L a, .L b => Ty.le a b
  | _, _ => false
def Ty.joinF : Ty → Ty
  | .S => .S
  | .F => .F
  | .L t => .L (Ty.joinF t)
def Ty.join : Ty → Ty → Ty
  | .S, _ => .S
  | .F, b => b.joinF
  | .L _, .S => .S
  | .L t, .F => .L t.joinF
  | .L t, .L b => .L (Ty.join t b)
theorem Ty.le_S (t : Ty) : Ty.le t .S = true := by cases t <;> rfl
theorem Ty.le_joinF : ∀ a : Ty, Ty.le a a.joinF = true ∧ Ty.le .F a.joinF = true
  | .S => ⟨rfl, rfl⟩
  | .F => ⟨rfl, rfl⟩
  | .L t => Ty.le_joinF t
theorem Ty.le_join : ∀ a b : Ty, Ty.le a (Ty.join a b) = true ∧ Ty.le b (Ty.join a b) = true
  | .S, b => ⟨rfl, Ty.le_S b⟩
  | .F, b => (Ty.le_joinF b).symm
  | .L t, .S => ⟨rfl, rfl⟩
  | .L t, .F => Ty.le_joinF t
  | .L t, .L b => Ty.le_join t b
theorem Ty.le_refl : ∀ a : Ty, Ty.le a a = true
  | .S => rfl
  | .F => rfl
  | .L t => Ty.le_refl t
theorem Ty.le_tu : ∀ {a b : Ty}, Ty.le a b = true → Ty.le a.tu b.tu = true
  | _, .S, _ => Ty.le_S _
  | .F, .F, _ => rfl
  | .F, .L _, _ => rfl
  | .L _, .L _, _ => rfl
theorem Ty.le_el : ∀ {a b : Ty}, Ty.le a b = true → Ty.le a.el b.el = true
  | _, .S, _ => Ty.le_S _
  | .F, .F, _ => rfl
  | .F, .L _, h => h
  | .L _, .L _, h => h
/-- the same nodes, fewer of them owned -/
structure Less (o s o' s' : List Addr) : Prop where
  all : ∀ b, o'.count b + s'.count b = o.count b + s.count b
  own : ∀ b, o'.count b ≤ o.count b
theorem Less.refl (o s : List Addr) : Less o s o s := ⟨fun _ => rfl, fun _ => Nat.le_refl _⟩
theorem Less.app {o1 s1 o1' s1' o2 s2 o2' s2' : List Addr} (a : Less o1 s1 o1' s1') (b : Less o2 s2 o2' s2') : Less (o1 ++ o2) (s1 ++ s2) (o1' ++ o2') (s1' ++ s2') := by
  refine ⟨fun x => ?_, fun x => ?_⟩
  · have := a.all x; have := b.all x
    simp only [List.count_append]; omega
  · have := a.own x; have := b.own x
    simp only [List.count_append]; omega
theorem count_cons' (a b : Addr) (l : List Addr) : (a :: l).count b = l.count b + (if a = b then 1 else 0) := by
  rw [List.count_cons]; simp only [beq_iff_eq]
theorem Nd.less {t t' : Ty} (h : Ty.le t t' = true) {a : Addr} {o s o' s' p q : List Addr} (l : Less o' s' p q) (n : Nd t a o' s' o s) : ∃ p' q', Nd t' a p q p' q' ∧ Less o s p' q' := by
  cases t' with
  | S =>
    refine ⟨p, a :: q, ⟨rfl, rfl⟩, fun b => ?_, fun b => ?_⟩
    · have := l.all b
      cases t <;> (obtain ⟨rfl, rfl⟩ := n; rw [count_cons', count_cons']; omega)
    · have := l.own b
      cases t with
      | S => obtain ⟨rfl, rfl⟩ := n; exact this
      | F => obtain ⟨rfl, rfl⟩ := n; rw [count_cons']; omega
      | L x => obtain ⟨rfl, rfl⟩ := n; rw [count_cons']; omega
  | F =>
    have ht : t ≠ .S := by rintro rfl; exact absurd h (by decide)
    refine ⟨a :: p, q, ⟨rfl, rfl⟩, fun b => ?_, fun b => ?_⟩
    · have := l.all b
      cases t with
      | S => exact absurd rfl ht
      | _ => obtain ⟨rfl, rfl⟩ := n; rw [count_cons', count_cons']; omega
    · have := l.own b
      cases t with
      | S => exact absurd rfl ht
      | _ => obtain ⟨rfl, rfl⟩ := n; rw [count_cons', count_cons']; omega
  | L x =>
    have ht : t ≠ .S := by rintro rfl; exact absurd h (by simp [Ty.le])
    refine ⟨a :: p, q, ⟨rfl, rfl⟩, fun b => ?_, fun b => ?_⟩
    · have := l.all b
      cases t with
      | S => exact absurd rfl ht
      | _ => obtain ⟨rfl, rfl⟩ := n; rw [count_cons', count_cons']; omega
    · have := l.own b
      cases t with
      | S => exact absurd rfl ht
      | _ => obtain ⟨rfl, rfl⟩ := n; rw [count_cons', count_cons']; omega
theorem LsA.less {t t' : Ty} (h : Ty.le t t' = true) {a : Addr} {vs : List V} (l : LsA K H t a vs) : LsA K H t' a vs := by
  cases t' with
  | S => cases t with
    | S => exact l
    | F => exact SqL.of l
    | L x => exact SqL.of l
  | F => cases t <;> first | exact l | exact absurd h (by simp [Ty.le])
  | L y => cases t <;> first | exact l | exact absurd h (by simp [Ty.le])
theorem DcA.less {t t' : Ty} (h : Ty.le t t' = true) {a : Addr} {ks : List D} {vs : List V} (l : DcA H t a ks vs) : DcA H t' a ks vs := by
  cases t' with
  | S => cases t with
    | S => exact l
    | F => exact .inl l
    | L x => exact .inl l
  | F => cases t <;> first | exact l | exact absurd h (by simp [Ty.le])
  | L y => cases t <;> first | exact l | exact absurd h (by simp [Ty.le])
mutual
theorem Rw.less : ∀ (d : D) {t t' : Ty} {v : V} {o s : List Addr}, Ty.le t t' = true → Rw K H d t v o s → ∃ p q, Rw K H d t' v p q ∧ Less o s p q
  | .none, _, _, _, _, _, _, h => by rw [rw_non] at h; exact ⟨_, _, rw_non.mpr ⟨h.1, rfl, rfl⟩, by rw [h.2.1, h.2.2]; exact .refl _ _⟩
  | .bool b, _, _, _, _, _, _, h => by rw [rw_bl] at h; exact ⟨_, _, rw_bl.mpr ⟨h.1, rfl, rfl⟩, by rw [h.2.1, h.2.2]; exact .refl _ _⟩
  | .int b, _, _, _, _, _, _, h => by rw [rw_int] at h; exact ⟨_, _, rw_int.mpr ⟨h.1, rfl, rfl⟩, by rw [h.2.1, h.2.2]; exact .refl _ _⟩
  | .str b, _, _, _, _, _, _, h => by rw [rw_str] at h; exact ⟨_, _, rw_str.mpr ⟨h.1, rfl, rfl⟩, by rw [h.2.1, h.2.2]; exact .refl _ _⟩
  | .tuple ds, _, _, _, _, _, e, h => by
    rw [rw_tup] at h
    obtain ⟨a, vs, q, h1, h2⟩ := h
    obtain ⟨p, q', h3, l⟩ := RwL.less ds (Ty.le_tu e) h2
    exact ⟨p, q', rw_tup.mpr ⟨a, vs, q, h1, h3⟩, l⟩
  | .list ds, _, _, _, _, _, e, h => by
    rw [rw_lst] at h
    obtain ⟨a, vs, o', s', q, h1, h2, h3⟩ := h
    obtain ⟨p, q', h4, l⟩ := RwL.less ds (Ty.le_el e) h2
    obtain ⟨p', q'', n, l'⟩ := h3.less e l
    exact ⟨p', q'', rw_lst.mpr ⟨a, vs, p, q', q, h1.less e, h4, n⟩, l'⟩
  | .dict kds, _, _, _, _, _, e, h => by
    rw [rw_dct] at h
    obtain ⟨a, vs, o', s', q, h1, h2, h3⟩ := h
    obtain ⟨p, q', h4, l⟩ := RwK.less kds (Ty.le_el e) h2
    obtain ⟨p', q'', n, l'⟩ := h3.less e l
    exact ⟨p', q'', rw_dct.mpr ⟨a, vs, p, q', q, h1.less e, h4, n⟩, l'⟩
theorem RwL.less : ∀ (d : List D) {t t' : Ty} {v : List V} {o s : List Addr}, Ty.le t t' = true → RwL K H d t v o s → ∃ p q, RwL K H d t' v p q ∧ Less o s p q
  | [], _, _, _, _, _, _, h => by rw [rwl_nil] at h; exact ⟨_, _, rwl_nil.mpr ⟨h.1, rfl, rfl⟩, by rw [h.2.1, h.2.2]; exact .refl _ _⟩
  | d :: ds, _, _, _, _, _, e, h => by
    rw [rwl_cons] at h
    obtain ⟨v, vs', o1, s1, o2, s2, e1, rfl, rfl, h1, h2⟩ := h
    obtain ⟨p, q, h3, l⟩ := Rw.less d e h1
    obtain ⟨p', q', h4, l'⟩ := RwL.less ds e h2
    exact ⟨_, _, rwl_cons.mpr ⟨v, vs', p, q, p', q', e1, rfl, rfl, h3, h4⟩, l.app l'⟩
theorem RwK.less : ∀ (d : List (D × D)) {t t' : Ty} {v : List V} {o s : List Addr}, Ty.le t t' = true → RwK K H d t v o s → ∃ p q, RwK K H d t' v p q ∧ Less o s p q
  | [], _, _, _, _, _, _, h => by rw [rwk_nil] at h; exact ⟨_, _, rwk_nil.mpr ⟨h.1, rfl, rfl⟩, by rw [h.2.1, h.2.2]; exact .refl _ _⟩
  | (_, d) :: ds, _, _, _, _, _, e, h => by
    rw [rwk_cons] at h
    obtain ⟨v, vs', o1, s1, o2, s2, e1, rfl, rfl, h1, h2⟩ := h
    obtain ⟨p, q, h3, l⟩ := Rw.less d e h1
    obtain ⟨p', q', h4, l'⟩ := RwK.less ds e h2
    exact ⟨_, _, rwk_cons.mpr ⟨v, vs', p, q, p', q', e1, rfl, rfl, h3, h4⟩, l.app l'⟩
end
end
end VS
set_option Elab.async false
set_option linter.all false
set_option maxRecDepth 100000
namespace VS
open PySem PySem.Spec L2
open PyProof.Rows hiding St
section
variable {K : PySem.W.Frag} {H H' : Hp} {t : Ty} {v : V} {o s : List Addr}
/-! ### shared values own nothing, fresh ones share nothing -/
mutual
theorem Rw.s_o : ∀ (d : D) {v : V} {o s : List Addr}, Rw K H d .S v o s → o = []
  | .none, _, _, _, h => by rw [rw_non] at h; exact h.2.1
  | .bool b, _, _, _, h => by rw [rw_bl] at h; exact h.2.1
  | .int b, _, _, _, h => by rw [rw_int] at h; exact h.2.1
  | .str b, _, _, _, h => by rw [rw_str] at h; exact h.2.1
  | .tuple ds, _, _, _, h => by
    rw [rw_tup] at h
    obtain ⟨a, vs, q, h1, h2⟩ := h
    exact RwL.s_o ds h2
  | .list ds, _, _, _, h => by
    rw [rw_lst] at h
    obtain ⟨a, vs, o', s', q, h1, h2, rfl, h3⟩ := h
    exact RwL.s_o ds h2
  | .dict kds, _, _, _, h => by
    rw [rw_dct] at h
    obtain ⟨a, vs, o', s', q, h1, h2, rfl, h3⟩ := h
    exact RwK.s_o kds h2
theorem RwL.s_o : ∀ (d : List D) {v : List V} {o s : List Addr}, RwL K H d .S v o s → o = []
  | [], _, _, _, h => by rw [rwl_nil] at h; exact h.2.1
  | d :: ds, _, _, _, h => by
    rw [rwl_cons] at h
    obtain ⟨v, vs', o1, s1, o2, s2, e1, rfl, rfl, h1, h2⟩ := h
    rw [Rw.s_o d h1, RwL.s_o ds h2]; rfl
theorem RwK.s_o : ∀ (d : List (D × D)) {v : List V} {o s : List Addr}, RwK K H d .S v o s → o = []
  | [], _, _, _, h => by rw [rwk_nil] at h; exact h.2.1
  | (_, d) :: ds, _, _, _, h => by
    rw [rwk_cons] at h
    obtain ⟨v, vs', o1, s1, o2, s2, e1, rfl, rfl, h1, h2⟩ := h
    rw [Rw.s_o d h1, RwK.s_o ds h2]; rfl
end
mutual
theorem Rw.f_s : ∀ (d : D) {v : V} {o s : List Addr}, Rw K H d .F v o s → s = []
  | .none, _, _, _, h => by rw [rw_non] at h; exact h.2.2
  | .bool b, _, _, _, h => by rw [rw_bl] at h; exact h.2.2
  | .int b, _, _, _, h => by rw [rw_int] at h; exact h.2.2
  | .str b, _, _, _, h => by rw [rw_str] at h; exact h.2.2
  | .tuple ds, _, _, _, h => by
    rw [rw_tup] at h
    obtain ⟨a, vs, q, h1, h2⟩ := h
    exact RwL.f_s ds h2
  | .list ds, _, _, _, h => by
    rw [rw_lst] at h
    obtain ⟨a, vs, o', s', q, h1, h2, h3, rfl⟩ := h
    exact RwL.f_s ds h2
  | .dict kds, _, _, _, h => by
    rw [rw_dct] at h
    obtain ⟨a, vs, o', s', q, h1, h2, h3, rfl⟩ := h
    exact RwK.f_s kds h2
theorem RwL.f_s : ∀ (d : List D) {v : List V} {o s : List Addr}, RwL K H d .F v o s → s = []
  | [], _, _, _, h => by rw [rwl_nil] at h; exact h.2.2
  | d :: ds, _, _, _, h => by
    rw [rwl_cons] at h
    obtain ⟨v, vs', o1, s1, o2, s2, e1, rfl, rfl, h1, h2⟩ := h
    rw [Rw.f_s d h1, RwL.f_s ds h2]; rfl
theorem RwK.f_s : ∀ (d : List (D × D)) {v : List V} {o s : List Addr}, RwK K H d .F v o s → s = []
  | [], _, _, _, h => by rw [rwk_nil] at h; exact h.2.2
  | (_, d) :: ds, _, _, _, h => by
    rw [rwk_cons] at h
    obtain ⟨v, vs', o1, s1, o2, s2, e1, rfl, rfl, h1, h2⟩ := h
    rw [Rw.f_s d h1, RwK.f_s ds h2]; rfl
end
/-- what is owned is tracked and may be written -/
def MutAt (H : Hp) (a : Addr) : Prop := ∃ u, H a = some u ∧ Mut (some u)
theorem Nd.own {t : Ty} {a b : Addr} {o' s' o s : List Addr} (n : Nd t a o' s' o s) (h : b ∈ o) : (b = a ∧ t ≠ .S) ∨ b ∈ o' := by
  cases t with
  | S => obtain ⟨rfl, _⟩ := n; exact .inr h
  | F => obtain ⟨rfl, _⟩ := n; exact (List.mem_cons.mp h).imp (fun e => ⟨e, nofun⟩) id
  | L t => obtain ⟨rfl, _⟩ := n; exact (List.mem_cons.mp h).imp (fun e => ⟨e, nofun⟩) id
mutual
theorem Rw.mut : ∀ (d : D) {t : Ty} {v : V} {o s : List Addr}, Rw K H d t v o s → ∀ b ∈ o, MutAt H b
  | .none, _, _, _, _, h => by rw [rw_non] at h; rw [h.2.1]; exact fun _ z => nomatch z
  | .bool b, _, _, _, _, h => by rw [rw_bl] at h; rw [h.2.1]; exact fun _ z => nomatch z
  | .int b, _, _, _, _, h => by rw [rw_int] at h; rw [h.2.1]; exact fun _ z => nomatch z
  | .str b, _, _, _, _, h => by rw [rw_str] at h; rw [h.2.1]; exact fun _ z => nomatch z
  | .tuple ds, _, _, _, _, h => by
    rw [rw_tup] at h
    obtain ⟨a, vs, q, h1, h2⟩ := h
    exact RwL.mut ds h2
  | .list ds, t, _, _, _, h => by
    rw [rw_lst] at h
    obtain ⟨a, vs, o', s', q, h1, h2, n⟩ := h
    intro b hb
    rcases n.own hb with ⟨rfl, ne⟩ | hb
    · cases t with
      | S => exact absurd rfl ne
      | F => exact ⟨_, h1, trivial⟩
      | L t => exact ⟨_, h1, trivial⟩
    · exact RwL.mut ds h2 b hb
  | .dict kds, t, _, _, _, h => by
    rw [rw_dct] at h
    obtain ⟨a, vs, o', s', q, h1, h2, n⟩ := h
    intro b hb
    rcases n.own hb with ⟨rfl, ne⟩ | hb
    · cases t with
      | S => exact absurd rfl ne
      | F => exact DcW.there h1
      | L t => exact DcW.there h1
    · exact RwK.mut kds h2 b hb
theorem RwL.mut : ∀ (d : List D) {t : Ty} {v : List V} {o s : List Addr}, RwL K H d t v o s → ∀ b ∈ o, MutAt H b
  | [], _, _, _, _, h => by rw [rwl_nil] at h; rw [h.2.1]; exact fun _ z => nomatch z
  | d :: ds, _, _, _, _, h => by
    rw [rwl_cons] at h
    obtain ⟨v, vs', o1, s1, o2, s2, e1, rfl, rfl, h1, h2⟩ := h
    exact fun b hb => (List.mem_append.mp hb).elim (Rw.mut d h1 b) (RwL.mut ds h2 b)
theorem RwK.mut : ∀ (d : List (D × D)) {t : Ty} {v : List V} {o s : List Addr}, RwK K H d t v o s → ∀ b ∈ o, MutAt H b
  | [], _, _, _, _, h => by rw [rwk_nil] at h; rw [h.2.1]; exact fun _ z => nomatch z
  | (_, d) :: ds, _, _, _, _, h => by
    rw [rwk_cons] at h
    obtain ⟨v, vs', o1, s1, o2, s2, e1, rfl, rfl, h1, h2⟩ := h
    exact fun b hb => (List.mem_append.mp hb).elim (Rw.mut d h1 b) (RwK.mut ds h2 b)
end
/-! ### data without lists -/
mutual
def imm : D → Bool
  | .none => true
  | .bool _ => true
  | .int _ => true
  | .str _ => true
  | .tuple ds => immL ds
  | .list _ => false
  | .dict _ => false
def immL : List D → Bool
  | [] => true
  | d :: ds => imm d && immL ds
end
mutual
theorem Rw.imm : ∀ (d : D) {t : Ty} {v : V} {o s : List Addr}, imm d = true → Rw K H d t v o s → o = [] ∧ s = [] ∧ ∀ t', Rw K H d t' v [] []
  | .none, _, _, _, _, _, h => by rw [rw_non] at h; exact ⟨h.2.1, h.2.2, fun _ => rw_non.mpr ⟨h.1, rfl, rfl⟩⟩
  | .bool b, _, _, _, _, _, h => by rw [rw_bl] at h; exact ⟨h.2.1, h.2.2, fun _ => rw_bl.mpr ⟨h.1, rfl, rfl⟩⟩
  | .int b, _, _, _, _, _, h => by rw [rw_int] at h; exact ⟨h.2.1, h.2.2, fun _ => rw_int.mpr ⟨h.1, rfl, rfl⟩⟩
  | .str b, _, _, _, _, _, h => by rw [rw_str] at h; exact ⟨h.2.1, h.2.2, fun _ => rw_str.mpr ⟨h.1, rfl, rfl⟩⟩
  | .tuple ds, _, _, _, _, i, h => by
    rw [rw_tup] at h
    obtain ⟨a, vs, q, h1, h2⟩ := h
    rw [VS.imm] at i
    obtain ⟨e1, e2, h3⟩ := RwL.imm ds i h2
    exact ⟨e1, e2, fun t' => rw_tup.mpr ⟨a, vs, q, h1, h3 _⟩⟩
  | .list ds, t, _, _, _, i, h => by rw [VS.imm] at i; cases i
  | .dict kds, t, _, _, _, i, h => by rw [VS.imm] at i; cases i
theorem RwL.imm : ∀ (d : List D) {t : Ty} {v : List V} {o s : List Addr}, immL d = true → RwL K H d t v o s → o = [] ∧ s = [] ∧ ∀ t', RwL K H d t' v [] []
  | [], _, _, _, _, _, h => by rw [rwl_nil] at h; exact ⟨h.2.1, h.2.2, fun _ => rwl_nil.mpr ⟨h.1, rfl, rfl⟩⟩
  | d :: ds, _, _, _, _, i, h => by
    rw [rwl_cons] at h
    obtain ⟨v, vs', o1, s1, o2, s2, e1, rfl, rfl, h1, h2⟩ := h
    rw [immL, Bool.and_eq_true] at i
    obtain ⟨rfl, rfl, h3⟩ := Rw.imm d i.1 h1
    obtain ⟨rfl, rfl, h4⟩ := RwL.imm ds i.2 h2
    exact ⟨rfl, rfl, fun t' => rwl_cons.mpr ⟨v, vs', [], [], [], [], e1, rfl, rfl, h3 t', h4 t'⟩⟩
end
/-! ### items -/
theorem RwL.length : ∀ {d : List D} {t : Ty} {v : List V} {o s : List Addr}, RwL K H d t v o s → v.length = d.length
  | [], _, _, _, _, h => by rw [rwl_nil] at h; rw [h.1]; rfl
  | d :: ds, _, _, _, _, h => by
    rw [rwl_cons] at h
    obtain ⟨v, vs', o1, s1, o2, s2, rfl, rfl, rfl, h1, h2⟩ := h
    rw [List.length_cons, List.length_cons, RwL.length h2]
theorem RwL.item : ∀ {ds : List D} {t : Ty} {vs : List V} {o s : List Addr} {i : Nat} {d : D}, RwL K H ds t vs o s → ds[i]? = some d →
    ∃ v o' s', vs[i]? = some v ∧ Rw K H d t v o' s' ∧ o'.Sublist o ∧ s'.Sublist s
  | [], _, _, _, _, _, _, h, e => by simp at e
  | d :: ds, _, _, _, _, i, x, h, e => by
    rw [rwl_cons] at h
    obtain ⟨v, vs', o1, s1, o2, s2, rfl, rfl, rfl, h1, h2⟩ := h
    cases i with
    | zero =>
      simp at e; subst e
      exact ⟨v, o1, s1, rfl, h1, List.sublist_append_left _ _, List.sublist_append_left _ _⟩
    | succ i =>
      obtain ⟨w, o', s', e', h3, l1, l2⟩ := RwL.item (i := i) (d := x) h2 (by simpa using e)
      exact ⟨w, o', s', by simpa using e', h3, l1.trans (List.sublist_append_right _ _), l2.trans (List.sublist_append_right _ _)⟩
theorem RwL.app : ∀ {d1 d2 : List D} {t : Ty} {v1 v2 : List V} {o1 s1 o2 s2 : List Addr}, RwL K H d1 t v1 o1 s1 → RwL K H d2 t v2 o2 s2 → RwL K H (d1 ++ d2) t (v1 ++ v2) (o1 ++ o2) (s1 ++ s2)
  | [], _, _, _, _, _, _, _, _, h, h' => by
    rw [rwl_nil] at h
    obtain ⟨rfl, rfl, rfl⟩ := h
    exact h'
  | d :: ds, _, _, _, _, _, _, _, _, h, h' => by
    rw [rwl_cons] at h
    obtain ⟨v, vs', o1, s1, o2, s2, rfl, rfl, rfl, h1, h2⟩ := h
    exact rwl_cons.mpr ⟨v, _, o1, s1, _, _, rfl, List.append_assoc .., List.append_assoc .., h1, RwL.app h2 h'⟩
theorem RwL.one {d : D} (h : Rw K H d t v o s) : RwL K H [d] t [v] o s := rwl_cons.mpr ⟨v, [], o, s, [], [], rfl, by simp, by simp, h, rwl_nil.mpr ⟨rfl, rfl, rfl⟩⟩
theorem RwL.split : ∀ {d1 d2 : List D} {t : Ty} {vs : List V} {o s : List Addr}, RwL K H (d1 ++ d2) t vs o s →
    ∃ v1 v2 o1 s1 o2 s2, vs = v1 ++ v2 ∧ o = o1 ++ o2 ∧ s = s1 ++ s2 ∧ RwL K H d1 t v1 o1 s1 ∧ RwL K H d2 t v2 o2 s2
  | [], _, _, vs, o, s, h => ⟨[], vs, [], [], o, s, rfl, rfl, rfl, rwl_nil.mpr ⟨rfl, rfl, rfl⟩, h⟩
  | d :: ds, _, _, _, _, _, h => by
    rw [List.cons_append, rwl_cons] at h
    obtain ⟨v, vs', o1, s1, o2, s2, rfl, rfl, rfl, h1, h2⟩ := h
    obtain ⟨v3, v4, o3, s3, o4, s4, rfl, rfl, rfl, h3, h4⟩ := RwL.split h2
    exact ⟨v :: v3, v4, o1 ++ o3, s1 ++ s3, o4, s4, rfl, (List.append_assoc ..).symm, (List.append_assoc ..).symm, rwl_cons.mpr ⟨v, v3, o1, s1, o3, s3, rfl, rfl, rfl, h1, h3⟩, h4⟩
/-- shared items from anywhere -/
theorem RwL.gather {N : Addr → Prop} : ∀ (l : List (D × V)), (∀ p ∈ l, ∃ s, Rw K H p.1 .S p.2 [] s ∧ ∀ b ∈ s, N b) → ∃ s, RwL K H (l.map (·.1)) .S (l.map (·.2)) [] s ∧ ∀ b ∈ s, N b
  | [], _ => ⟨[], rwl_nil.mpr ⟨rfl, rfl, rfl⟩, fun _ z => nomatch z⟩
  | p :: l, h => by
    obtain ⟨s1, h1, n1⟩ := h p List.mem_cons_self
    obtain ⟨s2, h2, n2⟩ := RwL.gather l fun q hq => h q (List.mem_cons_of_mem _ hq)
    exact ⟨s1 ++ s2, rwl_cons.mpr ⟨p.2, _, [], s1, [], s2, rfl, rfl, rfl, h1, h2⟩, fun b hb => (List.mem_append.mp hb).elim (n1 b) (n2 b)⟩
/-! ### HandS' data -/
theorem LsA.sq {a : Addr} {vs : List V} (h : LsA K H t a vs) : SqL K H a vs := by
  cases t with
  | S => exact h
  | F => exact SqL.of h
  | L t => exact SqL.of h
mutual
theorem Rw.dp : ∀ (d : D) {t : Ty} {v : V} {o s : List Addr}, d.canLay0 = true → Rw K H d t v o s → Dp K H v d
  | .none, _, _, _, _, _, h => by rw [rw_non] at h; rw [h.1]; exact .non
  | .bool b, _, _, _, _, _, h => by rw [rw_bl] at h; rw [h.1]; exact .bl b
  | .int b, _, _, _, _, _, h => by rw [rw_int] at h; rw [h.1]; exact .int b
  | .str b, _, _, _, _, _, h => by rw [rw_str] at h; rw [h.1]; exact .str b
  | .tuple ds, _, _, _, _, i, h => by
    rw [rw_tup] at h
    obtain ⟨a, vs, rfl, h1, h2⟩ := h
    exact .tup h1 (RwL.dp ds (by simpa [PyData.canLay0] using i) h2)
  | .list ds, _, _, _, _, i, h => by
    rw [rw_lst] at h
    obtain ⟨a, vs, o', s', rfl, h1, h2, n⟩ := h
    exact .lst h1.sq (RwL.dp ds (by simpa [PyData.canLay0] using i) h2)
  | .dict kds, _, _, _, _, i, h => by simp [PyData.canLay0] at i
theorem RwL.dp : ∀ (d : List D) {t : Ty} {v : List V} {o s : List Addr}, PyData.canLayAll0 d = true → RwL K H d t v o s → DpAll K H v d
  | [], _, _, _, _, _, h => by rw [rwl_nil] at h; rw [h.1]; exact .nil
  | d :: ds, _, _, _, _, i, h => by
    rw [rwl_cons] at h
    obtain ⟨v, vs', o1, s1, o2, s2, rfl, rfl, rfl, h1, h2⟩ := h
    rw [PyData.canLayAll0, Bool.and_eq_true] at i
    exact .cons (Rw.dp d i.1 h1) (RwL.dp ds i.2 h2)
end
theorem Rw.lstS {ds : List D} {a : Addr} {vs : List V} (h : SqL K H a vs) (r : RwL K H ds .S vs [] s) : Rw K H (.list ds) .S (.ref a) [] (a :: s) := rw_lst.mpr ⟨a, vs, [], s, rfl, h, r, rfl, rfl⟩
theorem Rw.lstF {ds : List D} {a : Addr} {vs : List V} (h : H a = some (.lst vs)) (r : RwL K H ds .F vs o []) : Rw K H (.list ds) .F (.ref a) (a :: o) [] := rw_lst.mpr ⟨a, vs, o, [], rfl, h, r, rfl, rfl⟩
theorem Rw.lstL {ds : List D} {a : Addr} {vs : List V} (h : H a = some (.lst vs)) (r : RwL K H ds t vs o s) : Rw K H (.list ds) (.L t) (.ref a) (a :: o) s := rw_lst.mpr ⟨a, vs, o, s, rfl, h, r, rfl, rfl⟩
/-- by the value: an int is an int -/
theorem Rw.of_int {d : D} {i : Int} (h : Rw K H d t (.int i) o s) : d = .int i := by
  cases d with
  | int j => rw [rw_int] at h; injection h.1 with e; rw [e]
  | none => rw [rw_non] at h; exact nomatch h.1
  | bool b => rw [rw_bl] at h; exact nomatch h.1
  | str b => rw [rw_str] at h; exact nomatch h.1
  | tuple b => rw [rw_tup] at h; obtain ⟨_, _, e, _⟩ := h; exact nomatch e
  | list b => rw [rw_lst] at h; obtain ⟨_, _, _, _, e, _⟩ := h; exact nomatch e
  | dict b => rw [rw_dct] at h; obtain ⟨_, _, _, _, e, _⟩ := h; exact nomatch e
end
end VS
set_option Elab.async false
set_option linter.all false
set_option maxRecDepth 100000
namespace VS
open PySem PySem.Spec L2
open PyProof.Rows hiding St
/-! ### the weakest readings -/
def WE (X : Cx) (e : Expr) : TE := fun σ H Q => ∀ (pins : List (Addr × Obj)) (s : Shared), Inv X pins σ H s → wpAny (model X.prog X.w) X.A (eval e X.env) (EP X pins σ Q) X.xe s
def WT (X : Cx) (e : Expr) : TT := fun σ H Q => ∀ (pins : List (Addr × Obj)) (s : Shared), Inv X pins σ H s → wpAny (model X.prog X.w) X.A (isTrue e X.env (eval e X.env)) (TP X pins σ Q) X.xe s
def WW (X : Cx) (e : Expr) : TT := fun σ H Q => ∀ (whole : Sem Value) (pins : List (Addr × Obj)) (s : Shared), Inv X pins σ H s → wpAny (model X.prog X.w) X.A (isTrue e X.env whole) (TP X pins σ Q) X.xe s
def WA (X : Cx) (es : List Expr) : TA := fun σ H Q => ∀ (pos : Pos) (pins : List (Addr × Obj)) (s : Shared), Inv X pins σ H s → wpAny (model X.prog X.w) X.A (spliced (backTo pos (starEach es X.env))) (AP X pins σ Q) X.xe s
def WI (X : Cx) (tg iter : Expr) : TI := fun σ H R => ∀ (pins : List (Addr × Obj)) (s : Shared), Inv X pins σ H s → wpAny (model X.prog X.w) X.A (eval iter X.env) (fun v s1 => wpAny (model X.prog X.w) X.A (pyIter v) (PIE X pins σ tg R) X.xe s1) X.xe s
def WS (X : Cx) (st : Stmt) : TS := fun D σ H => ∀ (pins : List (Addr × Obj)) (s : Shared), Inv X pins σ H s → wpAny (model X.prog X.w) X.A (exec st X.env) (SP X pins D) X.xe s
def WSs (X : Cx) (st : List Stmt) : TS := fun D σ H => ∀ (pins : List (Addr × Obj)) (s : Shared), Inv X pins σ H s → wpAny (model X.prog X.w) X.A (execs st X.env) (SP X pins D) X.xe s
def WG (X : Cx) (tg : Expr) : TG := fun v σ H Q => ∀ (pins : List (Addr × Obj)) (s : Shared) (u : Value), Inv X pins σ H s → RelV v u → wpAny (model X.prog X.w) X.A (assign tg X.env u) (fun _ s' => ∃ σ' H', Inv X pins σ' H' s' ∧ Q σ' H') X.xe s
def WO (X : Cx) (f : Value → Value → Sem Value) : R2 := fun x y H Q => ∀ (pins : List (Addr × Obj)) (s : Shared) (σ : St) (v u : Value), Inv X pins σ H s → RelV x v → RelV y u → wpAny (model X.prog X.w) X.A (f v u) (EP X pins σ Q) X.xe s
def WC (X : Cx) (f : Value) : List V → Hp → VK → Prop := fun xs H Q => ∀ (pins : List (Addr × Obj)) (s : Shared) (σ : St) (us : List Value), Inv X pins σ H s → Vals xs us → wpAny (model X.prog X.w) X.A (call f us) (EP X pins σ Q) X.xe s
section
variable {X : Cx} {e : Expr} {es : List Expr} {st : Stmt} {sts : List Stmt} {tg : Expr} {σ : St} {H : Hp}
theorem pe_w : PE X e (WE X e) := ⟨fun pins s _ _ _ I h => h pins s I⟩
theorem pt_w : PT X e (WT X e) := ⟨fun pins s _ _ _ I h => h pins s I⟩
theorem pw_w : PW X e (WW X e) := ⟨fun wh pins s _ _ _ I h => h wh pins s I⟩
theorem pa_w : PA X es (WA X es) := ⟨fun pos pins s _ _ _ I h => h pos pins s I⟩
theorem pi_w : PI X tg e (WI X tg e) := ⟨fun pins s _ _ _ I h => h pins s I⟩
theorem ps_w : PS X st (WS X st) := ⟨fun pins s _ _ _ I h => h pins s I⟩
theorem pss_w : PSs X sts (WSs X sts) := ⟨fun pins s _ _ _ I h => h pins s I⟩
theorem pg_w : PG X tg (WG X tg) := ⟨fun pins s σ H v u Q I r h => h pins s u I r⟩
theorem op_w {f : Value → Value → Sem Value} : OpR X f (WO X f) := fun pins s σ H x y v u Q I rx ry h => h pins s σ v u I rx ry
theorem call_w {f : Value} : CallR X f (WC X f) := fun pins s σ H xs us Q I r h => h pins s σ us I r
theorem WE.of {t : TE} {Q : VK} (h : PE X e t) (q : t σ H Q) : WE X e σ H Q := fun pins s I => h.run pins s σ H Q I q
theorem WT.of {t : TT} {Q : Bool → Hp → Prop} (h : PT X e t) (q : t σ H Q) : WT X e σ H Q := fun pins s I => h.run pins s σ H Q I q
theorem WW.of {t : TT} {Q : Bool → Hp → Prop} (h : PW X e t) (q : t σ H Q) : WW X e σ H Q := fun wh pins s I => h.run wh pins s σ H Q I q
theorem WA.of {t : TA} {Q : List V → Hp → Prop} (h : PA X es t) (q : t σ H Q) : WA X es σ H Q := fun pos pins s I => h.run pos pins s σ H Q I q
theorem WI.of {t : TI} {R : It → Hp → Prop} (h : PI X tg e t) (q : t σ H R) : WI X tg e σ H R := fun pins s I => h.run pins s σ H R I q
theorem WS.of {t : TS} {D : Ends} (h : PS X st t) (q : t D σ H) : WS X st D σ H := fun pins s I => h.run pins s σ H D I q
theorem WSs.of {t : TS} {D : Ends} (h : PSs X sts t) (q : t D σ H) : WSs X sts D σ H := fun pins s I => h.run pins s σ H D I q
theorem WG.of {t : TG} {v : V} {Q : St → Hp → Prop} (h : PG X tg t) (q : t v σ H Q) : WG X tg v σ H Q := fun pins s u I r => h.run pins s σ H v u Q I r q
theorem WO.of {f : Value → Value → Sem Value} {r : R2} {x y : V} {Q : VK} (h : OpR X f r) (q : r x y H Q) : WO X f x y H Q := fun pins s σ v u I rx ry => h pins s σ H x y v u Q I rx ry q
theorem WC.of {f : Value} {r : List V → Hp → VK → Prop} {xs : List V} {Q : VK} (h : CallR X f r) (q : r xs H Q) : WC X f xs H Q := fun pins s σ us I rx => h pins s σ H xs us Q I rx q
/-- the module's own objects are not tracked -/
def KF (K : PySem.W.Frag) (H : Hp) : Prop := (∀ a o, K.lookup a = some o → H a = none) ∧ ∀ a xs, (SqL K H a xs ∨ SqT K H a xs) → xs.length ≤ sizeLine
theorem kf_inv {pins : List (Addr × Obj)} {s : Shared} (I : Inv X pins σ H s) : KF X.K H := ⟨fun a o h => (I.bs a o (I.mod.kin a o h)).2, fun a xs h => by
  rcases h with h | h
  · obtain ⟨_, _, _, z⟩ := I.list h
    exact z
  · obtain ⟨_, _, _, z⟩ := I.tuple h
    exact z⟩
theorem WE.kf {Q : VK} (h : WE X e σ H fun v H' => KF X.K H' → Q v H') : WE X e σ H Q := fun pins s I => wpAny_mono (h pins s I) (fun u s' ⟨v, H', I', r, q⟩ => ⟨v, H', I', r, q (kf_inv I')⟩) fun _ _ x => x
theorem WE.mono {Q Q' : VK} (h : WE X e σ H Q) (m : ∀ v H', Q v H' → Q' v H') : WE X e σ H Q' := fun pins s I => wpAny_mono (h pins s I) (fun u s' ⟨v, H', I', r, q⟩ => ⟨v, H', I', r, m v H' q⟩) fun _ _ x => x
theorem WT.mono {Q Q' : Bool → Hp → Prop} (h : WT X e σ H Q) (m : ∀ v H', Q v H' → Q' v H') : WT X e σ H Q' := fun pins s I => wpAny_mono (h pins s I) (fun u s' ⟨H', I', q⟩ => ⟨H', I', m u H' q⟩) fun _ _ x => x
theorem WO.kf {f : Value → Value → Sem Value} {x y : V} {Q : VK} (h : WO X f x y H fun v H' => KF X.K H' → Q v H') : WO X f x y H Q := fun pins s σ v u I rx ry => wpAny_mono (h pins s σ v u I rx ry) (fun u s' ⟨v, H', I', r, q⟩ => ⟨v, H', I', r, q (kf_inv I')⟩) fun _ _ x => x
theorem WC.kf {f : Value} {xs : List V} {Q : VK} (h : WC X f xs H fun v H' => KF X.K H' → Q v H') : WC X f xs H Q := fun pins s σ us I rx => wpAny_mono (h pins s σ us I rx) (fun u s' ⟨v, H', I', r, q⟩ => ⟨v, H', I', r, q (kf_inv I')⟩) fun _ _ x => x
end
/-! ### new addresses -/
def New (K : PySem.W.Frag) (H : Hp) (b : Addr) : Prop := H b = none ∧ K.lookup b = none
theorem New.back {K : PySem.W.Frag} {H H' : Hp} (e : Same H H') {b : Addr} (h : New K H' b) : New K H b := ⟨e.free h.1, h.2⟩
theorem new_of {K : PySem.W.Frag} {H : Hp} {p : Addr} {o : HO} (kf : KF K (upd H p o)) (n : H p = none) : New K H p := by
  refine ⟨n, ?_⟩
  cases q : K.lookup p with
  | none => rfl
  | some ob =>
    have := kf.1 p ob q
    rw [upd_same] at this; cases this
theorem same_upd {H : Hp} {p : Addr} {o : HO} (h : H p = none) : Same H (upd H p o) := fun b x e => by
  rw [upd_ne (ne_of_none e h)]
  exact e
/-- a shared node is known: tracked, or the module's -/
def Old (K : PySem.W.Frag) (H : Hp) (b : Addr) : Prop := ¬ New K H b
theorem LsA.old {K : PySem.W.Frag} {H : Hp} {t : Ty} {a : Addr} {vs : List V} (h : LsA K H t a vs) : Old K H a := by
  rintro ⟨h1, h2⟩
  rcases h.sq with (h | ⟨o, h⟩) | ⟨o, _, _, h, _⟩
  · rw [h1] at h; cases h
  · rw [h1] at h; cases h
  · rw [h2] at h; cases h
theorem DcA.old {K : PySem.W.Frag} {H : Hp} {t : Ty} {a : Addr} {ks : List D} {vs : List V} (h : DcA H t a ks vs) : Old K H a := by
  rintro ⟨h1, h2⟩
  have z : DcR H a ks vs := by
    cases t with
    | S => exact h
    | F => exact .inl h
    | L t => exact .inl h
  rcases z with (⟨l, h, _⟩ | ⟨l, h, _⟩) | ⟨o, l, h, _⟩ | ⟨o, l, h, _⟩ <;> (rw [h1] at h; cases h)
section
variable {K : PySem.W.Frag} {H : Hp}
mutual
theorem Rw.old : ∀ (d : D) {t : Ty} {v : V} {o s : List Addr}, Rw K H d t v o s → ∀ b, b ∈ o ∨ b ∈ s → Old K H b
  | .none, _, _, _, _, h => by rw [rw_non] at h; rw [h.2.1, h.2.2]; exact fun _ z => by simp at z
  | .bool b, _, _, _, _, h => by rw [rw_bl] at h; rw [h.2.1, h.2.2]; exact fun _ z => by simp at z
  | .int b, _, _, _, _, h => by rw [rw_int] at h; rw [h.2.1, h.2.2]; exact fun _ z => by simp at z
  | .str b, _, _, _, _, h => by rw [rw_str] at h; rw [h.2.1, h.2.2]; exact fun _ z => by simp at z
  | .tuple ds, _, _, _, _, h => by
    rw [rw_tup] at h
    obtain ⟨a, vs, q, h1, h2⟩ := h
    exact RwL.old ds h2
  | .list ds, t, _, _, _, h => by
    rw [rw_lst] at h
    obtain ⟨a, vs, o', s', q, h1, h2, n⟩ := h
    intro b hb
    rcases n.mem.mp hb with rfl | hb
    · exact h1.old
    · exact RwL.old ds h2 b hb
  | .dict kds, t, _, _, _, h => by
    rw [rw_dct] at h
    obtain ⟨a, vs, o', s', q, h1, h2, n⟩ := h
    intro b hb
    rcases n.mem.mp hb with rfl | hb
    · exact h1.old
    · exact RwK.old kds h2 b hb
theorem RwL.old : ∀ (d : List D) {t : Ty} {v : List V} {o s : List Addr}, RwL K H d t v o s → ∀ b, b ∈ o ∨ b ∈ s → Old K H b
  | [], _, _, _, _, h => by rw [rwl_nil] at h; rw [h.2.1, h.2.2]; exact fun _ z => by simp at z
  | d :: ds, _, _, _, _, h => by
    rw [rwl_cons] at h
    obtain ⟨v, vs', o1, s1, o2, s2, e1, rfl, rfl, h1, h2⟩ := h
    intro b hb
    rcases hb with hb | hb <;> rcases List.mem_append.mp hb with hb | hb
    · exact Rw.old d h1 b (.inl hb)
    · exact RwL.old ds h2 b (.inl hb)
    · exact Rw.old d h1 b (.inr hb)
    · exact RwL.old ds h2 b (.inr hb)
theorem RwK.old : ∀ (d : List (D × D)) {t : Ty} {v : List V} {o s : List Addr}, RwK K H d t v o s → ∀ b, b ∈ o ∨ b ∈ s → Old K H b
  | [], _, _, _, _, h => by rw [rwk_nil] at h; rw [h.2.1, h.2.2]; exact fun _ z => by simp at z
  | (_, d) :: ds, _, _, _, _, h => by
    rw [rwk_cons] at h
    obtain ⟨v, vs', o1, s1, o2, s2, e1, rfl, rfl, h1, h2⟩ := h
    intro b hb
    rcases hb with hb | hb <;> rcases List.mem_append.mp hb with hb | hb
    · exact Rw.old d h1 b (.inl hb)
    · exact RwK.old ds h2 b (.inl hb)
    · exact Rw.old d h1 b (.inr hb)
    · exact RwK.old ds h2 b (.inr hb)
end
end
end VS
set_option Elab.async false
set_option linter.all false
set_option maxRecDepth 100000
namespace VS
open PySem PySem.Spec L2
open PyProof.Rows hiding St
/-! ### the trees -/
inductive Tg where
  | one (i : Nat)
  | tup (l : List Nat)
  deriving DecidableEq
inductive BI where
  | len | abs | int | sum | list | tuple | max | min
  deriving DecidableEq
inductive TN where
  | bool | int | str | list | tuple | dict
  deriving DecidableEq
def TN.nm : TN → String
  | .bool => "bool" | .int => "int" | .str => "str" | .list => "list" | .tuple => "tuple" | .dict => "dict"
inductive E where
  | sl (i : Nat)
  | k (c : Const)
  | gl (x : Str) (d : D)
  | ari (op : Operator) (a b : E)
  | cat (a b : E)
  | rep (a b : E)
  | neg (a : E)
  | not (a : E)
  | and (a b : E)
  | or (a b : E)
  | one (a : E)
  | cmp (op : CmpOp) (a b : E)
  | chain (o1 o2 : CmpOp) (a b c : E)
  | ife (c a b : E)
  | tup (es : E)
  | lst (es : E)
  | nil
  | cons (a es : E)
  | ix (a i : E)
  | slc (a lo hi : E)
  | nop
  | prt (a : E)
  | call (x : Str) (F : List D → R D) (t : Ty) (es : E)
  | blt (b : BI) (es : E)
  | isi (T : TN) (a : E)
  | comp (own : List (Str × Nat)) (tg : Tg) (it cnd elt : E)
  | rng1 (a : E)
  | rng2 (a b : E)
  | cI (a : E)
  | cL (a : E)
/-! ### what they are worth -/
abbrev Sl := List (Option D)
def constD : Const → R D
  | .none => .ok .none
  | .bool b => .ok (.bool b)
  | .int i => .ok (.int i)
  | .str x => .ok (.str x)
  | _ => .no
def slotD (δ : Sl) (i : Nat) : R D := match δ[i]? with
  | some (some d) => .ok d
  | _ => .no
def mulOk (i j : Int) : Prop := i.natAbs < 2 ^ 64 ∨ j.natAbs < 2 ^ 64 ∨ i.natAbs.log2 + j.natAbs.log2 < 1000000
instance (i j : Int) : Decidable (mulOk i j) := by unfold mulOk; infer_instance
def aOp (op : Operator) (i j : Int) : R D := match op with
  | .Add => .ok (.int (i + j))
  | .Sub => .ok (.int (i - j))
  | .Mult => if mulOk i j then .ok (.int (i * j)) else .no
  | .FloorDiv => if 0 < j ∧ j.natAbs.log2 < 9000 then .ok (.int (i / j)) else if j ≠ 0 ∧ j.natAbs < 1073741824 then .ok (.int (i.fdiv j)) else .no
  | .Mod => if 0 < j then .ok (.int (i % j)) else if j ≠ 0 then .ok (.int (i.fmod j)) else .no
  | .Pow => if 0 ≤ j ∧ j ≤ 1000000 ∧ i.natAbs < 2 ^ 64 then .ok (.int (i ^ j.toNat)) else .no
  | .LShift => if 0 ≤ j ∧ j ≤ 1000000 ∧ i.natAbs < 2 ^ 64 then .ok (.int (i * 2 ^ j.toNat)) else .no
  | .RShift => if 0 ≤ j then .ok (.int (i / 2 ^ j.toNat)) else .no
  | _ => .no
def ariD (op : Operator) (a b : D) : R D := match a, b with
  | .int i, .int j => aOp op i j
  | _, _ => .no
def catD (a b : D) : R D := match a, b with
  | .list xs, .list ys => if xs.length + ys.length ≤ sizeLine then .ok (.list (xs ++ ys)) else .no
  | .tuple xs, .tuple ys => if xs ≠ [] ∧ xs.length + ys.length ≤ sizeLine then .ok (.tuple (xs ++ ys)) else .no
  | .str x, .str y => if x.length + y.length ≤ sizeLine then .ok (.str (x ++ y)) else .no
  | _, _ => .no
def repD (a b : D) : R D := match a, b with
  | .list xs, .int k => if -(2 ^ 63) ≤ k ∧ k < 2 ^ 63 ∧ xs.length * k.toNat ≤ sizeLine then .ok (.list (List.replicate k.toNat xs).flatten) else .no
  | _, _ => .no
def negD : D → R D
  | .int i => .ok (.int (-i))
  | _ => .no
def boolD : D → R Bool
  | .bool b => .ok b
  | _ => .no
def eqD (a b : D) : R Bool := if SeqAt.shaped a = true ∧ SeqAt.shaped b = true then .ok (PyData.eqv a b) else .no
def inD (a b : D) : R Bool := match b with
  | .list ds => if SeqAt.shaped a = true ∧ SeqAt.shaped (.list ds) = true then .ok (ds.any fun z => PyData.eqv z a) else .no
  | _ => .no
def ltD (a b : D) : R Bool := match a, b with
  | .int i, .int j => .ok (decide (i < j))
  | _, _ => .no
def leD (a b : D) : R Bool := match a, b with
  | .int i, .int j => .ok (decide (i ≤ j))
  | _, _ => .no
def isNonD : D → Bool
  | .none => true
  | _ => false
def isN (a b : D) : R Bool := match b with
  | .none => .ok (isNonD a)
  | _ => .no
def notR (r : R Bool) : R Bool := r >>= fun b => .ok (!b)
def cmpD (op : CmpOp) (a b : D) : R Bool := match op with
  | .Eq => eqD a b
  | .NotEq => notR (eqD a b)
  | .Lt => ltD a b
  | .LtE => leD a b
  | .Gt => ltD b a
  | .GtE => leD b a
  | .Is => isN a b
  | .IsNot => notR (isN a b)
  | .In => inD a b
  | .NotIn => notR (inD a b)
def ixD (a i : D) : R D := match a, i with
  | .list xs, .int k => match atI xs k with
    | some d => .ok d
    | none => .no
  | .tuple xs, .int k => match atI xs k with
    | some d => .ok d
    | none => .no
  | .str z, .int k => if z.length ≤ sizeLine then (match atI z.cps.toList k with
    | some c => .ok (.str ⟨#[c]⟩)
    | none => .no) else .no
  | _, _ => .no
def cutD {α : Type} (xs : List α) (lo hi : Option Int) : List α := (xs.drop (HT.sIx xs.length 0 lo)).take (HT.sIx xs.length xs.length hi - HT.sIx xs.length 0 lo)
def slcD (a : D) (lo hi : Option Int) : R D := match a with
  | .list xs => .ok (.list (cutD xs lo hi))
  | _ => .no
def intD : D → R Int
  | .int i => .ok i
  | _ => .no
def intsD : List D → R (List Int)
  | [] => .ok []
  | .int i :: ds => intsD ds >>= fun l => .ok (i :: l)
  | _ :: _ => .no
def blt1 (b : BI) (d : D) : R D := match b with
  | .len => match d with
    | .list xs => .ok (.int xs.length)
    | .tuple xs => .ok (.int xs.length)
    | .str z => if z.length ≤ sizeLine then .ok (.int z.length) else .no
    | _ => .no
  | .abs => match d with
    | .int i => .ok (.int (if i < 0 then -i else i))
    | _ => .no
  | .int => match d with
    | .int i => .ok (.int i)
    | .bool b => .ok (.int (if b then 1 else 0))
    | _ => .no
  | .sum => match d with
    | .list xs => intsD xs >>= fun l => .ok (.int l.sum)
    | _ => .no
  | .list => match d with
    | .list xs => .ok (.list xs)
    | .tuple xs => .ok (.list xs)
    | _ => .no
  | .tuple => match d with
    | .list xs => .ok (.tuple xs)
    | .tuple xs => .ok (.tuple xs)
    | _ => .no
  | _ => .no
def blt2 (b : BI) (d e : D) : R D := match b with
  | .max => match d, e with
    | .int i, .int j => .ok (.int (if j > i then j else i))
    | _, _ => .no
  | .min => match d, e with
    | .int i, .int j => .ok (.int (if j < i then j else i))
    | _, _ => .no
  | _ => .no
def bltD (b : BI) (ds : List D) : R D := match ds with
  | [d] => blt1 b d
  | [d, e] => blt2 b d e
  | _ => .no
def isiB : TN → D → Bool
  | _, .none => false
  | .bool, .bool _ => true
  | .int, .bool _ => true
  | .int, .int _ => true
  | .str, .str _ => true
  | .list, .list _ => true
  | .tuple, .tuple _ => true
  | _, _ => false
def isiD (T : TN) (d : D) : R D := match d with
  | .dict _ => .no
  | d => .ok (.bool (isiB T d))
def iterD : D → R (List D)
  | .list ds => .ok ds
  | .tuple ds => .ok ds
  | _ => .no
def setTgs : List Nat → List D → Sl → R Sl
  | [], [], δ => .ok δ
  | i :: is, d :: ds, δ => setTgs is ds (δ.set i (some d))
  | _, _, _ => .no
def setTg : Tg → D → Sl → R Sl
  | .one i, d, δ => .ok (δ.set i (some d))
  | .tup is, .tuple ds, δ => setTgs is ds δ
  | .tup _, _, _ => .no
def wipeD (δ : Sl) : List Nat → Sl
  | [] => δ
  | v :: vs => (wipeD δ vs).set v none
def nox {α : Type} : R α → R α
  | .ok a => .ok a
  | _ => .no
def compL (f : D → R (Option D)) : List D → R (List D)
  | [] => .ok []
  | x :: xs => f x >>= fun o => compL f xs >>= fun ys => .ok (o.toList ++ ys)
def rngD (lo hi : Int) : R D := if -(2 ^ 62) ≤ lo ∧ lo < 2 ^ 62 ∧ -(2 ^ 62) ≤ hi ∧ hi < 2 ^ 62 ∧ (hi - lo).toNat ≤ sizeLine then .ok (.list ((List.range (hi - lo).toNat).map fun (i : Nat) => .int (lo + (i : Int)))) else .no
mutual
def ev : E → Sl → R D
  | .sl i, δ => slotD δ i
  | .k c, _ => constD c
  | .gl _ d, _ => .ok d
  | .ari op a b, δ => ev a δ >>= fun x => ev b δ >>= fun y => ariD op x y
  | .cat a b, δ => ev a δ >>= fun x => ev b δ >>= fun y => catD x y
  | .rep a b, δ => ev a δ >>= fun x => ev b δ >>= fun y => repD x y
  | .neg a, δ => ev a δ >>= negD
  | .not a, δ => ev a δ >>= boolD >>= fun b => .ok (.bool (!b))
  | .and a b, δ => ev a δ >>= boolD >>= fun c => match c with
    | true => ev b δ >>= boolD >>= fun c => .ok (.bool c)
    | false => .ok (.bool false)
  | .or a b, δ => ev a δ >>= boolD >>= fun c => match c with
    | true => .ok (.bool true)
    | false => ev b δ >>= boolD >>= fun c => .ok (.bool c)
  | .one a, δ => ev a δ >>= boolD >>= fun c => .ok (.bool c)
  | .cmp op a b, δ => ev a δ >>= fun x => ev b δ >>= fun y => cmpD op x y >>= fun c => .ok (.bool c)
  | .chain o1 o2 a b c, δ => ev a δ >>= fun x => ev b δ >>= fun y => cmpD o1 x y >>= fun r => match r with
    | true => ev c δ >>= fun z => cmpD o2 y z >>= fun r => .ok (.bool r)
    | false => .ok (.bool false)
  | .ife c a b, δ => ev c δ >>= boolD >>= fun r => match r with
    | true => ev a δ
    | false => ev b δ
  | .tup es, δ => evl es δ >>= fun ds => if ds.length ≤ sizeLine then .ok (.tuple ds) else .no
  | .lst es, δ => evl es δ >>= fun ds => if ds.length ≤ sizeLine then .ok (.list ds) else .no
  | .nil, _ => .no
  | .cons _ _, _ => .no
  | .ix a i, δ => ev a δ >>= fun x => ev i δ >>= fun y => ixD x y
  | .slc a lo hi, δ => ev a δ >>= fun x => evo lo δ >>= fun l => evo hi δ >>= fun h => slcD x l h
  | .nop, _ => .no
  | .prt _, _ => .no
  | .call _ F _ es, δ => evl es δ >>= F
  | .blt b es, δ => evl es δ >>= bltD b
  | .isi T a, δ => ev a δ >>= isiD T
  | .comp own tg it cnd elt, δ => ev it δ >>= iterD >>= fun xs =>
      nox (compL (fun x => setTg tg x (wipeD δ (own.map (·.2))) >>= fun δ' => evc cnd δ' >>= fun c => match c with
        | true => ev elt δ' >>= fun y => .ok (some y)
        | false => .ok none) xs) >>= fun ys => .ok (.list ys)
  | .rng1 a, δ => ev a δ >>= intD >>= fun j => rngD 0 j
  | .rng2 a b, δ => ev a δ >>= intD >>= fun i => ev b δ >>= intD >>= fun j => rngD i j
  | .cI a, δ => ev a δ >>= fun d => if imm d = true then .ok d else .no
  | .cL a, δ => ev a δ >>= fun d => match d with
    | .list ds => if immL ds = true then .ok (.list ds) else .no
    | _ => .no
/-- an argument list -/
def evl : E → Sl → R (List D)
  | .nil, _ => .ok []
  | .cons a es, δ => ev a δ >>= fun d => evl es δ >>= fun ds => .ok (d :: ds)
  | _, _ => .no
/-- a part of a slice -/
def evo : E → Sl → R (Option Int)
  | .nop, _ => .ok none
  | .prt a, δ => ev a δ >>= intD >>= fun j => .ok (some j)
  | _, _ => .no
/-- a comprehension's test -/
def evc : E → Sl → R Bool
  | .nop, _ => .ok true
  | .prt a, δ => ev a δ >>= boolD
  | _, _ => .no
end
/-! ### a tree is the text's -/
structure Scp where
  N : List Str
  sc : Scope
  cel : Str → Bool
def visC (S : Scp) (i : Nat) (x : Str) : Bool := decide (S.N[i]? = some x) && (match S.sc.names.lookup x with
  | some .local => true
  | some .cell => true
  | some .free => true
  | _ => false) && !(x == ("__debug__" : Str)) && !(x == ("__classdict__" : Str))
def plainX : Expr → Bool
  | .Slice .. => false
  | .Starred .. => false
  | .Set .. => false
  | _ => true
def glC (S : Scp) (x : Str) : Bool := decide (S.sc.names.lookup x = some .globalImplicit) && !(x == ("__debug__" : Str))
def bltC (S : Scp) (nb : List Str) (x : Str) : Bool := glC S x && decide (x ∈ nb) && decide (x ≠ ("__name__" : Str))
def stoC (S : Scp) (i : Nat) (x : Str) : Bool := decide (S.N[i]? = some x) && (match S.sc.names.lookup x with
  | some .local => true
  | some .cell => S.cel x
  | _ => false)
def tgsC (S : Scp) : List Nat → List Expr → Bool
  | [], [] => true
  | i :: is, .Name x _ :: es => stoC S i x && tgsC S is es
  | _, _ => false
def tgC (S : Scp) : Tg → Expr → Bool
  | .one i, .Name x _ => stoC S i x
  | .tup is, .Tuple es _ _ => tgsC S is es
  | _, _ => false
def tgIn (vs : List Nat) : Tg → Bool
  | .one i => decide (i ∈ vs)
  | .tup is => is.all fun i => decide (i ∈ vs)
def BI.nm : BI → String
  | .len => "len" | .abs => "abs" | .int => "int" | .sum => "sum" | .list => "list" | .tuple => "tuple" | .max => "max" | .min => "min"
def Scp.blk (S : Scp) (scope : Scope) : Scp := ⟨S.N, relS scope S.sc, fun x => scope.names.lookup x == some .cell⟩
def isAnd : E → Bool
  | .and _ _ => true
  | .one _ => true
  | _ => false
def isOr : E → Bool
  | .or _ _ => true
  | .one _ => true
  | _ => false
mutual
def ck (nb : List Str) : E → Scp → Bool → Expr → Bool
  | .sl i, S, _, .Name x _ => visC S i x
  | .k c, _, _, .Constant c' _ _ => decide (c = c')
  | .gl x _, S, _, .Name y _ => decide (x = y) && glC S x
  | .ari op a b, S, _, .BinOp pa op' pb _ => decide (op = op') && ck nb a S false pa && ck nb b S false pb
  | .cat a b, S, _, .BinOp pa op' pb _ => decide (.Add = op') && ck nb a S false pa && ck nb b S false pb
  | .rep a b, S, _, .BinOp pa op' pb _ => decide (.Mult = op') && ck nb a S false pa && ck nb b S false pb
  | .neg a, S, _, .UnaryOp op pa _ => decide (op = .USub) && ck nb a S false pa
  | .not a, S, _, .UnaryOp op pa _ => decide (op = .Not) && ck nb a S false pa
  | .and a b, S, _, .BoolOp op (pa :: pb :: r) p => decide (op = .And) && ck nb a S false pa && ck nb b S false (.BoolOp .And (pb :: r) p) && isAnd b
  | .or a b, S, _, .BoolOp op (pa :: pb :: r) p => decide (op = .Or) && ck nb a S false pa && ck nb b S false (.BoolOp .Or (pb :: r) p) && isOr b
  | .one a, S, _, .BoolOp _ [pa] _ => ck nb a S false pa
  | .cmp op a b, S, _, .Compare pa [op'] [pb] _ => decide (op = op') && plainX pb && ck nb a S false pa && ck nb b S false pb
  | .chain o1 o2 a b c, S, _, .Compare pa [o1', o2'] [pb, pc] _ => decide (o1 = o1') && plainX pb && plainX pc && decide (o2 = o2') && ck nb a S false pa && ck nb b S false pb && ck nb c S false pc
  | .ife c a b, S, _, .IfExp pc pa pb _ => ck nb c S false pc && ck nb a S false pa && ck nb b S false pb
  | .tup es, S, _, .Tuple ps _ _ => cks nb es S ps
  | .lst es, S, _, .List ps _ => cks nb es S ps
  | .ix a i, S, _, .Subscript pa pi _ => plainX pi && ck nb a S false pa && ck nb i S false pi
  | .slc a lo hi, S, _, .Subscript pa (.Slice pl ph none _) _ => ck nb a S false pa && cko nb lo S pl && cko nb hi S ph
  | .call x _ _ es, S, _, .Call (.Name y _) ps [] _ => decide (x = y) && glC S x && cks nb es S ps
  | .blt b es, S, _, .Call (.Name y _) (p :: ps) [] _ => decide ((b.nm : Str) = y) && bltC S nb y && cks nb es S (p :: ps)
  | .isi T a, S, _, .Call (.Name y _) [pa, .Name z _] [] _ => decide (y = ("isinstance" : Str)) && bltC S nb y && decide (z = (T.nm : Str)) && plainX pa && bltC S nb z && ck nb a S false pa
  | .comp own tg it cnd elt, S, _, .ListComp pe [⟨ptg, pit, pifs, 0⟩] scope _ =>
    blkC S.N S.sc scope own && plainX pit && ck nb it S true pit && tgC (S.blk scope) tg ptg && tgIn (own.map (·.2)) tg && ckc nb cnd (S.blk scope) pifs && ck nb elt (S.blk scope) false pe
  | .rng1 a, S, true, .Call (.Name y _) [pa] [] _ => decide (y = ("range" : Str)) && bltC S nb y && plainX pa && ck nb a S false pa
  | .rng2 a b, S, true, .Call (.Name y _) [pa, pb] [] _ => decide (y = ("range" : Str)) && bltC S nb y && plainX pa && plainX pb && ck nb a S false pa && ck nb b S false pb
  | .cI a, S, _, p => ck nb a S false p
  | .cL a, S, _, p => ck nb a S false p
  | _, _, _, _ => false
def cks (nb : List Str) : E → Scp → List Expr → Bool
  | .nil, _, [] => true
  | .cons a es, S, p :: ps => plainX p && ck nb a S false p && cks nb es S ps
  | _, _, _ => false
def cko (nb : List Str) : E → Scp → Option Expr → Bool
  | .nop, _, none => true
  | .prt a, S, some p => ck nb a S false p
  | _, _, _ => false
def ckc (nb : List Str) : E → Scp → List Expr → Bool
  | .nop, _, [] => true
  | .prt a, S, [p] => ck nb a S false p
  | _, _, _ => false
end
/-! ### who owns what it makes -/
structure Tv where
  t : Ty
  B : List Nat
  a : Bool
def Tv.nm (T : Tv) : Ty := if T.B = [] then T.t else .S
def Tv.fr : Tv := ⟨.F, [], false⟩
def Tv.both (T U : Tv) : Tv := ⟨Ty.join T.nm U.nm, T.B ++ U.B, T.a || U.a⟩
abbrev Tys := List (Option (Ty × Bool))
def setTy : Tg → Option (Ty × Bool) → Tys → Tys
  | .one i, t, τ => τ.set i t
  | .tup is, t, τ => is.foldl (fun τ i => τ.set i t) τ
def wipeT (τ : Tys) : List Nat → Tys
  | [] => τ
  | v :: vs => (wipeT τ vs).set v none
def bltT (b : BI) (T : Tv) : Tv := match b with
  | .list => if T.nm = .F then .fr else ⟨.L .S, T.B, T.a⟩
  | .tuple => if T.nm = .F then .fr else ⟨.S, T.B, T.a⟩
  | _ => .fr
def catT (T U : Tv) : Tv := if T.nm = .F ∧ U.nm = .F then .fr else ⟨.L (Ty.join T.nm.el U.nm.el), T.B ++ U.B, T.a || U.a⟩
def compT (T U : Tv) : Tv := if U.nm = .F then .fr else ⟨.L .S, U.B ++ T.B, U.a⟩
mutual
def ty : E → Tys → Option Tv
  | .sl i, τ => match τ[i]? with
    | some (some (t, a)) => some ⟨.S, if t = .S then [] else [i], a⟩
    | _ => none
  | .k _, _ => some .fr
  | .gl _ d, _ => if imm d = true then some .fr else none
  | .ari _ a b, τ => (ty a τ).bind fun _ => (ty b τ).bind fun _ => some .fr
  | .cat a b, τ => (ty a τ).bind fun T => (ty b τ).bind fun U => some (catT T U)
  | .rep a b, τ => (ty a τ).bind fun T => (ty b τ).bind fun _ => if T.t = .S then none else some ⟨.L .S, T.B, T.a⟩
  | .neg a, τ => (ty a τ).bind fun _ => some .fr
  | .not a, τ => (ty a τ).bind fun _ => some .fr
  | .and a b, τ => (ty a τ).bind fun _ => (ty b τ).bind fun _ => some .fr
  | .or a b, τ => (ty a τ).bind fun _ => (ty b τ).bind fun _ => some .fr
  | .one a, τ => (ty a τ).bind fun _ => some .fr
  | .cmp _ a b, τ => (ty a τ).bind fun _ => (ty b τ).bind fun _ => some .fr
  | .chain _ _ a b c, τ => (ty a τ).bind fun _ => (ty b τ).bind fun _ => (ty c τ).bind fun _ => some .fr
  | .ife c a b, τ => (ty c τ).bind fun _ => (ty a τ).bind fun T => (ty b τ).bind fun U => some (T.both U)
  | .tup es, τ => (tys es τ).bind fun T => some (if T.nm = .F then .fr else ⟨.S, T.B, T.a⟩)
  | .lst es, τ => (tys es τ).bind fun T => some (if T.nm = .F then .fr else ⟨.L T.nm, T.B, T.a⟩)
  | .ix a i, τ => (ty a τ).bind fun T => (ty i τ).bind fun _ => some (if T.nm = .F then .fr else ⟨.S, T.B, T.a⟩)
  | .slc a lo hi, τ => (ty a τ).bind fun T => (tyo lo τ).bind fun _ => (tyo hi τ).bind fun _ => some (if T.nm = .F then .fr else ⟨.L T.nm.el, T.B, T.a⟩)
  | .call _ _ t es, τ => (tys es τ).bind fun T => some (if t = .F then .fr else ⟨t, T.B, T.a⟩)
  | .blt b es, τ => (tys es τ).bind fun T => some (bltT b T)
  | .isi _ a, τ => (ty a τ).bind fun _ => some .fr
  | .comp own tg it cnd elt, τ => (ty it τ).bind fun T => (tyc cnd (setTy tg (some (.S, T.a)) (wipeT τ (own.map (·.2))))).bind fun _ =>
      (ty elt (setTy tg (some (.S, T.a)) (wipeT τ (own.map (·.2))))).bind fun U => some (compT T U)
  | .rng1 a, τ => (ty a τ).bind fun _ => some .fr
  | .rng2 a b, τ => (ty a τ).bind fun _ => (ty b τ).bind fun _ => some .fr
  | .cI a, τ => (ty a τ).bind fun _ => some .fr
  | .cL a, τ => (ty a τ).bind fun T => match T.t with
    | .S => none
    | _ => some .fr
  | _, _ => none
def tys : E → Tys → Option Tv
  | .nil, _ => some .fr
  | .cons a es, τ => (ty a τ).bind fun T => (tys es τ).bind fun U => some (T.both U)
  | _, _ => none
def tyo : E → Tys → Option Unit
  | .nop, _ => some ()
  | .prt a, τ => (ty a τ).bind fun _ => some ()
  | _, _ => none
def tyc : E → Tys → Option Unit
  | .nop, _ => some ()
  | .prt a, τ => (ty a τ).bind fun _ => some ()
  | _, _ => none
end
end VS
set_option Elab.async false
set_option linter.all false
set_option maxRecDepth 100000
namespace VS
open PySem PySem.Spec L2
open PyProof.Rows hiding St
/-! ### the setting of a program -/
structure Ctx where
  P : Program
  w : World
  K : PySem.W.Frag
  mg : Str → Option Value
  base : Heap
  k : Nat
  nb : List Str
  hnb : ∀ x ∈ nb, mg x = none
structure Gd (C : Ctx) (S : Scp) (X : Cx) : Prop where
  P : X.prog = C.P
  w : X.w = C.w
  K : X.K = C.K
  mg : X.mg = C.mg
  base : X.base = C.base
  calm : X.calm = true
  room : Room C.k X.A
  N : X.N = S.N
  sc : X.env.scope = S.sc
  nd : S.N.Nodup
  cel : ∀ x, S.cel x = true → X.fn x = true
/-- an exception as data -/
def ExR (K : PySem.W.Frag) (mg : Str → Option Value) (H : Hp) (x : Ex) (cls : Value) (dx : Option Addr) : Prop :=
  ∃ C, cls = .ref C ∧ mg x.cls = some (.ref C) ∧ (x.fs = [] ∨ ∃ d fv, dx = some d ∧ H d = some (.xd fv) ∧ fv.map (·.1) = x.fs.map (·.1) ∧ RwL K H (x.fs.map (·.2)) .S (fv.map (·.2)) [] [])
def XW (X : Cx) (σ : St) (H : Hp) (x : Ex) : Prop := ∃ W : WX, Takes X W ∧ ∀ H' cls dx, Same H H' → KF X.K H' → ExR X.K X.mg H' x cls dx → W cls dx σ H'
theorem XW.mono {X : Cx} {σ : St} {H H1 : Hp} {x : Ex} (e : Same H H1) (h : XW X σ H x) : XW X σ H1 x := by
  obtain ⟨W, t, h⟩ := h
  exact ⟨W, t, fun H' cls dx s => h H' cls dx (e.trans s)⟩
def FinG {α : Type} (X : Cx) (σ : St) (H : Hp) (r : R α) (k : α → Hp → Prop) : Prop := match r with
  | .ok a => ∀ H', Same H H' → KF X.K H' → k a H'
  | .ex x => XW X σ H x
  | .no => False
section
variable {α β : Type} {X : Cx} {σ : St} {H H1 : Hp}
theorem FinG.grow {r : R α} {k : α → Hp → Prop} (e : Same H H1) (h : FinG X σ H r k) : FinG X σ H1 r k := by
  cases r with
  | ok a => exact fun H' s => h H' (e.trans s)
  | ex x => exact XW.mono e h
  | no => exact h
theorem FinG.bind {r : R α} {f : α → R β} {k : β → Hp → Prop} (h : FinG X σ H (r >>= f) k) : FinG X σ H r (fun a H1 => FinG X σ H1 (f a) k) := by
  cases r with
  | ok a => exact fun H1 e _ => FinG.grow (r := f a) e h
  | ex x => exact h
  | no => exact h
theorem FinG.imp {r : R α} {k k' : α → Hp → Prop} (h : FinG X σ H r k) (m : ∀ a H', Same H H' → KF X.K H' → k a H' → k' a H') : FinG X σ H r k' := by
  cases r with
  | ok a => exact fun H' e kf => m a H' e kf (h H' e kf)
  | ex x => exact h
  | no => exact h
theorem R.assoc {α β γ : Type} (x : R α) (f : α → R β) (g : β → R γ) : ((x >>= f) >>= g) = (x >>= fun a => f a >>= g) := by cases x <;> rfl
theorem FinG.ok {a : α} {k : α → Hp → Prop} (h : FinG X σ H (.ok a) k) (kf : KF X.K H) : k a H := h H (Same.refl H) kf
theorem FinG.ite {c : Prop} [Decidable c] {a : α} {k : α → Hp → Prop} (h : FinG X σ H (if c then .ok a else .no) k) : c ∧ FinG X σ H (.ok a) k := by
  by_cases hc : c
  · rw [if_pos hc] at h; exact ⟨hc, h⟩
  · rw [if_neg hc] at h; exact h.elim
end
/-! ### the slots -/
structure SV (K : PySem.W.Frag) (H₀ H : Hp) (τ : Tys) (δ : Sl) (σ : St) (nd : List (List Addr × List Addr)) : Prop where
  kf : KF K H
  sm : Same H₀ H
  ls : σ.length = δ.length
  ln : nd.length = δ.length
  rep : ∀ (i : Nat) (d : D) (t : Ty) (a : Bool), δ[i]? = some (some d) → τ[i]? = some (some (t, a)) → ∃ v o s, σ[i]? = some (some v) ∧ nd[i]? = some (o, s) ∧ Rw K H d t v o s ∧ (a = false → ∀ b ∈ s, New K H₀ b)
  old : ∀ (i : Nat) (p : List Addr × List Addr), nd[i]? = some p → ∀ b, b ∈ p.1 ∨ b ∈ p.2 → Old K H b
  own : ∀ (i : Nat) (p : List Addr × List Addr), nd[i]? = some p → ∀ b ∈ p.1, New K H₀ b ∧ MutAt H b
theorem SV.grow {K : PySem.W.Frag} {H₀ H H1 : Hp} {τ : Tys} {δ : Sl} {σ : St} {nd : List (List Addr × List Addr)} (e : Same H H1) (kf : KF K H1) (h : SV K H₀ H τ δ σ nd) : SV K H₀ H1 τ δ σ nd where
  kf := kf
  sm := h.sm.trans e
  ls := h.ls
  ln := h.ln
  rep := fun i d t a h1 h2 => by
    obtain ⟨v, o, s, h3, h4, h5, h6⟩ := h.rep i d t a h1 h2
    exact ⟨v, o, s, h3, h4, Rw.same e d h5, h6⟩
  old := fun i p h1 b hb n => h.old i p h1 b hb (n.back e)
  own := fun i p h1 b hb => by
    obtain ⟨n, u, hu, m⟩ := h.own i p h1 b hb
    exact ⟨n, u, e _ _ hu, m⟩
/-- an expression's value -/
def Vl (K : PySem.W.Frag) (H₀ H H' : Hp) (nd : List (List Addr × List Addr)) (T : Tv) (d : D) (v : V) : Prop :=
  ∃ o s, Rw K H' d T.t v o s ∧ o.Nodup ∧ (∀ b ∈ o, New K H b ∧ b ∉ s) ∧
    (∀ b ∈ s, New K H b ∨ ∃ i p, nd[i]? = some p ∧ (b ∈ p.2 ∨ (i ∈ T.B ∧ b ∈ p.1))) ∧ (T.a = false → ∀ b ∈ s, New K H₀ b)
def VlL (K : PySem.W.Frag) (H₀ H H' : Hp) (nd : List (List Addr × List Addr)) (T : Tv) (d : List D) (v : List V) : Prop :=
  ∃ o s, RwL K H' d T.nm v o s ∧ o.Nodup ∧ (∀ b ∈ o, New K H b ∧ b ∉ s) ∧
    (∀ b ∈ s, New K H b ∨ ∃ i p, nd[i]? = some p ∧ (b ∈ p.2 ∨ (i ∈ T.B ∧ b ∈ p.1))) ∧ (T.a = false → ∀ b ∈ s, New K H₀ b)
section
variable {K : PySem.W.Frag} {H₀ H H' H1 : Hp} {nd : List (List Addr × List Addr)} {T : Tv} {d : D} {v : V}
/-- a value without nodes -/
theorem Vl.imm {t : Ty} {o s : List Addr} (h : Rw K H' d t v o s) (i : imm d = true) : Vl K H₀ H H' nd T d v := by
  obtain ⟨_, _, h3⟩ := Rw.imm d i h
  exact ⟨[], [], h3 _, List.nodup_nil, by simp, by simp, by simp⟩
theorem Vl.int (i : Int) : Vl K H₀ H H' nd T (.int i) (.int i) := Vl.imm (t := .S) (rw_int.mpr ⟨rfl, rfl, rfl⟩) rfl
theorem Vl.bl (i : Bool) : Vl K H₀ H H' nd T (.bool i) (.bl i) := Vl.imm (t := .S) (rw_bl.mpr ⟨rfl, rfl, rfl⟩) rfl
theorem Vl.str (i : Str) : Vl K H₀ H H' nd T (.str i) (.str i) := Vl.imm (t := .S) (rw_str.mpr ⟨rfl, rfl, rfl⟩) rfl
theorem Vl.non : Vl K H₀ H H' nd T .none .non := Vl.imm (t := .S) (rw_non.mpr ⟨rfl, rfl, rfl⟩) rfl
theorem Vl.rw (h : Vl K H₀ H H' nd T d v) : ∃ t o s, Rw K H' d t v o s := by
  obtain ⟨o, s, h, _⟩ := h
  exact ⟨_, o, s, h⟩
theorem Vl.to (e : Same H' H1) (h : Vl K H₀ H H' nd T d v) : Vl K H₀ H H1 nd T d v := by
  obtain ⟨o, s, h, r⟩ := h
  exact ⟨o, s, Rw.same e d h, r⟩
theorem Vl.from {Hb : Hp} (e : Same Hb H) (h : Vl K H₀ H H' nd T d v) : Vl K H₀ Hb H' nd T d v := by
  obtain ⟨o, s, h, n, ho, hs, ha⟩ := h
  exact ⟨o, s, h, n, fun b z => ⟨(ho b z).1.back e, (ho b z).2⟩, fun b z => (hs b z).imp (fun q => q.back e) id, ha⟩
end
theorem Less.mem {o s o' s' : List Addr} (l : Less o s o' s') {b : Addr} (h : b ∈ s') : b ∈ o ∨ b ∈ s := by
  have h1 := List.count_pos_iff.mpr h
  have h2 := l.all b
  by_cases z : b ∈ o
  · exact .inl z
  · have := List.count_eq_zero.mpr z
    exact .inr (List.count_pos_iff.mp (by omega))
theorem Less.omem {o s o' s' : List Addr} (l : Less o s o' s') {b : Addr} (h : b ∈ o') : b ∈ o := by
  have h1 := List.count_pos_iff.mpr h
  have h2 := l.own b
  exact List.count_pos_iff.mp (by omega)
theorem nodup_count {l : List Addr} : l.Nodup ↔ ∀ b, l.count b ≤ 1 := List.nodup_iff_count
theorem Less.nodup {o s o' s' : List Addr} (l : Less o s o' s') (n : o.Nodup) : o'.Nodup := by
  rw [nodup_count] at *
  exact fun b => Nat.le_trans (l.own b) (n b)
theorem Less.apart {o s o' s' : List Addr} (l : Less o s o' s') (n : o.Nodup) (h : ∀ b ∈ o, b ∉ s) : ∀ b ∈ o', b ∉ s' := fun b hb hs => by
  have h1 := List.count_pos_iff.mpr hb
  have h2 := List.count_pos_iff.mpr hs
  have h3 := l.all b
  have h4 := nodup_count.mp n b
  have h5 := List.count_eq_zero.mpr (h b (l.omem hb))
  omega
section
variable {K : PySem.W.Frag} {H₀ H H' H1 : Hp} {nd : List (List Addr × List Addr)} {T U : Tv} {d : D} {ds : List D} {v : V} {vs : List V}
/-- New ones are new since the entry -/
theorem New.from (e : Same H₀ H) {b : Addr} (h : New K H b) : New K H₀ b := h.back e
theorem VlL.less (sm : Same H₀ H) {B : List Nat} {a : Bool} (hB : ∀ i ∈ T.B, i ∈ B) (ha : a = false → T.a = false) {t : Ty} (ht : Ty.le T.nm t = true) (hn : (⟨t, B, a⟩ : Tv).nm = t) (h : VlL K H₀ H H' nd T ds vs) : VlL K H₀ H H' nd ⟨t, B, a⟩ ds vs := by
  obtain ⟨o, s, h, n, ho, hs, hf⟩ := h
  obtain ⟨p, q, h', l⟩ := RwL.less ds ht h
  refine ⟨p, q, by rw [hn]; exact h', l.nodup n, fun b z => ⟨(ho b (l.omem z)).1, l.apart n (fun b z => (ho b z).2) b z⟩, fun b z => ?_, fun e b z => ?_⟩
  · rcases l.mem z with z | z
    · exact .inl (ho b z).1
    · exact (hs b z).imp id (fun ⟨i, p, h1, h2⟩ => ⟨i, p, h1, h2.imp id fun z => ⟨hB i z.1, z.2⟩⟩)
  · rcases l.mem z with z | z
    · exact (ho b z).1.back sm
    · exact hf (ha e) b z
theorem Vl.less (sm : Same H₀ H) {B : List Nat} {a : Bool} (hB : ∀ i ∈ T.B, i ∈ B) (ha : a = false → T.a = false) {t : Ty} (ht : Ty.le T.t t = true) (h : Vl K H₀ H H' nd T d v) : Vl K H₀ H H' nd ⟨t, B, a⟩ d v := by
  obtain ⟨o, s, h, n, ho, hs, hf⟩ := h
  obtain ⟨p, q, h', l⟩ := Rw.less d ht h
  refine ⟨p, q, h', l.nodup n, fun b z => ⟨(ho b (l.omem z)).1, l.apart n (fun b z => (ho b z).2) b z⟩, fun b z => ?_, fun e b z => ?_⟩
  · rcases l.mem z with z | z
    · exact .inl (ho b z).1
    · exact (hs b z).imp id (fun ⟨i, p, h1, h2⟩ => ⟨i, p, h1, h2.imp id fun z => ⟨hB i z.1, z.2⟩⟩)
  · rcases l.mem z with z | z
    · exact (ho b z).1.back sm
    · exact hf (ha e) b z
theorem Tv.le_nm (T : Tv) : Ty.le T.t T.nm = true := by
  unfold Tv.nm
  split
  · exact Ty.le_refl _
  · exact Ty.le_S _
theorem Tv.nm_nm (T : Tv) : (⟨T.nm, T.B, T.a⟩ : Tv).nm = T.nm := by
  unfold Tv.nm
  split <;> rfl
theorem Vl.nm (sm : Same H₀ H) (h : Vl K H₀ H H' nd T d v) : Vl K H₀ H H' nd ⟨T.nm, T.B, T.a⟩ d v := Vl.less sm (fun _ z => z) (fun z => z) T.le_nm h
theorem Tv.nm_or (T : Tv) : (T.B = [] ∧ T.nm = T.t) ∨ T.nm = .S := by
  unfold Tv.nm
  split
  · rename_i h; exact .inl ⟨h, rfl⟩
  · exact .inr rfl
/-- a value ahead of the others -/
theorem VlL.cons (sm : Same H₀ H) (e1 : Same H H1) (e2 : Same H1 H') (hold : ∀ (i : Nat) (p : List Addr × List Addr), nd[i]? = some p → ∀ b, b ∈ p.1 ∨ b ∈ p.2 → Old K H b)
    (h : Vl K H₀ H H1 nd T d v) (hl : VlL K H₀ H1 H' nd U ds vs) : VlL K H₀ H H' nd (T.both U) (d :: ds) (v :: vs) := by
  obtain ⟨o, s, h, n, ho, hs, hf⟩ := Vl.nm sm h
  obtain ⟨p, q, hl, n', ho', hs', hf'⟩ := hl
  have old1 : ∀ b, b ∈ o ∨ b ∈ s → Old K H1 b := Rw.old d h
  have key : ∃ o2 s2, RwL K H' (d :: ds) (Ty.join T.nm U.nm) (v :: vs) o2 s2 ∧ Less (o ++ p) (s ++ q) o2 s2 := by
    obtain ⟨o1, s1, h1, l1⟩ := Rw.less d (Ty.le_join T.nm U.nm).1 (Rw.same e2 d h)
    obtain ⟨o2, s2, h2, l2⟩ := RwL.less ds (Ty.le_join T.nm U.nm).2 hl
    exact ⟨_, _, rwl_cons.mpr ⟨v, vs, o1, s1, o2, s2, rfl, rfl, rfl, h1, h2⟩, l1.app l2⟩
  obtain ⟨o2, s2, h2, l⟩ := key
  have hnm : Ty.le (Ty.join T.nm U.nm) (T.both U).nm = true := Tv.le_nm (T.both U)
  obtain ⟨o3, s3, h3, l3⟩ := RwL.less (d :: ds) hnm h2
  have nd1 : (o ++ p).Nodup := by
    rw [List.nodup_append]
    refine ⟨n, n', fun b hb c hc e => ?_⟩
    subst e
    exact old1 b (.inl hb) (ho' b hc).1
  have ap1 : ∀ b ∈ o ++ p, b ∉ s ++ q := fun b hb hq => by
    rcases List.mem_append.mp hb with hb | hb <;> rcases List.mem_append.mp hq with hq | hq
    · exact (ho b hb).2 hq
    · have nb := (ho b hb).1
      rcases hs' b hq with z | ⟨i, pp, z1, z2⟩
      · exact old1 b (.inl hb) z
      · exact hold i pp z1 b (z2.elim .inr fun z => .inl z.2) nb
    · exact old1 b (.inr hq) (ho' b hb).1
    · exact (ho' b hb).2 hq
  have newo : ∀ b ∈ o ++ p, New K H b := fun b hb => (List.mem_append.mp hb).elim (fun z => (ho b z).1) fun z => (ho' b z).1.back e1
  have n2 := l.nodup nd1
  have a2 := l.apart nd1 ap1
  refine ⟨o3, s3, h3, l3.nodup n2, fun b z => ⟨newo b (l.omem (l3.omem z)), l3.apart n2 a2 b z⟩, fun b z => ?_, fun e b z => ?_⟩
  · have z' : b ∈ o ++ p ∨ b ∈ s ++ q := (l3.mem z).elim (fun z => .inl (l.omem z)) fun z => l.mem z
    rcases z' with z | z
    · exact .inl (newo b z)
    · rcases List.mem_append.mp z with z | z
      · exact (hs b z).imp id (fun ⟨i, p, h1, h2⟩ => ⟨i, p, h1, h2.imp id fun z => ⟨List.mem_append_left _ z.1, z.2⟩⟩)
      · exact (hs' b z).imp (fun q => q.back e1) (fun ⟨i, p, h1, h2⟩ => ⟨i, p, h1, h2.imp id fun z => ⟨List.mem_append_right _ z.1, z.2⟩⟩)
  · have e : T.a = false ∧ U.a = false := by
      have e : (T.a || U.a) = false := e
      simpa using e
    have z' : b ∈ o ++ p ∨ b ∈ s ++ q := (l3.mem z).elim (fun z => .inl (l.omem z)) fun z => l.mem z
    rcases z' with z | z
    · exact (newo b z).back sm
    · rcases List.mem_append.mp z with z | z
      · exact hf e.1 b z
      · exact hf' e.2 b z
end
end VS
set_option Elab.async false
set_option linter.all false
set_option maxRecDepth 100000
namespace VS
open PySem PySem.Spec L2
open PyProof.Rows hiding St
/-! ### list + list, whatever list -/
def rCatL (K : PySem.W.Frag) : R2 := fun x y H Q => ∃ l b xs zs, x = .ref l ∧ y = .ref b ∧ SqL K H l xs ∧ SqL K H b zs ∧ xs.length + zs.length ≤ sizeLine ∧ ∀ p, H p = none → Q (.ref p) (upd H p (.lst (xs ++ zs)))
theorem op_catL {X : Cx} : OpR X (binaryOp .Add) (rCatL X.K) := by
  intro pins s σ H x y v u Q I rx ry h
  obtain ⟨l, b, xs, zs, rfl, rfl, hH, hB, hz, q⟩ := h
  cases rx
  cases ry
  obtain ⟨its, r, p1, _⟩ := I.list hH
  obtain ⟨its2, r2, p2, _⟩ := I.list hB
  obtain ⟨⟨cls, dd, data, sl⟩, n, ho, hc, hdn, hd⟩ := p1
  obtain ⟨⟨cls2, dd2, data2, sl2⟩, n2, ho2, hc2, hdn2, hd2⟩ := p2
  simp only at hc hd hc2 hd2
  subst hc hd hc2 hd2
  have hl := r.length
  have hl2 := r2.length
  have e : its.toArray ++ its2.toArray = (its ++ its2).toArray := by simp
  refine concat_meets ⟨_, ho, rfl⟩ ⟨_, ho2, rfl⟩ noFill_list_add seq_list_add PySem.F.slot_list_add PySem.F.entry_list_add (PySem.F.args_list_add_2 _ _) (list_addW l b its.toArray its2.toArray n n2 dd dd2 sl sl2 (by simp only [List.size_toArray]; omega)) ⟨ho, ho2, ?_⟩
  rw [e]
  exact ⟨.ref _, _, I.lnew (t' := s.toks) (r.append r2) (by rw [List.length_append]; omega), rfl, q _ I.fresh⟩
section
variable {X : Cx} {σ : St} {H₀ Hb H : Hp} {nd : List (List Addr × List Addr)} {T : Tv} {d1 d2 : D} {x y : V} {Q : VK} {t1 t2 : Ty} {o1 s1 o2 s2 : List Addr}
/-! ### arithmetic -/
theorem wo_ari {op : Operator} (kf : KF X.K H) (h1 : Rw X.K H d1 t1 x o1 s1) (h2 : Rw X.K H d2 t2 y o2 s2)
    (h : FinG X σ H (ariD op d1 d2) fun d H' => ∀ v, Vl X.K H₀ Hb H' nd T d v → Q v H') : WO X (binaryOp op) x y H Q := by
  cases d1 with
  | int i =>
    cases d2 with
    | int j =>
      rw [rw_int] at h1 h2
      obtain ⟨rfl, _⟩ := h1
      obtain ⟨rfl, _⟩ := h2
      have go : ∀ k : Int, FinG X σ H (.ok (PyData.int k)) (fun d H' => ∀ v, Vl X.K H₀ Hb H' nd T d v → Q v H') → Q (.int k) H := fun k h => h.ok kf _ (.int k)
      cases op with
      | Add => exact WO.of op_add ⟨i, j, rfl, rfl, go _ h⟩
      | Sub => exact WO.of op_sub ⟨i, j, rfl, rfl, go _ h⟩
      | Mult =>
        obtain ⟨c, h⟩ := FinG.ite h
        rcases c with c | c | c
        · exact WO.of op_mul ⟨i, j, rfl, rfl, .inl (by omega), go _ h⟩
        · exact WO.of op_mul ⟨i, j, rfl, rfl, .inr (by omega), go _ h⟩
        · exact WO.of op_mulW ⟨i, j, rfl, rfl, c, go _ h⟩
      | FloorDiv =>
        have h : FinG X σ H (if 0 < j ∧ j.natAbs.log2 < 9000 then R.ok (PyData.int (i / j)) else if j ≠ 0 ∧ j.natAbs < 1073741824 then .ok (PyData.int (i.fdiv j)) else .no) _ := h
        by_cases c : 0 < j ∧ j.natAbs.log2 < 9000
        · rw [if_pos c] at h
          exact WO.of op_fdivW ⟨i, j, rfl, rfl, c, go _ h⟩
        · rw [if_neg c] at h
          obtain ⟨c, h⟩ := FinG.ite h
          exact WO.of op_fdivN ⟨i, j, rfl, rfl, c, go _ h⟩
      | Mod =>
        have h : FinG X σ H (if 0 < j then R.ok (PyData.int (i % j)) else if j ≠ 0 then .ok (PyData.int (i.fmod j)) else .no) _ := h
        by_cases c : 0 < j
        · rw [if_pos c] at h
          exact WO.of op_mod ⟨i, j, rfl, rfl, c, go _ h⟩
        · rw [if_neg c] at h
          obtain ⟨c, h⟩ := FinG.ite h
          exact WO.of op_modN ⟨i, j, rfl, rfl, c, go _ h⟩
      | Pow =>
        obtain ⟨c, h⟩ := FinG.ite h
        exact WO.of op_pow ⟨i, j, rfl, rfl, c, go _ h⟩
      | LShift =>
        obtain ⟨c, h⟩ := FinG.ite h
        exact WO.of op_shl ⟨i, j, rfl, rfl, c, go _ h⟩
      | RShift =>
        obtain ⟨c, h⟩ := FinG.ite h
        exact WO.of op_shr ⟨i, j, rfl, rfl, c, go _ h⟩
      | _ => exact False.elim h
    | _ => exact False.elim h
  | _ => exact False.elim h
/-! ### comparisons -/
theorem rw_isnon (h1 : Rw X.K H d1 t1 x o1 s1) : decide (x = .non) = isNonD d1 := by
  cases d1 with
  | none => rw [rw_non] at h1; rw [h1.1]; rfl
  | bool b => rw [rw_bl] at h1; rw [h1.1]; rfl
  | int b => rw [rw_int] at h1; rw [h1.1]; rfl
  | str b => rw [rw_str] at h1; rw [h1.1]; rfl
  | tuple b => rw [rw_tup] at h1; obtain ⟨a, vs, rfl, _⟩ := h1; rfl
  | list b => rw [rw_lst] at h1; obtain ⟨a, vs, _, _, rfl, _⟩ := h1; rfl
  | dict b => rw [rw_dct] at h1; obtain ⟨a, vs, _, _, rfl, _⟩ := h1; rfl
theorem canLay_of_shaped {d : D} (h : SeqAt.shaped d = true) : d.canLay0 = true := SeqAt.canLay_of_shaped h
theorem wo_eq (hu : X.A.units + 64 < cLine) (kf : KF X.K H) (h1 : Rw X.K H d1 t1 x o1 s1) (h2 : Rw X.K H d2 t2 y o2 s2)
    (h : FinG X σ H (eqD d1 d2) fun c H' => Q (.bl c) H') : WO X (compareOp .Eq) x y H Q := by
  obtain ⟨⟨c1, c2⟩, h⟩ := FinG.ite h
  exact WO.of (op_eqD hu) ⟨d1, d2, Rw.dp d1 (canLay_of_shaped c1) h1, Rw.dp d2 (canLay_of_shaped c2) h2, c1, c2, h.ok kf⟩
theorem wo_ne (hu : X.A.units + 64 < cLine) (kf : KF X.K H) (h1 : Rw X.K H d1 t1 x o1 s1) (h2 : Rw X.K H d2 t2 y o2 s2)
    (h : FinG X σ H (eqD d1 d2) fun c H' => Q (.bl (!c)) H') : WO X (compareOp .NotEq) x y H Q := by
  obtain ⟨⟨c1, c2⟩, h⟩ := FinG.ite h
  exact WO.of (op_neD hu) ⟨d1, d2, Rw.dp d1 (canLay_of_shaped c1) h1, Rw.dp d2 (canLay_of_shaped c2) h2, c1, c2, h.ok kf⟩
theorem wo_in (hu : X.A.units + 65 < cLine) (kf : KF X.K H) (h1 : Rw X.K H d1 t1 x o1 s1) (h2 : Rw X.K H d2 t2 y o2 s2)
    (h : FinG X σ H (inD d1 d2) fun c H' => Q (.bl c) H') : WO X (compareOp .In) x y H Q := by
  cases d2 with
  | list ds =>
    obtain ⟨⟨c1, c2⟩, h⟩ := FinG.ite h
    exact WO.of (op_inD hu) ⟨d1, ds, Rw.dp d1 (canLay_of_shaped c1) h1, Rw.dp _ (canLay_of_shaped c2) h2, c1, c2, h.ok kf⟩
  | _ => exact False.elim h
theorem wo_notIn (hu : X.A.units + 65 < cLine) (kf : KF X.K H) (h1 : Rw X.K H d1 t1 x o1 s1) (h2 : Rw X.K H d2 t2 y o2 s2)
    (h : FinG X σ H (inD d1 d2) fun c H' => Q (.bl (!c)) H') : WO X (compareOp .NotIn) x y H Q := by
  cases d2 with
  | list ds =>
    obtain ⟨⟨c1, c2⟩, h⟩ := FinG.ite h
    exact WO.of (op_notInD hu) ⟨d1, ds, Rw.dp d1 (canLay_of_shaped c1) h1, Rw.dp _ (canLay_of_shaped c2) h2, c1, c2, h.ok kf⟩
  | _ => exact False.elim h
theorem FinG.not {r : R Bool} {k : Bool → Hp → Prop} (h : FinG X σ H (notR r) k) : FinG X σ H r fun c H' => k (!c) H' := by
  cases r with
  | ok a => exact h
  | ex x => exact h
  | no => exact h
theorem wo_cmp {op : CmpOp} (hu : X.A.units + 65 < cLine) (kf : KF X.K H) (h1 : Rw X.K H d1 t1 x o1 s1) (h2 : Rw X.K H d2 t2 y o2 s2)
    (h : FinG X σ H (cmpD op d1 d2) fun c H' => Q (.bl c) H') : WO X (compareOp op) x y H Q := by
  have hu' : X.A.units + 64 < cLine := by omega
  cases op with
  | Eq => exact wo_eq hu' kf h1 h2 h
  | NotEq => exact wo_ne hu' kf h1 h2 (FinG.not h)
  | In => exact wo_in hu kf h1 h2 h
  | NotIn => exact wo_notIn hu kf h1 h2 (FinG.not h)
  | Is =>
    cases d2 with
    | none =>
      rw [rw_non] at h2
      refine WO.of op_isN ⟨h2.1, ?_⟩
      rw [rw_isnon h1]
      exact FinG.ok (σ := σ) h kf
    | _ => exact False.elim h
  | IsNot =>
    have h := FinG.not h
    cases d2 with
    | none =>
      rw [rw_non] at h2
      refine WO.of op_notN ⟨h2.1, ?_⟩
      rw [rw_isnon h1]
      exact FinG.ok (σ := σ) h kf
    | _ => exact False.elim h
  | Lt =>
    cases d1 with
    | int i => cases d2 with
      | int j =>
        rw [rw_int] at h1 h2
        exact WO.of op_lt ⟨i, j, h1.1, h2.1, FinG.ok (σ := σ) h kf⟩
      | _ => exact False.elim h
    | _ => exact False.elim h
  | LtE =>
    cases d1 with
    | int i => cases d2 with
      | int j =>
        rw [rw_int] at h1 h2
        exact WO.of op_le ⟨i, j, h1.1, h2.1, FinG.ok (σ := σ) h kf⟩
      | _ => exact False.elim h
    | _ => exact False.elim h
  | Gt =>
    cases d1 with
    | int i => cases d2 with
      | int j =>
        rw [rw_int] at h1 h2
        exact WO.of op_gt ⟨i, j, h1.1, h2.1, FinG.ok (σ := σ) h kf⟩
      | _ => exact False.elim h
    | _ => exact False.elim (by cases d2 <;> exact h)
  | GtE =>
    cases d1 with
    | int i => cases d2 with
      | int j =>
        rw [rw_int] at h1 h2
        exact WO.of op_ge ⟨i, j, h1.1, h2.1, FinG.ok (σ := σ) h kf⟩
      | _ => exact False.elim h
    | _ => exact False.elim (by cases d2 <;> exact h)
/-! ### displays, items, slices -/
theorem sq_of_rd {K : PySem.W.Frag} {H : Hp} {a : Addr} {vs : List V} (h : H a = some (.tup vs)) : SqT K H a vs := .inl (.inl h)
/-- a new list of items -/
theorem Vl.newLst {K : PySem.W.Frag} {Hx : Hp} {ds : List D} {vs : List V} {p : Addr} (sm : Same H₀ Hb) (e1 : Same Hb Hx) (n : Hx p = none) (kf : KF K (upd Hx p (.lst vs))) (h : VlL K H₀ Hb Hx nd T ds vs)
    (hold : ∀ (i : Nat) (q : List Addr × List Addr), nd[i]? = some q → ∀ b, b ∈ q.1 ∨ b ∈ q.2 → Old K Hb b) :
    Vl K H₀ Hb (upd Hx p (.lst vs)) nd (if T.nm = .F then .fr else ⟨.L T.nm, T.B, T.a⟩) (.list ds) (.ref p) := by
  obtain ⟨o, s, h, no, ho, hs, ha⟩ := h
  have np : New K Hx p := new_of kf n
  have h' := RwL.same (same_upd (o := .lst vs) n) ds h
  have hp : p ∉ o ∧ p ∉ s := ⟨fun z => RwL.old ds h p (.inl z) np, fun z => RwL.old ds h p (.inr z) np⟩
  by_cases c : T.nm = .F
  · rw [if_pos c]
    rw [c] at h'
    have e := RwL.f_s ds h'
    subst e
    exact ⟨p :: o, [], Rw.lstF upd_same h', List.nodup_cons.mpr ⟨hp.1, no⟩, fun b z => ⟨(List.mem_cons.mp z).elim (fun q => q ▸ np.back e1) fun q => (ho b q).1, by simp⟩, by simp, by simp⟩
  · rw [if_neg c]
    refine ⟨p :: o, s, Rw.lstL upd_same h', List.nodup_cons.mpr ⟨hp.1, no⟩, fun b z => ?_, hs, ha⟩
    rcases List.mem_cons.mp z with rfl | z
    · exact ⟨np.back e1, hp.2⟩
    · exact ho b z
theorem Vl.newTup {K : PySem.W.Frag} {Hx : Hp} {ds : List D} {vs : List V} {p : Addr} (sm : Same H₀ Hb) (n : Hx p = none) (h : VlL K H₀ Hb Hx nd T ds vs) :
    Vl K H₀ Hb (upd Hx p (.tup vs)) nd (if T.nm = .F then .fr else ⟨.S, T.B, T.a⟩) (.tuple ds) (.ref p) := by
  by_cases c : T.nm = .F
  · rw [if_pos c]
    obtain ⟨o, s, h, no, ho, hs, ha⟩ := h
    have h' := RwL.same (same_upd (o := .tup vs) n) ds h
    rw [c] at h'
    have e := RwL.f_s ds h'
    subst e
    exact ⟨o, [], rw_tup.mpr ⟨p, vs, rfl, .inl (.inl upd_same), h'⟩, no, fun b z => ⟨(ho b z).1, by simp⟩, by simp, by simp⟩
  · rw [if_neg c]
    have h2 := VlL.less sm (B := T.B) (a := T.a) (fun _ z => z) (fun z => z) (t := .S) (Ty.le_S _) (by unfold Tv.nm; split <;> rfl) h
    obtain ⟨o, s, h, no, ho, hs, ha⟩ := h2
    have h' := RwL.same (same_upd (o := .tup vs) n) ds h
    have e : (⟨.S, T.B, T.a⟩ : Tv).nm = .S := by unfold Tv.nm; split <;> rfl
    rw [e] at h'
    exact ⟨o, s, rw_tup.mpr ⟨p, vs, rfl, .inl (.inl upd_same), h'⟩, no, ho, hs, ha⟩
/-- an item of a value -/
theorem Vl.itm {K : PySem.W.Frag} {H' : Hp} {d e : D} {v w : V} {o s o' s' : List Addr} (sm : Same H₀ Hb) (no : o.Nodup) (ho : ∀ b ∈ o, New K Hb b ∧ b ∉ s)
    (hs : ∀ b ∈ s, New K Hb b ∨ ∃ i p, nd[i]? = some p ∧ (b ∈ p.2 ∨ (i ∈ T.B ∧ b ∈ p.1))) (ha : T.a = false → ∀ b ∈ s, New K H₀ b)
    (h : Rw K H' e t1 w o' s') (l1 : o'.Sublist o) (l2 : s'.Sublist s) (ht : T.nm = .F → t1 = .F) : Vl K H₀ Hb H' nd (if T.nm = .F then .fr else ⟨.S, T.B, T.a⟩) e w := by
  by_cases c : T.nm = .F
  · rw [if_pos c]
    rw [ht c] at h
    have e := Rw.f_s _ h
    subst e
    exact ⟨o', [], h, l1.nodup no, fun b z => ⟨(ho b (l1.subset z)).1, by simp⟩, by simp, by simp⟩
  · rw [if_neg c]
    obtain ⟨p, q, h2, l⟩ := Rw.less e (Ty.le_S t1) h
    have e0 := Rw.s_o _ h2
    subst e0
    refine ⟨[], q, h2, List.nodup_nil, by simp, fun b z => ?_, fun a b z => ?_⟩
    · rcases l.mem z with z | z
      · exact .inl (ho b (l1.subset z)).1
      · exact hs b (l2.subset z)
    · rcases l.mem z with z | z
      · exact (ho b (l1.subset z)).1.back sm
      · exact ha a b (l2.subset z)
theorem atI_some {α : Type} {xs : List α} {i : Int} {d : α} (h : atI xs i = some d) : ∃ j, ixN xs.length i = some j ∧ xs[j]? = some d := by
  unfold atI at h
  cases q : ixN xs.length i with
  | none => rw [q] at h; cases h
  | some j => rw [q] at h; exact ⟨j, rfl, h⟩
theorem atI_of {α : Type} {xs : List α} {i : Int} {j : Nat} {d : α} (h : ixN xs.length i = some j) (h2 : xs[j]? = some d) : atI xs i = some d := by
  unfold atI
  rw [h]; exact h2
theorem Tv.nm_tu {T : Tv} (h : T.nm = .F) : T.t = .F := by
  unfold Tv.nm at h
  split at h
  · exact h
  · cases h
theorem we_ix (sm : Same H₀ Hb) (kf : KF X.K H) (h1 : Vl X.K H₀ Hb H nd T d1 x) (h2 : Rw X.K H d2 t2 y o2 s2)
    (h : FinG X σ H (ixD d1 d2) fun d H' => ∀ v, Vl X.K H₀ Hb H' nd (if T.nm = .F then .fr else ⟨.S, T.B, T.a⟩) d v → Q v H') : rIx X.K x y H Q := by
  obtain ⟨o, s, h1, no, ho, hs, ha⟩ := h1
  cases d1 with
  | list xs =>
    cases d2 with
    | int i =>
      rw [rw_int] at h2
      obtain ⟨rfl, _⟩ := h2
      rw [rw_lst] at h1
      obtain ⟨a, vs, o', s', rfl, hl, hr, n⟩ := h1
      cases q : atI xs i with
      | none => unfold ixD at h; simp only [q] at h; exact False.elim h
      | some d =>
        unfold ixD at h
        simp only [q] at h
        obtain ⟨j, e1, e2⟩ := atI_some q
        obtain ⟨w, o3, s3, e3, h3, l1, l2⟩ := hr.item e2
        refine .inl ⟨a, vs, i, w, rfl, rfl, hl.sq, atI_of (by rw [hr.length]; exact e1) e3, h.ok kf _ ?_⟩
        have sub : o'.Sublist o ∧ s'.Sublist s := by
          cases hT : T.t <;> (rw [hT] at n; obtain ⟨rfl, rfl⟩ := n; constructor <;> first | exact List.Sublist.refl _ | exact List.sublist_cons_self _ _)
        exact Vl.itm (d := .none) (v := .non) sm no ho hs ha h3 (l1.trans sub.1) (l2.trans sub.2) fun c => by rw [Tv.nm_tu c]; rfl
    | _ => exact False.elim h
  | tuple xs =>
    cases d2 with
    | int i =>
      rw [rw_int] at h2
      obtain ⟨rfl, _⟩ := h2
      rw [rw_tup] at h1
      obtain ⟨a, vs, rfl, hl, hr⟩ := h1
      cases q : atI xs i with
      | none => unfold ixD at h; simp only [q] at h; exact False.elim h
      | some d =>
        unfold ixD at h
        simp only [q] at h
        obtain ⟨j, e1, e2⟩ := atI_some q
        obtain ⟨w, o3, s3, e3, h3, l1, l2⟩ := hr.item e2
        refine .inr (.inl ⟨a, vs, i, w, rfl, rfl, hl, atI_of (by rw [hr.length]; exact e1) e3, h.ok kf _ ?_⟩)
        exact Vl.itm (d := .none) (v := .non) sm no ho hs ha h3 l1 l2 fun c => by rw [Tv.nm_tu c]; rfl
    | _ => exact False.elim h
  | str z =>
    cases d2 with
    | int i =>
      rw [rw_int] at h2
      obtain ⟨rfl, _⟩ := h2
      rw [rw_str] at h1
      obtain ⟨rfl, _⟩ := h1
      unfold ixD at h
      by_cases c : z.length ≤ sizeLine
      · simp only [if_pos c] at h
        cases q : atI z.cps.toList i with
        | none => simp only [q] at h; exact False.elim h
        | some d =>
          simp only [q] at h
          exact .inr (.inr ⟨z, i, d, rfl, rfl, c, q, h.ok kf _ (.str _)⟩)
      · simp only [if_neg c] at h; exact False.elim h
    | _ => exact False.elim h
  | _ => exact False.elim (by cases d2 <;> exact h)
end
end VS
set_option Elab.async false
set_option linter.all false
set_option maxRecDepth 100000
namespace VS
open PySem PySem.Spec L2
open PyProof.Rows hiding St
section
variable {K : PySem.W.Frag} {H : Hp} {t : Ty}
theorem RwL.drop : ∀ (n : Nat) {ds : List D} {vs : List V} {o s : List Addr}, RwL K H ds t vs o s → ∃ o' s', RwL K H (ds.drop n) t (vs.drop n) o' s' ∧ o'.Sublist o ∧ s'.Sublist s
  | 0, _, _, o, s, h => ⟨o, s, h, .refl _, .refl _⟩
  | n + 1, [], _, _, _, h => by
    rw [rwl_nil] at h
    obtain ⟨rfl, rfl, rfl⟩ := h
    exact ⟨[], [], rwl_nil.mpr ⟨rfl, rfl, rfl⟩, .refl _, .refl _⟩
  | n + 1, d :: ds, _, _, _, h => by
    rw [rwl_cons] at h
    obtain ⟨v, vs', o1, s1, o2, s2, rfl, rfl, rfl, h1, h2⟩ := h
    obtain ⟨o', s', h3, l1, l2⟩ := RwL.drop n h2
    exact ⟨o', s', h3, l1.trans (List.sublist_append_right _ _), l2.trans (List.sublist_append_right _ _)⟩
theorem RwL.take : ∀ (n : Nat) {ds : List D} {vs : List V} {o s : List Addr}, RwL K H ds t vs o s → ∃ o' s', RwL K H (ds.take n) t (vs.take n) o' s' ∧ o'.Sublist o ∧ s'.Sublist s
  | 0, _, _, o, s, h => ⟨[], [], by rw [List.take_zero, List.take_zero]; exact rwl_nil.mpr ⟨rfl, rfl, rfl⟩, List.nil_sublist _, List.nil_sublist _⟩
  | n + 1, [], _, _, _, h => by
    rw [rwl_nil] at h
    obtain ⟨rfl, rfl, rfl⟩ := h
    exact ⟨[], [], rwl_nil.mpr ⟨rfl, rfl, rfl⟩, .refl _, .refl _⟩
  | n + 1, d :: ds, _, _, _, h => by
    rw [rwl_cons] at h
    obtain ⟨v, vs', o1, s1, o2, s2, rfl, rfl, rfl, h1, h2⟩ := h
    obtain ⟨o', s', h3, l1, l2⟩ := RwL.take n h2
    exact ⟨o1 ++ o', s1 ++ s', rwl_cons.mpr ⟨v, _, o1, s1, o', s', rfl, rfl, rfl, h1, h3⟩, (List.Sublist.refl _).append l1, (List.Sublist.refl _).append l2⟩
end
section
variable {X : Cx} {σ : St} {H₀ Hb H : Hp} {nd : List (List Addr × List Addr)} {T U : Tv} {d1 d2 : D} {x y : V} {Q : VK} {t1 t2 : Ty} {o1 s1 o2 s2 : List Addr}
/-- the items of a list, a tuple -/
theorem VlL.sub {K : PySem.W.Frag} {H' : Hp} {ds es : List D} {vs ws : List V} {o s o' s' : List Addr} {tt : Ty} (no : o.Nodup) (ho : ∀ b ∈ o, New K Hb b ∧ b ∉ s)
    (hs : ∀ b ∈ s, New K Hb b ∨ ∃ i p, nd[i]? = some p ∧ (b ∈ p.2 ∨ (i ∈ T.B ∧ b ∈ p.1))) (ha : T.a = false → ∀ b ∈ s, New K H₀ b)
    (h : RwL K H' es tt ws o' s') (l1 : o'.Sublist o) (l2 : s'.Sublist s) (ht : (⟨tt, T.B, T.a⟩ : Tv).nm = tt) : VlL K H₀ Hb H' nd ⟨tt, T.B, T.a⟩ es ws :=
  ⟨o', s', by rw [ht]; exact h, l1.nodup no, fun b z => ⟨(ho b (l1.subset z)).1, fun q => (ho b (l1.subset z)).2 (l2.subset q)⟩, fun b z => hs b (l2.subset z), fun e b z => ha e b (l2.subset z)⟩
theorem Nd.sub {t : Ty} {a : Addr} {o' s' o s : List Addr} (n : Nd t a o' s' o s) : o'.Sublist o ∧ s'.Sublist s := by
  cases t <;> (obtain ⟨rfl, rfl⟩ := n; constructor <;> first | exact List.Sublist.refl _ | exact List.sublist_cons_self _ _)
/-- a value's items, owned as the value's type says when nothing else leans on it -/
theorem Vl.items {K : PySem.W.Frag} {H' : Hp} {ds : List D} {v : V} (sm : Same H₀ Hb) (h : Vl K H₀ Hb H' nd T (.list ds) v) :
    ∃ a vs, v = .ref a ∧ SqL K H' a vs ∧ VlL K H₀ Hb H' nd ⟨T.nm.el, T.B, T.a⟩ ds vs := by
  obtain ⟨o, s, h, no, ho, hs, ha⟩ := Vl.nm sm h
  rw [rw_lst] at h
  obtain ⟨a, vs, o', s', rfl, hl, hr, n⟩ := h
  have e : (⟨T.nm.el, T.B, T.a⟩ : Tv).nm = T.nm.el := by
    unfold Tv.nm
    split
    · rfl
    · rfl
  exact ⟨a, vs, rfl, hl.sq, VlL.sub (T := T) (ds := ds) (vs := vs) no ho hs ha hr n.sub.1 n.sub.2 e⟩
theorem Vl.itemsT {K : PySem.W.Frag} {H' : Hp} {ds : List D} {v : V} (sm : Same H₀ Hb) (h : Vl K H₀ Hb H' nd T (.tuple ds) v) :
    ∃ a vs, v = .ref a ∧ SqT K H' a vs ∧ VlL K H₀ Hb H' nd ⟨T.nm.tu, T.B, T.a⟩ ds vs := by
  obtain ⟨o, s, h, no, ho, hs, ha⟩ := Vl.nm sm h
  rw [rw_tup] at h
  obtain ⟨a, vs, rfl, hl, hr⟩ := h
  have e : (⟨T.nm.tu, T.B, T.a⟩ : Tv).nm = T.nm.tu := by
    unfold Tv.nm
    split
    · rfl
    · rfl
  exact ⟨a, vs, rfl, hl, VlL.sub (T := T) (ds := ds) (vs := vs) no ho hs ha hr (.refl _) (.refl _) e⟩
theorem Tv.nm_mk {t : Ty} {B : List Nat} {a : Bool} (h : B = [] ∨ t = .S) : (⟨t, B, a⟩ : Tv).nm = t := by
  unfold Tv.nm
  split
  · rfl
  · rcases h with h | h
    · exact absurd h (by assumption)
    · exact h.symm
theorem Tv.nm_B (T : Tv) : T.B = [] ∨ T.nm = .S := by
  unfold Tv.nm
  split
  · exact .inl (by assumption)
  · exact .inr rfl
/-- the new list's type may be said in this way -/
theorem Vl.relst {K : PySem.W.Frag} {H' : Hp} {ds : List D} {v : V} {t : Ty} {B : List Nat} {a : Bool} (sm : Same H₀ Hb) (h : Vl K H₀ Hb H' nd (if (⟨t, B, a⟩ : Tv).nm = .F then .fr else ⟨.L (⟨t, B, a⟩ : Tv).nm, B, a⟩) (.list ds) v)
    (hn : (⟨t, B, a⟩ : Tv).nm = t) : Vl K H₀ Hb H' nd (if t = .F then .fr else ⟨.L t, B, a⟩) (.list ds) v := by
  rw [hn] at h; exact h
theorem we_slc {lo hi : Option Int} (sm : Same H₀ Hb) (e1 : Same Hb H) (hold : ∀ (i : Nat) (q : List Addr × List Addr), nd[i]? = some q → ∀ b, b ∈ q.1 ∨ b ∈ q.2 → Old X.K Hb b)
    (h1 : Vl X.K H₀ Hb H nd T d1 x)
    (h : FinG X σ H (slcD d1 lo hi) fun d H' => ∀ v, Vl X.K H₀ Hb H' nd (if T.nm = .F then .fr else ⟨.L T.nm.el, T.B, T.a⟩) d v → Q v H') :
    rSlL X.K x lo hi H fun v H' => KF X.K H' → Q v H' := by
  cases d1 with
  | list ds =>
    obtain ⟨a, vs, rfl, hl, hv⟩ := h1.items sm
    refine ⟨a, vs, rfl, hl, fun p n kf => ?_⟩
    refine h _ (same_upd n) kf _ ?_
    obtain ⟨o, s, hr, no, ho, hs, ha⟩ := hv
    have en : (⟨T.nm.el, T.B, T.a⟩ : Tv).nm = T.nm.el := Tv.nm_mk (T.nm_B.imp id fun q => by rw [q]; rfl)
    rw [en] at hr
    have hlen := hr.length
    obtain ⟨o', s', h3, l1, l2⟩ := hr.drop (HT.sIx ds.length 0 lo)
    obtain ⟨o'', s'', h4, l3, l4⟩ := h3.take (HT.sIx ds.length ds.length hi - HT.sIx ds.length 0 lo)
    have hv2 : VlL X.K H₀ Hb H nd ⟨T.nm.el, T.B, T.a⟩ (cutD ds lo hi) (cutV vs lo hi) := by
      unfold cutV cutD
      rw [hlen]
      exact VlL.sub (T := ⟨T.nm.el, T.B, T.a⟩) (ds := ds) (vs := vs) no ho hs ha h4 (l3.trans l1) (l4.trans l2) en
    have hv3 := Vl.relst sm (Vl.newLst sm e1 n kf hv2 hold) en
    have q2 : (if T.nm.el = .F then Tv.fr else ⟨.L T.nm.el, T.B, T.a⟩) = (if T.nm = .F then Tv.fr else ⟨.L T.nm.el, T.B, T.a⟩) ∨ (T.nm.el = .F ∧ T.nm ≠ .F) := by
      by_cases c : T.nm = .F
      · left; rw [if_pos c, c]; rfl
      · by_cases c2 : T.nm.el = .F
        · exact .inr ⟨c2, c⟩
        · left; rw [if_neg c, if_neg c2]
    rcases q2 with q2 | ⟨q2, q3⟩
    · rw [← q2]; exact hv3
    · rw [if_pos q2] at hv3
      rw [if_neg q3, q2]
      exact Vl.less (T := .fr) sm (by intro i z; exact nomatch z) (fun _ => rfl) (by decide) hv3
  | _ => exact False.elim h
theorem VlL.append {K : PySem.W.Frag} {H1 H' : Hp} {ds es : List D} {vs ws : List V} (sm : Same H₀ Hb) (e1 : Same Hb H1) (e2 : Same H1 H') (hold : ∀ (i : Nat) (p : List Addr × List Addr), nd[i]? = some p → ∀ b, b ∈ p.1 ∨ b ∈ p.2 → Old K Hb b)
    (h : VlL K H₀ Hb H1 nd T ds vs) (hl : VlL K H₀ H1 H' nd U es ws) : VlL K H₀ Hb H' nd (T.both U) (ds ++ es) (vs ++ ws) := by
  obtain ⟨o, s, h, n, ho, hs, hf⟩ := h
  obtain ⟨p, q, hl, n', ho', hs', hf'⟩ := hl
  have old1 : ∀ b, b ∈ o ∨ b ∈ s → Old K H1 b := RwL.old ds h
  have key : ∃ o2 s2, RwL K H' (ds ++ es) (Ty.join T.nm U.nm) (vs ++ ws) o2 s2 ∧ Less (o ++ p) (s ++ q) o2 s2 := by
    obtain ⟨o1, s1, h1, l1⟩ := RwL.less ds (Ty.le_join T.nm U.nm).1 (RwL.same e2 ds h)
    obtain ⟨o2, s2, h2, l2⟩ := RwL.less es (Ty.le_join T.nm U.nm).2 hl
    exact ⟨_, _, RwL.app h1 h2, l1.app l2⟩
  obtain ⟨o2, s2, h2, l⟩ := key
  have hnm : Ty.le (Ty.join T.nm U.nm) (T.both U).nm = true := Tv.le_nm (T.both U)
  obtain ⟨o3, s3, h3, l3⟩ := RwL.less (ds ++ es) hnm h2
  have nd1 : (o ++ p).Nodup := by
    rw [List.nodup_append]
    refine ⟨n, n', fun b hb c hc e => ?_⟩
    subst e
    exact old1 b (.inl hb) (ho' b hc).1
  have ap1 : ∀ b ∈ o ++ p, b ∉ s ++ q := fun b hb hq => by
    rcases List.mem_append.mp hb with hb | hb <;> rcases List.mem_append.mp hq with hq | hq
    · exact (ho b hb).2 hq
    · have nb := (ho b hb).1
      rcases hs' b hq with z | ⟨i, pp, z1, z2⟩
      · exact old1 b (.inl hb) z
      · exact hold i pp z1 b (z2.elim .inr fun z => .inl z.2) nb
    · exact old1 b (.inr hq) (ho' b hb).1
    · exact (ho' b hb).2 hq
  have newo : ∀ b ∈ o ++ p, New K Hb b := fun b hb => (List.mem_append.mp hb).elim (fun z => (ho b z).1) fun z => (ho' b z).1.back e1
  have n2 := l.nodup nd1
  have a2 := l.apart nd1 ap1
  refine ⟨o3, s3, h3, l3.nodup n2, fun b z => ⟨newo b (l.omem (l3.omem z)), l3.apart n2 a2 b z⟩, fun b z => ?_, fun e b z => ?_⟩
  · have z' : b ∈ o ++ p ∨ b ∈ s ++ q := (l3.mem z).elim (fun z => .inl (l.omem z)) fun z => l.mem z
    rcases z' with z | z
    · exact .inl (newo b z)
    · rcases List.mem_append.mp z with z | z
      · exact (hs b z).imp id (fun ⟨i, p, h1, h2⟩ => ⟨i, p, h1, h2.imp id fun z => ⟨List.mem_append_left _ z.1, z.2⟩⟩)
      · exact (hs' b z).imp (fun q => q.back e1) (fun ⟨i, p, h1, h2⟩ => ⟨i, p, h1, h2.imp id fun z => ⟨List.mem_append_right _ z.1, z.2⟩⟩)
  · have e : T.a = false ∧ U.a = false := by
      have e : (T.a || U.a) = false := e
      simpa using e
    have z' : b ∈ o ++ p ∨ b ∈ s ++ q := (l3.mem z).elim (fun z => .inl (l.omem z)) fun z => l.mem z
    rcases z' with z | z
    · exact (newo b z).back sm
    · rcases List.mem_append.mp z with z | z
      · exact hf e.1 b z
      · exact hf' e.2 b z
theorem Ty.join_F : ∀ {a b : Ty}, Ty.join a b = .F → a = .F ∧ b = .F
  | .S, _, h => nomatch h
  | .F, .F, _ => ⟨rfl, rfl⟩
  | .F, .S, h => nomatch h
  | .F, .L _, h => nomatch h
  | .L _, .S, h => nomatch h
  | .L _, .F, h => nomatch h
  | .L _, .L _, h => nomatch h
theorem Ty.join_S (a : Ty) : Ty.join a .S = .S := by cases a <;> rfl
theorem wo_cat {H1 : Hp} (sm : Same H₀ Hb) (e1 : Same Hb H1) (e2 : Same H1 H) (kf : KF X.K H) (hold : ∀ (i : Nat) (q : List Addr × List Addr), nd[i]? = some q → ∀ b, b ∈ q.1 ∨ b ∈ q.2 → Old X.K Hb b)
    (h1 : Vl X.K H₀ Hb H1 nd T d1 x) (h2 : Vl X.K H₀ H1 H nd U d2 y)
    (h : FinG X σ H (catD d1 d2) fun d H' => ∀ v, Vl X.K H₀ Hb H' nd (catT T U) d v → Q v H') : WO X (binaryOp .Add) x y H Q := by
  cases d1 with
  | list xs =>
    cases d2 with
    | list ys =>
      obtain ⟨c, h⟩ := FinG.ite h
      obtain ⟨a, vs, rfl, hl, hv⟩ := h1.items sm
      obtain ⟨b, ws, rfl, hl', hv'⟩ := h2.items (sm.trans e1)
      have len1 : vs.length = xs.length := by obtain ⟨_, _, z, _⟩ := hv; exact z.length
      have len2 : ws.length = ys.length := by obtain ⟨_, _, z, _⟩ := hv'; exact z.length
      refine WO.kf (WO.of op_catL ⟨a, b, vs, ws, rfl, rfl, e2.seq hl, hl', by omega, fun p n kf' => h _ (same_upd n) kf' _ ?_⟩)
      have hv3 := VlL.append sm e1 e2 hold hv hv'
      have hv4 := Vl.newLst sm (e1.trans e2) n kf' hv3 hold
      have n1 : (⟨T.nm.el, T.B, T.a⟩ : Tv).nm = T.nm.el := Tv.nm_mk (T.nm_B.imp id fun q => by rw [q]; rfl)
      have n2 : (⟨U.nm.el, U.B, U.a⟩ : Tv).nm = U.nm.el := Tv.nm_mk (U.nm_B.imp id fun q => by rw [q]; rfl)
      have n3 : ((⟨T.nm.el, T.B, T.a⟩ : Tv).both ⟨U.nm.el, U.B, U.a⟩).nm = Ty.join T.nm.el U.nm.el := by
        unfold Tv.both
        rw [n1, n2]
        refine Tv.nm_mk ?_
        rcases T.nm_B with q | q
        · rcases U.nm_B with q' | q'
          · left; show T.B ++ U.B = []; rw [q, q']; rfl
          · right; rw [q']; exact Ty.join_S _
        · right; rw [q]; rfl
      rw [n3] at hv4
      unfold catT
      by_cases c1 : T.nm = .F ∧ U.nm = .F
      · rw [if_pos c1]
        rw [if_pos (by rw [c1.1, c1.2]; rfl)] at hv4
        exact hv4
      · rw [if_neg c1]
        by_cases c2 : Ty.join T.nm.el U.nm.el = .F
        · rw [if_pos c2] at hv4
          rw [c2]
          exact Vl.less (T := .fr) sm (by intro i z; exact nomatch z) (fun _ => rfl) (by decide) hv4
        · rw [if_neg c2] at hv4
          exact hv4
    | _ => exact False.elim h
  | tuple xs =>
    cases d2 with
    | tuple ys =>
      obtain ⟨⟨c0, c⟩, h⟩ := FinG.ite h
      obtain ⟨a, vs, rfl, hl, hv⟩ := h1.itemsT sm
      obtain ⟨b, ws, rfl, hl', hv'⟩ := h2.itemsT (sm.trans e1)
      have len1 : vs.length = xs.length := by obtain ⟨_, _, z, _⟩ := hv; exact z.length
      have len2 : ws.length = ys.length := by obtain ⟨_, _, z, _⟩ := hv'; exact z.length
      have n1 : (⟨T.nm.tu, T.B, T.a⟩ : Tv).nm = T.nm.tu := Tv.nm_mk (T.nm_B.imp id fun q => by rw [q]; rfl)
      have n2 : (⟨U.nm.tu, U.B, U.a⟩ : Tv).nm = U.nm.tu := Tv.nm_mk (U.nm_B.imp id fun q => by rw [q]; rfl)
      have n3 : ((⟨T.nm.tu, T.B, T.a⟩ : Tv).both ⟨U.nm.tu, U.B, U.a⟩).nm = Ty.join T.nm.tu U.nm.tu := by
        unfold Tv.both
        rw [n1, n2]
        refine Tv.nm_mk ?_
        rcases T.nm_B with q | q
        · rcases U.nm_B with q' | q'
          · left; show T.B ++ U.B = []; rw [q, q']; rfl
          · right; rw [q']; exact Ty.join_S _
        · right; rw [q]; rfl
      have fin : ∀ {Hx : Hp} {w : V}, Vl X.K H₀ Hb Hx nd (if Ty.join T.nm.tu U.nm.tu = .F then .fr else ⟨.S, T.B ++ U.B, T.a || U.a⟩) (.tuple (xs ++ ys)) w → Vl X.K H₀ Hb Hx nd (catT T U) (.tuple (xs ++ ys)) w := fun {Hx w} z => by
        unfold catT
        by_cases c1 : T.nm = .F ∧ U.nm = .F
        · rw [if_pos c1]
          rw [if_pos (by rw [c1.1, c1.2]; rfl)] at z
          exact z
        · rw [if_neg c1]
          have z2 : Vl X.K H₀ Hb Hx nd ⟨.S, T.B ++ U.B, T.a || U.a⟩ (.tuple (xs ++ ys)) w := by
            by_cases c2 : Ty.join T.nm.tu U.nm.tu = .F
            · rw [if_pos c2] at z
              exact Vl.less (T := .fr) sm (by intro i z; exact nomatch z) (fun _ => rfl) (by decide) z
            · rw [if_neg c2] at z; exact z
          obtain ⟨o, s, r, no, ho, hs, ha⟩ := z2
          rw [rw_tup] at r
          exact ⟨o, s, rw_tup.mpr r, no, ho, hs, ha⟩
      refine WO.kf (WO.of op_catT ⟨a, b, vs, ws, rfl, rfl, sqt_same e2 hl, hl', ?_, by omega, fun e kf' => ?_, fun e p n kf' => ?_⟩)
      · intro e; rw [e] at len1; exact c0 (List.length_eq_zero_iff.mp len1.symm)
      · refine h.ok kf _ (fin ?_)
        have e0 : ys = [] := by rw [e] at len2; exact List.length_eq_zero_iff.mp len2.symm
        subst e0
        rw [List.append_nil]
        have hT : Vl X.K H₀ Hb H nd (if T.nm = .F then .fr else ⟨.S, T.B ++ U.B, T.a || U.a⟩) (.tuple xs) (.ref a) := by
          have hh := Vl.to e2 (Vl.nm sm h1)
          by_cases c1 : T.nm = .F
          · rw [if_pos c1]
            rw [c1] at hh
            obtain ⟨o, s, r, no, ho, hs, ha⟩ := hh
            have es := Rw.f_s _ r
            subst es
            exact ⟨o, [], r, no, fun b z => ⟨(ho b z).1, by simp⟩, by simp, by simp⟩
          · rw [if_neg c1]
            exact Vl.less (T := ⟨T.nm, T.B, T.a⟩) sm (fun i z => List.mem_append_left _ z) (fun z => (by simpa using z : T.a = false ∧ U.a = false).1) (Ty.le_S _) hh
        by_cases c1 : Ty.join T.nm.tu U.nm.tu = .F
        · rw [if_pos c1]
          have := (Ty.join_F c1).1
          have c2 : T.nm = .F := by cases q : T.nm <;> rw [q] at this <;> first | rfl | exact nomatch this
          rw [if_pos c2] at hT
          exact hT
        · rw [if_neg c1]
          by_cases c2 : T.nm = .F
          · rw [if_pos c2] at hT
            exact Vl.less (T := .fr) sm (by intro i z; exact nomatch z) (fun _ => rfl) (by decide) hT
          · rw [if_neg c2] at hT; exact hT
      · refine h _ (same_upd n) kf' _ (fin ?_)
        have hv3 := VlL.append sm e1 e2 hold hv hv'
        have hv4 := Vl.newTup sm n hv3
        rw [n3] at hv4
        exact hv4
    | _ => exact False.elim h
  | str xs =>
    cases d2 with
    | str ys =>
      obtain ⟨c, h⟩ := FinG.ite h
      obtain ⟨_, _, _, r1⟩ := h1.rw
      obtain ⟨_, _, _, r2⟩ := h2.rw
      rw [rw_str] at r1 r2
      obtain ⟨rfl, _⟩ := r1
      obtain ⟨rfl, _⟩ := r2
      exact WO.of op_add_str ⟨xs, ys, rfl, rfl, c, h.ok kf _ (.str _)⟩
    | _ => exact False.elim h
  | _ => exact False.elim (by cases d2 <;> exact h)
/-! ### list * int -/
theorem RwL.rep {K : PySem.W.Frag} {H : Hp} {ds : List D} {vs : List V} {s : List Addr} (h : RwL K H ds .S vs [] s) : ∀ k : Nat, ∃ s', RwL K H (List.replicate k ds).flatten .S (List.replicate k vs).flatten [] s' ∧ ∀ b ∈ s', b ∈ s
  | 0 => ⟨[], rwl_nil.mpr ⟨rfl, rfl, rfl⟩, by simp⟩
  | k + 1 => by
    obtain ⟨s', h', l⟩ := RwL.rep h k
    refine ⟨s ++ s', ?_, fun b z => (List.mem_append.mp z).elim id (l b)⟩
    rw [List.replicate_succ, List.replicate_succ, List.flatten_cons, List.flatten_cons]
    exact RwL.app (o1 := []) (o2 := []) h h'
theorem wo_rep (sm : Same H₀ Hb) (e1 : Same Hb H) (kf : KF X.K H) (hold : ∀ (i : Nat) (q : List Addr × List Addr), nd[i]? = some q → ∀ b, b ∈ q.1 ∨ b ∈ q.2 → Old X.K Hb b)
    (h1 : Vl X.K H₀ Hb H nd T d1 x) (h2 : Rw X.K H d2 t2 y o2 s2) (htr : T.t ≠ .S)
    (h : FinG X σ H (repD d1 d2) fun d H' => ∀ v, Vl X.K H₀ Hb H' nd ⟨.L .S, T.B, T.a⟩ d v → Q v H') : WO X (binaryOp .Mult) x y H Q := by
  cases d1 with
  | list xs =>
    cases d2 with
    | int k =>
      obtain ⟨⟨c1, c2, c3⟩, h⟩ := FinG.ite h
      rw [rw_int] at h2
      obtain ⟨rfl, _⟩ := h2
      have hl0 : ∃ a vs, x = .ref a ∧ H a = some (.lst vs) := by
        obtain ⟨_, _, z, _⟩ := h1
        rw [rw_lst] at z
        obtain ⟨a, vs, _, _, e, hl, _⟩ := z
        cases q : T.t with
        | S => exact absurd q htr
        | F => rw [q] at hl; exact ⟨a, vs, e, hl⟩
        | L t0 => rw [q] at hl; exact ⟨a, vs, e, hl⟩
      obtain ⟨a0, vs0, e0, hl0⟩ := hl0
      obtain ⟨a, vs, rfl, hl, hv⟩ := h1.items sm
      obtain rfl : a = a0 := V.ref.inj e0
      have hl1 : H a = some (.lst vs) := by
        rcases hl with (hl | ⟨_, hl⟩) | ⟨o, _, _, hk, _⟩
        · exact hl
        · rw [hl0] at hl; cases hl
        · have := kf.1 a o hk; rw [hl0] at this; cases this
      have len1 : vs.length = xs.length := by obtain ⟨_, _, z, _⟩ := hv; exact z.length
      refine WO.kf (WO.of op_rep ⟨a, k, vs, rfl, rfl, hl1, c1, c2, by rw [len1]; exact c3, fun p n kf' => h _ (same_upd n) kf' _ ?_⟩)
      have n1 : (⟨.S, T.B, T.a⟩ : Tv).nm = .S := by unfold Tv.nm; split <;> rfl
      obtain ⟨o, s, r, no, ho, hs, ha⟩ := VlL.less (T := ⟨T.nm.el, T.B, T.a⟩) sm (B := T.B) (a := T.a) (fun _ z => z) (fun z => z) (t := .S) (Ty.le_S _) n1 hv
      rw [n1] at r
      have e0 := RwL.s_o _ r
      subst e0
      obtain ⟨s', r', l⟩ := r.rep k.toNat
      have hv2 : VlL X.K H₀ Hb H nd ⟨.S, T.B, T.a⟩ (List.replicate k.toNat xs).flatten (List.replicate k.toNat vs).flatten :=
        ⟨[], s', by rw [n1]; exact r', List.nodup_nil, by simp, fun b z => hs b (l b z), fun e b z => ha e b (l b z)⟩
      have hv3 := Vl.newLst sm e1 n kf' hv2 hold
      rw [n1] at hv3
      exact hv3
    | _ => exact False.elim h
  | _ => exact False.elim (by cases d2 <;> exact h)
/-! ### built-in functions -/
theorem rw_ints {K : PySem.W.Frag} {H : Hp} {t : Ty} : ∀ {ds : List D} {vs : List V} {o s : List Addr} {l : List Int}, RwL K H ds t vs o s → intsD ds = .ok l → vs = l.map V.int
  | [], _, _, _, _, h, e => by
    rw [rwl_nil] at h
    cases e
    exact h.1
  | d :: ds, _, _, _, l, h, e => by
    rw [rwl_cons] at h
    obtain ⟨v, vs', o1, s1, o2, s2, rfl, rfl, rfl, h1, h2⟩ := h
    cases d with
    | int i =>
      rw [rw_int] at h1
      obtain ⟨rfl, _⟩ := h1
      unfold intsD at e
      cases q : intsD ds with
      | ok l' =>
        rw [q] at e
        cases e
        rw [rw_ints h2 q]; rfl
      | ex x => rw [q] at e; cases e
      | no => rw [q] at e; cases e
    | _ => exact nomatch e
theorem intsD_no {ds : List D} {x : Ex} : intsD ds ≠ .ex x := by
  induction ds with
  | nil => exact nofun
  | cons d ds ih =>
    intro h
    cases d with
    | int i =>
      unfold intsD at h
      cases q : intsD ds with
      | ok l' => rw [q] at h; cases h
      | ex x => rw [q] at h; cases h; exact ih q
      | no => rw [q] at h; cases h
    | _ => exact nomatch h
theorem rw_one {K : PySem.W.Frag} {H : Hp} {t : Ty} {d : D} {vs : List V} {o s : List Addr} (h : RwL K H [d] t vs o s) : ∃ v, vs = [v] ∧ Rw K H d t v o s := by
  rw [rwl_cons] at h
  obtain ⟨v, vs', o1, s1, o2, s2, rfl, rfl, rfl, h1, h2⟩ := h
  rw [rwl_nil] at h2
  obtain ⟨rfl, rfl, rfl⟩ := h2
  exact ⟨v, rfl, by rw [List.append_nil, List.append_nil]; exact h1⟩
theorem rw_two {K : PySem.W.Frag} {H : Hp} {t : Ty} {d e : D} {vs : List V} {o s : List Addr} (h : RwL K H [d, e] t vs o s) : ∃ v w o1 s1 o2 s2, vs = [v, w] ∧ Rw K H d t v o1 s1 ∧ Rw K H e t w o2 s2 := by
  rw [rwl_cons] at h
  obtain ⟨v, vs', o1, s1, o2, s2, rfl, rfl, rfl, h1, h2⟩ := h
  obtain ⟨w, rfl, h3⟩ := rw_one h2
  exact ⟨v, w, o1, s1, o2, s2, rfl, h1, h3⟩
def BI.val : BI → Value
  | .len => .builtin "len"
  | .abs => .builtin "abs"
  | .int => .type "int"
  | .sum => .builtin "sum"
  | .list => .type "list"
  | .tuple => .type "tuple"
  | .max => .builtin "max"
  | .min => .builtin "min"
/-- one argument, its value's items -/
theorem VlL.arg {K : PySem.W.Frag} {H' : Hp} {d : D} {vs : List V} (h : VlL K H₀ Hb H' nd T [d] vs) : ∃ v, vs = [v] ∧ Vl K H₀ Hb H' nd ⟨T.nm, T.B, T.a⟩ d v := by
  obtain ⟨o, s, h, n, ho, hs, ha⟩ := h
  obtain ⟨v, e, h'⟩ := rw_one h
  exact ⟨v, e, o, s, h', n, ho, hs, ha⟩
theorem wc_blt {b : BI} {ds : List D} {vs : List V} (hc : X.calm = true) (sm : Same H₀ Hb) (e1 : Same Hb H) (kf : KF X.K H) (hold : ∀ (i : Nat) (q : List Addr × List Addr), nd[i]? = some q → ∀ b, b ∈ q.1 ∨ b ∈ q.2 → Old X.K Hb b)
    (hv : VlL X.K H₀ Hb H nd T ds vs) (h : FinG X σ H (bltD b ds) fun d H' => ∀ v, Vl X.K H₀ Hb H' nd (bltT b T) d v → Q v H') : WC X b.val vs H Q := by
  have hT : (⟨T.nm, T.B, T.a⟩ : Tv).nm = T.nm := T.nm_nm
  cases ds with
  | nil => cases b <;> exact False.elim h
  | cons d ds =>
    cases ds with
    | nil =>
      obtain ⟨v, rfl, hv1⟩ := hv.arg
      clear hv
      have hv := hv1
      clear hv1
      obtain ⟨t, o, s, hr⟩ := hv.rw
      cases b with
      | len =>
        cases d with
        | list xs =>
          obtain ⟨a, ws, rfl, hl, hw⟩ := hv.items sm
          have len1 : ws.length = xs.length := by obtain ⟨_, _, z, _⟩ := hw; exact z.length
          refine WC.of call_len ⟨.ref a, xs.length, rfl, .inl ⟨ws, hl, len1.symm⟩, h.ok kf _ (.int _)⟩
        | tuple xs =>
          obtain ⟨a, ws, rfl, hl, hw⟩ := hv.itemsT sm
          have len1 : ws.length = xs.length := by obtain ⟨_, _, z, _⟩ := hw; exact z.length
          refine WC.of call_len ⟨.ref a, xs.length, rfl, .inr ⟨ws, hl, len1.symm⟩, h.ok kf _ (.int _)⟩
        | str z =>
          obtain ⟨c, h⟩ := FinG.ite h
          rw [rw_str] at hr
          obtain ⟨rfl, _⟩ := hr
          exact WC.of call_len ⟨.str z, z.length, rfl, ⟨c, rfl⟩, h.ok kf _ (.int _)⟩
        | _ => exact False.elim h
      | abs =>
        cases d with
        | int i =>
          rw [rw_int] at hr
          obtain ⟨rfl, _⟩ := hr
          exact WC.of call_abs ⟨i, rfl, FinG.ok (σ := σ) h kf _ (.int _)⟩
        | _ => exact False.elim h
      | int =>
        cases d with
        | int i =>
          rw [rw_int] at hr
          obtain ⟨rfl, _⟩ := hr
          exact WC.of call_int1 (.inl ⟨i, rfl, FinG.ok (σ := σ) h kf _ (.int _)⟩)
        | bool i =>
          rw [rw_bl] at hr
          obtain ⟨rfl, _⟩ := hr
          exact WC.of call_int1 (.inr ⟨i, rfl, FinG.ok (σ := σ) h kf _ (.int _)⟩)
        | _ => exact False.elim h
      | sum =>
        cases d with
        | list xs =>
          have h : FinG X σ H (intsD xs >>= fun l => R.ok (PyData.int l.sum)) _ := h
          cases q : intsD xs with
          | ok l =>
            rw [q] at h
            obtain ⟨a, ws, rfl, hl, o', s', hw, _⟩ := hv.items sm
            have e := rw_ints hw q
            subst e
            exact WC.of (cr_sum hc) ⟨a, l, rfl, hl, FinG.ok (σ := σ) h kf _ (.int _)⟩
          | ex x => exact absurd q intsD_no
          | no => rw [q] at h; exact False.elim h
        | _ => exact False.elim h
      | list =>
        have key : ∀ (xs : List D) (ws : List V) (tt : Ty), VlL X.K H₀ Hb H nd ⟨tt, T.B, T.a⟩ xs ws → (tt = T.nm.el ∨ tt = T.nm.tu) → ∀ p, H p = none → KF X.K (upd H p (.lst ws)) → Vl X.K H₀ Hb (upd H p (.lst ws)) nd (bltT .list T) (.list xs) (.ref p) := fun xs ws tt hw ht p n kf' => by
          have n1 : (⟨tt, T.B, T.a⟩ : Tv).nm = tt := Tv.nm_mk (T.nm_B.imp id fun q => by rcases ht with rfl | rfl <;> (rw [q]; rfl))
          have hv4 := Vl.newLst sm e1 n kf' hw hold
          rw [n1] at hv4
          show Vl _ _ _ _ _ (if T.nm = .F then .fr else ⟨.L .S, T.B, T.a⟩) _ _
          by_cases c : T.nm = .F
          · have : tt = .F := by rcases ht with rfl | rfl <;> (rw [c]; rfl)
            rw [if_pos this] at hv4
            rw [if_pos c]
            exact hv4
          · rw [if_neg c]
            by_cases c2 : tt = .F
            · rw [if_pos c2] at hv4
              exact Vl.less (T := .fr) sm (by intro i z; exact nomatch z) (fun _ => rfl) (by decide) hv4
            · rw [if_neg c2] at hv4
              exact Vl.less (T := ⟨.L tt, T.B, T.a⟩) sm (fun _ z => z) (fun z => z) (Ty.le_S tt) hv4
        cases d with
        | list xs =>
          obtain ⟨a, ws, rfl, hl, hw⟩ := hv.items sm
          rw [hT] at hw
          exact WC.kf (WC.of call_list_of ⟨a, ws, rfl, .inl hl, fun p n kf' => FinG.ok (FinG.grow (σ := σ) (same_upd n) h) kf' _ (key xs ws _ hw (.inl rfl) p n kf')⟩)
        | tuple xs =>
          obtain ⟨a, ws, rfl, hl, hw⟩ := hv.itemsT sm
          rw [hT] at hw
          exact WC.kf (WC.of call_list_of ⟨a, ws, rfl, .inr hl, fun p n kf' => FinG.ok (FinG.grow (σ := σ) (same_upd n) h) kf' _ (key xs ws _ hw (.inr rfl) p n kf')⟩)
        | _ => exact False.elim h
      | tuple =>
        cases d with
        | list xs =>
          obtain ⟨a, ws, rfl, hl, hw⟩ := hv.items sm
          rw [hT] at hw
          refine WC.kf (WC.of call_tuple_of ⟨a, ws, rfl, .inl ⟨hl, fun p n kf' => FinG.ok (FinG.grow (σ := σ) (same_upd n) h) kf' _ ?_⟩⟩)
          have n1 : (⟨T.nm.el, T.B, T.a⟩ : Tv).nm = T.nm.el := Tv.nm_mk (T.nm_B.imp id fun q => by rw [q]; rfl)
          have hv4 := Vl.newTup sm n hw
          rw [n1] at hv4
          show Vl _ _ _ _ _ (if T.nm = .F then .fr else ⟨.S, T.B, T.a⟩) _ _
          by_cases c : T.nm = .F
          · rw [if_pos (by rw [c]; rfl)] at hv4
            rw [if_pos c]; exact hv4
          · rw [if_neg c]
            by_cases c2 : T.nm.el = .F
            · rw [if_pos c2] at hv4
              exact Vl.less (T := .fr) sm (by intro i z; exact nomatch z) (fun _ => rfl) (by decide) hv4
            · rw [if_neg c2] at hv4; exact hv4
        | tuple xs =>
          have hv0 := hv
          obtain ⟨a, ws, rfl, hl, hw⟩ := hv.itemsT sm
          refine WC.of call_tuple_of ⟨a, ws, rfl, .inr ⟨hl, FinG.ok (σ := σ) h kf _ ?_⟩⟩
          show Vl _ _ _ _ _ (if T.nm = .F then .fr else ⟨.S, T.B, T.a⟩) _ _
          by_cases c : T.nm = .F
          · rw [if_pos c]
            rw [c] at hv0
            obtain ⟨o, s, r, no, ho, hs, ha⟩ := hv0
            have es := Rw.f_s _ r
            subst es
            exact ⟨o, [], r, no, fun b z => ⟨(ho b z).1, by simp⟩, by simp, by simp⟩
          · rw [if_neg c]
            exact Vl.less (T := ⟨T.nm, T.B, T.a⟩) sm (fun i z => z) (fun z => z) (Ty.le_S _) hv0
        | _ => exact False.elim h
      | max => exact False.elim h
      | min => exact False.elim h
    | cons d2 ds =>
      cases ds with
      | nil =>
        obtain ⟨o, s, hr, _⟩ := hv
        obtain ⟨v, w, o1, s1, o2, s2, rfl, r1, r2⟩ := rw_two hr
        cases b with
        | max =>
          cases d with
          | int i => cases d2 with
            | int j =>
              rw [rw_int] at r1 r2
              obtain ⟨rfl, _⟩ := r1
              obtain ⟨rfl, _⟩ := r2
              exact WC.of (call_max2 hc) ⟨i, j, rfl, FinG.ok (σ := σ) h kf _ (.int _)⟩
            | _ => exact False.elim h
          | _ => exact False.elim h
        | min =>
          cases d with
          | int i => cases d2 with
            | int j =>
              rw [rw_int] at r1 r2
              obtain ⟨rfl, _⟩ := r1
              obtain ⟨rfl, _⟩ := r2
              exact WC.of (call_min2 hc) ⟨i, j, rfl, FinG.ok (σ := σ) h kf _ (.int _)⟩
            | _ => exact False.elim h
          | _ => exact False.elim h
        | _ => exact False.elim h
      | cons d3 ds => exact False.elim h
/-! ### isinstance -/
theorem kit_tab : ∀ (a : TN) (t : String) (d : D), ((d = .none ∧ t = "NoneType") ∨ (∃ b, d = .bool b ∧ t = "bool") ∨ (∃ b, d = .int b ∧ t = "int") ∨ (∃ b, d = .str b ∧ t = "str") ∨ (∃ b, d = .list b ∧ t = "list") ∨ (∃ b, d = .tuple b ∧ t = "tuple")) → kitB t a.nm = some (isiB a d) := by
  intro a t d h
  rcases h with ⟨rfl, rfl⟩ | ⟨b, rfl, rfl⟩ | ⟨b, rfl, rfl⟩ | ⟨b, rfl, rfl⟩ | ⟨b, rfl, rfl⟩ | ⟨b, rfl, rfl⟩ <;> cases a <;> (show kitB _ _ = some _; first | (show kitB _ _ = some true; decide +kernel) | (show kitB _ _ = some false; decide +kernel))
theorem rw_ty {K : PySem.W.Frag} {d : D} {v : V} {o s : List Addr} (h : Rw K H d t1 v o s) (hd : ∀ l, d ≠ .dict l) : ∃ t, TyX K H v (.type t) ∧ ((d = .none ∧ t = "NoneType") ∨ (∃ b, d = .bool b ∧ t = "bool") ∨ (∃ b, d = .int b ∧ t = "int") ∨ (∃ b, d = .str b ∧ t = "str") ∨ (∃ b, d = .list b ∧ t = "list") ∨ (∃ b, d = .tuple b ∧ t = "tuple")) := by
  cases d with
  | none => rw [rw_non] at h; rw [h.1]; exact ⟨_, .base .non, .inl ⟨rfl, rfl⟩⟩
  | bool b => rw [rw_bl] at h; rw [h.1]; exact ⟨_, .base (.bl b), .inr (.inl ⟨b, rfl, rfl⟩)⟩
  | int b => rw [rw_int] at h; rw [h.1]; exact ⟨_, .base (.int b), .inr (.inr (.inl ⟨b, rfl, rfl⟩))⟩
  | str b => rw [rw_str] at h; rw [h.1]; exact ⟨_, .base (.str b), .inr (.inr (.inr (.inl ⟨b, rfl, rfl⟩)))⟩
  | list b =>
    rw [rw_lst] at h
    obtain ⟨a, vs, _, _, rfl, hl, _⟩ := h
    refine ⟨"list", ?_, .inr (.inr (.inr (.inr (.inl ⟨b, rfl, rfl⟩))))⟩
    rcases hl.sq with (hl | ⟨ob, hl⟩) | ⟨ob, _, _, hk, hc, _⟩
    · exact .base (.lst hl)
    · exact .base (.frz hl)
    · exact .kList hk hc
  | tuple b =>
    rw [rw_tup] at h
    obtain ⟨a, vs, rfl, hl, _⟩ := h
    refine ⟨"tuple", ?_, .inr (.inr (.inr (.inr (.inr ⟨b, rfl, rfl⟩))))⟩
    rcases hl with (hl | ⟨ob, hl⟩) | ⟨ob, _, _, hk, hc, _⟩
    · exact .base (.tup hl)
    · exact .fTuple hl
    · exact .kTuple hk hc
  | dict b => exact absurd rfl (hd b)
theorem wc_isi {a : TN} (kf : KF X.K H) (h1 : Rw X.K H d1 t1 x o1 s1) (h : FinG X σ H (isiD a d1) fun d H' => ∀ v, Vl X.K H₀ Hb H' nd T d v → Q v H') : WC X (.builtin "isinstance") [x, .ty a.nm] H Q := by
  have hd : ∀ l, d1 ≠ .dict l := by rintro l rfl; exact h
  have e : isiD a d1 = .ok (.bool (isiB a d1)) := by
    cases d1 <;> first | rfl | exact absurd rfl (hd _)
  rw [e] at h
  obtain ⟨t, ht, hk⟩ := rw_ty h1 hd
  exact WC.of call_isi ⟨x, .ty a.nm, .type t, .type a.nm, isiB a d1, rfl, .ty _, ht, kit_ty (kit_tab a t d1 hk), h.ok kf _ (.bl _)⟩
end
end VS
set_option Elab.async false
set_option linter.all false
set_option maxRecDepth 100000
namespace VS
open PySem PySem.Spec L2
open PyProof.Rows hiding St
/-! ### storing -/
theorem SV.set {K : PySem.W.Frag} {H₀ H : Hp} {τ : Tys} {δ : Sl} {σ : St} {nd : List (List Addr × List Addr)} {d : D} {v : V} {s : List Addr} {a : Bool} {i : Nat}
    (h : SV K H₀ H τ δ σ nd) (r : Rw K H d .S v [] s) (ha : a = false → ∀ b ∈ s, New K H₀ b) :
    SV K H₀ H (τ.set i (some (.S, a))) (δ.set i (some d)) (σ.set i (some v)) (nd.set i ([], s)) where
  kf := h.kf
  sm := h.sm
  ls := by rw [List.length_set, List.length_set]; exact h.ls
  ln := by rw [List.length_set, List.length_set]; exact h.ln
  rep := fun j e t b h1 h2 => by
    by_cases hj : i = j
    · subst hj
      have hl : i < δ.length := by
        have := (List.getElem?_eq_some_iff.mp h1).1
        simpa using this
      have hl2 : i < τ.length := by
        have := (List.getElem?_eq_some_iff.mp h2).1
        simpa using this
      rw [List.getElem?_set_self hl] at h1
      rw [List.getElem?_set_self hl2] at h2
      cases h1
      cases h2
      exact ⟨v, [], s, List.getElem?_set_self (by rw [h.ls]; exact hl), List.getElem?_set_self (by rw [h.ln]; exact hl), r, ha⟩
    · rw [List.getElem?_set_ne hj] at h1 h2
      obtain ⟨w, o, s', h3, h4, h5⟩ := h.rep j e t b h1 h2
      exact ⟨w, o, s', by rw [List.getElem?_set_ne hj]; exact h3, by rw [List.getElem?_set_ne hj]; exact h4, h5⟩
  old := fun j p h1 b hb => by
    by_cases hj : i = j
    · subst hj
      have hl : i < nd.length := by
        have := (List.getElem?_eq_some_iff.mp h1).1
        simpa using this
      rw [List.getElem?_set_self hl] at h1
      cases h1
      exact Rw.old d r b hb
    · rw [List.getElem?_set_ne hj] at h1
      exact h.old j p h1 b hb
  own := fun j p h1 b hb => by
    by_cases hj : i = j
    · subst hj
      have hl : i < nd.length := by
        have := (List.getElem?_eq_some_iff.mp h1).1
        simpa using this
      rw [List.getElem?_set_self hl] at h1
      cases h1
      exact nomatch hb
    · rw [List.getElem?_set_ne hj] at h1
      exact h.own j p h1 b hb
/-- a slot forgotten -/
theorem SV.drop {K : PySem.W.Frag} {H₀ H : Hp} {τ : Tys} {δ : Sl} {σ : St} {nd : List (List Addr × List Addr)} {i : Nat}
    (h : SV K H₀ H τ δ σ nd) : SV K H₀ H (τ.set i none) (δ.set i none) (σ.set i none) (nd.set i ([], [])) where
  kf := h.kf
  sm := h.sm
  ls := by rw [List.length_set, List.length_set]; exact h.ls
  ln := by rw [List.length_set, List.length_set]; exact h.ln
  rep := fun j e t b h1 h2 => by
    by_cases hj : i = j
    · subst hj
      have hl : i < δ.length := by
        have := (List.getElem?_eq_some_iff.mp h1).1
        simpa using this
      rw [List.getElem?_set_self hl] at h1
      cases h1
    · rw [List.getElem?_set_ne hj] at h1 h2
      obtain ⟨w, o, s', h3, h4, h5⟩ := h.rep j e t b h1 h2
      exact ⟨w, o, s', by rw [List.getElem?_set_ne hj]; exact h3, by rw [List.getElem?_set_ne hj]; exact h4, h5⟩
  old := fun j p h1 b hb => by
    by_cases hj : i = j
    · subst hj
      have hl : i < nd.length := by
        have := (List.getElem?_eq_some_iff.mp h1).1
        simpa using this
      rw [List.getElem?_set_self hl] at h1
      cases h1
      exact absurd hb (by simp)
    · rw [List.getElem?_set_ne hj] at h1
      exact h.old j p h1 b hb
  own := fun j p h1 b hb => by
    by_cases hj : i = j
    · subst hj
      have hl : i < nd.length := by
        have := (List.getElem?_eq_some_iff.mp h1).1
        simpa using this
      rw [List.getElem?_set_self hl] at h1
      cases h1
      exact nomatch hb
    · rw [List.getElem?_set_ne hj] at h1
      exact h.own j p h1 b hb
/-- the slots' nodes behind: those of before, and those of s -/
def NdIn (nd nd' : List (List Addr × List Addr)) (s : List Addr) : Prop := ∀ (i : Nat) (p : List Addr × List Addr), nd'[i]? = some p → (nd[i]? = some p) ∨ (p.1 = [] ∧ ∀ b ∈ p.2, b ∈ s)
theorem NdIn.set {nd nd' : List (List Addr × List Addr)} {s s' : List Addr} {i : Nat} (h : NdIn nd nd' s) (hs : ∀ b ∈ s', b ∈ s) : NdIn nd (nd'.set i ([], s')) s := fun j p h1 => by
  by_cases hj : i = j
  · subst hj
    have hl : i < nd'.length := by
      have := (List.getElem?_eq_some_iff.mp h1).1
      simpa using this
    rw [List.getElem?_set_self hl] at h1
    cases h1
    exact .inr ⟨rfl, hs⟩
  · rw [List.getElem?_set_ne hj] at h1
    exact h j p h1
theorem NdIn.refl (nd : List (List Addr × List Addr)) (s : List Addr) : NdIn nd nd s := fun _ _ h => .inl h
theorem SV.wipe {K : PySem.W.Frag} {H₀ H : Hp} {τ : Tys} {δ : Sl} {σ : St} {nd : List (List Addr × List Addr)} (h : SV K H₀ H τ δ σ nd) :
    ∀ vs : List Nat, ∃ nd', SV K H₀ H (wipeT τ vs) (wipeD δ vs) (wipe σ vs) nd' ∧ NdIn nd nd' []
  | [] => ⟨nd, h, .refl _ _⟩
  | v :: vs => by
    obtain ⟨nd', h', n⟩ := SV.wipe h vs
    exact ⟨_, h'.drop, n.set (by simp)⟩
theorem wipe_set {σ : St} {v : V} {i : Nat} : ∀ {vs : List Nat}, i ∈ vs → wipe (σ.set i (some v)) vs = wipe σ vs
  | w :: vs, h => by
    show (wipe (σ.set i (some v)) vs).set w none = (wipe σ vs).set w none
    by_cases hw : i = w
    · subst hw
      by_cases hv : i ∈ vs
      · rw [wipe_set hv]
      · have key : ∀ us : List Nat, i ∉ us → wipe (σ.set i (some v)) us = (wipe σ us).set i (some v) := by
          intro us
          induction us with
          | nil => intro _; rfl
          | cons u us ih =>
            intro hu
            show (wipe (σ.set i (some v)) us).set u none = ((wipe σ us).set u none).set i (some v)
            rw [ih fun z => hu (List.mem_cons_of_mem _ z), List.set_comm _ _ fun e => hu (by rw [e]; exact List.mem_cons_self)]
        rw [key vs hv, List.set_set]
    · have hv : i ∈ vs := (List.mem_cons.mp h).resolve_left hw
      rw [wipe_set hv]
section
variable {C : Ctx} {S : Scp} {X : Cx} {H₀ H : Hp} {τ : Tys} {σ : St} {nd : List (List Addr × List Addr)} {s : List Addr} {a : Bool} {Q : St → Hp → Prop}
theorem stoC_get {i : Nat} {x : Str} (G : Gd C S X) (h : stoC S i x = true) : X.N[i]? = some x ∧ L2.Loc X.env.scope x ∧ (X.fn x = true ∨ X.env.scope.names.lookup x = some .local) := by
  unfold stoC at h
  simp only [Bool.and_eq_true, decide_eq_true_eq] at h
  obtain ⟨h1, h2⟩ := h
  rw [G.N, G.sc]
  refine ⟨h1, ?_⟩
  unfold L2.Loc
  split at h2
  · rename_i e; exact ⟨.inl e, .inr e⟩
  · rename_i e; exact ⟨.inr e, .inl (G.cel x h2)⟩
  · cases h2
theorem tgs_ok (G : Gd C S X) : ∀ (is : List Nat) (ps : List Expr) (δ δ' : Sl) (ds : List D) (vs : List V) (s' : List Addr) (τ : Tys) (σ : St) (nd nd0 : List (List Addr × List Addr)) (σ0 : St),
    tgsC S is ps = true → setTgs is ds δ = .ok δ' → RwL X.K H ds .S vs [] s' → (∀ b ∈ s', b ∈ s) → (a = false → ∀ b ∈ s', New X.K H₀ b) → SV X.K H₀ H τ δ σ nd → NdIn nd0 nd s →
    (∀ us : List Nat, (∀ i ∈ is, i ∈ us) → wipe σ us = wipe σ0 us ∨ True) →
    (∀ σ' nd', SV X.K H₀ H (is.foldl (fun τ i => τ.set i (some (.S, a))) τ) δ' σ' nd' → NdIn nd0 nd' s → (∀ us : List Nat, (∀ i ∈ is, i ∈ us) → wipe σ' us = wipe σ us) → Q σ' H) →
    ∃ t : TGs, PGs X ps t ∧ t vs σ H Q
  | [], [], δ, δ', ds, vs, s', τ, σ, nd, nd0, σ0, _, h2, h3, _, _, h6, h7, _, h8 => by
    cases ds with
    | nil =>
      cases h2
      rw [rwl_nil] at h3
      exact ⟨_, pgs_nil, h3.1, h8 σ nd h6 h7 fun _ _ => rfl⟩
    | cons d ds => cases h2
  | [], p :: ps, _, _, _, _, _, _, _, _, _, _, h, _, _, _, _, _, _, _, _ => by cases h
  | i :: is, [], _, _, _, _, _, _, _, _, _, _, h, _, _, _, _, _, _, _, _ => by cases h
  | i :: is, p :: ps, δ, δ', ds, vs, s', τ, σ, nd, nd0, σ0, h1, h2, h3, h4, h5, h6, h7, _, h8 => by
    cases ds with
    | nil => cases h2
    | cons d ds =>
      cases p with
      | Name x pos =>
        have h1 : (stoC S i x && tgsC S is ps) = true := h1
        rw [Bool.and_eq_true] at h1
        rw [rwl_cons] at h3
        obtain ⟨v, vs', o1, s1, o2, s2, rfl, eo, rfl, r1, r2⟩ := h3
        have e1 : o1 = [] := Rw.s_o _ r1
        have e2 : o2 = [] := RwL.s_o _ r2
        subst e1 e2
        obtain ⟨g1, g2, g3⟩ := stoC_get G h1.1
        have h2 : setTgs is ds (δ.set i (some d)) = .ok δ' := h2
        have sv := h6.set (a := a) (i := i) r1 fun e b hb => h5 e b (List.mem_append_left _ hb)
        obtain ⟨t, pt, q⟩ := tgs_ok G is ps _ _ ds vs' s2 _ _ _ nd0 σ h1.2 h2 r2 (fun b hb => h4 b (List.mem_append_right _ hb)) (fun e b hb => h5 e b (List.mem_append_right _ hb)) sv (h7.set fun b hb => h4 b (List.mem_append_left _ hb)) (fun _ _ => .inr trivial)
          (fun σ' nd' k1 k2 k3 => h8 σ' nd' k1 k2 fun us hu => (k3 us fun j hj => hu j (List.mem_cons_of_mem _ hj)).trans (wipe_set (hu i List.mem_cons_self)))
        exact ⟨_, pgs_cons (pg_name (i := i) (by rw [G.N]; exact G.nd) g1 g2 g3) pt, v, vs', rfl, q⟩
      | _ => cases h1
/-- an assignment to a target -/
theorem wg_tg (G : Gd C S X) {tg : Tg} {p : Expr} {δ δ' : Sl} {d : D} {v : V} (hc : tgC S tg p = true) (hs : setTg tg d δ = .ok δ') (r : Rw X.K H d .S v [] s) (ha : a = false → ∀ b ∈ s, New X.K H₀ b) (sv : SV X.K H₀ H τ δ σ nd)
    (h : ∀ σ' nd', SV X.K H₀ H (setTy tg (some (.S, a)) τ) δ' σ' nd' → NdIn nd nd' s → (∀ us : List Nat, tgIn us tg = true → wipe σ' us = wipe σ us) → Q σ' H) : WG X p v σ H Q := by
  cases tg with
  | one i =>
    cases p with
    | Name x pos =>
      have hc : stoC S i x = true := hc
      cases hs
      obtain ⟨g1, g2, g3⟩ := stoC_get G hc
      refine WG.of (pg_name (i := i) (by rw [G.N]; exact G.nd) g1 g2 g3) ?_
      exact h _ _ (sv.set r ha) ((NdIn.refl nd s).set fun b hb => hb) fun us hu => wipe_set (by simpa [tgIn] using hu)
    | _ => cases hc
  | tup is =>
    cases p with
    | Tuple es k pos =>
      have hc : tgsC S is es = true := hc
      cases d with
      | tuple ds =>
        rw [rw_tup] at r
        obtain ⟨q, vs, rfl, hq, hr⟩ := r
        have hs : setTgs is ds δ = .ok δ' := hs
        obtain ⟨t, pt, hq2⟩ := tgs_ok (Q := Q) G is es δ δ' ds vs s τ σ nd nd σ hc hs hr (fun b hb => hb) ha sv (.refl _ _) (fun _ _ => .inr trivial)
          (fun σ' nd' k1 k2 k3 => h σ' nd' k1 k2 fun us hu => k3 us fun j hj => by
            have hu : is.all (fun i => decide (i ∈ us)) = true := hu
            have := List.all_eq_true.mp hu j hj
            simpa using this)
        have lens : ∀ (is : List Nat) (es : List Expr), tgsC S is es = true → es.length = is.length := by
          intro is
          induction is with
          | nil => intro es hc; cases es with
            | nil => rfl
            | cons _ _ => cases hc
          | cons i is ih => intro es hc; cases es with
            | nil => cases hc
            | cons e es => cases e with
              | Name x pos =>
                have hc : (stoC S i x && tgsC S is es) = true := hc
                rw [Bool.and_eq_true] at hc
                rw [List.length_cons, List.length_cons, ih es hc.2]
              | _ => cases hc
        have hlen : es.length = is.length := lens is es hc
        have names : ∀ (is : List Nat) (es : List Expr), tgsC S is es = true → assignEach es X.env = es.map fun e => (false, assign e X.env) := by
          intro is
          induction is with
          | nil => intro es hc; cases es with
            | nil => rfl
            | cons _ _ => cases hc
          | cons i is ih => intro es hc; cases es with
            | nil => rfl
            | cons e es => cases e with
              | Name x pos =>
                have hc : (stoC S i x && tgsC S is es) = true := hc
                rw [Bool.and_eq_true] at hc
                show (false, assign (.Name x pos) X.env) :: assignEach es X.env = _
                rw [ih es hc.2]; rfl
              | _ => cases hc
        have na := names is es hc
        have hds : ds.length = is.length := by
          have key : ∀ (is : List Nat) (ds : List D) (δ : Sl), setTgs is ds δ = .ok δ' → ds.length = is.length := by
            intro is
            induction is with
            | nil => intro ds δ h; cases ds with
              | nil => rfl
              | cons _ _ => cases h
            | cons i is ih => intro ds δ h; cases ds with
              | nil => cases h
              | cons d ds => rw [List.length_cons, List.length_cons, ih ds _ h]
          exact key is ds δ hs
        refine WG.of (pg_tup (n := es.length) G.calm pt (by rw [na, List.length_map]) ?_) ⟨q, vs, rfl, hq, by rw [hr.length, hds, hlen], hq2⟩
        rw [na]
        rw [List.findIdx?_eq_none_iff]
        intro x hx
        obtain ⟨e, _, rfl⟩ := List.mem_map.mp hx
        rfl
      | _ => cases hs
    | _ => cases hc
end
end VS
set_option Elab.async false
set_option linter.all false
set_option maxRecDepth 100000
namespace VS
open PySem PySem.Spec L2
open PyProof.Rows hiding St
/-! ### promises of defs -/
def spF (K : PySem.W.Frag) (mg : Str → Option Value) (n : Nat) (F : List D → R D) (t : Ty) : Sp := fun vs H Q E => ∃ ds s, ds.length = n ∧ RwL K H ds .S vs [] s ∧ match F ds with
  | .ok d => ∀ v H', Same H H' → KF K H' → (∃ o s', Rw K H' d t v o s' ∧ o.Nodup ∧ (∀ b ∈ o, New K H b ∧ b ∉ s') ∧ ∀ b ∈ s', New K H b ∨ b ∈ s) → Q v H'
  | .ex x => ∀ cls dx H', Same H H' → KF K H' → ExR K mg H' x cls dx → E cls dx H'
  | .no => False
structure FnV (C : Ctx) (x : Str) (F : List D → R D) (t : Ty) : Prop where
  ex : ∃ (f : Addr) (fd : FuncData) (ps : List Str) (j : Nat), j ≤ C.k ∧ (∀ ds, F ds ≠ .no → ds.length = ps.length) ∧ FnOk C.P C.w C.K C.mg C.base (L2.CX C.P C.w) j f fd ps (spF C.K C.mg ps.length F t) ∧ C.mg x = some (.ref f) ∧ PySem.W.keepIn C.K (.ref f) = true ∧ Binds C.K fd ps []
def GlV (C : Ctx) (x : Str) (d : D) : Prop := ∃ u v, C.mg x = some u ∧ RelV v u ∧ imm d = true ∧ ∀ H, Rw C.K H d .S v [] []
def okE (C : Ctx) : E → Prop
  | .gl x d => GlV C x d
  | .ari _ a b => okE C a ∧ okE C b
  | .cat a b => okE C a ∧ okE C b
  | .rep a b => okE C a ∧ okE C b
  | .neg a => okE C a
  | .not a => okE C a
  | .and a b => okE C a ∧ okE C b
  | .or a b => okE C a ∧ okE C b
  | .one a => okE C a
  | .cmp _ a b => okE C a ∧ okE C b
  | .chain _ _ a b c => okE C a ∧ okE C b ∧ okE C c
  | .ife c a b => okE C c ∧ okE C a ∧ okE C b
  | .tup es => okE C es
  | .lst es => okE C es
  | .cons a es => okE C a ∧ okE C es
  | .ix a i => okE C a ∧ okE C i
  | .slc a lo hi => okE C a ∧ okE C lo ∧ okE C hi
  | .prt a => okE C a
  | .call x F t es => FnV C x F t ∧ okE C es
  | .blt _ es => okE C es
  | .isi _ a => okE C a
  | .comp _ _ it c e => okE C it ∧ okE C c ∧ okE C e
  | .rng1 a => okE C a
  | .rng2 a b => okE C a ∧ okE C b
  | .cI a => okE C a
  | .cL a => okE C a
  | _ => True
/-! ### small looks at the text -/
theorem star_plain {e : Expr} {es : List Expr} {env : Env} (h : plainX e = true) : starEach (e :: es) env = (false, eval e env) :: starEach es env := by
  cases e <;> first | rfl | exact absurd (show false = true from h) (by decide)
theorem plain_any : ∀ {es : List Expr} {pos : Pos} {env : Env}, es.all plainX = true → (backTo pos (starEach es env)).any (·.1) = false
  | [], _, _, _ => rfl
  | e :: es, pos, env, h => by
    rw [List.all_cons, Bool.and_eq_true] at h
    rw [star_plain h.1]
    show (backTo pos ((false, eval e env) :: starEach es env)).any (·.1) = false
    unfold backTo
    rw [List.map_cons, List.any_cons]
    have := plain_any (pos := pos) (env := env) h.2
    unfold backTo at this
    rw [this]; rfl
theorem plain_ix {e : Expr} (h : plainX e = true) : PlainIx e := by
  cases e <;> first | (intro o i; rfl) | exact absurd (show false = true from h) (by decide)
theorem plain_marks {op : CmpOp} {e : Expr} (h : plainX e = true) : behindInMarks op e = false := by
  cases e <;> first | rfl | exact absurd (show false = true from h) (by decide)
theorem plain_folded {e : Expr} {env : Env} (h : plainX e = true) : ∀ x, foldedSetIterable e env x = pure x := by
  cases e <;> first | (intro x; rfl) | exact absurd (show false = true from h) (by decide)
theorem cks_plain {nb : List Str} : ∀ {e : E} {S : Scp} {ps : List Expr}, cks nb e S ps = true → ps.all plainX = true
  | .nil, S, [], _ => rfl
  | .cons a es, S, p :: ps, h => by
    unfold cks at h
    simp only [Bool.and_eq_true] at h
    rw [List.all_cons, h.1.1, cks_plain h.2]; rfl
  | .nil, _, _ :: _, h => by simp [cks] at h
  | .cons _ _, _, [], h => by simp [cks] at h
  | .sl _, _, _, h => by simp [cks] at h
  | .k _, _, _, h => by simp [cks] at h
  | .gl _ _, _, _, h => by simp [cks] at h
  | .ari _ _ _, _, _, h => by simp [cks] at h
  | .cat _ _, _, _, h => by simp [cks] at h
  | .rep _ _, _, _, h => by simp [cks] at h
  | .neg _, _, _, h => by simp [cks] at h
  | .not _, _, _, h => by simp [cks] at h
  | .and _ _, _, _, h => by simp [cks] at h
  | .or _ _, _, _, h => by simp [cks] at h
  | .one _, _, _, h => by simp [cks] at h
  | .cmp _ _ _, _, _, h => by simp [cks] at h
  | .chain _ _ _ _ _, _, _, h => by simp [cks] at h
  | .ife _ _ _, _, _, h => by simp [cks] at h
  | .tup _, _, _, h => by simp [cks] at h
  | .lst _, _, _, h => by simp [cks] at h
  | .ix _ _, _, _, h => by simp [cks] at h
  | .slc _ _ _, _, _, h => by simp [cks] at h
  | .nop, _, _, h => by simp [cks] at h
  | .prt _, _, _, h => by simp [cks] at h
  | .call _ _ _ _, _, _, h => by simp [cks] at h
  | .blt _ _, _, _, h => by simp [cks] at h
  | .isi _ _, _, _, h => by simp [cks] at h
  | .comp _ _ _ _ _, _, _, h => by simp [cks] at h
  | .rng1 _, _, _, h => by simp [cks] at h
  | .rng2 _ _, _, _, h => by simp [cks] at h
  | .cI _, _, _, h => by simp [cks] at h
  | .cL _, _, _, h => by simp [cks] at h
section
variable {C : Ctx} {S : Scp} {X : Cx}
theorem gl_of {x : Str} (G : Gd C S X) (h : glC S x = true) : Gl X x ∧ (x == ("__debug__" : Str)) = false := by
  unfold glC at h
  simp only [Bool.and_eq_true, decide_eq_true_eq, Bool.not_eq_true'] at h
  exact ⟨by unfold Gl Env.kindOf; rw [G.sc]; exact h.1, h.2⟩
theorem blt_of {x : Str} (G : Gd C S X) (h : bltC S C.nb x = true) : Gl X x ∧ (x == ("__debug__" : Str)) = false ∧ X.mg x = none ∧ x ≠ ("__name__" : Str) := by
  unfold bltC at h
  simp only [Bool.and_eq_true, decide_eq_true_eq] at h
  obtain ⟨⟨h1, h2⟩, h3⟩ := h
  obtain ⟨g1, g2⟩ := gl_of G h1
  exact ⟨g1, g2, by rw [G.mg]; exact C.hnb x h2, h3⟩
theorem vis_of {i : Nat} {x : Str} (G : Gd C S X) (h : visC S i x = true) : X.N[i]? = some x ∧ Vis X.env.scope x ∧ (x == ("__debug__" : Str)) = false ∧ (x == ("__classdict__" : Str)) = false := by
  unfold visC at h
  simp only [Bool.and_eq_true, decide_eq_true_eq, Bool.not_eq_true'] at h
  obtain ⟨⟨⟨h1, h2⟩, h3⟩, h4⟩ := h
  rw [G.N, G.sc]
  refine ⟨h1, ?_, h3, h4⟩
  unfold Vis
  split at h2
  · rename_i e; exact .inl e
  · rename_i e; exact .inr (.inl e)
  · rename_i e; exact .inr (.inr e)
  · cases h2
theorem Gd.blk (G : Gd C S X) (s : Shared) (H : Hp) (scope : Scope) (cl : List (Str × Addr)) (Ca : Addr) (fp : List Addr) : Gd C (S.blk scope) (X.blk s H scope (compEnvC scope cl Ca X.env) fp) :=
  ⟨G.P, G.w, G.K, G.mg, G.base, G.calm, G.room, G.N, by show relS scope X.env.scope = relS scope S.sc; rw [G.sc], G.nd, fun _ h => h⟩
theorem Gd.units (G : Gd C S X) : X.A.units + 64 < cLine := G.room.units
theorem Gd.units65 (G : Gd C S X) : X.A.units + 65 < cLine := by
  have := G.room.un
  omega
end
/-! ### a call -/
section
variable {C : Ctx} {S : Scp} {X : Cx} {H₀ Hb H : Hp} {σ : St} {nd : List (List Addr × List Addr)} {T : Tv} {Q : VK}
theorem we_call0 {sp : Sp} {E : XK} {x : Str} {p pos : Pos} {j : Nat} {f : Addr} {fd : FuncData} {pn : List Str} {ps : List Expr} (hpl : ps.all plainX = true) (F : FnOk X.prog X.w X.K X.mg X.base (L2.CX X.prog X.w) j f fd pn sp) (hr : Room j X.A) (hg : Gl X x) (hdb : (x == ("__debug__" : Str)) = false) (hm : X.mg x = some (.ref f))
    (hk : PySem.W.keepIn X.K (.ref f) = true) (hb : Binds X.K fd pn []) (hx : PassesAt (L2.CX X.prog X.w) X σ E) (h : WA X ps σ H fun vs H1 => sp vs H1 Q E) (h0 : ps = [] → sp [] H Q E) : WE X (.Call (.Name x p) ps [] pos) σ H Q := by
  intro pins s I
  cases ps with
  | nil =>
    refine wpAny_Call_Name_kw (ld_glob I hg hm ?_ hdb)
    have q := h0 rfl
    exact PySem.W.callWith_K0 I.kIn hk (run_fnSD (E := fun _ => E) (us := []) (dvs := []) F hr hb .nil hx I .nil q)
  | cons e es =>
    rw [List.all_cons, Bool.and_eq_true] at hpl
    refine wpAny_Call_Name_kw (ld_glob I hg hm ?_ hdb)
    refine PySem.W.callWith_K (h₀ := X.base) I.ok.mod.kin hk (thn (h pos pins s I) fun us s1 ⟨vs, H1, I1, r, q⟩ => ⟨I1.kIn, ?_⟩) (star_plain hpl.1) (plain_any hpl.2)
    exact run_fnSD (E := fun _ => E) (dvs := []) F hr hb .nil hx I1 r (by rw [List.append_nil]; exact q)
theorem VlL.allS {K : PySem.W.Frag} {H' : Hp} {ds : List D} {vs : List V} (sm : Same H₀ Hb) (h : VlL K H₀ Hb H' nd T ds vs) : ∃ s, RwL K H' ds .S vs [] s ∧
    (∀ b ∈ s, New K Hb b ∨ ∃ i p, nd[i]? = some p ∧ (b ∈ p.2 ∨ (i ∈ T.B ∧ b ∈ p.1))) ∧ (T.a = false → ∀ b ∈ s, New K H₀ b) := by
  have n1 : (⟨.S, T.B, T.a⟩ : Tv).nm = .S := by unfold Tv.nm; split <;> rfl
  obtain ⟨o, s, r, no, ho, hs, ha⟩ := VlL.less sm (B := T.B) (a := T.a) (fun _ z => z) (fun z => z) (t := .S) (Ty.le_S _) n1 h
  rw [n1] at r
  have e0 := RwL.s_o _ r
  subst e0
  exact ⟨s, r, hs, ha⟩
/-- what a def hands back, seen from the caller -/
theorem Vl.back {K : PySem.W.Frag} {H1 H' : Hp} {d : D} {v : V} {t : Ty} {o s s' : List Addr} (sm : Same H₀ Hb) (e1 : Same Hb H1)
    (hs : ∀ b ∈ s, New K Hb b ∨ ∃ i p, nd[i]? = some p ∧ (b ∈ p.2 ∨ (i ∈ T.B ∧ b ∈ p.1))) (ha : T.a = false → ∀ b ∈ s, New K H₀ b)
    (r : Rw K H' d t v o s') (no : o.Nodup) (ho : ∀ b ∈ o, New K H1 b ∧ b ∉ s') (hs' : ∀ b ∈ s', New K H1 b ∨ b ∈ s) :
    Vl K H₀ Hb H' nd (if t = .F then .fr else ⟨t, T.B, T.a⟩) d v := by
  by_cases c : t = .F
  · subst c
    rw [if_pos rfl]
    have e := Rw.f_s _ r
    subst e
    exact ⟨o, [], r, no, fun b z => ⟨(ho b z).1.back e1, by simp⟩, by simp, by simp⟩
  · rw [if_neg c]
    refine ⟨o, s', r, no, fun b z => ⟨(ho b z).1.back e1, (ho b z).2⟩, fun b z => ?_, fun e b z => ?_⟩
    · rcases hs' b z with q | q
      · exact .inl (q.back e1)
      · exact hs b q
    · rcases hs' b z with q | q
      · exact (q.back e1).back sm
      · exact ha e b q
end
end VS
set_option Elab.async false
set_option linter.all false
set_option maxRecDepth 100000
namespace VS
open PySem PySem.Spec L2
open PyProof.Rows hiding St
def WPO (X : Cx) (p : Option Expr) : TO := fun σ H Q => ∀ (pins : List (Addr × Obj)) (s : Shared), Inv X pins σ H s → wpAny (model X.prog X.w) X.A (evalPart p X.env) (fun u s' => ∃ o H', Inv X pins σ H' s' ∧ IsPart u o ∧ Q o H') X.xe s
def WQ (X : Cx) (ifs : List Expr) : TT := fun σ H Q => ∀ (pins : List (Addr × Obj)) (s : Shared), Inv X pins σ H s →
  wpAny (model X.prog X.w) X.A (forIn ifs true fun c r => if r = true then do let ok ← isTrue c X.env (eval c X.env); pure (ForInStep.yield ok) else pure (ForInStep.yield r)) (TP X pins σ Q) X.xe s
theorem po_w {X : Cx} {p : Option Expr} : PO X p (WPO X p) := ⟨fun pins s _ _ _ I h => h pins s I⟩
theorem pq_w {X : Cx} {p : List Expr} : PTs X p (WQ X p) := ⟨fun pins s _ _ _ I h => h pins s I⟩
theorem WPO.of {X : Cx} {p : Option Expr} {t : TO} {σ : St} {H : Hp} {Q : Option Int → Hp → Prop} (h : PO X p t) (q : t σ H Q) : WPO X p σ H Q := fun pins s I => h.run pins s σ H Q I q
theorem WQ.of {X : Cx} {p : List Expr} {t : TT} {σ : St} {H : Hp} {Q : Bool → Hp → Prop} (h : PTs X p t) (q : t σ H Q) : WQ X p σ H Q := fun pins s I => h.run pins s σ H Q I q
structure At (C : Ctx) (S : Scp) (X : Cx) (H₀ : Hp) (τ : Tys) (δ : Sl) (σ : St) (nd : List (List Addr × List Addr)) (H : Hp) : Prop where
  G : Gd C S X
  sv : SV X.K H₀ H τ δ σ nd
section
variable {C : Ctx} {S : Scp} {X : Cx} {H₀ H H1 : Hp} {τ : Tys} {δ : Sl} {σ : St} {nd : List (List Addr × List Addr)}
theorem At.grow (h : At C S X H₀ τ δ σ nd H) (e : Same H H1) (kf : KF X.K H1) : At C S X H₀ τ δ σ nd H1 := ⟨h.G, h.sv.grow e kf⟩
/-- what a loop or a comprehension walks -/
structure Itk (K : PySem.W.Frag) (J : It) (vs : List V) (St : Hp → Prop) : Prop where
  go : ∀ i H, St H → i < vs.length → J.go i H
  stop : ∀ H, St H → J.stop vs.length H
  yld : ∀ i H x H', St H → J.yld i H x H' → i < vs.length → H' = H ∧ vs[i]? = some x
/-- where the walked thing stands: no list, or the list at a -/
def StdOk (K : PySem.W.Frag) (St : Hp → Prop) (w : Option Addr) : Prop := (∀ H H', Same H H' → St H → St H') ∧
  ∀ H a u, (∃ o, H a = some o ∧ Mut (some o)) → (w = some a → False) → St H → St (upd H a u)
end
/-- the soundness of a tree -/
structure Snd (C : Ctx) (e : E) : Prop where
  hE : ∀ {S X H₀ τ δ σ nd H}, At C S X H₀ τ δ σ nd H → ∀ (p : Expr), ck C.nb e S false p = true → ∀ T, ty e τ = some T → ∀ Q : VK,
    FinG X σ H (ev e δ) (fun d H' => ∀ v, Vl X.K H₀ H H' nd T d v → Q v H') → WE X p σ H Q
  hT : ∀ {S X H₀ τ δ σ nd H}, At C S X H₀ τ δ σ nd H → ∀ (p : Expr), ck C.nb e S false p = true → ∀ T, ty e τ = some T → ∀ Q : Bool → Hp → Prop,
    FinG X σ H (ev e δ >>= boolD) (fun b H' => Q b H') → WT X p σ H Q
  hW : ∀ {S X H₀ τ δ σ nd H}, At C S X H₀ τ δ σ nd H → ∀ (p : Expr), ck C.nb e S false p = true → (∃ op vs pos, p = .BoolOp op vs pos) → ∀ T, ty e τ = some T → ∀ Q : Bool → Hp → Prop,
    FinG X σ H (ev e δ >>= boolD) (fun b H' => Q b H') → WW X p σ H Q
  hA : ∀ {S X H₀ τ δ σ nd H}, At C S X H₀ τ δ σ nd H → ∀ (ps : List Expr), cks C.nb e S ps = true → ∀ T, tys e τ = some T → ∀ Q : List V → Hp → Prop,
    FinG X σ H (evl e δ) (fun ds H' => ∀ vs, VlL X.K H₀ H H' nd T ds vs → Q vs H') → WA X ps σ H Q
  hI : ∀ {S X H₀ τ δ σ nd H}, At C S X H₀ τ δ σ nd H → ∀ (tg p : Expr), ck C.nb e S true p = true → ∀ T, ty e τ = some T → ∀ R : It → Hp → Prop,
    FinG X σ H (ev e δ >>= iterD) (fun xs H' => ∀ J vs St w, Itk X.K J vs St → St H' → StdOk X.K St w → vs.length ≤ sizeLine → (∀ a, w = some a → Old X.K H' a ∧ (New X.K H a ∨ ∃ i p, nd[i]? = some p ∧ (a ∈ p.2 ∨ (i ∈ T.B ∧ a ∈ p.1)))) → VlL X.K H₀ H H' nd ⟨.S, T.B, T.a⟩ xs vs → R J H') → WI X tg p σ H R
  hO : ∀ {S X H₀ τ δ σ nd H}, At C S X H₀ τ δ σ nd H → ∀ (p : Option Expr), cko C.nb e S p = true → tyo e τ = some () →
    ∀ Q : Option Int → Hp → Prop, FinG X σ H (evo e δ) (fun l H' => Q l H') → WPO X p σ H Q
  hC : ∀ {S X H₀ τ δ σ nd H}, At C S X H₀ τ δ σ nd H → ∀ (ps : List Expr), ckc C.nb e S ps = true → tyc e τ = some () →
    ∀ Q : Bool → Hp → Prop, FinG X σ H (evc e δ) (fun b H' => Q b H') → WQ X ps σ H Q
section
variable {C : Ctx} {e : E} {S : Scp} {X : Cx} {H₀ H H1 : Hp} {τ : Tys} {δ : Sl} {σ : St} {nd : List (List Addr × List Addr)}
theorem FinG.boolE {r : R D} {Q : Bool → Hp → Prop} (h : FinG X σ H (r >>= boolD) fun b H' => Q b H') {T : Tv} :
    FinG X σ H r fun d H' => ∀ v, Vl X.K H₀ H H' nd T d v → ∃ c, v = .bl c ∧ Q c H' := by
  refine h.bind.imp fun d H' e kf h v vl => ?_
  cases d with
  | bool b =>
    obtain ⟨_, _, _, r⟩ := vl.rw
    rw [rw_bl] at r
    exact ⟨b, r.1, h.ok kf⟩
  | _ => exact False.elim h
/-- a test by its value -/
theorem wt_val (hE : ∀ Q : VK, FinG X σ H (ev e δ) (fun d H' => ∀ v, Vl X.K H₀ H H' nd T d v → Q v H') → WE X p σ H Q) {Q : Bool → Hp → Prop} (h : FinG X σ H (ev e δ >>= boolD) fun b H' => Q b H')
    (he : ∀ whole, isTrue p X.env whole = (do let v ← whole; standAt p.pos; holding [v] (truthy v)) := by intro _; rfl) : WT X p σ H Q :=
  WT.of (pt_val pe_w he) (hE _ h.boolE)
/-- the walk over a value -/
theorem wi_val (hE : ∀ Q : VK, FinG X σ H (ev e δ) (fun d H' => ∀ v, Vl X.K H₀ H H' nd T d v → Q v H') → WE X p σ H Q) (sm : Same H₀ H) (kf0 : KF X.K H) {tg : Expr} {R : It → Hp → Prop}
    (hold : ∀ (i : Nat) (q : List Addr × List Addr), nd[i]? = some q → ∀ b, b ∈ q.1 ∨ b ∈ q.2 → Old X.K H b)
    (h : FinG X σ H (ev e δ >>= iterD) (fun xs H' => ∀ J vs St w, Itk X.K J vs St → St H' → StdOk X.K St w → vs.length ≤ sizeLine → (∀ a, w = some a → Old X.K H' a ∧ (New X.K H a ∨ ∃ i p, nd[i]? = some p ∧ (a ∈ p.2 ∨ (i ∈ T.B ∧ a ∈ p.1)))) → VlL X.K H₀ H H' nd ⟨.S, T.B, T.a⟩ xs vs → R J H')) : WI X tg p σ H R := by
  have h2 := h.bind
  -- by the value
  cases q : ev e δ with
  | no => rw [q] at h2; exact False.elim h2
  | ex x =>
    refine WI.of (pi_list (pe_w (X := X) (e := p))) (hE _ ?_)
    rw [q]; rw [q] at h2
    exact h2
  | ok d =>
    rw [q] at h2
    have n1 : (⟨.S, T.B, T.a⟩ : Tv).nm = .S := by unfold Tv.nm; split <;> rfl
    cases d with
    | list ds =>
      refine WI.of (pi_list (pe_w (X := X) (e := p))) (hE _ ?_)
      rw [q]
      intro H' e1 kf v vl
      have h3 := (h2 H' e1 kf).ok kf
      obtain ⟨a, vs, rfl, hl, hw⟩ := vl.items sm
      refine ⟨a, rfl, ⟨vs, hl⟩, ?_⟩
      refine h3 (Itl X.K a) vs (fun H => SqL X.K H a vs) (some a) ⟨fun i H s hi => ⟨vs, vs[i], s, by simp [hi]⟩, fun H s => ⟨vs, s, Nat.le_refl _⟩, fun i H x H' s y hi => ⟨y.1, y.2 vs s⟩⟩ hl ⟨fun H H' e s => e.seq s, fun H b u ⟨o, ho, mu⟩ hb s => ?_⟩ (kf.2 a vs (.inl hl)) (fun b hb => ?_) ?_
      · rcases s with (s | ⟨ob, s⟩) | s
        · exact .inl (.inl ((upd_ne fun z => hb (by rw [z])).trans s))
        · exact .inl (.inr ⟨ob, (upd_ne fun z => hb (by rw [z])).trans s⟩)
        · exact .inr s
      · cases hb
        obtain ⟨o, s, r, no, ho, hs, ha⟩ := vl
        rw [rw_lst] at r
        obtain ⟨a', vs', o', s', e2, hl2, hr, n⟩ := r
        cases e2
        refine ⟨hl2.old, ?_⟩
        rcases n.mem.mpr (.inl rfl) with z | z
        · exact .inl (ho _ z).1
        · exact hs _ z
      · exact VlL.less (T := ⟨T.nm.el, T.B, T.a⟩) sm (fun _ z => z) (fun z => z) (Ty.le_S _) n1 hw
    | tuple ds =>
      refine WI.of (pi_tup (pe_w (X := X) (e := p))) (hE _ ?_)
      rw [q]
      intro H' e1 kf v vl
      have h3 := (h2 H' e1 kf).ok kf
      obtain ⟨a, vs, rfl, hl, hw⟩ := vl.itemsT sm
      refine ⟨a, rfl, ⟨vs, hl⟩, ?_⟩
      refine h3 (Itt X.K a) vs (fun H => SqT X.K H a vs) none ⟨fun i H s hi => ⟨vs, vs[i], s, by simp [hi]⟩, fun H s => ⟨vs, s, Nat.le_refl _⟩, fun i H x H' s y hi => ⟨y.1, y.2 vs s⟩⟩ hl ⟨fun H H' e s => sqt_same e s, fun H b u ⟨o, ho, mu⟩ hb s => ?_⟩ (kf.2 a vs (.inr hl)) (fun b hb => nomatch hb) ?_
      · have ne : ∀ ob : HO, H a = some ob → (ob = .tup vs ∨ ∃ z, ob = .frz z (.tup vs)) → a ≠ b := fun ob e1 e2 e3 => by
          subst e3
          rw [ho] at e1
          cases e1
          rcases e2 with rfl | ⟨z, rfl⟩ <;> exact mu
        rcases s with (s | ⟨ob, s⟩) | s
        · exact .inl (.inl ((upd_ne (ne _ s (.inl rfl))).trans s))
        · exact .inl (.inr ⟨ob, (upd_ne (ne _ s (.inr ⟨_, rfl⟩))).trans s⟩)
        · exact .inr s
      · exact VlL.less (T := ⟨T.nm.tu, T.B, T.a⟩) sm (fun _ z => z) (fun z => z) (Ty.le_S _) n1 hw
    | _ =>
      exact False.elim (h2 H (Same.refl H) kf0)
theorem Snd.of (hE : ∀ {S X H₀ τ δ σ nd H}, At C S X H₀ τ δ σ nd H → ∀ (p : Expr), ck C.nb e S false p = true → ∀ T, ty e τ = some T → ∀ Q : VK, FinG X σ H (ev e δ) (fun d H' => ∀ v, Vl X.K H₀ H H' nd T d v → Q v H') → WE X p σ H Q)
    (hT : ∀ {S X H₀ τ δ σ nd H}, At C S X H₀ τ δ σ nd H → ∀ (p : Expr), ck C.nb e S false p = true → ∀ T, ty e τ = some T → ∀ Q : Bool → Hp → Prop, FinG X σ H (ev e δ >>= boolD) (fun b H' => Q b H') → WT X p σ H Q)
    (hW : ∀ {S X H₀ τ δ σ nd H}, At C S X H₀ τ δ σ nd H → ∀ (p : Expr), ck C.nb e S false p = true → (∃ op vs pos, p = .BoolOp op vs pos) → ∀ T, ty e τ = some T → ∀ Q : Bool → Hp → Prop, FinG X σ H (ev e δ >>= boolD) (fun b H' => Q b H') → WW X p σ H Q)
    (hA : ∀ S ps, cks C.nb e S ps = false) (hO : ∀ S p, cko C.nb e S p = false) (hc : ∀ S p, ckc C.nb e S p = false) (hI : ∀ S p, ck C.nb e S true p = true → ck C.nb e S false p = true) : Snd C e where
  hE := hE
  hT := hT
  hW := hW
  hA := fun _ ps h => by rw [hA] at h; cases h
  hI := fun at_ tg p h T hT R h2 => wi_val (p := p) (fun Q => hE at_ p (hI _ p h) T hT Q) at_.sv.sm at_.sv.kf at_.sv.old h2
  hO := fun _ p h => by rw [hO] at h; cases h
  hC := fun _ p h => by rw [hc] at h; cases h
theorem snd_sl (i : Nat) : Snd C (.sl i) := by
  have hE : ∀ {S X H₀ τ δ σ nd H}, At C S X H₀ τ δ σ nd H → ∀ (p : Expr), ck C.nb (.sl i) S false p = true → ∀ T, ty (.sl i) τ = some T → ∀ Q : VK, FinG X σ H (ev (.sl i) δ) (fun d H' => ∀ v, Vl X.K H₀ H H' nd T d v → Q v H') → WE X p σ H Q := by
    intro S X H₀ τ δ σ nd H at_ p hc T hT Q h
    cases p with
    | Name x pos =>
      have hc : visC S i x = true := hc
      obtain ⟨g1, g2, g3, g4⟩ := vis_of at_.G hc
      have h : FinG X σ H (slotD δ i) _ := h
      have hT : (match τ[i]? with
        | some (some (t, a)) => some (⟨.S, if t = .S then [] else [i], a⟩ : Tv)
        | _ => none) = some T := hT
      unfold slotD at h
      split at h
      · rename_i d hd
        split at hT
        · rename_i t a ht
          cases hT
          obtain ⟨v, o, s, e1, e2, r, ha⟩ := at_.sv.rep i d t a hd ht
          refine WE.of (pe_var g1 g2 g3 g4) ⟨v, e1, h.ok at_.sv.kf v ?_⟩
          obtain ⟨p, q, r2, l⟩ := Rw.less d (Ty.le_S t) r
          have ep := Rw.s_o _ r2
          subst ep
          refine ⟨[], q, r2, List.nodup_nil, by simp, fun b z => ?_, fun ea b z => ?_⟩
          · rcases l.mem z with z | z
            · refine .inr ⟨i, _, e2, .inr ⟨?_, z⟩⟩
              have : t ≠ .S := by
                rintro rfl
                have := Rw.s_o _ r
                subst this
                exact nomatch z
              rw [if_neg this]; exact List.mem_singleton.mpr rfl
            · exact .inr ⟨i, _, e2, .inl z⟩
          · rcases l.mem z with z | z
            · exact (at_.sv.own i _ e2 b z).1
            · exact ha ea b z
        · cases hT
      · exact False.elim h
    | _ => exact absurd hc (by simp [ck])
  refine Snd.of hE ?_ ?_ (fun _ _ => by simp [cks]) (fun _ _ => by simp [cko]) (fun _ _ => by simp [ckc]) (fun _ p h => by cases p <;> simp [ck] at h ⊢; exact h)
  · intro S X H₀ τ δ σ nd H at_ p hc T hT Q h
    cases p with
    | Name x pos => exact wt_val (fun Q => hE at_ _ hc T hT Q) h
    | _ => exact absurd hc (by simp [ck])
  · rintro S X H₀ τ δ σ nd H at_ p hc ⟨op, vs, pos, rfl⟩
    exact absurd hc (by simp [ck])
theorem snd_k (c : Const) : Snd C (.k c) := by
  have hE : ∀ {S X H₀ τ δ σ nd H}, At C S X H₀ τ δ σ nd H → ∀ (p : Expr), ck C.nb (.k c) S false p = true → ∀ T, ty (.k c) τ = some T → ∀ Q : VK, FinG X σ H (ev (.k c) δ) (fun d H' => ∀ v, Vl X.K H₀ H H' nd T d v → Q v H') → WE X p σ H Q := by
    intro S X H₀ τ δ σ nd H at_ p hc T hT Q h
    cases p with
    | Constant c' k pos =>
      have hc : decide (c = c') = true := hc
      have hc := of_decide_eq_true hc
      subst hc
      have h : FinG X σ H (constD c) _ := h
      cases c with
      | none => exact WE.of pe_non (h.ok at_.sv.kf _ .non)
      | bool b => exact WE.of pe_bl (h.ok at_.sv.kf _ (.bl b))
      | int b => exact WE.of pe_int (h.ok at_.sv.kf _ (.int b))
      | str b => exact WE.of pe_str (h.ok at_.sv.kf _ (.str b))
      | _ => exact False.elim h
    | _ => exact absurd hc (by simp [ck])
  refine Snd.of hE ?_ ?_ (fun _ _ => by simp [cks]) (fun _ _ => by simp [cko]) (fun _ _ => by simp [ckc]) (fun _ p h => by cases p <;> simp [ck] at h ⊢; exact h)
  · intro S X H₀ τ δ σ nd H at_ p hc T hT Q h
    cases p with
    | Constant x k pos => exact wt_val (fun Q => hE at_ _ hc T hT Q) h
    | _ => exact absurd hc (by simp [ck])
  · rintro S X H₀ τ δ σ nd H at_ p hc ⟨op, vs, pos, rfl⟩
    exact absurd hc (by simp [ck])
end
end VS
set_option Elab.async false
set_option linter.all false
set_option maxRecDepth 100000
namespace VS
open PySem PySem.Spec L2
open PyProof.Rows hiding St
section
variable {C : Ctx}
theorem snd_gl {x : Str} {d : D} (hg : GlV C x d) : Snd C (.gl x d) := by
  have hE : ∀ {S X H₀ τ δ σ nd H}, At C S X H₀ τ δ σ nd H → ∀ (p : Expr), ck C.nb (.gl x d) S false p = true → ∀ T, ty (.gl x d) τ = some T → ∀ Q : VK, FinG X σ H (ev (.gl x d) δ) (fun d H' => ∀ v, Vl X.K H₀ H H' nd T d v → Q v H') → WE X p σ H Q := by
    intro S X H₀ τ δ σ nd H at_ p hc T hT Q h
    cases p with
    | Name y pos =>
      have hc1 : (decide (x = y) && glC S x) = true := hc
      simp only [Bool.and_eq_true, decide_eq_true_eq] at hc1
      obtain ⟨rfl, hc2⟩ := hc1
      obtain ⟨g1, g2⟩ := gl_of at_.G hc2
      obtain ⟨u, v, h1, h2, h3, h4⟩ := hg
      refine WE.of (pe_glob g1 (by rw [at_.G.mg]; exact h1) h2 g2) ?_
      have h : FinG X σ H (.ok d) _ := h
      exact h.ok at_.sv.kf v (Vl.imm (t := .S) (by rw [at_.G.K]; exact h4 H) h3)
    | _ => exact absurd hc (by simp [ck])
  refine Snd.of hE ?_ ?_ (fun _ _ => by simp [cks]) (fun _ _ => by simp [cko]) (fun _ _ => by simp [ckc]) (fun _ p h => by cases p <;> simp [ck] at h ⊢; exact h)
  · intro S X H₀ τ δ σ nd H at_ p hc T hT Q h
    cases p with
    | Name x pos =>
      exact wt_val (fun Q => hE at_ _ hc T hT Q) h
    | _ => exact absurd hc (by simp [ck])
  · rintro S X H₀ τ δ σ nd H at_ p hc ⟨op, vs, pos, rfl⟩ T hT Q h
    exact absurd hc (by simp [ck])
theorem snd_ari {op : Operator} {a b : E} (iha : Snd C a) (ihb : Snd C b) : Snd C (.ari op a b) := by
  have hE : ∀ {S X H₀ τ δ σ nd H}, At C S X H₀ τ δ σ nd H → ∀ (p : Expr), ck C.nb (.ari op a b) S false p = true → ∀ T, ty (.ari op a b) τ = some T → ∀ Q : VK, FinG X σ H (ev (.ari op a b) δ) (fun d H' => ∀ v, Vl X.K H₀ H H' nd T d v → Q v H') → WE X p σ H Q := by
    intro S X H₀ τ δ σ nd H at_ p hc T hT Q h
    cases p with
    | BinOp pa op' pb pos =>
      have hc1 : (decide (op = op') && ck C.nb a S false pa && ck C.nb b S false pb) = true := hc
      simp only [Bool.and_eq_true, decide_eq_true_eq] at hc1
      obtain ⟨⟨rfl, hca⟩, hcb⟩ := hc1
      have hT : ((ty a τ).bind fun Ta => (ty b τ).bind fun Tb => some (.fr)) = some T := hT
      obtain ⟨Ta, eTa, hT⟩ := Option.bind_eq_some_iff.mp hT
      obtain ⟨Tb, eTb, hT⟩ := Option.bind_eq_some_iff.mp hT
      cases hT
      have h : FinG X σ H (ev a δ >>= fun x => ev b δ >>= fun y => ariD op x y) _ := h
      refine WE.of (pe_op op_w pe_w pe_w) (iha.hE at_ pa hca Ta eTa _ (h.bind.imp fun dx H1 e1 kf1 h x vx => ?_))
      refine ihb.hE (at_.grow e1 kf1) pb hcb Tb eTb _ (h.bind.imp fun dy H2 e2 kf2 h y vy => ?_)
      obtain ⟨_, _, _, rx⟩ := (vx.to e2).rw
      obtain ⟨_, _, _, ry⟩ := vy.rw
      exact wo_ari kf2 rx ry h
    | _ => exact absurd hc (by simp [ck])
  refine Snd.of hE ?_ ?_ (fun _ _ => by simp [cks]) (fun _ _ => by simp [cko]) (fun _ _ => by simp [ckc]) (fun _ p h => by cases p <;> simp [ck] at h ⊢; exact h)
  · intro S X H₀ τ δ σ nd H at_ p hc T hT Q h
    cases p with
    | BinOp pa op' pb pos =>
      exact wt_val (fun Q => hE at_ _ hc T hT Q) h
    | _ => exact absurd hc (by simp [ck])
  · rintro S X H₀ τ δ σ nd H at_ p hc ⟨op, vs, pos, rfl⟩ T hT Q h
    exact absurd hc (by simp [ck])
theorem snd_cat {a b : E} (iha : Snd C a) (ihb : Snd C b) : Snd C (.cat a b) := by
  have hE : ∀ {S X H₀ τ δ σ nd H}, At C S X H₀ τ δ σ nd H → ∀ (p : Expr), ck C.nb (.cat a b) S false p = true → ∀ T, ty (.cat a b) τ = some T → ∀ Q : VK, FinG X σ H (ev (.cat a b) δ) (fun d H' => ∀ v, Vl X.K H₀ H H' nd T d v → Q v H') → WE X p σ H Q := by
    intro S X H₀ τ δ σ nd H at_ p hc T hT Q h
    cases p with
    | BinOp pa op' pb pos =>
      have hc1 : (decide (.Add = op') && ck C.nb a S false pa && ck C.nb b S false pb) = true := hc
      simp only [Bool.and_eq_true, decide_eq_true_eq] at hc1
      obtain ⟨⟨rfl, hca⟩, hcb⟩ := hc1
      have hT : ((ty a τ).bind fun Ta => (ty b τ).bind fun Tb => some (catT Ta Tb)) = some T := hT
      obtain ⟨Ta, eTa, hT⟩ := Option.bind_eq_some_iff.mp hT
      obtain ⟨Tb, eTb, hT⟩ := Option.bind_eq_some_iff.mp hT
      cases hT
      have h : FinG X σ H (ev a δ >>= fun x => ev b δ >>= fun y => catD x y) _ := h
      refine WE.of (pe_op op_w pe_w pe_w) (iha.hE at_ pa hca Ta eTa _ (h.bind.imp fun dx H1 e1 kf1 h x vx => ?_))
      refine ihb.hE (at_.grow e1 kf1) pb hcb Tb eTb _ (h.bind.imp fun dy H2 e2 kf2 h y vy => ?_)
      exact wo_cat at_.sv.sm e1 e2 kf2 at_.sv.old vx vy h
    | _ => exact absurd hc (by simp [ck])
  refine Snd.of hE ?_ ?_ (fun _ _ => by simp [cks]) (fun _ _ => by simp [cko]) (fun _ _ => by simp [ckc]) (fun _ p h => by cases p <;> simp [ck] at h ⊢; exact h)
  · intro S X H₀ τ δ σ nd H at_ p hc T hT Q h
    cases p with
    | BinOp pa op' pb pos =>
      exact wt_val (fun Q => hE at_ _ hc T hT Q) h
    | _ => exact absurd hc (by simp [ck])
  · rintro S X H₀ τ δ σ nd H at_ p hc ⟨op, vs, pos, rfl⟩ T hT Q h
    exact absurd hc (by simp [ck])
theorem snd_rep {a b : E} (iha : Snd C a) (ihb : Snd C b) : Snd C (.rep a b) := by
  have hE : ∀ {S X H₀ τ δ σ nd H}, At C S X H₀ τ δ σ nd H → ∀ (p : Expr), ck C.nb (.rep a b) S false p = true → ∀ T, ty (.rep a b) τ = some T → ∀ Q : VK, FinG X σ H (ev (.rep a b) δ) (fun d H' => ∀ v, Vl X.K H₀ H H' nd T d v → Q v H') → WE X p σ H Q := by
    intro S X H₀ τ δ σ nd H at_ p hc T hT Q h
    cases p with
    | BinOp pa op' pb pos =>
      have hc1 : (decide (.Mult = op') && ck C.nb a S false pa && ck C.nb b S false pb) = true := hc
      simp only [Bool.and_eq_true, decide_eq_true_eq] at hc1
      obtain ⟨⟨rfl, hca⟩, hcb⟩ := hc1
      have hT : ((ty a τ).bind fun Ta => (ty b τ).bind fun Tb => if Ta.t = .S then none else some (⟨.L .S, Ta.B, Ta.a⟩ : Tv)) = some T := hT
      obtain ⟨Ta, ea, hT⟩ := Option.bind_eq_some_iff.mp hT
      obtain ⟨Tb, eb, hT⟩ := Option.bind_eq_some_iff.mp hT
      by_cases ct : Ta.t = .S
      · rw [if_pos ct] at hT; cases hT
      rw [if_neg ct] at hT
      cases hT
      have h : FinG X σ H (ev a δ >>= fun x => ev b δ >>= fun y => repD x y) _ := h
      refine WE.of (pe_op op_w pe_w pe_w) (iha.hE at_ pa hca Ta ea _ (h.bind.imp fun dx H1 e1 kf1 h x vx => ?_))
      refine ihb.hE (at_.grow e1 kf1) pb hcb Tb eb _ (h.bind.imp fun dy H2 e2 kf2 h y vy => ?_)
      obtain ⟨_, _, _, ry⟩ := vy.rw
      exact wo_rep at_.sv.sm (e1.trans e2) kf2 at_.sv.old (vx.to e2) ry ct h
    | _ => exact absurd hc (by simp [ck])
  refine Snd.of hE ?_ ?_ (fun _ _ => by simp [cks]) (fun _ _ => by simp [cko]) (fun _ _ => by simp [ckc]) (fun _ p h => by cases p <;> simp [ck] at h ⊢; exact h)
  · intro S X H₀ τ δ σ nd H at_ p hc T hT Q h
    cases p with
    | BinOp pa op' pb pos =>
      exact wt_val (fun Q => hE at_ _ hc T hT Q) h
    | _ => exact absurd hc (by simp [ck])
  · rintro S X H₀ τ δ σ nd H at_ p hc ⟨op, vs, pos, rfl⟩ T hT Q h
    exact absurd hc (by simp [ck])
theorem snd_neg {a : E} (iha : Snd C a) : Snd C (.neg a) := by
  have hE : ∀ {S X H₀ τ δ σ nd H}, At C S X H₀ τ δ σ nd H → ∀ (p : Expr), ck C.nb (.neg a) S false p = true → ∀ T, ty (.neg a) τ = some T → ∀ Q : VK, FinG X σ H (ev (.neg a) δ) (fun d H' => ∀ v, Vl X.K H₀ H H' nd T d v → Q v H') → WE X p σ H Q := by
    intro S X H₀ τ δ σ nd H at_ p hc T hT Q h
    cases p with
    | UnaryOp op pa pos =>
      have hc1 : (decide (op = .USub) && ck C.nb a S false pa) = true := hc
      simp only [Bool.and_eq_true, decide_eq_true_eq] at hc1
      obtain ⟨rfl, hca⟩ := hc1
      have hT : ((ty a τ).bind fun Ta => some (Tv.fr)) = some T := hT
      obtain ⟨Ta, eTa, hT⟩ := Option.bind_eq_some_iff.mp hT
      cases hT
      have h : FinG X σ H (ev a δ >>= negD) _ := h
      refine WE.of (pe_un un_neg pe_w) (iha.hE at_ pa hca Ta eTa _ (h.bind.imp fun dx H1 e1 kf1 h x vx => ?_))
      obtain ⟨_, _, _, rx⟩ := vx.rw
      cases dx with
      | int i =>
        rw [rw_int] at rx
        exact ⟨i, rx.1, FinG.ok (σ := σ) h kf1 _ (.int _)⟩
      | _ => exact False.elim h
    | _ => exact absurd hc (by simp [ck])
  refine Snd.of hE ?_ ?_ (fun _ _ => by simp [cks]) (fun _ _ => by simp [cko]) (fun _ _ => by simp [ckc]) (fun _ p h => by cases p <;> simp [ck] at h ⊢; exact h)
  · intro S X H₀ τ δ σ nd H at_ p hc T hT Q h
    cases p with
    | UnaryOp op pa pos =>
      have hc1 : (decide (op = .USub) && ck C.nb a S false pa) = true := hc
      simp only [Bool.and_eq_true, decide_eq_true_eq] at hc1
      obtain ⟨rfl, hca⟩ := hc1
      exact wt_val (fun Q => hE at_ _ hc T hT Q) h
    | _ => exact absurd hc (by simp [ck])
  · rintro S X H₀ τ δ σ nd H at_ p hc ⟨op, vs, pos, rfl⟩ T hT Q h
    exact absurd hc (by simp [ck])
theorem snd_not {a : E} (iha : Snd C a) : Snd C (.not a) := by
  have hE : ∀ {S X H₀ τ δ σ nd H}, At C S X H₀ τ δ σ nd H → ∀ (p : Expr), ck C.nb (.not a) S false p = true → ∀ T, ty (.not a) τ = some T → ∀ Q : VK, FinG X σ H (ev (.not a) δ) (fun d H' => ∀ v, Vl X.K H₀ H H' nd T d v → Q v H') → WE X p σ H Q := by
    intro S X H₀ τ δ σ nd H at_ p hc T hT Q h
    cases p with
    | UnaryOp op pa pos =>
      have hc1 : (decide (op = .Not) && ck C.nb a S false pa) = true := hc
      simp only [Bool.and_eq_true, decide_eq_true_eq] at hc1
      obtain ⟨rfl, hca⟩ := hc1
      have hT : ((ty a τ).bind fun Ta => some (Tv.fr)) = some T := hT
      obtain ⟨Ta, eTa, hT⟩ := Option.bind_eq_some_iff.mp hT
      cases hT
      have h : FinG X σ H ((ev a δ >>= boolD) >>= fun b => .ok (PyData.bool (!b))) (fun d H' => ∀ v, Vl X.K H₀ H H' nd Tv.fr d v → Q v H') := h
      exact WE.of (pe_not pe_w) (iha.hE at_ pa hca Ta eTa _ (FinG.boolE (h.bind.imp fun c H1 e1 kf1 h => FinG.ok (σ := σ) h kf1 _ (.bl _))))
    | _ => exact absurd hc (by simp [ck])
  refine Snd.of hE ?_ ?_ (fun _ _ => by simp [cks]) (fun _ _ => by simp [cko]) (fun _ _ => by simp [ckc]) (fun _ p h => by cases p <;> simp [ck] at h ⊢; exact h)
  · intro S X H₀ τ δ σ nd H at_ p hc T hT Q h
    cases p with
    | UnaryOp op pa pos =>
      have hc1 : (decide (op = .Not) && ck C.nb a S false pa) = true := hc
      simp only [Bool.and_eq_true, decide_eq_true_eq] at hc1
      obtain ⟨rfl, hca⟩ := hc1
      have hT : ((ty a τ).bind fun Ta => some (Tv.fr)) = some T := hT
      obtain ⟨Ta, eTa, hT⟩ := Option.bind_eq_some_iff.mp hT
      cases hT
      have h : FinG X σ H (((ev a δ >>= boolD) >>= fun b => .ok (PyData.bool (!b))) >>= boolD) (fun b H' => Q b H') := h
      refine WT.of (pt_not pt_w) (iha.hT at_ pa hca Ta eTa _ ?_)
      exact h.bind.bind.imp fun c H1 e1 kf1 h => FinG.ok (σ := σ) (FinG.ok (σ := σ) h kf1) kf1
    | _ => exact absurd hc (by simp [ck])
  · rintro S X H₀ τ δ σ nd H at_ p hc ⟨op, vs, pos, rfl⟩ T hT Q h
    exact absurd hc (by simp [ck])
theorem snd_and {a b : E} (iha : Snd C a) (ihb : Snd C b) : Snd C (.and a b) := by
  have hE : ∀ {S X H₀ τ δ σ nd H}, At C S X H₀ τ δ σ nd H → ∀ (p : Expr), ck C.nb (.and a b) S false p = true → ∀ T, ty (.and a b) τ = some T → ∀ Q : VK, FinG X σ H (ev (.and a b) δ) (fun d H' => ∀ v, Vl X.K H₀ H H' nd T d v → Q v H') → WE X p σ H Q := by
    intro S X H₀ τ δ σ nd H at_ p hc T hT Q h
    cases p with
    | BoolOp op vs pos =>
      cases vs with
      | nil => exact absurd hc (by simp [ck])
      | cons pa vs =>
        cases vs with
        | nil => exact absurd hc (by simp [ck])
        | cons pb r =>
          have hc1 : (decide (op = .And) && ck C.nb a S false pa && ck C.nb b S false (.BoolOp .And (pb :: r) pos) && isAnd b) = true := hc
          simp only [Bool.and_eq_true, decide_eq_true_eq] at hc1
          obtain ⟨⟨⟨rfl, hca⟩, hcb⟩, _⟩ := hc1
          have hT : ((ty a τ).bind fun Ta => (ty b τ).bind fun Tb => some (Tv.fr)) = some T := hT
          obtain ⟨Ta, eTa, hT⟩ := Option.bind_eq_some_iff.mp hT
          obtain ⟨Tb, eTb, hT⟩ := Option.bind_eq_some_iff.mp hT
          cases hT
          have h : FinG X σ H ((ev a δ >>= boolD) >>= fun c => match c with | true => ev b δ >>= boolD >>= fun c => .ok (PyData.bool c) | false => .ok (PyData.bool false)) (fun d H' => ∀ v, Vl X.K H₀ H H' nd Tv.fr d v → Q v H') := h
          refine WE.of (pe_and pe_w pe_w) (iha.hE at_ pa hca Ta eTa _ (FinG.boolE (h.bind.imp fun c H1 e1 kf1 h => ?_)))
          cases c with
          | false =>
            rw [if_neg Bool.false_ne_true]
            exact FinG.ok (σ := σ) h kf1 _ (.bl _)
          | true =>
            rw [if_pos rfl]
            have h : FinG X σ H1 ((ev b δ >>= boolD) >>= fun c => .ok (PyData.bool c)) (fun d H' => ∀ v, Vl X.K H₀ H H' nd Tv.fr d v → Q v H') := h
            exact ihb.hE (at_.grow e1 kf1) _ hcb Tb eTb _ (FinG.imp (FinG.boolE (T := Tb) (h.bind.imp fun c H2 e2 kf2 h => h)) fun d H2 e2 kf2 h v vl => by
              obtain ⟨c, rfl, h⟩ := h v vl
              exact FinG.ok (σ := σ) h kf2 _ (.bl _))
    | _ => exact absurd hc (by simp [ck])
  have hW : ∀ {S X H₀ τ δ σ nd H}, At C S X H₀ τ δ σ nd H → ∀ (p : Expr), ck C.nb (.and a b) S false p = true → ∀ T, ty (.and a b) τ = some T → ∀ Q : Bool → Hp → Prop, FinG X σ H (ev (.and a b) δ >>= boolD) (fun b H' => Q b H') → WW X p σ H Q := by
    intro S X H₀ τ δ σ nd H at_ p hc T hT Q h
    cases p with
    | BoolOp op vs pos =>
      cases vs with
      | nil => exact absurd hc (by simp [ck])
      | cons pa vs =>
        cases vs with
        | nil => exact absurd hc (by simp [ck])
        | cons pb r =>
          have hc1 : (decide (op = .And) && ck C.nb a S false pa && ck C.nb b S false (.BoolOp .And (pb :: r) pos) && isAnd b) = true := hc
          simp only [Bool.and_eq_true, decide_eq_true_eq] at hc1
          obtain ⟨⟨⟨rfl, hca⟩, hcb⟩, _⟩ := hc1
          have hT : ((ty a τ).bind fun Ta => (ty b τ).bind fun Tb => some (Tv.fr)) = some T := hT
          obtain ⟨Ta, eTa, hT⟩ := Option.bind_eq_some_iff.mp hT
          obtain ⟨Tb, eTb, hT⟩ := Option.bind_eq_some_iff.mp hT
          cases hT
          have h : FinG X σ H (((ev a δ >>= boolD) >>= fun c => match c with | true => ev b δ >>= boolD >>= fun c => .ok (PyData.bool c) | false => .ok (PyData.bool false)) >>= boolD) (fun b H' => Q b H') := h
          have h := h.bind
          refine WW.of (pw_and pt_w pw_w) (iha.hT at_ pa hca Ta eTa _ (h.bind.imp fun c H1 e1 kf1 h => ?_))
          cases c with
          | false =>
            rw [if_neg Bool.false_ne_true]
            exact FinG.ok (σ := σ) (FinG.ok (σ := σ) h kf1) kf1
          | true =>
            rw [if_pos rfl]
            have h : FinG X σ H1 ((ev b δ >>= boolD) >>= fun c => .ok (PyData.bool c)) (fun d H' => FinG X σ H' (boolD d) fun b H' => Q b H') := h
            exact ihb.hW (at_.grow e1 kf1) _ hcb ⟨_, _, _, rfl⟩ Tb eTb _ (h.bind.imp fun c H2 e2 kf2 h => FinG.ok (σ := σ) (FinG.ok (σ := σ) h kf2) kf2)
    | _ => exact absurd hc (by simp [ck])
  exact Snd.of hE (fun at_ p hc T hT Q h => fun pins s I => hW at_ p hc T hT Q h _ pins s I) (fun at_ p hc _ T hT Q h => hW at_ p hc T hT Q h) (fun _ _ => by simp [cks]) (fun _ _ => by simp [cko]) (fun _ _ => by simp [ckc]) (fun _ p h => by
    cases p with
    | BoolOp op vs pos => rcases vs with _ | ⟨pa, _ | ⟨pb, r⟩⟩ <;> first | exact h | exact absurd h (by simp [ck])
    | _ => exact absurd h (by simp [ck]))
theorem snd_or {a b : E} (iha : Snd C a) (ihb : Snd C b) : Snd C (.or a b) := by
  have hE : ∀ {S X H₀ τ δ σ nd H}, At C S X H₀ τ δ σ nd H → ∀ (p : Expr), ck C.nb (.or a b) S false p = true → ∀ T, ty (.or a b) τ = some T → ∀ Q : VK, FinG X σ H (ev (.or a b) δ) (fun d H' => ∀ v, Vl X.K H₀ H H' nd T d v → Q v H') → WE X p σ H Q := by
    intro S X H₀ τ δ σ nd H at_ p hc T hT Q h
    cases p with
    | BoolOp op vs pos =>
      cases vs with
      | nil => exact absurd hc (by simp [ck])
      | cons pa vs =>
        cases vs with
        | nil => exact absurd hc (by simp [ck])
        | cons pb r =>
          have hc1 : (decide (op = .Or) && ck C.nb a S false pa && ck C.nb b S false (.BoolOp .Or (pb :: r) pos) && isOr b) = true := hc
          simp only [Bool.and_eq_true, decide_eq_true_eq] at hc1
          obtain ⟨⟨⟨rfl, hca⟩, hcb⟩, _⟩ := hc1
          have hT : ((ty a τ).bind fun Ta => (ty b τ).bind fun Tb => some (Tv.fr)) = some T := hT
          obtain ⟨Ta, eTa, hT⟩ := Option.bind_eq_some_iff.mp hT
          obtain ⟨Tb, eTb, hT⟩ := Option.bind_eq_some_iff.mp hT
          cases hT
          have h : FinG X σ H ((ev a δ >>= boolD) >>= fun c => match c with | true => .ok (PyData.bool true) | false => ev b δ >>= boolD >>= fun c => .ok (PyData.bool c)) (fun d H' => ∀ v, Vl X.K H₀ H H' nd Tv.fr d v → Q v H') := h
          refine WE.of (pe_or pe_w pe_w) (iha.hE at_ pa hca Ta eTa _ (FinG.boolE (h.bind.imp fun c H1 e1 kf1 h => ?_)))
          cases c with
          | true =>
            rw [if_pos rfl]
            exact FinG.ok (σ := σ) h kf1 _ (.bl _)
          | false =>
            rw [if_neg Bool.false_ne_true]
            have h : FinG X σ H1 ((ev b δ >>= boolD) >>= fun c => .ok (PyData.bool c)) (fun d H' => ∀ v, Vl X.K H₀ H H' nd Tv.fr d v → Q v H') := h
            exact ihb.hE (at_.grow e1 kf1) _ hcb Tb eTb _ (FinG.imp (FinG.boolE (T := Tb) (h.bind.imp fun c H2 e2 kf2 h => h)) fun d H2 e2 kf2 h v vl => by
              obtain ⟨c, rfl, h⟩ := h v vl
              exact FinG.ok (σ := σ) h kf2 _ (.bl _))
    | _ => exact absurd hc (by simp [ck])
  have hW : ∀ {S X H₀ τ δ σ nd H}, At C S X H₀ τ δ σ nd H → ∀ (p : Expr), ck C.nb (.or a b) S false p = true → ∀ T, ty (.or a b) τ = some T → ∀ Q : Bool → Hp → Prop, FinG X σ H (ev (.or a b) δ >>= boolD) (fun b H' => Q b H') → WW X p σ H Q := by
    intro S X H₀ τ δ σ nd H at_ p hc T hT Q h
    cases p with
    | BoolOp op vs pos =>
      cases vs with
      | nil => exact absurd hc (by simp [ck])
      | cons pa vs =>
        cases vs with
        | nil => exact absurd hc (by simp [ck])
        | cons pb r =>
          have hc1 : (decide (op = .Or) && ck C.nb a S false pa && ck C.nb b S false (.BoolOp .Or (pb :: r) pos) && isOr b) = true := hc
          simp only [Bool.and_eq_true, decide_eq_true_eq] at hc1
          obtain ⟨⟨⟨rfl, hca⟩, hcb⟩, _⟩ := hc1
          have hT : ((ty a τ).bind fun Ta => (ty b τ).bind fun Tb => some (Tv.fr)) = some T := hT
          obtain ⟨Ta, eTa, hT⟩ := Option.bind_eq_some_iff.mp hT
          obtain ⟨Tb, eTb, hT⟩ := Option.bind_eq_some_iff.mp hT
          cases hT
          have h : FinG X σ H (((ev a δ >>= boolD) >>= fun c => match c with | true => .ok (PyData.bool true) | false => ev b δ >>= boolD >>= fun c => .ok (PyData.bool c)) >>= boolD) (fun b H' => Q b H') := h
          have h := h.bind
          refine WW.of (pw_or pt_w pw_w) (iha.hT at_ pa hca Ta eTa _ (h.bind.imp fun c H1 e1 kf1 h => ?_))
          cases c with
          | true =>
            rw [if_pos rfl]
            exact FinG.ok (σ := σ) (FinG.ok (σ := σ) h kf1) kf1
          | false =>
            rw [if_neg Bool.false_ne_true]
            have h : FinG X σ H1 ((ev b δ >>= boolD) >>= fun c => .ok (PyData.bool c)) (fun d H' => FinG X σ H' (boolD d) fun b H' => Q b H') := h
            exact ihb.hW (at_.grow e1 kf1) _ hcb ⟨_, _, _, rfl⟩ Tb eTb _ (h.bind.imp fun c H2 e2 kf2 h => FinG.ok (σ := σ) (FinG.ok (σ := σ) h kf2) kf2)
    | _ => exact absurd hc (by simp [ck])
  exact Snd.of hE (fun at_ p hc T hT Q h => fun pins s I => hW at_ p hc T hT Q h _ pins s I) (fun at_ p hc _ T hT Q h => hW at_ p hc T hT Q h) (fun _ _ => by simp [cks]) (fun _ _ => by simp [cko]) (fun _ _ => by simp [ckc]) (fun _ p h => by
    cases p with
    | BoolOp op vs pos => rcases vs with _ | ⟨pa, _ | ⟨pb, r⟩⟩ <;> first | exact h | exact absurd h (by simp [ck])
    | _ => exact absurd h (by simp [ck]))
theorem snd_one {a : E} (iha : Snd C a) : Snd C (.one a) := by
  have hE : ∀ {S X H₀ τ δ σ nd H}, At C S X H₀ τ δ σ nd H → ∀ (p : Expr), ck C.nb (.one a) S false p = true → ∀ T, ty (.one a) τ = some T → ∀ Q : VK, FinG X σ H (ev (.one a) δ) (fun d H' => ∀ v, Vl X.K H₀ H H' nd T d v → Q v H') → WE X p σ H Q := by
    intro S X H₀ τ δ σ nd H at_ p hc T hT Q h
    cases p with
    | BoolOp op vs pos =>
      cases vs with
      | nil => exact absurd hc (by simp [ck])
      | cons pa vs =>
        cases vs with
        | cons pb r => exact absurd hc (by simp [ck])
        | nil =>
          have hca : ck C.nb a S false pa = true := hc
          have hT : ((ty a τ).bind fun Ta => some (Tv.fr)) = some T := hT
          obtain ⟨Ta, eTa, hT⟩ := Option.bind_eq_some_iff.mp hT
          cases hT
          have h : FinG X σ H ((ev a δ >>= boolD) >>= fun c => .ok (PyData.bool c)) (fun d H' => ∀ v, Vl X.K H₀ H H' nd Tv.fr d v → Q v H') := h
          refine WE.of (pe_one pe_w) (iha.hE at_ _ hca Ta eTa _ (FinG.imp (FinG.boolE (T := Ta) (h.bind.imp fun c H2 e2 kf2 h => h)) fun d H2 e2 kf2 h v vl => by
            obtain ⟨c, rfl, h⟩ := h v vl
            exact FinG.ok (σ := σ) h kf2 _ (.bl _)))
    | _ => exact absurd hc (by simp [ck])
  have hW : ∀ {S X H₀ τ δ σ nd H}, At C S X H₀ τ δ σ nd H → ∀ (p : Expr), ck C.nb (.one a) S false p = true → ∀ T, ty (.one a) τ = some T → ∀ Q : Bool → Hp → Prop, FinG X σ H (ev (.one a) δ >>= boolD) (fun b H' => Q b H') → WW X p σ H Q := by
    intro S X H₀ τ δ σ nd H at_ p hc T hT Q h
    cases p with
    | BoolOp op vs pos =>
      cases vs with
      | nil => exact absurd hc (by simp [ck])
      | cons pa vs =>
        cases vs with
        | cons pb r => exact absurd hc (by simp [ck])
        | nil =>
          have hca : ck C.nb a S false pa = true := hc
          have hT : ((ty a τ).bind fun Ta => some (Tv.fr)) = some T := hT
          obtain ⟨Ta, eTa, hT⟩ := Option.bind_eq_some_iff.mp hT
          cases hT
          have h : FinG X σ H (((ev a δ >>= boolD) >>= fun c => .ok (PyData.bool c)) >>= boolD) (fun b H' => Q b H') := h
          have h2 : WT X pa σ H Q := iha.hT at_ _ hca Ta eTa _ (h.bind.bind.imp fun c H2 e2 kf2 h => FinG.ok (σ := σ) (FinG.ok (σ := σ) h kf2) kf2)
          cases op with
          | And => exact WW.of (pw_and1 pt_w) h2
          | Or => exact WW.of (pw_or1 pt_w) h2
    | _ => exact absurd hc (by simp [ck])
  exact Snd.of hE (fun at_ p hc T hT Q h => fun pins s I => hW at_ p hc T hT Q h _ pins s I) (fun at_ p hc _ T hT Q h => hW at_ p hc T hT Q h) (fun _ _ => by simp [cks]) (fun _ _ => by simp [cko]) (fun _ _ => by simp [ckc]) (fun _ p h => by
    cases p with
    | BoolOp op vs pos => rcases vs with _ | ⟨pa, _ | ⟨pb, r⟩⟩ <;> first | exact h | exact absurd h (by simp [ck])
    | _ => exact absurd h (by simp [ck]))
theorem snd_cmp {op : CmpOp} {a b : E} (iha : Snd C a) (ihb : Snd C b) : Snd C (.cmp op a b) := by
  have hE : ∀ {S X H₀ τ δ σ nd H}, At C S X H₀ τ δ σ nd H → ∀ (p : Expr), ck C.nb (.cmp op a b) S false p = true → ∀ T, ty (.cmp op a b) τ = some T → ∀ Q : VK, FinG X σ H (ev (.cmp op a b) δ) (fun d H' => ∀ v, Vl X.K H₀ H H' nd T d v → Q v H') → WE X p σ H Q := by
    intro S X H₀ τ δ σ nd H at_ p hc T hT Q h
    cases p with
    | Compare pa ops pbs pos =>
      rcases ops with _ | ⟨op', _ | ⟨_, _⟩⟩ <;> rcases pbs with _ | ⟨pb, _ | ⟨_, _⟩⟩ <;> try (exfalso; revert hc; simp [ck]; done)
      have hc1 : (decide (op = op') && plainX pb && ck C.nb a S false pa && ck C.nb b S false pb) = true := hc
      simp only [Bool.and_eq_true, decide_eq_true_eq] at hc1
      obtain ⟨⟨⟨rfl, hp⟩, hca⟩, hcb⟩ := hc1
      have hT : ((ty a τ).bind fun Ta => (ty b τ).bind fun Tb => some (Tv.fr)) = some T := hT
      obtain ⟨Ta, eTa, hT⟩ := Option.bind_eq_some_iff.mp hT
      obtain ⟨Tb, eTb, hT⟩ := Option.bind_eq_some_iff.mp hT
      cases hT
      have h : FinG X σ H (ev a δ >>= fun x => ev b δ >>= fun y => cmpD op x y >>= fun c => .ok (PyData.bool c)) (fun d H' => ∀ v, Vl X.K H₀ H H' nd Tv.fr d v → Q v H') := h
      refine WE.of (pe_cmpR op_w pe_w pe_w (plain_marks hp)) (iha.hE at_ pa hca Ta eTa _ (h.bind.imp fun dx H1 e1 kf1 h x vx => ?_))
      refine ihb.hE (at_.grow e1 kf1) pb hcb Tb eTb _ (h.bind.imp fun dy H2 e2 kf2 h y vy => ?_)
      obtain ⟨_, _, _, rx⟩ := (vx.to e2).rw
      obtain ⟨_, _, _, ry⟩ := vy.rw
      exact wo_cmp (σ := σ) at_.G.units65 kf2 rx ry (h.bind.imp fun c H3 e3 kf3 h => FinG.ok (σ := σ) h kf3 _ (.bl _))
    | _ => exact absurd hc (by simp [ck])
  refine Snd.of hE ?_ ?_ (fun _ _ => by simp [cks]) (fun _ _ => by simp [cko]) (fun _ _ => by simp [ckc]) (fun _ p h => by
    cases p with
    | Compare pa ops pbs pos => rcases ops with _ | ⟨op', _ | ⟨_, _⟩⟩ <;> rcases pbs with _ | ⟨pb, _ | ⟨_, _⟩⟩ <;> first | exact h | exact absurd h (by simp [ck])
    | _ => exact absurd h (by simp [ck]))
  · intro S X H₀ τ δ σ nd H at_ p hc T hT Q h
    cases p with
    | Compare pa ops pbs pos =>
      rcases ops with _ | ⟨op', _ | ⟨_, _⟩⟩ <;> rcases pbs with _ | ⟨pb, _ | ⟨_, _⟩⟩ <;> try (exfalso; revert hc; simp [ck]; done)
      have hc1 : (decide (op = op') && plainX pb && ck C.nb a S false pa && ck C.nb b S false pb) = true := hc
      simp only [Bool.and_eq_true, decide_eq_true_eq] at hc1
      obtain ⟨⟨⟨rfl, hp⟩, hca⟩, hcb⟩ := hc1
      have hT : ((ty a τ).bind fun Ta => (ty b τ).bind fun Tb => some (Tv.fr)) = some T := hT
      obtain ⟨Ta, eTa, hT⟩ := Option.bind_eq_some_iff.mp hT
      obtain ⟨Tb, eTb, hT⟩ := Option.bind_eq_some_iff.mp hT
      cases hT
      have h : FinG X σ H ((ev a δ >>= fun x => ev b δ >>= fun y => cmpD op x y >>= fun c => .ok (PyData.bool c)) >>= boolD) (fun b H' => Q b H') := h
      refine WT.of (pt_cmpR op_w pe_w pe_w (plain_marks hp)) (iha.hE at_ pa hca Ta eTa _ (h.bind.bind.imp fun dx H1 e1 kf1 h x vx => ?_))
      refine ihb.hE (at_.grow e1 kf1) pb hcb Tb eTb _ (h.bind.imp fun dy H2 e2 kf2 h y vy => ?_)
      obtain ⟨_, _, _, rx⟩ := (vx.to e2).rw
      obtain ⟨_, _, _, ry⟩ := vy.rw
      exact wo_cmp (σ := σ) at_.G.units65 kf2 rx ry (h.bind.imp fun c H3 e3 kf3 h => ⟨c, rfl, FinG.ok (σ := σ) (FinG.ok (σ := σ) h kf3) kf3⟩)
    | _ => exact absurd hc (by simp [ck])
  · rintro S X H₀ τ δ σ nd H at_ p hc ⟨op, vs, pos, rfl⟩ T hT Q h
    exact absurd hc (by simp [ck])
theorem snd_chain {o1 o2 : CmpOp} {a b c : E} (iha : Snd C a) (ihb : Snd C b) (ihc : Snd C c) : Snd C (.chain o1 o2 a b c) := by
  have hE : ∀ {S X H₀ τ δ σ nd H}, At C S X H₀ τ δ σ nd H → ∀ (p : Expr), ck C.nb (.chain o1 o2 a b c) S false p = true → ∀ T, ty (.chain o1 o2 a b c) τ = some T → ∀ Q : VK, FinG X σ H (ev (.chain o1 o2 a b c) δ) (fun d H' => ∀ v, Vl X.K H₀ H H' nd T d v → Q v H') → WE X p σ H Q := by
    intro S X H₀ τ δ σ nd H at_ p hc T hT Q h
    cases p with
    | Compare pa ops pbs pos =>
      rcases ops with _ | ⟨o1', _ | ⟨o2', _ | ⟨_, _⟩⟩⟩ <;> rcases pbs with _ | ⟨pb, _ | ⟨pc, _ | ⟨_, _⟩⟩⟩ <;> try (exfalso; revert hc; simp [ck]; done)
      have hc1 : (decide (o1 = o1') && plainX pb && plainX pc && decide (o2 = o2') && ck C.nb a S false pa && ck C.nb b S false pb && ck C.nb c S false pc) = true := hc
      simp only [Bool.and_eq_true, decide_eq_true_eq] at hc1
      obtain ⟨⟨⟨⟨⟨⟨rfl, hp⟩, hp2⟩, rfl⟩, hca⟩, hcb⟩, hcc⟩ := hc1
      have hT : ((ty a τ).bind fun Ta => (ty b τ).bind fun Tb => (ty c τ).bind fun Tc => some (Tv.fr)) = some T := hT
      obtain ⟨Ta, eTa, hT⟩ := Option.bind_eq_some_iff.mp hT
      obtain ⟨Tb, eTb, hT⟩ := Option.bind_eq_some_iff.mp hT
      obtain ⟨Tc, eTc, hT⟩ := Option.bind_eq_some_iff.mp hT
      cases hT
      have hm : lastMarks [o1, o2] [pb, pc] = false := plain_marks (op := o2) hp2
      have h : FinG X σ H (ev a δ >>= fun x => ev b δ >>= fun y => cmpD o1 x y >>= fun r => match r with | true => ev c δ >>= fun z => cmpD o2 y z >>= fun r => .ok (PyData.bool r) | false => .ok (PyData.bool false)) (fun d H' => ∀ v, Vl X.K H₀ H H' nd Tv.fr d v → Q v H') := h
      refine WE.of (pe_chain op_w op_w pe_w pe_w pe_w hm) (iha.hE at_ pa hca Ta eTa _ (h.bind.imp fun dx H1 e1 kf1 h x vx => ?_))
      refine ihb.hE (at_.grow e1 kf1) pb hcb Tb eTb _ (h.bind.imp fun dy H2 e2 kf2 h y vy => ?_)
      obtain ⟨_, _, _, rx⟩ := (vx.to e2).rw
      obtain ⟨_, _, _, ry⟩ := vy.rw
      refine wo_cmp (σ := σ) at_.G.units65 kf2 rx ry (h.bind.imp fun r H3 e3 kf3 h => ⟨r, rfl, ?_⟩)
      cases r with
      | false =>
        rw [if_neg Bool.false_ne_true]
        exact FinG.ok (σ := σ) h kf3 _ (.bl _)
      | true =>
        rw [if_pos rfl]
        have h : FinG X σ H3 (ev c δ >>= fun z => cmpD o2 dy z >>= fun r => .ok (PyData.bool r)) _ := h
        refine ihc.hE (at_.grow ((e1.trans e2).trans e3) kf3) pc hcc Tc eTc _ (h.bind.imp fun dz H4 e4 kf4 h z vz => ?_)
        obtain ⟨_, _, _, ry2⟩ := (vy.to (e3.trans e4)).rw
        obtain ⟨_, _, _, rz⟩ := vz.rw
        exact wo_cmp (σ := σ) at_.G.units65 kf4 ry2 rz (h.bind.imp fun c H5 e5 kf5 h => FinG.ok (σ := σ) h kf5 _ (.bl _))
    | _ => exact absurd hc (by simp [ck])
  refine Snd.of hE ?_ ?_ (fun _ _ => by simp [cks]) (fun _ _ => by simp [cko]) (fun _ _ => by simp [ckc]) (fun _ p h => by
    cases p with
    | Compare pa ops pbs pos => rcases ops with _ | ⟨o1', _ | ⟨o2', _ | ⟨_, _⟩⟩⟩ <;> rcases pbs with _ | ⟨pb, _ | ⟨pc, _ | ⟨_, _⟩⟩⟩ <;> first | exact h | exact absurd h (by simp [ck])
    | _ => exact absurd h (by simp [ck]))
  · intro S X H₀ τ δ σ nd H at_ p hc T hT Q h
    cases p with
    | Compare pa ops pbs pos =>
      rcases ops with _ | ⟨o1', _ | ⟨o2', _ | ⟨_, _⟩⟩⟩ <;> rcases pbs with _ | ⟨pb, _ | ⟨pc, _ | ⟨_, _⟩⟩⟩ <;> try (exfalso; revert hc; simp [ck]; done)
      have hc1 : (decide (o1 = o1') && plainX pb && plainX pc && decide (o2 = o2') && ck C.nb a S false pa && ck C.nb b S false pb && ck C.nb c S false pc) = true := hc
      simp only [Bool.and_eq_true, decide_eq_true_eq] at hc1
      obtain ⟨⟨⟨⟨⟨⟨rfl, hp⟩, hp2⟩, rfl⟩, hca⟩, hcb⟩, hcc⟩ := hc1
      have hT : ((ty a τ).bind fun Ta => (ty b τ).bind fun Tb => (ty c τ).bind fun Tc => some (Tv.fr)) = some T := hT
      obtain ⟨Ta, eTa, hT⟩ := Option.bind_eq_some_iff.mp hT
      obtain ⟨Tb, eTb, hT⟩ := Option.bind_eq_some_iff.mp hT
      obtain ⟨Tc, eTc, hT⟩ := Option.bind_eq_some_iff.mp hT
      cases hT
      have hm : lastMarks [o1, o2] [pb, pc] = false := plain_marks (op := o2) hp2
      have h : FinG X σ H ((ev a δ >>= fun x => ev b δ >>= fun y => cmpD o1 x y >>= fun r => match r with | true => ev c δ >>= fun z => cmpD o2 y z >>= fun r => .ok (PyData.bool r) | false => .ok (PyData.bool false)) >>= boolD) (fun b H' => Q b H') := h
      refine WT.of (pt_chain op_w op_w pe_w pe_w pe_w hm) (iha.hE at_ pa hca Ta eTa _ (h.bind.bind.imp fun dx H1 e1 kf1 h x vx => ?_))
      refine ihb.hE (at_.grow e1 kf1) pb hcb Tb eTb _ (h.bind.imp fun dy H2 e2 kf2 h y vy => ?_)
      obtain ⟨_, _, _, rx⟩ := (vx.to e2).rw
      obtain ⟨_, _, _, ry⟩ := vy.rw
      refine wo_cmp (σ := σ) at_.G.units65 kf2 rx ry (h.bind.imp fun r H3 e3 kf3 h => ⟨r, rfl, ?_⟩)
      cases r with
      | false =>
        rw [if_neg Bool.false_ne_true]
        exact ⟨false, rfl, FinG.ok (σ := σ) (FinG.ok (σ := σ) h kf3) kf3⟩
      | true =>
        rw [if_pos rfl]
        have h : FinG X σ H3 (ev c δ >>= fun z => cmpD o2 dy z >>= fun r => .ok (PyData.bool r)) _ := h
        refine ihc.hE (at_.grow ((e1.trans e2).trans e3) kf3) pc hcc Tc eTc _ (h.bind.imp fun dz H4 e4 kf4 h z vz => ?_)
        obtain ⟨_, _, _, ry2⟩ := (vy.to (e3.trans e4)).rw
        obtain ⟨_, _, _, rz⟩ := vz.rw
        exact wo_cmp (σ := σ) at_.G.units65 kf4 ry2 rz (h.bind.imp fun c H5 e5 kf5 h => ⟨c, rfl, FinG.ok (σ := σ) (FinG.ok (σ := σ) h kf5) kf5⟩)
    | _ => exact absurd hc (by simp [ck])
  · rintro S X H₀ τ δ σ nd H at_ p hc ⟨op, vs, pos, rfl⟩ T hT Q h
    exact absurd hc (by simp [ck])
theorem snd_ife {c a b : E} (ihc : Snd C c) (iha : Snd C a) (ihb : Snd C b) : Snd C (.ife c a b) := by
  have hE : ∀ {S X H₀ τ δ σ nd H}, At C S X H₀ τ δ σ nd H → ∀ (p : Expr), ck C.nb (.ife c a b) S false p = true → ∀ T, ty (.ife c a b) τ = some T → ∀ Q : VK, FinG X σ H (ev (.ife c a b) δ) (fun d H' => ∀ v, Vl X.K H₀ H H' nd T d v → Q v H') → WE X p σ H Q := by
    intro S X H₀ τ δ σ nd H at_ p hc T hT Q h
    cases p with
    | IfExp pc pa pb pos =>
      have hc1 : (ck C.nb c S false pc && ck C.nb a S false pa && ck C.nb b S false pb) = true := hc
      simp only [Bool.and_eq_true, decide_eq_true_eq] at hc1
      obtain ⟨⟨hcc, hca⟩, hcb⟩ := hc1
      have hT : ((ty c τ).bind fun Tc => (ty a τ).bind fun Ta => (ty b τ).bind fun Tb => some (Ta.both Tb)) = some T := hT
      obtain ⟨Tc, eTc, hT⟩ := Option.bind_eq_some_iff.mp hT
      obtain ⟨Ta, eTa, hT⟩ := Option.bind_eq_some_iff.mp hT
      obtain ⟨Tb, eTb, hT⟩ := Option.bind_eq_some_iff.mp hT
      cases hT
      have h : FinG X σ H ((ev c δ >>= boolD) >>= fun r => match r with | true => ev a δ | false => ev b δ) (fun d H' => ∀ v, Vl X.K H₀ H H' nd (Ta.both Tb) d v → Q v H') := h
      refine WE.of (pe_ifExp pt_w pe_w pe_w) (ihc.hT at_ pc hcc Tc eTc _ (h.bind.imp fun r H1 e1 kf1 h => ?_))
      cases r with
      | true =>
        rw [if_pos rfl]
        refine iha.hE (at_.grow e1 kf1) pa hca Ta eTa _ (FinG.imp h fun d H2 e2 kf2 h v vl => h v ?_)
        exact Vl.less (T := ⟨Ta.nm, Ta.B, Ta.a⟩) at_.sv.sm (fun i z => List.mem_append_left _ z) (fun z => (by simpa using z : Ta.a = false ∧ Tb.a = false).1) (Ty.le_join _ _).1 (Vl.nm at_.sv.sm (vl.from e1))
      | false =>
        rw [if_neg Bool.false_ne_true]
        refine ihb.hE (at_.grow e1 kf1) pb hcb Tb eTb _ (FinG.imp h fun d H2 e2 kf2 h v vl => h v ?_)
        exact Vl.less (T := ⟨Tb.nm, Tb.B, Tb.a⟩) at_.sv.sm (fun i z => List.mem_append_right _ z) (fun z => (by simpa using z : Ta.a = false ∧ Tb.a = false).2) (Ty.le_join _ _).2 (Vl.nm at_.sv.sm (vl.from e1))
    | _ => exact absurd hc (by simp [ck])
  refine Snd.of hE ?_ ?_ (fun _ _ => by simp [cks]) (fun _ _ => by simp [cko]) (fun _ _ => by simp [ckc]) (fun _ p h => by cases p <;> simp [ck] at h ⊢; exact h)
  · intro S X H₀ τ δ σ nd H at_ p hc T hT Q h
    cases p with
    | IfExp pc pa pb pos =>
      have hc1 : (ck C.nb c S false pc && ck C.nb a S false pa && ck C.nb b S false pb) = true := hc
      simp only [Bool.and_eq_true, decide_eq_true_eq] at hc1
      obtain ⟨⟨hcc, hca⟩, hcb⟩ := hc1
      have hT : ((ty c τ).bind fun Tc => (ty a τ).bind fun Ta => (ty b τ).bind fun Tb => some (Ta.both Tb)) = some T := hT
      obtain ⟨Tc, eTc, hT⟩ := Option.bind_eq_some_iff.mp hT
      obtain ⟨Ta, eTa, hT⟩ := Option.bind_eq_some_iff.mp hT
      obtain ⟨Tb, eTb, hT⟩ := Option.bind_eq_some_iff.mp hT
      cases hT
      have h : FinG X σ H (((ev c δ >>= boolD) >>= fun r => match r with | true => ev a δ | false => ev b δ) >>= boolD) (fun b H' => Q b H') := h
      intro pins s I
      rw [R.assoc] at h
      refine isTrue_IfExp (thn (ihc.hT at_ pc hcc Tc eTc (fun r H1 => if r = true then WT X pa σ H1 Q else WT X pb σ H1 Q) (h.bind.imp fun r H1 e1 kf1 h => ?_) pins s I) fun r s1 ⟨H1, I1, q1⟩ => ?_)
      · cases r with
        | true =>
          rw [if_pos rfl]
          exact iha.hT (at_.grow e1 kf1) pa hca Ta eTa _ h
        | false =>
          rw [if_neg Bool.false_ne_true]
          exact ihb.hT (at_.grow e1 kf1) pb hcb Tb eTb _ h
      · cases r with
        | true =>
          rw [if_pos rfl] at q1
          exact q1 pins s1 I1
        | false =>
          rw [if_neg Bool.false_ne_true] at q1
          exact q1 pins s1 I1
    | _ => exact absurd hc (by simp [ck])
  · rintro S X H₀ τ δ σ nd H at_ p hc ⟨op, vs, pos, rfl⟩ T hT Q h
    exact absurd hc (by simp [ck])
end
end VS
set_option Elab.async false
set_option linter.all false
set_option maxRecDepth 100000
namespace VS
open PySem PySem.Spec L2
open PyProof.Rows hiding St
section
variable {C : Ctx}
theorem snd_tup {es : E} (ih : Snd C es) : Snd C (.tup es) := by
  have hE : ∀ {S X H₀ τ δ σ nd H}, At C S X H₀ τ δ σ nd H → ∀ (p : Expr), ck C.nb (.tup es) S false p = true → ∀ T, ty (.tup es) τ = some T → ∀ Q : VK, FinG X σ H (ev (.tup es) δ) (fun d H' => ∀ v, Vl X.K H₀ H H' nd T d v → Q v H') → WE X p σ H Q := by
    intro S X H₀ τ δ σ nd H at_ p hc T hT Q h
    cases p with
    | Tuple ps k pos =>
      have hcs : cks C.nb es S ps = true := hc
      have hT : ((tys es τ).bind fun Ts => some (if Ts.nm = .F then Tv.fr else ⟨.S, Ts.B, Ts.a⟩)) = some T := hT
      obtain ⟨Ts, eTs, hT⟩ := Option.bind_eq_some_iff.mp hT
      cases hT
      have h : FinG X σ H (evl es δ >>= fun ds => if ds.length ≤ sizeLine then .ok (PyData.tuple ds) else .no) (fun d H' => ∀ v, Vl X.K H₀ H H' nd (if Ts.nm = .F then Tv.fr else ⟨.S, Ts.B, Ts.a⟩) d v → Q v H') := h
      refine WE.kf (WE.of (pe_tup pa_w) (ih.hA at_ ps hcs Ts eTs _ (h.bind.imp fun ds H1 e1 kf1 h vs vl => ?_)))
      obtain ⟨c, h⟩ := FinG.ite h
      have len : vs.length = ds.length := by obtain ⟨_, _, z, _⟩ := vl; exact z.length
      refine ⟨by rw [len]; exact c, fun p n kf => h _ (same_upd n) kf _ (Vl.newTup at_.sv.sm n vl)⟩
    | _ => exact absurd hc (by simp [ck])
  refine Snd.of hE ?_ ?_ (fun _ _ => by simp [cks]) (fun _ _ => by simp [cko]) (fun _ _ => by simp [ckc]) (fun _ p h => by cases p <;> simp [ck] at h ⊢; exact h)
  · intro S X H₀ τ δ σ nd H at_ p hc T hT Q h
    cases p with
    | Tuple ps k pos =>
      exact wt_val (fun Q => hE at_ _ hc T hT Q) h
    | _ => exact absurd hc (by simp [ck])
  · rintro S X H₀ τ δ σ nd H at_ p hc ⟨op, vs, pos, rfl⟩ T hT Q h
    exact absurd hc (by simp [ck])
theorem snd_lst {es : E} (ih : Snd C es) : Snd C (.lst es) := by
  have hE : ∀ {S X H₀ τ δ σ nd H}, At C S X H₀ τ δ σ nd H → ∀ (p : Expr), ck C.nb (.lst es) S false p = true → ∀ T, ty (.lst es) τ = some T → ∀ Q : VK, FinG X σ H (ev (.lst es) δ) (fun d H' => ∀ v, Vl X.K H₀ H H' nd T d v → Q v H') → WE X p σ H Q := by
    intro S X H₀ τ δ σ nd H at_ p hc T hT Q h
    cases p with
    | List ps pos =>
      have hcs : cks C.nb es S ps = true := hc
      have hT : ((tys es τ).bind fun Ts => some (if Ts.nm = .F then Tv.fr else ⟨.L Ts.nm, Ts.B, Ts.a⟩)) = some T := hT
      obtain ⟨Ts, eTs, hT⟩ := Option.bind_eq_some_iff.mp hT
      cases hT
      have h : FinG X σ H (evl es δ >>= fun ds => if ds.length ≤ sizeLine then .ok (PyData.list ds) else .no) (fun d H' => ∀ v, Vl X.K H₀ H H' nd (if Ts.nm = .F then Tv.fr else ⟨.L Ts.nm, Ts.B, Ts.a⟩) d v → Q v H') := h
      refine WE.kf (WE.of (pe_lst pa_w) (ih.hA at_ ps hcs Ts eTs _ (h.bind.imp fun ds H1 e1 kf1 h vs vl => ?_)))
      obtain ⟨c, h⟩ := FinG.ite h
      have len : vs.length = ds.length := by obtain ⟨_, _, z, _⟩ := vl; exact z.length
      refine ⟨by rw [len]; exact c, fun p n kf => h _ (same_upd n) kf _ (Vl.newLst at_.sv.sm e1 n kf vl at_.sv.old)⟩
    | _ => exact absurd hc (by simp [ck])
  refine Snd.of hE ?_ ?_ (fun _ _ => by simp [cks]) (fun _ _ => by simp [cko]) (fun _ _ => by simp [ckc]) (fun _ p h => by cases p <;> simp [ck] at h ⊢; exact h)
  · intro S X H₀ τ δ σ nd H at_ p hc T hT Q h
    cases p with
    | List ps pos =>
      exact wt_val (fun Q => hE at_ _ hc T hT Q) h
    | _ => exact absurd hc (by simp [ck])
  · rintro S X H₀ τ δ σ nd H at_ p hc ⟨op, vs, pos, rfl⟩ T hT Q h
    exact absurd hc (by simp [ck])
theorem snd_nil : Snd C .nil where
  hE := fun _ p h => by simp [ck] at h
  hT := fun _ p h => by simp [ck] at h
  hW := fun _ p h => by simp [ck] at h
  hI := fun _ _ p h => by simp [ck] at h
  hO := fun _ p h => by simp [cko] at h
  hC := fun _ p h => by simp [ckc] at h
  hA := fun {S X H₀ τ δ σ nd H} at_ ps hc T hT Q h => by
    cases ps with
    | nil =>
      cases hT
      have h : FinG X σ H (.ok []) _ := h
      exact WA.of pa_nil (h.ok at_.sv.kf [] ⟨[], [], rwl_nil.mpr ⟨rfl, rfl, rfl⟩, List.nodup_nil, by simp, by simp, by simp⟩)
    | cons p ps => simp [cks] at hc
theorem snd_cons {a es : E} (iha : Snd C a) (ihs : Snd C es) : Snd C (.cons a es) where
  hE := fun _ p h => by simp [ck] at h
  hT := fun _ p h => by simp [ck] at h
  hW := fun _ p h => by simp [ck] at h
  hI := fun _ _ p h => by simp [ck] at h
  hO := fun _ p h => by simp [cko] at h
  hC := fun _ p h => by simp [ckc] at h
  hA := fun {S X H₀ τ δ σ nd H} at_ ps hc T hT Q h => by
    cases ps with
    | nil => simp [cks] at hc
    | cons p ps =>
      have hc1 : (plainX p && ck C.nb a S false p && cks C.nb es S ps) = true := hc
      simp only [Bool.and_eq_true] at hc1
      obtain ⟨⟨hp, hca⟩, hcs⟩ := hc1
      have hT : ((ty a τ).bind fun Ta => (tys es τ).bind fun Ts => some (Ta.both Ts)) = some T := hT
      obtain ⟨Ta, eTa, hT⟩ := Option.bind_eq_some_iff.mp hT
      obtain ⟨Ts, eTs, hT⟩ := Option.bind_eq_some_iff.mp hT
      cases hT
      have h : FinG X σ H (ev a δ >>= fun d => evl es δ >>= fun ds => .ok (d :: ds)) (fun ds H' => ∀ vs, VlL X.K H₀ H H' nd (Ta.both Ts) ds vs → Q vs H') := h
      refine WA.of (pa_cons pe_w pa_w (star_plain hp)) (iha.hE at_ p hca Ta eTa _ (h.bind.imp fun d H1 e1 kf1 h v vl => ?_))
      refine ihs.hA (at_.grow e1 kf1) ps hcs Ts eTs _ (h.bind.imp fun ds H2 e2 kf2 h vs vls => ?_)
      exact FinG.ok (σ := σ) h kf2 _ (VlL.cons at_.sv.sm e1 e2 at_.sv.old vl vls)
theorem snd_nop : Snd C .nop where
  hE := fun _ p h => by simp [ck] at h
  hT := fun _ p h => by simp [ck] at h
  hW := fun _ p h => by simp [ck] at h
  hI := fun _ _ p h => by simp [ck] at h
  hA := fun _ p h => by simp [cks] at h
  hO := fun {S X H₀ τ δ σ nd H} at_ p hc hT Q h => by
    cases p with
    | none =>
      have h : FinG X σ H (.ok none) _ := h
      exact WPO.of po_none (h.ok at_.sv.kf)
    | some p => simp [cko] at hc
  hC := fun {S X H₀ τ δ σ nd H} at_ ps hc hT Q h => by
    cases ps with
    | nil =>
      have h : FinG X σ H (.ok true) _ := h
      exact WQ.of pts_nil (h.ok at_.sv.kf)
    | cons p ps => simp [ckc] at hc
theorem snd_prt {a : E} (iha : Snd C a) : Snd C (.prt a) where
  hE := fun _ p h => by simp [ck] at h
  hT := fun _ p h => by simp [ck] at h
  hW := fun _ p h => by simp [ck] at h
  hI := fun _ _ p h => by simp [ck] at h
  hA := fun _ p h => by simp [cks] at h
  hO := fun {S X H₀ τ δ σ nd H} at_ p hc hT Q h => by
    cases p with
    | none => simp [cko] at hc
    | some p =>
      have hca : ck C.nb a S false p = true := hc
      have hT : ((ty a τ).bind fun _ => some ()) = some () := hT
      obtain ⟨Ta, eTa, _⟩ := Option.bind_eq_some_iff.mp hT
      have h : FinG X σ H ((ev a δ >>= intD) >>= fun j => .ok (some j)) (fun l H' => Q l H') := h
      refine WPO.of (po_some pe_w) (iha.hE at_ p hca Ta eTa _ (h.bind.bind.imp fun d H1 e1 kf1 h v vl => ?_))
      cases d with
      | int i =>
        obtain ⟨_, _, _, r⟩ := vl.rw
        rw [rw_int] at r
        exact ⟨i, r.1, FinG.ok (σ := σ) (FinG.ok (σ := σ) h kf1) kf1⟩
      | _ => exact False.elim h
  hC := fun {S X H₀ τ δ σ nd H} at_ ps hc hT Q h => by
    cases ps with
    | nil => simp [ckc] at hc
    | cons p ps => cases ps with
      | nil =>
        have hca : ck C.nb a S false p = true := hc
        have hT : ((ty a τ).bind fun _ => some ()) = some () := hT
        obtain ⟨Ta, eTa, _⟩ := Option.bind_eq_some_iff.mp hT
        exact WQ.of (pts_one pt_w) (iha.hT at_ p hca Ta eTa _ h)
      | cons _ _ => simp [ckc] at hc
theorem snd_ix {a i : E} (iha : Snd C a) (ihi : Snd C i) : Snd C (.ix a i) := by
  have hE : ∀ {S X H₀ τ δ σ nd H}, At C S X H₀ τ δ σ nd H → ∀ (p : Expr), ck C.nb (.ix a i) S false p = true → ∀ T, ty (.ix a i) τ = some T → ∀ Q : VK, FinG X σ H (ev (.ix a i) δ) (fun d H' => ∀ v, Vl X.K H₀ H H' nd T d v → Q v H') → WE X p σ H Q := by
    intro S X H₀ τ δ σ nd H at_ p hc T hT Q h
    cases p with
    | Subscript pa pi pos =>
      have hc1 : (plainX pi && ck C.nb a S false pa && ck C.nb i S false pi) = true := hc
      simp only [Bool.and_eq_true, decide_eq_true_eq] at hc1
      obtain ⟨⟨hp, hca⟩, hci⟩ := hc1
      have hT : ((ty a τ).bind fun Ta => (ty i τ).bind fun Ti => some (if Ta.nm = .F then Tv.fr else ⟨.S, Ta.B, Ta.a⟩)) = some T := hT
      obtain ⟨Ta, eTa, hT⟩ := Option.bind_eq_some_iff.mp hT
      obtain ⟨Ti, eTi, hT⟩ := Option.bind_eq_some_iff.mp hT
      cases hT
      have h : FinG X σ H (ev a δ >>= fun x => ev i δ >>= fun y => ixD x y) (fun d H' => ∀ v, Vl X.K H₀ H H' nd (if Ta.nm = .F then Tv.fr else ⟨.S, Ta.B, Ta.a⟩) d v → Q v H') := h
      refine WE.of (pe_ix ix_seq pe_w pe_w (plain_ix hp)) (iha.hE at_ pa hca Ta eTa _ (h.bind.imp fun dx H1 e1 kf1 h x vx => ?_))
      refine ihi.hE (at_.grow e1 kf1) pi hci Ti eTi _ (h.bind.imp fun dy H2 e2 kf2 h y vy => ?_)
      obtain ⟨_, _, _, ry⟩ := vy.rw
      exact we_ix at_.sv.sm kf2 (vx.to e2) ry h
    | _ => exact absurd hc (by simp [ck])
  refine Snd.of hE ?_ ?_ (fun _ _ => by simp [cks]) (fun _ _ => by simp [cko]) (fun _ _ => by simp [ckc]) (fun _ p h => by cases p <;> simp [ck] at h ⊢; exact h)
  · intro S X H₀ τ δ σ nd H at_ p hc T hT Q h
    cases p with
    | Subscript pa pi pos =>
      exact wt_val (fun Q => hE at_ _ hc T hT Q) h
    | _ => exact absurd hc (by simp [ck])
  · rintro S X H₀ τ δ σ nd H at_ p hc ⟨op, vs, pos, rfl⟩ T hT Q h
    exact absurd hc (by simp [ck])
theorem snd_slc {a lo hi : E} (iha : Snd C a) (ihl : Snd C lo) (ihh : Snd C hi) : Snd C (.slc a lo hi) := by
  have hE : ∀ {S X H₀ τ δ σ nd H}, At C S X H₀ τ δ σ nd H → ∀ (p : Expr), ck C.nb (.slc a lo hi) S false p = true → ∀ T, ty (.slc a lo hi) τ = some T → ∀ Q : VK, FinG X σ H (ev (.slc a lo hi) δ) (fun d H' => ∀ v, Vl X.K H₀ H H' nd T d v → Q v H') → WE X p σ H Q := by
    intro S X H₀ τ δ σ nd H at_ p hc T hT Q h
    cases p with
    | Subscript pa ps pos =>
      cases ps with
      | Slice pl ph pst pos2 =>
        cases pst with
        | none =>
          have hc1 : (ck C.nb a S false pa && cko C.nb lo S pl && cko C.nb hi S ph) = true := hc
          simp only [Bool.and_eq_true, decide_eq_true_eq] at hc1
          obtain ⟨⟨hca, hcl⟩, hch⟩ := hc1
          have hT : ((ty a τ).bind fun Ta => (tyo lo τ).bind fun Tl => (tyo hi τ).bind fun Th => some (if Ta.nm = .F then Tv.fr else ⟨.L Ta.nm.el, Ta.B, Ta.a⟩)) = some T := hT
          obtain ⟨Ta, eTa, hT⟩ := Option.bind_eq_some_iff.mp hT
          obtain ⟨Tl, eTl, hT⟩ := Option.bind_eq_some_iff.mp hT
          obtain ⟨Th, eTh, hT⟩ := Option.bind_eq_some_iff.mp hT
          cases hT
          have h : FinG X σ H (ev a δ >>= fun x => evo lo δ >>= fun l => evo hi δ >>= fun h => slcD x l h) (fun d H' => ∀ v, Vl X.K H₀ H H' nd (if Ta.nm = .F then Tv.fr else ⟨.L Ta.nm.el, Ta.B, Ta.a⟩) d v → Q v H') := h
          refine WE.kf (WE.of (pe_slice sl_list pe_w po_w po_w) (iha.hE at_ pa hca Ta eTa _ (h.bind.imp fun dx H1 e1 kf1 h x vx => ?_)))
          refine ihl.hO (at_.grow e1 kf1) pl hcl eTl _ (h.bind.imp fun l H2 e2 kf2 h => ?_)
          refine ihh.hO (at_.grow (e1.trans e2) kf2) ph hch eTh _ (h.bind.imp fun l2 H3 e3 kf3 h => ?_)
          exact we_slc at_.sv.sm ((e1.trans e2).trans e3) at_.sv.old (vx.to (e2.trans e3)) h
        | some _ => exact absurd hc (by simp [ck])
      | _ => exact absurd hc (by simp [ck])
    | _ => exact absurd hc (by simp [ck])
  refine Snd.of hE ?_ ?_ (fun _ _ => by simp [cks]) (fun _ _ => by simp [cko]) (fun _ _ => by simp [ckc]) (fun _ p h => by
    cases p with
    | Subscript pa ps pos => cases ps with
      | Slice pl ph pst pos2 => cases pst <;> first | exact h | exact absurd h (by simp [ck])
      | _ => exact absurd h (by simp [ck])
    | _ => exact absurd h (by simp [ck]))
  · intro S X H₀ τ δ σ nd H at_ p hc T hT Q h
    cases p with
    | Subscript pa ps pos =>
      cases ps with
      | Slice pl ph pst pos2 =>
        cases pst with
        | none =>
          exact wt_val (fun Q => hE at_ _ hc T hT Q) h
        | some _ => exact absurd hc (by simp [ck])
      | _ => exact absurd hc (by simp [ck])
    | _ => exact absurd hc (by simp [ck])
  · rintro S X H₀ τ δ σ nd H at_ p hc ⟨op, vs, pos, rfl⟩ T hT Q h
    exact absurd hc (by simp [ck])
end
end VS
set_option Elab.async false
set_option linter.all false
set_option maxRecDepth 100000
namespace VS
open PySem PySem.Spec L2
open PyProof.Rows hiding St
section
variable {C : Ctx}
theorem cks_nil {nb : List Str} : ∀ {e : E} {S : Scp} {δ : Sl}, cks nb e S [] = true → evl e δ = .ok [] := by
  intro e S δ h
  cases e <;> first | rfl | (simp [cks] at h)
theorem passes_none {X : Cx} {σ : St} : PassesAt (L2.CX X.prog X.w) X σ E0 := fun _ _ _ _ _ _ h => by
  obtain ⟨_, _, _, _, _, _, _, _, _, _, _, _, z⟩ := h
  exact z.elim
/-- a call of a def, by its promise -/
theorem we_calls {S : Scp} {X : Cx} {H₀ H : Hp} {τ : Tys} {δ : Sl} {σ : St} {nd : List (List Addr × List Addr)} {es : E} (ih : Snd C es) {x : Str} {F : List D → R D} {t : Ty} (fv : FnV C x F t)
    (at_ : At C S X H₀ τ δ σ nd H) {p pos : Pos} {ps : List Expr} (hg : glC S x = true) (hcs : cks C.nb es S ps = true) {T : Tv} (eT : tys es τ = some T) {Q : VK}
    (h : FinG X σ H (evl es δ >>= F) (fun d H' => ∀ v, Vl X.K H₀ H H' nd (if t = .F then .fr else ⟨t, T.B, T.a⟩) d v → Q v H')) : WE X (.Call (.Name x p) ps [] pos) σ H Q := by
  obtain ⟨f, fd, pn, j, hj, har, F0, hm, hk, hb⟩ := fv.ex
  have G := at_.G
  have F1 : FnOk X.prog X.w X.K X.mg X.base (L2.CX X.prog X.w) j f fd pn (spF X.K X.mg pn.length F t) := by rw [G.P, G.w, G.K, G.mg, G.base]; exact F0
  have hm1 : X.mg x = some (.ref f) := by rw [G.mg]; exact hm
  have hk1 : PySem.W.keepIn X.K (.ref f) = true := by rw [G.K]; exact hk
  have hb1 : Binds X.K fd pn [] := by rw [G.K]; exact hb
  obtain ⟨g1, g2⟩ := gl_of G hg
  have hr : Room j X.A := G.room.mono hj
  have hpl := cks_plain hcs
  cases q : evl es δ with
  | no => rw [q] at h; exact False.elim h
  | ex e =>
    refine we_call0 (E := E0) hpl F1 hr g1 g2 hm1 hk1 hb1 passes_none (ih.hA at_ ps hcs T eT _ ?_) ?_
    · rw [q]; rw [q] at h; exact h
    · rintro rfl
      rw [cks_nil hcs] at q
      cases q
  | ok ds =>
    rw [q] at h
    have h : FinG X σ H (F ds) _ := h
    cases q2 : F ds with
    | no => rw [q2] at h; exact False.elim h
    | ok d =>
      rw [q2] at h
      have har2 : ds.length = pn.length := har ds (by rw [q2]; exact nofun)
      have key : ∀ (vs : List V) (H1 : Hp), Same H H1 → KF X.K H1 → VlL X.K H₀ H H1 nd T ds vs → spF X.K X.mg pn.length F t vs H1 Q E0 := fun vs H1 e1 kf1 vl => by
        obtain ⟨s, r, hs, ha⟩ := vl.allS at_.sv.sm
        refine ⟨ds, s, har2, r, ?_⟩
        rw [q2]
        intro v H' e2 kf2 ⟨o, s', r', no, ho, hs'⟩
        exact h H' (e1.trans e2) kf2 v (Vl.back at_.sv.sm e1 hs ha r' no ho hs')
      refine we_call0 (E := E0) hpl F1 hr g1 g2 hm1 hk1 hb1 passes_none (ih.hA at_ ps hcs T eT _ ?_) ?_
      · rw [q]
        exact fun H1 e1 kf1 vs vl => key vs H1 e1 kf1 vl
      · rintro rfl
        rw [cks_nil hcs] at q
        cases q
        exact key [] H (Same.refl H) at_.sv.kf ⟨[], [], rwl_nil.mpr ⟨rfl, rfl, rfl⟩, List.nodup_nil, by simp, by simp, by simp⟩
    | ex e =>
      rw [q2] at h
      have har2 : ds.length = pn.length := har ds (by rw [q2]; exact nofun)
      obtain ⟨W, tk, hW⟩ := h
      have hx : PassesAt (L2.CX X.prog X.w) X σ (fun cls d H' => W cls d σ H') := fun _ _ _ e s' I c => tk e s' (XE.of_call I (fun _ _ _ h => h) c)
      have key : ∀ (vs : List V) (H1 : Hp), Same H H1 → KF X.K H1 → VlL X.K H₀ H H1 nd T ds vs → spF X.K X.mg pn.length F t vs H1 Q (fun cls d H' => W cls d σ H') := fun vs H1 e1 kf1 vl => by
        obtain ⟨s, r, hs, ha⟩ := vl.allS at_.sv.sm
        refine ⟨ds, s, har2, r, ?_⟩
        rw [q2]
        exact fun cls dx H' e2 kf2 hx => hW H' cls dx (e1.trans e2) kf2 hx
      refine we_call0 (E := fun cls d H' => W cls d σ H') hpl F1 hr g1 g2 hm1 hk1 hb1 hx (ih.hA at_ ps hcs T eT _ ?_) ?_
      · rw [q]
        exact fun H1 e1 kf1 vs vl => key vs H1 e1 kf1 vl
      · rintro rfl
        rw [cks_nil hcs] at q
        cases q
        exact key [] H (Same.refl H) at_.sv.kf ⟨[], [], rwl_nil.mpr ⟨rfl, rfl, rfl⟩, List.nodup_nil, by simp, by simp, by simp⟩
theorem we_blt {S : Scp} {X : Cx} {σ : St} {H : Hp} (G : Gd C S X) (b : BI) {p pos : Pos} {e : Expr} {es : List Expr} {Q : VK} (hb : bltC S C.nb (b.nm : Str) = true) (hpl : (e :: es).all plainX = true)
    (h : WA X (e :: es) σ H fun vs H1 => WC X b.val vs H1 Q) : WE X (.Call (.Name (b.nm : Str) p) (e :: es) [] pos) σ H Q := by
  obtain ⟨g1, g2, g3, g4⟩ := blt_of G hb
  rw [List.all_cons, Bool.and_eq_true] at hpl
  cases b with
  | len => exact WE.of (pe_callB call_w g1 g3 boot_len pa_w g4 g2 (star_plain hpl.1) (plain_any hpl.2)) h
  | abs => exact WE.of (pe_callB call_w g1 g3 boot_abs pa_w g4 g2 (star_plain hpl.1) (plain_any hpl.2)) h
  | int => exact WE.of (pe_callTy call_w g1 g3 boot_int pa_w g4 g2 (star_plain hpl.1) (plain_any hpl.2)) h
  | sum => exact WE.of (pe_callB call_w g1 g3 boot_sum pa_w g4 g2 (star_plain hpl.1) (plain_any hpl.2)) h
  | list => exact WE.of (pe_callTy call_w g1 g3 boot_list pa_w g4 g2 (star_plain hpl.1) (plain_any hpl.2)) h
  | tuple => exact WE.of (pe_callTy call_w g1 g3 boot_tuple pa_w g4 g2 (star_plain hpl.1) (plain_any hpl.2)) h
  | max => exact WE.of (pe_callB call_w g1 g3 boot_max pa_w g4 g2 (star_plain hpl.1) (plain_any hpl.2)) h
  | min => exact WE.of (pe_callB call_w g1 g3 boot_min pa_w g4 g2 (star_plain hpl.1) (plain_any hpl.2)) h
theorem boot_TN (T : TN) : bootBuiltins (T.nm : Str) = some (.type T.nm) := by
  cases T
  · exact boot_bool
  · exact boot_int
  · exact boot_str
  · exact boot_list
  · exact boot_tuple
  · exact boot_dict
theorem snd_call {x : Str} {F : List D → R D} {t : Ty} {es : E} (fv : FnV C x F t) (ih : Snd C es) : Snd C (.call x F t es) := by
  have hE : ∀ {S X H₀ τ δ σ nd H}, At C S X H₀ τ δ σ nd H → ∀ (p : Expr), ck C.nb (.call x F t es) S false p = true → ∀ T, ty (.call x F t es) τ = some T → ∀ Q : VK, FinG X σ H (ev (.call x F t es) δ) (fun d H' => ∀ v, Vl X.K H₀ H H' nd T d v → Q v H') → WE X p σ H Q := by
    intro S X H₀ τ δ σ nd H at_ p hc T hT Q h
    cases p with
    | Call f ps kws pos =>
      cases f with
      | Name y py =>
        cases kws with
        | nil =>
          have hc1 : (decide (x = y) && glC S x && cks C.nb es S ps) = true := hc
          simp only [Bool.and_eq_true, decide_eq_true_eq] at hc1
          obtain ⟨⟨rfl, hg⟩, hcs⟩ := hc1
          have hT : ((tys es τ).bind fun Ts => some (if t = .F then Tv.fr else ⟨t, Ts.B, Ts.a⟩)) = some T := hT
          obtain ⟨Ts, eTs, hT⟩ := Option.bind_eq_some_iff.mp hT
          cases hT
          exact we_calls ih fv at_ hg hcs eTs h
        | cons _ _ => exact absurd hc (by simp [ck])
      | _ => exact absurd hc (by simp [ck])
    | _ => exact absurd hc (by simp [ck])
  refine Snd.of hE ?_ ?_ (fun _ _ => by simp [cks]) (fun _ _ => by simp [cko]) (fun _ _ => by simp [ckc]) (fun _ p h => by
    cases p with
    | Call f ps kws pos => cases f with
      | Name y py => cases kws <;> first | exact h | exact absurd h (by simp [ck])
      | _ => exact absurd h (by simp [ck])
    | _ => exact absurd h (by simp [ck]))
  · intro S X H₀ τ δ σ nd H at_ p hc T hT Q h
    cases p with
    | Call f ps kws pos =>
      cases f with
      | Name y py =>
        cases kws with
        | nil =>
          exact wt_val (fun Q => hE at_ _ hc T hT Q) h
        | cons _ _ => exact absurd hc (by simp [ck])
      | _ => exact absurd hc (by simp [ck])
    | _ => exact absurd hc (by simp [ck])
  · rintro S X H₀ τ δ σ nd H at_ p hc ⟨op, vs, pos, rfl⟩ T hT Q h
    exact absurd hc (by simp [ck])
theorem snd_blt {b : BI} {es : E} (ih : Snd C es) : Snd C (.blt b es) := by
  have hE : ∀ {S X H₀ τ δ σ nd H}, At C S X H₀ τ δ σ nd H → ∀ (p : Expr), ck C.nb (.blt b es) S false p = true → ∀ T, ty (.blt b es) τ = some T → ∀ Q : VK, FinG X σ H (ev (.blt b es) δ) (fun d H' => ∀ v, Vl X.K H₀ H H' nd T d v → Q v H') → WE X p σ H Q := by
    intro S X H₀ τ δ σ nd H at_ p hc T hT Q h
    cases p with
    | Call f ps kws pos =>
      cases f with
      | Name y py =>
        cases kws with
        | nil =>
          cases ps with
          | nil => exact absurd hc (by simp [ck])
          | cons p1 ps =>
            have hc1 : (decide ((b.nm : Str) = y) && bltC S C.nb y && cks C.nb es S (p1 :: ps)) = true := hc
            simp only [Bool.and_eq_true, decide_eq_true_eq] at hc1
            obtain ⟨⟨rfl, hg⟩, hcs⟩ := hc1
            have hT : ((tys es τ).bind fun Ts => some (bltT b Ts)) = some T := hT
            obtain ⟨Ts, eTs, hT⟩ := Option.bind_eq_some_iff.mp hT
            cases hT
            have h : FinG X σ H (evl es δ >>= bltD b) (fun d H' => ∀ v, Vl X.K H₀ H H' nd (bltT b Ts) d v → Q v H') := h
            refine we_blt at_.G b hg (cks_plain hcs) (ih.hA at_ _ hcs Ts eTs _ (h.bind.imp fun ds H1 e1 kf1 h vs vl => ?_))
            exact wc_blt at_.G.calm at_.sv.sm e1 kf1 at_.sv.old vl h
        | cons _ _ => cases ps <;> exact absurd hc (by simp [ck])
      | _ => exact absurd hc (by simp [ck])
    | _ => exact absurd hc (by simp [ck])
  refine Snd.of hE ?_ ?_ (fun _ _ => by simp [cks]) (fun _ _ => by simp [cko]) (fun _ _ => by simp [ckc]) (fun _ p h => by
    cases p with
    | Call f ps kws pos => cases f with
      | Name y py => cases kws <;> cases ps <;> first | exact h | exact absurd h (by simp [ck])
      | _ => exact absurd h (by simp [ck])
    | _ => exact absurd h (by simp [ck]))
  · intro S X H₀ τ δ σ nd H at_ p hc T hT Q h
    cases p with
    | Call f ps kws pos =>
      cases f with
      | Name y py =>
        cases kws with
        | nil =>
          cases ps with
          | nil => exact absurd hc (by simp [ck])
          | cons p1 ps =>
            exact wt_val (fun Q => hE at_ _ hc T hT Q) h
        | cons _ _ => cases ps <;> exact absurd hc (by simp [ck])
      | _ => exact absurd hc (by simp [ck])
    | _ => exact absurd hc (by simp [ck])
  · rintro S X H₀ τ δ σ nd H at_ p hc ⟨op, vs, pos, rfl⟩ T hT Q h
    exact absurd hc (by simp [ck])
theorem snd_isi {T0 : TN} {a : E} (iha : Snd C a) : Snd C (.isi T0 a) := by
  have hE : ∀ {S X H₀ τ δ σ nd H}, At C S X H₀ τ δ σ nd H → ∀ (p : Expr), ck C.nb (.isi T0 a) S false p = true → ∀ T, ty (.isi T0 a) τ = some T → ∀ Q : VK, FinG X σ H (ev (.isi T0 a) δ) (fun d H' => ∀ v, Vl X.K H₀ H H' nd T d v → Q v H') → WE X p σ H Q := by
    intro S X H₀ τ δ σ nd H at_ p hc T hT Q h
    cases p with
    | Call f ps kws pos =>
      cases f with
      | Name y py =>
        rcases ps with _ | ⟨pa, _ | ⟨pz, _ | ⟨_, _⟩⟩⟩ <;> cases kws <;> try (exfalso; revert hc; simp [ck]; done)
        cases pz with
        | Name z pz =>
          have hc1 : (decide (y = ("isinstance" : Str)) && bltC S C.nb y && decide (z = (T0.nm : Str)) && plainX pa && bltC S C.nb z && ck C.nb a S false pa) = true := hc
          simp only [Bool.and_eq_true, decide_eq_true_eq] at hc1
          obtain ⟨⟨⟨⟨⟨rfl, hg⟩, rfl⟩, hpl⟩, hg2⟩, hca⟩ := hc1
          have hT : ((ty a τ).bind fun Ta => some (Tv.fr)) = some T := hT
          obtain ⟨Ta, eTa, hT⟩ := Option.bind_eq_some_iff.mp hT
          cases hT
          have h : FinG X σ H (ev a δ >>= isiD T0) (fun d H' => ∀ v, Vl X.K H₀ H H' nd Tv.fr d v → Q v H') := h
          obtain ⟨g1, g2, g3, g4⟩ := blt_of at_.G hg
          obtain ⟨k1, k2, k3, k4⟩ := blt_of at_.G hg2
          refine WE.of (pe_callB call_w g1 g3 boot_isinstance (pa_cons pe_w (pa_cons (pe_bltn (v := .ty T0.nm) k1 k3 (boot_TN T0) rfl k4 k2) pa_nil (by rfl)) (star_plain hpl)) g4 g2 (star_plain hpl) (by rfl)) ?_
          refine iha.hE at_ pa hca Ta eTa _ (h.bind.imp fun dx H1 e1 kf1 h x vx => ?_)
          obtain ⟨_, _, _, rx⟩ := vx.rw
          exact wc_isi kf1 rx h
        | _ => exact absurd hc (by simp [ck])
      | _ => exact absurd hc (by simp [ck])
    | _ => exact absurd hc (by simp [ck])
  refine Snd.of hE ?_ ?_ (fun _ _ => by simp [cks]) (fun _ _ => by simp [cko]) (fun _ _ => by simp [ckc]) (fun _ p h => by
    cases p with
    | Call f ps kws pos => cases f with
      | Name y py =>
        rcases ps with _ | ⟨pa, _ | ⟨pz, _ | ⟨_, _⟩⟩⟩ <;> cases kws <;> first | (exfalso; revert h; simp [ck]; done) | (cases pz <;> first | exact h | (exfalso; revert h; simp [ck]; done))
      | _ => exact absurd h (by simp [ck])
    | _ => exact absurd h (by simp [ck]))
  · intro S X H₀ τ δ σ nd H at_ p hc T hT Q h
    cases p with
    | Call f ps kws pos =>
      cases f with
      | Name y py =>
        rcases ps with _ | ⟨pa, _ | ⟨pz, _ | ⟨_, _⟩⟩⟩ <;> cases kws <;> try (exfalso; revert hc; simp [ck]; done)
        cases pz with
        | Name z pz =>
          exact wt_val (fun Q => hE at_ _ hc T hT Q) h
        | _ => exact absurd hc (by simp [ck])
      | _ => exact absurd hc (by simp [ck])
    | _ => exact absurd hc (by simp [ck])
  · rintro S X H₀ τ δ σ nd H at_ p hc ⟨op, vs, pos, rfl⟩ T hT Q h
    exact absurd hc (by simp [ck])
end
end VS
set_option Elab.async false
set_option linter.all false
set_option maxRecDepth 100000
namespace VS
open PySem PySem.Spec L2
open PyProof.Rows hiding St
section
variable {C : Ctx}
theorem rwl_ints {K : PySem.W.Frag} {H : Hp} {t : Ty} : ∀ l : List Int, RwL K H (l.map PyData.int) t (l.map V.int) [] []
  | [] => rwl_nil.mpr ⟨rfl, rfl, rfl⟩
  | i :: l => rwl_cons.mpr ⟨.int i, _, [], [], [], [], rfl, rfl, rfl, rw_int.mpr ⟨rfl, rfl, rfl⟩, rwl_ints l⟩
/-- a range walked -/
theorem fin_rng {X : Cx} {σ : St} {H₀ Hb H : Hp} {nd : List (List Addr × List Addr)} {T : Tv} {lo hi : Int} {R : It → Hp → Prop} (kf : KF X.K H)
    (h : FinG X σ H (rngD lo hi >>= iterD) (fun xs H' => ∀ J vs St w, Itk X.K J vs St → St H' → StdOk X.K St w → vs.length ≤ sizeLine → (∀ a, w = some a → Old X.K H' a ∧ (New X.K Hb a ∨ ∃ i p, nd[i]? = some p ∧ (a ∈ p.2 ∨ (i ∈ T.B ∧ a ∈ p.1)))) → VlL X.K H₀ Hb H' nd ⟨.S, T.B, T.a⟩ xs vs → R J H')) :
    (-(2 ^ 62) ≤ lo ∧ lo < 2 ^ 62 ∧ -(2 ^ 62) ≤ hi ∧ hi < 2 ^ 62) ∧ R (Itr lo (hi - lo).toNat) H := by
  unfold rngD at h
  by_cases c : -(2 ^ 62) ≤ lo ∧ lo < 2 ^ 62 ∧ -(2 ^ 62) ≤ hi ∧ hi < 2 ^ 62 ∧ (hi - lo).toNat ≤ sizeLine
  · rw [if_pos c] at h
    refine ⟨⟨c.1, c.2.1, c.2.2.1, c.2.2.2.1⟩, ?_⟩
    have h := FinG.ok (σ := σ) h kf
    have e1 : ((List.range (hi - lo).toNat).map fun (i : Nat) => PyData.int (lo + (i : Int))) = (((List.range (hi - lo).toNat).map fun (i : Nat) => lo + (i : Int)).map PyData.int) := by rw [List.map_map]; rfl
    refine h (Itr lo (hi - lo).toNat) (((List.range (hi - lo).toNat).map fun (i : Nat) => lo + (i : Int)).map V.int) (fun _ => True) none
      ⟨fun i H _ hi => by simp only [List.length_map, List.length_range] at hi; exact hi, fun H _ => by simp only [List.length_map, List.length_range]; exact Nat.le_refl _, fun i H x H' _ y hi => ?_⟩ trivial ⟨fun _ _ _ z => z, fun _ _ _ _ _ z => z⟩ (by simp only [List.length_map, List.length_range]; exact c.2.2.2.2) (fun a z => nomatch z) ?_
    · obtain ⟨e, rfl⟩ := y
      refine ⟨e, ?_⟩
      simp only [List.length_map, List.length_range] at hi
      simp [List.getElem?_map, hi]
    · rw [e1]
      exact ⟨[], [], rwl_ints _, List.nodup_nil, by simp, by simp, by simp⟩
  · rw [if_neg c] at h
    exact False.elim h
theorem snd_rng1 {a : E} (iha : Snd C a) : Snd C (.rng1 a) where
  hE := fun _ p h => by cases p <;> simp [ck] at h
  hT := fun _ p h => by cases p <;> simp [ck] at h
  hW := fun _ p h => by cases p <;> simp [ck] at h
  hA := fun _ p h => by simp [cks] at h
  hO := fun _ p h => by simp [cko] at h
  hC := fun _ p h => by simp [ckc] at h
  hI := fun {S X H₀ τ δ σ nd H} at_ tg p hc T hT R h => by
    cases p with
    | Call f ps kws pos =>
      cases f with
      | Name y py =>
        rcases ps with _ | ⟨pa, _ | ⟨_, _⟩⟩ <;> cases kws <;> try (exfalso; revert hc; simp [ck]; done)
        have hc1 : (decide (y = ("range" : Str)) && bltC S C.nb y && plainX pa && ck C.nb a S false pa) = true := hc
        simp only [Bool.and_eq_true, decide_eq_true_eq] at hc1
        obtain ⟨⟨⟨rfl, hg⟩, hp⟩, hca⟩ := hc1
        have hT : ((ty a τ).bind fun _ => some Tv.fr) = some T := hT
        obtain ⟨Ta, eTa, hT⟩ := Option.bind_eq_some_iff.mp hT
        cases hT
        obtain ⟨g1, g2, g3, g4⟩ := blt_of at_.G hg
        have h : FinG X σ H (((ev a δ >>= intD) >>= fun j => rngD 0 j) >>= iterD) _ := h
        rw [VS.R.assoc] at h
        refine WI.of (pi_range1 g1 g3 (pa_cons pe_w pa_nil (star_plain hp)) (star_plain hp)) (iha.hE at_ pa hca Ta eTa _ (h.bind.bind.imp fun d H1 e1 kf1 h v vl => ?_))
        cases d with
        | int j =>
          obtain ⟨_, _, _, r⟩ := vl.rw
          rw [rw_int] at r
          have h := FinG.ok (σ := σ) h kf1
          obtain ⟨c, q⟩ := fin_rng kf1 h
          rw [Int.sub_zero] at q
          exact ⟨j, by rw [r.1], c.2.2.1, c.2.2.2, q⟩
        | _ => exact False.elim h
      | _ => exact absurd hc (by simp [ck])
    | _ => exact absurd hc (by simp [ck])
theorem snd_rng2 {a b : E} (iha : Snd C a) (ihb : Snd C b) : Snd C (.rng2 a b) where
  hE := fun _ p h => by cases p <;> simp [ck] at h
  hT := fun _ p h => by cases p <;> simp [ck] at h
  hW := fun _ p h => by cases p <;> simp [ck] at h
  hA := fun _ p h => by simp [cks] at h
  hO := fun _ p h => by simp [cko] at h
  hC := fun _ p h => by simp [ckc] at h
  hI := fun {S X H₀ τ δ σ nd H} at_ tg p hc T hT R h => by
    cases p with
    | Call f ps kws pos =>
      cases f with
      | Name y py =>
        rcases ps with _ | ⟨pa, _ | ⟨pb, _ | ⟨_, _⟩⟩⟩ <;> cases kws <;> try (exfalso; revert hc; simp [ck]; done)
        have hc1 : (decide (y = ("range" : Str)) && bltC S C.nb y && plainX pa && plainX pb && ck C.nb a S false pa && ck C.nb b S false pb) = true := hc
        simp only [Bool.and_eq_true, decide_eq_true_eq] at hc1
        obtain ⟨⟨⟨⟨⟨rfl, hg⟩, hp⟩, hp2⟩, hca⟩, hcb⟩ := hc1
        have hT : ((ty a τ).bind fun _ => (ty b τ).bind fun _ => some Tv.fr) = some T := hT
        obtain ⟨Ta, eTa, hT⟩ := Option.bind_eq_some_iff.mp hT
        obtain ⟨Tb, eTb, hT⟩ := Option.bind_eq_some_iff.mp hT
        cases hT
        obtain ⟨g1, g2, g3, g4⟩ := blt_of at_.G hg
        have h : FinG X σ H (((ev a δ >>= intD) >>= fun i => (ev b δ >>= intD) >>= fun j => rngD i j) >>= iterD) _ := h
        rw [VS.R.assoc] at h
        refine WI.of (pi_range2 g1 g3 (pa_cons pe_w (pa_cons pe_w pa_nil (star_plain hp2)) (star_plain hp)) (by rw [star_plain hp, star_plain hp2]; rfl) (star_plain hp2)) (iha.hE at_ pa hca Ta eTa _ (h.bind.bind.imp fun d H1 e1 kf1 h v vl => ?_))
        cases d with
        | int i =>
          obtain ⟨_, _, _, r⟩ := vl.rw
          rw [rw_int] at r
          have h := FinG.ok (σ := σ) h kf1
          have h : FinG X σ H1 ((((ev b δ >>= intD) >>= fun j => rngD i j) >>= iterD)) _ := h
          rw [VS.R.assoc] at h
          refine ihb.hE (at_.grow e1 kf1) pb hcb Tb eTb _ (h.bind.bind.imp fun d2 H2 e2 kf2 h w wl => ?_)
          cases d2 with
          | int j =>
            obtain ⟨_, _, _, r2⟩ := wl.rw
            rw [rw_int] at r2
            have h := FinG.ok (σ := σ) h kf2
            obtain ⟨c, q⟩ := fin_rng kf2 h
            exact ⟨i, j, by rw [r.1, r2.1], c, q⟩
          | _ => exact False.elim h
        | _ => exact False.elim h
      | _ => exact absurd hc (by simp [ck])
    | _ => exact absurd hc (by simp [ck])
theorem snd_cI {a : E} (iha : Snd C a) : Snd C (.cI a) := by
  refine Snd.of ?_ ?_ ?_ (fun _ _ => by simp [cks]) (fun _ _ => by simp [cko]) (fun _ _ => by simp [ckc]) (fun S p h => by cases p <;> exact h)
  · intro S X H₀ τ δ σ nd H at_ p hc T hT Q h
    have hca : ck C.nb a S false p = true := by cases p <;> exact hc
    have hT : ((ty a τ).bind fun _ => some Tv.fr) = some T := hT
    obtain ⟨Ta, eTa, hT⟩ := Option.bind_eq_some_iff.mp hT
    cases hT
    have h : FinG X σ H (ev a δ >>= fun d => if imm d = true then .ok d else .no) (fun d H' => ∀ v, Vl X.K H₀ H H' nd Tv.fr d v → Q v H') := h
    refine iha.hE at_ p hca Ta eTa _ (h.bind.imp fun d H1 e1 kf1 h v vl => ?_)
    obtain ⟨c, h⟩ := FinG.ite h
    obtain ⟨_, _, _, r⟩ := vl.rw
    exact FinG.ok (σ := σ) h kf1 v (Vl.imm r c)
  · intro S X H₀ τ δ σ nd H at_ p hc T hT Q h
    have hca : ck C.nb a S false p = true := by cases p <;> exact hc
    have hT : ((ty a τ).bind fun _ => some Tv.fr) = some T := hT
    obtain ⟨Ta, eTa, hT⟩ := Option.bind_eq_some_iff.mp hT
    have h : FinG X σ H ((ev a δ >>= fun d => if imm d = true then .ok d else .no) >>= boolD) (fun b H' => Q b H') := h
    refine iha.hT at_ p hca Ta eTa _ ?_
    have e : ((ev a δ >>= fun d => if imm d = true then R.ok d else .no) >>= boolD) = (ev a δ >>= boolD) := by
      cases q : ev a δ with
      | ok d => cases d <;> first | rfl | (show ((if imm _ = true then R.ok _ else .no) >>= boolD) = _; split <;> rfl)
      | ex x => rfl
      | no => rfl
    rw [e] at h
    exact h
  · rintro S X H₀ τ δ σ nd H at_ p hc hb T hT Q h
    have hca : ck C.nb a S false p = true := by cases p <;> exact hc
    have hT : ((ty a τ).bind fun _ => some Tv.fr) = some T := hT
    obtain ⟨Ta, eTa, hT⟩ := Option.bind_eq_some_iff.mp hT
    have h : FinG X σ H ((ev a δ >>= fun d => if imm d = true then .ok d else .no) >>= boolD) (fun b H' => Q b H') := h
    refine iha.hW at_ p hca hb Ta eTa _ ?_
    have e : ((ev a δ >>= fun d => if imm d = true then R.ok d else .no) >>= boolD) = (ev a δ >>= boolD) := by
      cases q : ev a δ with
      | ok d => cases d <;> first | rfl | (show ((if imm _ = true then R.ok _ else .no) >>= boolD) = _; split <;> rfl)
      | ex x => rfl
      | no => rfl
    rw [e] at h
    exact h
theorem snd_cL {a : E} (iha : Snd C a) : Snd C (.cL a) := by
  have nob : ∀ (δ : Sl), ∀ b, (ev (.cL a) δ >>= boolD) ≠ .ok b := by
    intro δ b
    show ((ev a δ >>= fun d => match d with
      | .list ds => if immL ds = true then R.ok (PyData.list ds) else .no
      | _ => .no) >>= boolD) ≠ .ok b
    cases q : ev a δ with
    | ok d =>
      cases d with
      | list ds =>
        show ((if immL ds = true then R.ok (PyData.list ds) else .no) >>= boolD) ≠ .ok b
        split <;> exact nofun
      | _ => exact nofun
    | ex x => exact nofun
    | no => exact nofun
  have exs : ∀ (δ : Sl) x, (ev (.cL a) δ >>= boolD) = .ex x → (ev a δ >>= boolD) = .ex x := by
    intro δ x h
    have h : ((ev a δ >>= fun d => match d with
      | .list ds => if immL ds = true then R.ok (PyData.list ds) else .no
      | _ => .no) >>= boolD) = .ex x := h
    cases q : ev a δ with
    | ok d =>
      rw [q] at h
      cases d with
      | list ds =>
        have h : ((if immL ds = true then R.ok (PyData.list ds) else .no) >>= boolD) = .ex x := h
        split at h <;> cases h
      | _ => cases h
    | ex y => rw [q] at h; exact h
    | no => rw [q] at h; cases h
  have tst : ∀ {X : Cx} {σ : St} {H : Hp} {δ : Sl} {Q : Bool → Hp → Prop}, FinG X σ H (ev (.cL a) δ >>= boolD) (fun b H' => Q b H') → FinG X σ H (ev a δ >>= boolD) (fun b H' => Q b H') := by
    intro X σ H δ Q h
    cases q : (ev (.cL a) δ >>= boolD) with
    | ok b => exact absurd q (nob δ b)
    | ex x => rw [exs δ x q]; rw [q] at h; exact h
    | no => rw [q] at h; exact False.elim h
  refine Snd.of ?_ ?_ ?_ (fun _ _ => by simp [cks]) (fun _ _ => by simp [cko]) (fun _ _ => by simp [ckc]) (fun S p h => by cases p <;> exact h)
  · intro S X H₀ τ δ σ nd H at_ p hc T hT Q h
    have hca : ck C.nb a S false p = true := by cases p <;> exact hc
    have hT : ((ty a τ).bind fun T => match T.t with
      | .S => none
      | _ => some Tv.fr) = some T := hT
    obtain ⟨Ta, eTa, hT⟩ := Option.bind_eq_some_iff.mp hT
    have h : FinG X σ H (ev a δ >>= fun d => match d with
      | .list ds => if immL ds = true then R.ok (PyData.list ds) else .no
      | _ => .no) (fun d H' => ∀ v, Vl X.K H₀ H H' nd T d v → Q v H') := h
    refine iha.hE at_ p hca Ta eTa _ (h.bind.imp fun d H1 e1 kf1 h v vl => ?_)
    cases d with
    | list ds =>
      obtain ⟨c, h⟩ := FinG.ite h
      obtain ⟨o, s, r, no, ho, _⟩ := vl
      rw [rw_lst] at r
      obtain ⟨ad, vs, o', s', rfl, hl, hr, n⟩ := r
      obtain ⟨eo, es, hr2⟩ := RwL.imm ds c hr
      subst eo es
      have nS : Ta.t ≠ .S := fun e => by rw [e] at hT; cases hT
      have hT2 : T = Tv.fr := by
        cases q : Ta.t with
        | S => exact absurd q nS
        | F => rw [q] at hT; cases hT; rfl
        | L t => rw [q] at hT; cases hT; rfl
      subst hT2
      have h2 : H1 ad = some (.lst vs) ∧ o = [ad] := by
        cases q : Ta.t with
        | S => exact absurd q nS
        | F => rw [q] at hl n; exact ⟨hl, n.1⟩
        | L t => rw [q] at hl n; exact ⟨hl, n.1⟩
      obtain ⟨h2, rfl⟩ := h2
      exact FinG.ok (σ := σ) h kf1 _ ⟨[ad], [], Rw.lstF h2 (hr2 .F), no, fun b z => ⟨(ho b z).1, by simp⟩, by simp, by simp⟩
    | _ => exact False.elim h
  · intro S X H₀ τ δ σ nd H at_ p hc T hT Q h
    have hca : ck C.nb a S false p = true := by cases p <;> exact hc
    obtain ⟨Ta, eTa, _⟩ := Option.bind_eq_some_iff.mp (show ((ty a τ).bind fun T => match T.t with
      | .S => none
      | _ => some Tv.fr) = some T from hT)
    exact iha.hT at_ p hca Ta eTa _ (tst h)
  · rintro S X H₀ τ δ σ nd H at_ p hc hb T hT Q h
    have hca : ck C.nb a S false p = true := by cases p <;> exact hc
    obtain ⟨Ta, eTa, _⟩ := Option.bind_eq_some_iff.mp (show ((ty a τ).bind fun T => match T.t with
      | .S => none
      | _ => some Tv.fr) = some T from hT)
    exact iha.hW at_ p hca hb Ta eTa _ (tst h)
end
end VS
set_option Elab.async false
set_option linter.all false
set_option maxRecDepth 100000
namespace VS
open PySem PySem.Spec L2
open PyProof.Rows hiding St
/-! ### comprehensions -/
theorem compL_ok {f : D → R (Option D)} : ∀ {xs ys : List D}, compL f xs = .ok ys → ∃ os : List (Option D), os.length = xs.length ∧ (∀ (i : Nat) x, xs[i]? = some x → ∃ o, os[i]? = some o ∧ f x = .ok o) ∧ ys = os.filterMap id
  | [], ys, h => by
    cases h
    exact ⟨[], rfl, fun i x h => by simp at h, rfl⟩
  | x :: xs, ys, h => by
    unfold compL at h
    cases q : f x with
    | ok o =>
      rw [q] at h
      have h : (compL f xs >>= fun ys => R.ok (o.toList ++ ys)) = .ok ys := h
      cases q2 : compL f xs with
      | ok zs =>
        rw [q2] at h
        obtain ⟨os, h1, h2, h3⟩ := compL_ok q2
        refine ⟨o :: os, by rw [List.length_cons, List.length_cons, h1], fun i z hz => ?_, ?_⟩
        · cases i with
          | zero =>
            simp at hz; subst hz
            exact ⟨o, rfl, q⟩
          | succ i => exact h2 i z (by simpa using hz)
        · have h : o.toList ++ zs = ys := R.ok.inj h
          subst h h3
          cases o <;> rfl
      | ex e => rw [q2] at h; cases h
      | no => rw [q2] at h; cases h
    | ex e => rw [q] at h; cases h
    | no => rw [q] at h; cases h
theorem take_fm (os : List (Option D)) (i : Nat) (o : Option D) (h : os[i]? = some o) : (os.take (i + 1)).filterMap id = (os.take i).filterMap id ++ o.toList := by
  rw [List.take_add_one, h, List.filterMap_append]
  cases o <;> rfl
theorem upd_eq {H : Hp} {D : Addr} {o : HO} (h : H D = some o) : H = upd (fun b => if b = D then none else H b) D o := by
  funext b
  unfold upd
  by_cases e : b = D
  · subst e; rw [if_pos rfl]; exact h
  · rw [if_neg e]
    show H b = if b = D then none else H b
    rw [if_neg e]
section
variable {C : Ctx} {S : Scp} {X : Cx} {H₀ H : Hp} {τ : Tys} {δ : Sl} {σ : St} {nd : List (List Addr × List Addr)}
/-- the readings of a comprehension's parts, for every block of it -/
def GU (X : Cx) (scope : Scope) (tg : Expr) : TG := fun v σ H Q => ∀ (s : Shared) (Hs : Hp) (Ca : Addr) (cl : List (Str × Addr)) (fp : List Addr), WG (X.blk s Hs scope (compEnvC scope cl Ca X.env) fp) tg v σ H Q
def QU (X : Cx) (scope : Scope) (ifs : List Expr) : TT := fun σ H Q => ∀ (s : Shared) (Hs : Hp) (Ca : Addr) (cl : List (Str × Addr)) (fp : List Addr), WQ (X.blk s Hs scope (compEnvC scope cl Ca X.env) fp) ifs σ H Q
def EU (X : Cx) (scope : Scope) (e : Expr) : TE := fun σ H Q => ∀ (s : Shared) (Hs : Hp) (Ca : Addr) (cl : List (Str × Addr)) (fp : List Addr), WE (X.blk s Hs scope (compEnvC scope cl Ca X.env) fp) e σ H Q
theorem gu_w {scope : Scope} {tg : Expr} (s : Shared) (Hs : Hp) (Ca : Addr) (cl : List (Str × Addr)) (fp : List Addr) : PG (X.blk s Hs scope (compEnvC scope cl Ca X.env) fp) tg (GU X scope tg) := ⟨fun pins s' σ H v u Q I r h => h s Hs Ca cl fp pins s' u I r⟩
theorem qu_w {scope : Scope} {ifs : List Expr} (s : Shared) (Hs : Hp) (Ca : Addr) (cl : List (Str × Addr)) (fp : List Addr) : PTs (X.blk s Hs scope (compEnvC scope cl Ca X.env) fp) ifs (QU X scope ifs) := ⟨fun pins s' σ H Q I h => h s Hs Ca cl fp pins s' I⟩
theorem eu_w {scope : Scope} {e : Expr} (s : Shared) (Hs : Hp) (Ca : Addr) (cl : List (Str × Addr)) (fp : List Addr) : PE (X.blk s Hs scope (compEnvC scope cl Ca X.env) fp) e (EU X scope e) := ⟨fun pins s' σ H Q I h => h s Hs Ca cl fp pins s' I⟩
def compW (T U : Tv) : Tv := if U.nm = .F then .fr else ⟨.S, U.B ++ T.B, U.a⟩
theorem compW_nm (T U : Tv) : (compW T U).nm = if U.nm = .F then .F else .S := by
  unfold compW
  split
  · rfl
  · unfold Tv.nm; split <;> rfl
def compF (tg : Tg) (cnd elt : E) (own : List (Str × Nat)) (δ : Sl) (x : D) : R (Option D) := setTg tg x (wipeD δ (own.map (·.2))) >>= fun δ' => evc cnd δ' >>= fun c => match c with
  | true => ev elt δ' >>= fun y => .ok (some y)
  | false => .ok none
theorem WG.kf0 {X : Cx} {p : Expr} {v : V} {σ : St} {H : Hp} {Q : St → Hp → Prop} (h : KF X.K H → WG X p v σ H Q) : WG X p v σ H Q := fun pins s u I r => h (kf_inv I) pins s u I r
theorem kf_erase {K : PySem.W.Frag} {Hx : Hp} {D : Addr} {o : HO} (kf : KF K (upd Hx D o)) (n : Hx D = none) : KF K Hx ∧ New K Hx D := by
  refine ⟨⟨fun a ob e => ?_, fun a xs h => kf.2 a xs (h.imp (fun z => (same_upd n).seq z) fun z => sqt_same (same_upd n) z)⟩, new_of kf n⟩
  have z := kf.1 a ob e
  by_cases q : a = D
  · rw [q]; exact n
  · rw [upd_ne q] at z; exact z
theorem set_wiped {σ : St} {u : Nat} : ∀ {vs : List Nat}, u ∈ vs → (wipe σ vs).set u none = wipe σ vs
  | w :: vs, h => by
    show ((wipe σ vs).set w none).set u none = (wipe σ vs).set w none
    by_cases e : w = u
    · subst e; rw [List.set_set]
    · rw [List.set_comm _ _ e, set_wiped ((List.mem_cons.mp h).resolve_left fun z => e z.symm)]
theorem wipe_sub {σ : St} {vs : List Nat} : ∀ {us : List Nat}, (∀ u ∈ us, u ∈ vs) → wipe (wipe σ vs) us = wipe σ vs
  | [], _ => rfl
  | u :: us, h => by
    show (wipe (wipe σ vs) us).set u none = wipe σ vs
    rw [wipe_sub fun z hz => h z (List.mem_cons_of_mem _ hz), set_wiped (h u List.mem_cons_self)]
/-- THE RULE: what the block of a comprehension reads -/
theorem comp_core {own : List (Str × Nat)} {tg : Tg} {it cnd elt : E} (ihi : Snd C it) (ihc : Snd C cnd) (ihe : Snd C elt) (at_ : At C S X H₀ τ δ σ nd H) {scope : Scope} {ptg pit pe : Expr} {pifs : List Expr}
    (hci : ck C.nb it S true pit = true) (hct : tgC (S.blk scope) tg ptg = true) (htg : tgIn (own.map (·.2)) tg = true) (hcc : ckc C.nb cnd (S.blk scope) pifs = true) (hce : ck C.nb elt (S.blk scope) false pe = true)
    {T U : Tv} (eT : ty it τ = some T) (eC : tyc cnd (setTy tg (some (.S, T.a)) (wipeT τ (own.map (·.2)))) = some ()) (eU : ty elt (setTy tg (some (.S, T.a)) (wipeT τ (own.map (·.2)))) = some U) {Q : VK}
    (h : FinG X σ H ((ev it δ >>= iterD) >>= fun xs => nox (compL (compF tg cnd elt own δ) xs) >>= fun ys => .ok (PyData.list ys)) (fun d H' => ∀ v, Vl X.K H₀ H H' nd (compT T U) d v → Q v H')) :
    tLc (WI X ptg pit) (GU X scope ptg) (QU X scope pifs) (EU X scope pe) (own.map (·.2)) σ H (fun v H' => KF X.K H' → Q v H') := by
  refine ihi.hI at_ ptg pit hci T eT _ (h.bind.imp fun xs H1 e1 kf1 h J vs St w hJ hSt hStd hsz hw hvl D hD => ?_)
  -- the values
  cases q : compL (compF tg cnd elt own δ) xs with
  | ex e => rw [q] at h; exact False.elim h
  | no => rw [q] at h; exact False.elim h
  | ok ys =>
    rw [q] at h
    have h : FinG X σ H1 (.ok (PyData.list ys)) (fun d H' => ∀ v, Vl X.K H₀ H H' nd (compT T U) d v → Q v H') := h
    obtain ⟨os, hol, hos, rfl⟩ := compL_ok q
    -- the items, shared
    obtain ⟨sI, rI, hsI, haI⟩ := hvl.allS at_.sv.sm
    have lenV : vs.length = xs.length := rI.length
    have oldI : ∀ b ∈ sI, Old X.K H1 b := fun b hb => RwL.old xs rI b (.inr hb)
    have ndl : ∀ (j : Nat) (p : List Addr × List Addr), nd[j]? = some p → (nd ++ [([], sI)])[j]? = some p := fun j p hp => by
      have := (List.getElem?_eq_some_iff.mp hp).1
      rw [List.getElem?_append_left this]; exact hp
    have ndx : (nd ++ [([], sI)])[nd.length]? = some ([], sI) := by simp
    have ndr : ∀ (j : Nat) (p : List Addr × List Addr), (nd ++ [([], sI)])[j]? = some p → nd[j]? = some p ∨ (j = nd.length ∧ p = ([], sI)) := fun j p hp => by
      by_cases hj : j < nd.length
      · rw [List.getElem?_append_left hj] at hp
        exact .inl hp
      · have hj2 := (List.getElem?_eq_some_iff.mp hp).1
        simp at hj2
        have e : j = nd.length := by omega
        subst e
        rw [ndx] at hp
        exact .inr ⟨rfl, (Option.some.inj hp).symm⟩
    have hold : ∀ (j : Nat) (p : List Addr × List Addr), (nd ++ [([], sI)])[j]? = some p → ∀ b, b ∈ p.1 ∨ b ∈ p.2 → Old X.K H1 b := fun j p hp b hb n => by
      rcases ndr j p hp with z | ⟨_, z⟩
      · exact at_.sv.old j p z b hb (n.back e1)
      · subst z
        exact oldI b (hb.resolve_left (by simp)) n
    -- the invariant
    refine ⟨fun i m Hi => m = vs.length - i ∧ i ≤ vs.length ∧ ∃ Hx acc, Hi = upd Hx D (.lst acc) ∧ Hx D = none ∧ Same H1 Hx ∧ acc.length ≤ i ∧
      (KF X.K Hi → VlL X.K H₀ H1 Hx (nd ++ [([], sI)]) (compW T U) ((os.take i).filterMap id) acc), ⟨vs.length, by omega, Nat.zero_le _, H1, [], rfl, hD, Same.refl _, Nat.le_refl _, fun _ => ?_⟩, fun i m Hi hW => ?_⟩
    · exact ⟨[], [], rwl_nil.mpr ⟨rfl, rfl, rfl⟩, List.nodup_nil, by simp, by simp, by simp⟩
    · obtain ⟨rfl, hi, Hx, acc, rfl, hDx, sx, hacc, hVl⟩ := hW
      have s1 : Same H1 (upd Hx D (.lst acc)) := sx.trans (same_upd hDx)
      have hSti := hStd.1 _ _ s1 hSt
      by_cases hlt : i < vs.length
      · -- a turn
        have hx : i < xs.length := by omega
        obtain ⟨o, ho, hf⟩ := hos i xs[i] (by simp [hx])
        refine .inr ⟨hJ.go i _ hSti hlt, fun H' => ∃ Hx acc, H' = upd Hx D (.lst acc) ∧ Hx D = none ∧ Same H1 Hx ∧ acc.length ≤ i + 1 ∧ (KF X.K H' → VlL X.K H₀ H1 Hx (nd ++ [([], sI)]) (compW T U) ((os.take (i + 1)).filterMap id) acc), fun H' hN => ?_, fun x H' hy => ?_⟩
        · obtain ⟨Hy, acc', r1, r2, r3, r4, r5⟩ := hN
          exact ⟨vs.length - (i + 1), by omega, rfl, hlt, Hy, acc', r1, r2, r3, r4, r5⟩
        · obtain ⟨rfl, hxv⟩ := hJ.yld i _ x _ hSti hy hlt
          intro s0 Hs0 Ca cl fp
          have G' := at_.G.blk s0 Hs0 scope cl Ca fp
          refine WG.kf0 fun kfi => ?_
          have kfi : KF X.K (upd Hx D (.lst acc)) := kfi
          obtain ⟨kfx, newD⟩ := kf_erase kfi hDx
          have VL := hVl kfi
          -- the item
          obtain ⟨v1, o1, s1', ev1, rv1, l1, l2⟩ := rI.item (i := i) (d := xs[i]) (by simp [hx])
          have eo1 : o1 = [] := List.sublist_nil.mp l1
          subst eo1
          have exv : v1 = x := by rw [hxv] at ev1; exact (Option.some.inj ev1).symm
          subst exv
          have rv2 : Rw X.K (upd Hx D (.lst acc)) xs[i] .S v1 [] s1' := Rw.same s1 _ rv1
          -- the target
          unfold compF at hf
          cases qt : setTg tg xs[i] (wipeD δ (own.map (·.2))) with
          | ex e => rw [qt] at hf; cases hf
          | no => rw [qt] at hf; cases hf
          | ok δ' =>
            rw [qt] at hf
            have hf : (evc cnd δ' >>= fun c => match c with
              | true => ev elt δ' >>= fun y => .ok (some y)
              | false => R.ok none) = .ok o := hf
            have sv0 := at_.sv.grow (e1.trans s1) kfi
            obtain ⟨nd0, sv1, in1⟩ := sv0.wipe (own.map (·.2))
            refine wg_tg (a := T.a) G' hct qt rv2 (fun ea b hb => haI ea b (l2.subset hb)) sv1 fun σ2 nd2 sv2 in2 hwp => ⟨(hwp _ htg).trans (wipe_sub fun _ z => z), ?_⟩
            -- the slots' nodes in the block
            have hnd2 : ∀ (j : Nat) (p : List Addr × List Addr), nd2[j]? = some p → (nd[j]? = some p) ∨ (p.1 = [] ∧ ∀ b ∈ p.2, b ∈ s1') := fun j p hp => by
              rcases in2 j p hp with z | z
              · rcases in1 j p z with z | z
                · exact .inl z
                · exact .inr ⟨z.1, fun b hb => absurd (z.2 b hb) (by simp)⟩
              · exact .inr z
            have at2 : ∀ s0 Hs0 Ca cl fp, At C (S.blk scope) (X.blk s0 Hs0 scope (compEnvC scope cl Ca X.env) fp) H₀ _ δ' σ2 nd2 (upd Hx D (.lst acc)) := fun s0 Hs0 Ca cl fp => ⟨at_.G.blk s0 Hs0 scope cl Ca fp, sv2⟩
            -- the end of a turn that keeps nothing
            have skip : ∀ H3, Same (upd Hx D (.lst acc)) H3 → KF X.K H3 → o = none → ∃ Hx acc, H3 = upd Hx D (.lst acc) ∧ Hx D = none ∧ Same H1 Hx ∧ acc.length ≤ i + 1 ∧ (KF X.K H3 → VlL X.K H₀ H1 Hx (nd ++ [([], sI)]) (compW T U) ((os.take (i + 1)).filterMap id) acc) := fun H3 s3 kf3 hon => by
              have hD3 := s3 D _ upd_same
              refine ⟨fun b => if b = D then none else H3 b, acc, upd_eq hD3, if_pos rfl, fun b ob e => ?_, by omega, fun _ => ?_⟩
              · have ne : b ≠ D := fun z => by rw [z, hD] at e; cases e
                show (if b = D then none else H3 b) = some ob
                rw [if_neg ne]
                exact s3 b ob (s1 b ob e)
              · rw [take_fm os i o ho, hon]
                show VlL _ _ _ _ _ _ ((os.take i).filterMap id ++ []) acc
                rw [List.append_nil]
                obtain ⟨ov, sv, r, rest⟩ := VL
                refine ⟨ov, sv, RwL.same (fun b ob e => ?_) _ r, rest⟩
                have ne : b ≠ D := fun z => by rw [z, hDx] at e; cases e
                show (if b = D then none else H3 b) = some ob
                rw [if_neg ne]
                exact s3 b ob ((upd_ne ne).trans e)
            intro s5 Hs5 Ca5 cl5 fp5
            have G5 := at2 s5 Hs5 Ca5 cl5 fp5
            refine ihc.hC G5 pifs hcc eC _ ?_
            cases qc : evc cnd δ' with
            | ex e => rw [qc] at hf; cases hf
            | no => rw [qc] at hf; cases hf
            | ok c =>
              rw [qc] at hf
              intro H3 s3 kf3
              have kf3 : KF X.K H3 := kf3
              cases c with
              | false =>
                have hf : (R.ok none : R (Option PyData)) = .ok o := hf
                rw [if_neg Bool.false_ne_true]
                exact skip H3 s3 kf3 (R.ok.inj hf).symm
              | true =>
                rw [if_pos rfl]
                have hf : (ev elt δ' >>= fun y => .ok (some y)) = R.ok o := hf
                intro s6 Hs6 Ca6 cl6 fp6
                have G6 := (at2 s6 Hs6 Ca6 cl6 fp6).grow s3 kf3
                refine ihe.hE G6 pe hce U eU _ ?_
                cases qe : ev elt δ' with
                | ex e => rw [qe] at hf; cases hf
                | no => rw [qe] at hf; cases hf
                | ok y =>
                  rw [qe] at hf
                  have hoy : some y = o := R.ok.inj hf
                  subst hoy
                  intro H4 s4 kf4 yv vy
                  have kf4 : KF X.K H4 := kf4
                  have vy : Vl X.K H₀ H3 H4 nd2 U y yv := vy
                  have hD3 := s3 D _ upd_same
                  have hD4 := s4 D _ hD3
                  refine ⟨acc, hD4, by omega, fun b => if b = D then none else H4 b, acc ++ [yv], ?_, if_pos rfl, fun b ob e => ?_, by rw [List.length_append]; simp; omega, fun _ => ?_⟩
                  · funext b
                    unfold upd
                    by_cases e : b = D
                    · rw [if_pos e, if_pos e]
                    · rw [if_neg e, if_neg e]
                      show H4 b = if b = D then none else H4 b
                      rw [if_neg e]
                  · have ne : b ≠ D := fun z => by rw [z, hD] at e; cases e
                    show (if b = D then none else H4 b) = some ob
                    rw [if_neg ne]
                    exact s4 b ob (s3 b ob (s1 b ob e))
                  · -- the new item's nodes are not the list
                    rw [take_fm os i _ ho]
                    have sxe : Same Hx (fun b => if b = D then none else H4 b) := fun b ob e => by
                      have ne : b ≠ D := fun z => by rw [z, hDx] at e; cases e
                      show (if b = D then none else H4 b) = some ob
                      rw [if_neg ne]
                      exact s4 b ob (s3 b ob ((upd_ne ne).trans e))
                    have new3 : ∀ b, New X.K H3 b → New X.K Hx b := fun b n => (n.back s3).back (same_upd hDx)
                    have neD3 : ∀ b, New X.K H3 b → b ≠ D := fun b n z => by
                      have := n.1
                      rw [z, hD3] at this
                      cases this
                    have slotOld : ∀ (j : Nat) (p : List Addr × List Addr), nd[j]? = some p → ∀ b, b ∈ p.1 ∨ b ∈ p.2 → b ≠ D := fun j p hp b hb z => by
                      refine at_.sv.old j p hp b hb ?_
                      rw [z]
                      exact newD.back (e1.trans sx)
                    obtain ⟨oy, sy, ry, ny, hoy, hsy, hay⟩ := Vl.nm (sv2.sm.trans s3) vy
                    have far : ∀ b, b ∈ oy ∨ b ∈ sy → b ≠ D := fun b hb => by
                      rcases hb with hb | hb
                      · exact neD3 b (hoy b hb).1
                      · rcases hsy b hb with z | ⟨j, p, hp, hb2⟩
                        · exact neD3 b z
                        · rcases hnd2 j p hp with z | ⟨z1, z2⟩
                          · exact slotOld j p z b (hb2.elim .inr fun q => .inl q.2)
                          · rcases hb2 with hb2 | hb2
                            · intro e
                              refine oldI b (l2.subset (z2 b hb2)) ?_
                              rw [e]
                              exact newD.back sx
                            · rw [z1] at hb2; exact nomatch hb2.2
                    have ry2 : Rw X.K (fun b => if b = D then none else H4 b) y U.nm yv oy sy := by
                      refine Rw.frame (fun b zs hb => ?_) y (fun b hb => if_neg (far b hb)) ry
                      have ne : b ≠ D := fun z => by
                        rcases hb with hb | ⟨ob, hb⟩ <;> (rw [z, hD4] at hb; cases hb)
                      rcases hb with hb | ⟨ob, hb⟩
                      · exact .inl ((if_neg ne).trans hb)
                      · exact .inr ⟨ob, (if_neg ne).trans hb⟩
                    have vy2 : VlL X.K H₀ Hx (fun b => if b = D then none else H4 b) (nd ++ [([], sI)]) (compW T U) [y] [yv] := by
                      have clo : ∀ b, b ∈ sy → New X.K Hx b ∨ ∃ i p, (nd ++ [([], sI)])[i]? = some p ∧ (b ∈ p.2 ∨ (i ∈ U.B ++ T.B ∧ b ∈ p.1)) := fun b hb => by
                        rcases hsy b hb with z | ⟨j, p, hp, hb2⟩
                        · exact .inl (new3 b z)
                        · rcases hnd2 j p hp with z | ⟨z1, z2⟩
                          · exact .inr ⟨j, p, ndl j p z, hb2.imp id fun q => ⟨List.mem_append_left _ q.1, q.2⟩⟩
                          · rcases hb2 with hb2 | hb2
                            · exact .inr ⟨nd.length, _, ndx, .inl (l2.subset (z2 b hb2))⟩
                            · rw [z1] at hb2; exact nomatch hb2.2
                      by_cases cU : U.nm = .F
                      · rw [show compW T U = .fr from if_pos cU]
                        rw [cU] at ry2
                        have es := Rw.f_s _ ry2
                        subst es
                        exact ⟨oy, [], RwL.one ry2, ny, fun b hb => ⟨new3 b (hoy b hb).1, by simp⟩, by simp, by simp⟩
                      · obtain ⟨p, qs, r3, l3⟩ := Rw.less y (Ty.le_S _) ry2
                        have ep := Rw.s_o _ r3
                        subst ep
                        have enm : (compW T U).nm = .S := by rw [compW_nm, if_neg cU]
                        refine ⟨[], qs, by rw [enm]; exact RwL.one r3, List.nodup_nil, by simp, fun b hb => ?_, fun ea b hb => ?_⟩
                        · rw [show compW T U = ⟨.S, U.B ++ T.B, U.a⟩ from if_neg cU]
                          rcases l3.mem hb with z | z
                          · exact .inl (new3 b (hoy b z).1)
                          · exact clo b z
                        · rw [show compW T U = ⟨.S, U.B ++ T.B, U.a⟩ from if_neg cU] at ea
                          rcases l3.mem hb with z | z
                          · exact (hoy b z).1.back (sv2.sm.trans s3)
                          · exact hay ea b z
                    have vap := VlL.append (at_.sv.sm.trans e1) sx sxe hold VL vy2
                    by_cases cU : U.nm = .F
                    · rw [show compW T U = .fr from if_pos cU] at vap ⊢
                      exact vap
                    · rw [show compW T U = ⟨.S, U.B ++ T.B, U.a⟩ from if_neg cU] at vap ⊢
                      refine VlL.less (at_.sv.sm.trans e1) (fun i z => ?_) (fun z => ?_) (Ty.le_S _) (by unfold Tv.nm; split <;> rfl) vap
                      · have z : i ∈ (U.B ++ T.B) ++ (U.B ++ T.B) := z
                        exact (List.mem_append.mp z).elim id id
                      · show (U.a || U.a) = false
                        rw [z]; rfl
      · -- the end
        have ei : i = vs.length := by omega
        subst ei
        refine .inl ⟨hJ.stop _ hSti, fun kfi => ?_⟩
        obtain ⟨kfx, newD⟩ := kf_erase kfi hDx
        have VL := hVl kfi
        have et : os.take vs.length = os := List.take_of_length_le (by omega)
        rw [et] at VL
        refine h _ s1 kfi _ ?_
        obtain ⟨ov, sv, r, nv, hov, hsv, hav⟩ := VL
        have hv2 : VlL X.K H₀ H Hx nd (compW T U) (os.filterMap id) acc := by
          refine ⟨ov, sv, r, nv, fun b hb => ⟨(hov b hb).1.back e1, (hov b hb).2⟩, fun b hb => ?_, hav⟩
          have hB : ∀ i ∈ T.B, b ∈ sI → i ∈ (compW T U).B ∨ U.nm = .F := fun i hi _ => by
            by_cases cU : U.nm = .F
            · exact .inr cU
            · left; rw [show compW T U = ⟨.S, U.B ++ T.B, U.a⟩ from if_neg cU]; exact List.mem_append_right _ hi
          have noF : U.nm ≠ .F := fun cU => by
            rw [compW_nm, if_pos cU] at r
            rw [RwL.f_s _ r] at hb
            exact nomatch hb
          rcases hsv b hb with z | ⟨j, p, hp, hb2⟩
          · exact .inl (z.back e1)
          · rcases ndr j p hp with z | ⟨_, z⟩
            · exact .inr ⟨j, p, z, hb2⟩
            · subst z
              have hb3 : b ∈ sI := hb2.resolve_right (by simp)
              rcases hsI b hb3 with z | ⟨k, p, hp, hb4⟩
              · exact .inl z
              · exact .inr ⟨k, p, hp, hb4.imp id fun q => ⟨(hB k q.1 hb3).resolve_right noF, q.2⟩⟩
        have e1x : Same H Hx := e1.trans sx
        have fin := Vl.newLst at_.sv.sm e1x hDx kfi hv2 at_.sv.old
        rw [compW_nm] at fin
        unfold compT
        by_cases cU : U.nm = .F
        · rw [if_pos cU]
          rw [if_pos (by rw [if_pos cU])] at fin
          exact fin
        · rw [if_neg cU]
          rw [if_neg (by rw [if_neg cU]; exact nofun), if_neg cU] at fin
          rw [show compW T U = ⟨.S, U.B ++ T.B, U.a⟩ from if_neg cU] at fin
          exact fin
end
end VS
set_option Elab.async false
set_option linter.all false
set_option maxRecDepth 100000
namespace VS
open PySem PySem.Spec L2
open PyProof.Rows hiding St
section
variable {C : Ctx}
theorem snd_comp {own : List (Str × Nat)} {tg : Tg} {it cnd elt : E} (ihi : Snd C it) (ihc : Snd C cnd) (ihe : Snd C elt) : Snd C (.comp own tg it cnd elt) := by
  have hE : ∀ {S X H₀ τ δ σ nd H}, At C S X H₀ τ δ σ nd H → ∀ (p : Expr), ck C.nb (.comp own tg it cnd elt) S false p = true → ∀ T, ty (.comp own tg it cnd elt) τ = some T → ∀ Q : VK, FinG X σ H (ev (.comp own tg it cnd elt) δ) (fun d H' => ∀ v, Vl X.K H₀ H H' nd T d v → Q v H') → WE X p σ H Q := by
    intro S X H₀ τ δ σ nd H at_ p hc T hT Q h
    cases p with
    | ListComp pe gs scope pos =>
      rcases gs with _ | ⟨⟨ptg, pit, pifs, n⟩, _ | ⟨_, _⟩⟩ <;> try (exfalso; revert hc; simp [ck]; done)
      rcases n with (_ | n) | n <;> try (exact absurd hc (by intro z; cases z))
      have hc1 : (blkC S.N S.sc scope own && plainX pit && ck C.nb it S true pit && tgC (S.blk scope) tg ptg && tgIn (own.map (·.2)) tg && ckc C.nb cnd (S.blk scope) pifs && ck C.nb elt (S.blk scope) false pe) = true := hc
      simp only [Bool.and_eq_true, decide_eq_true_eq] at hc1
      obtain ⟨⟨⟨⟨⟨⟨h1, h2⟩, h3⟩, h4⟩, h5⟩, h6⟩, h7⟩ := hc1
      have hT : ((ty it τ).bind fun Ti => (tyc cnd (setTy tg (some (.S, Ti.a)) (wipeT τ (own.map (·.2))))).bind fun _ =>
            (ty elt (setTy tg (some (.S, Ti.a)) (wipeT τ (own.map (·.2))))).bind fun U => some (compT Ti U)) = some T := hT
      obtain ⟨Ti, e1, hT⟩ := Option.bind_eq_some_iff.mp hT
      obtain ⟨⟨⟩, e2, hT⟩ := Option.bind_eq_some_iff.mp hT
      obtain ⟨U, e3, hT⟩ := Option.bind_eq_some_iff.mp hT
      cases hT
      have h : FinG X σ H (ev it δ >>= iterD >>= fun xs => nox (compL (compF tg cnd elt own δ) xs) >>= fun ys => .ok (PyData.list ys)) (fun d H' => ∀ v, Vl X.K H₀ H H' nd (compT Ti U) d v → Q v H') := h
      refine WE.kf (WE.of (pe_lc (own := own) at_.G.calm (by rw [at_.G.N]; exact at_.G.nd) pi_w (blkOk_by (by rw [at_.G.N, at_.G.sc]; exact h1)) gu_w qu_w eu_w (plain_folded h2)) ?_)
      refine comp_core ihi ihc ihe at_ h3 h4 h5 h6 h7 e1 e2 e3 ?_
      exact h
    | _ => exact absurd hc (by simp [ck])
  refine Snd.of hE ?_ ?_ (fun _ _ => by simp [cks]) (fun _ _ => by simp [cko]) (fun _ _ => by simp [ckc]) (fun _ p h => by
    cases p with
    | ListComp pe gs scope pos =>
      rcases gs with _ | ⟨⟨ptg, pit, pifs, n⟩, _ | ⟨_, _⟩⟩ <;> first | (exfalso; revert h; simp [ck]; done) | (rcases n with (_ | n) | n <;> first | exact h | exact absurd h (by intro z; cases z))
    | _ => exact absurd h (by simp [ck]))
  · intro S X H₀ τ δ σ nd H at_ p hc T hT Q h
    cases p with
    | ListComp pe gs scope pos =>
      rcases gs with _ | ⟨⟨ptg, pit, pifs, n⟩, _ | ⟨_, _⟩⟩ <;> try (exfalso; revert hc; simp [ck]; done)
      rcases n with (_ | n) | n <;> try (exact absurd hc (by intro z; cases z))
      exact wt_val (fun Q => hE at_ _ hc T hT Q) h
    | _ => exact absurd hc (by simp [ck])
  · rintro S X H₀ τ δ σ nd H at_ p hc ⟨op, vs, pos, rfl⟩ T hT Q h
    exact absurd hc (by simp [ck])
/-- every tree is sound -/
theorem snd : ∀ (e : E), okE C e → Snd C e
  | .sl i, _ => snd_sl i
  | .k c, _ => snd_k c
  | .gl x d, h => snd_gl h
  | .ari _ a b, h => snd_ari (snd a h.1) (snd b h.2)
  | .cat a b, h => snd_cat (snd a h.1) (snd b h.2)
  | .rep a b, h => snd_rep (snd a h.1) (snd b h.2)
  | .neg a, h => snd_neg (snd a h)
  | .not a, h => snd_not (snd a h)
  | .and a b, h => snd_and (snd a h.1) (snd b h.2)
  | .or a b, h => snd_or (snd a h.1) (snd b h.2)
  | .one a, h => snd_one (snd a h)
  | .cmp _ a b, h => snd_cmp (snd a h.1) (snd b h.2)
  | .chain _ _ a b c, h => snd_chain (snd a h.1) (snd b h.2.1) (snd c h.2.2)
  | .ife c a b, h => snd_ife (snd c h.1) (snd a h.2.1) (snd b h.2.2)
  | .tup es, h => snd_tup (snd es h)
  | .lst es, h => snd_lst (snd es h)
  | .nil, h => snd_nil
  | .cons a es, h => snd_cons (snd a h.1) (snd es h.2)
  | .ix a i, h => snd_ix (snd a h.1) (snd i h.2)
  | .slc a lo hi, h => snd_slc (snd a h.1) (snd lo h.2.1) (snd hi h.2.2)
  | .nop, h => snd_nop
  | .prt a, h => snd_prt (snd a h)
  | .call x F t es, h => snd_call h.1 (snd es h.2)
  | .blt _ es, h => snd_blt (snd es h)
  | .isi _ a, h => snd_isi (snd a h)
  | .comp _ _ it c e, h => snd_comp (snd it h.1) (snd c h.2.1) (snd e h.2.2)
  | .rng1 a, h => snd_rng1 (snd a h)
  | .rng2 a b, h => snd_rng2 (snd a h.1) (snd b h.2)
  | .cI a, h => snd_cI (snd a h)
  | .cL a, h => snd_cL (snd a h)
end
end VS
set_option Elab.async false
set_option linter.all false
set_option maxRecDepth 100000
namespace VS
open PySem PySem.Spec L2
open PyProof.Rows hiding St
/-! ### statements: the trees -/
inductive MOp where
  | app
  deriving DecidableEq
inductive S where
  | nil
  | seq (a b : S)
  | asg (tg : Tg) (e : E)
  | par (i j : Nat) (es : E)
  | mu (op : MOp) (tf : Bool) (p es : E)
  | setI (tf : Bool) (p i e : E)
  | ret (e : E)
  | retS (i : Nat)
  | ife (c : E) (a b : S)
  | forE (tg : Tg) (it : E) (im : Bool) (τi : Tys) (body : S)
  | whi (fuel : Sl → Nat) (τi : Tys) (c : E) (body : S)
  | drop (e : E)
/-! ### what they do -/
inductive Out where
  | nx (δ : Sl)
  | rt (d : D)
  | ex (x : Ex) (δ : Sl)
  | no
def Out.thn (o : Out) (f : Sl → Out) : Out := match o with
  | .nx δ => f δ
  | .rt d => .rt d
  | .ex x δ => .ex x δ
  | .no => .no
def lft {α : Type} (δ : Sl) (r : R α) (f : α → Out) : Out := match r with
  | .ok a => f a
  | .ex x => .ex x δ
  | .no => .no
def forL (f : D → Sl → Out) : List D → Sl → Out
  | [], δ => .nx δ
  | x :: xs, δ => (f x δ).thn (forL f xs)
def whL (c : Sl → R Bool) (f : Sl → Out) : Nat → Sl → Out
  | 0, _ => .no
  | n + 1, δ => lft δ (c δ) fun b => match b with
    | true => (f δ).thn (whL c f n)
    | false => .nx δ
def stepD {α : Type} (xs : List α) (k : D) : Option Nat := match k with
  | .int n => ixN xs.length n
  | _ => none
def modG (tf : Bool) (f : List D → R (List D)) : List D → D → R D
  | [], .list xs => f xs >>= fun ys => .ok (.list ys)
  | k :: ks, .list xs => match stepD xs k with
    | some j => match xs[j]? with
      | some x => modG tf f ks x >>= fun y => .ok (.list (xs.set j y))
      | none => .no
    | none => .no
  | k :: ks, .tuple xs => match tf with
    | true => match stepD xs k with
      | some j => match xs[j]? with
        | some x => modG tf f ks x >>= fun y => .ok (.tuple (xs.set j y))
        | none => .no
      | none => .no
    | false => .no
  | _, _ => .no
def mop (op : MOp) (ds : List D) (xs : List D) : R (List D) := match op with
  | .app => match ds with
    | [d] => if xs.length < sizeLine then .ok (xs ++ [d]) else .no
    | _ => .no
def setD (i d : D) (xs : List D) : R (List D) := match stepD xs i with
  | some j => .ok (xs.set j d)
  | none => .no
/-- a path: its slot, its keys -/
def pthI : E → Nat
  | .ix p _ => pthI p
  | .sl i => i
  | _ => 0
def pthN : E → Nat
  | .ix p _ => pthN p + 1
  | _ => 0
def pthD : E → Sl → R (List D)
  | .sl _, _ => .ok []
  | .ix p i, δ => pthD p δ >>= fun ks => ev i δ >>= fun k => .ok (ks ++ [k])
  | _, _ => .no
def sev : S → Sl → Out
  | .nil, δ => .nx δ
  | .seq a b, δ => (sev a δ).thn (sev b)
  | .asg tg e, δ => lft δ (ev e δ) fun d => lft δ (setTg tg d δ) .nx
  | .par i j es, δ => lft δ (evl es δ) fun ds => lft δ (setTgs [i, j] ds δ) .nx
  | .mu op tf p es, δ => lft δ (nox (pthD p δ)) fun ks => lft δ (slotD δ (pthI p)) fun d => lft δ (nox (modG tf .ok ks d)) fun _ => lft δ (evl es δ) fun ds => lft δ (nox (modG tf (mop op ds) ks d)) fun d' => .nx (δ.set (pthI p) (some d'))
  | .setI tf p i e, δ => lft δ (ev e δ) fun y => lft δ (nox (pthD p δ)) fun ks => lft δ (nox (ev i δ)) fun k => lft δ (slotD δ (pthI p)) fun d => lft δ (nox (modG tf (setD k y) ks d)) fun d' => .nx (δ.set (pthI p) (some d'))
  | .ret e, δ => lft δ (ev e δ) .rt
  | .retS i, δ => lft δ (slotD δ i) .rt
  | .ife c a b, δ => lft δ (ev c δ >>= boolD) fun r => match r with
    | true => sev a δ
    | false => sev b δ
  | .forE tg it im _ body, δ => lft δ (ev it δ >>= iterD) fun xs => match (!im || immL xs) with
    | true => forL (fun x δ => lft δ (setTg tg x δ) (sev body)) xs δ
    | false => .no
  | .whi fuel _ c body, δ => whL (fun δ => ev c δ >>= boolD) (sev body) (fuel δ) δ
  | .drop e, δ => lft δ (ev e δ) fun _ => .nx δ
/-! ### a tree is the text's -/
def noComp : Expr → Bool
  | .ListComp .. => false
  | .SetComp .. => false
  | .DictComp .. => false
  | _ => true
def isComp : E → Bool
  | .comp .. => true
  | _ => false
def noLc (S : Scp) : Expr → Expr → Bool
  | .Name x _, e => noComp e || decide (S.sc.names.lookup x = some .cell)
  | _, e => noComp e
def lcOk (S : Scp) (l : Nat) : Expr → Expr → Bool
  | .Name x p, .ListComp _ _ scope pos => decide (S.sc.names.lookup x = some .local) && (p.line == pos.line) && !(scope.names.any fun (n, k) => n == x && (k == .local || k == .cell))
  | _, _ => false
def noSwap : Expr → Expr → Bool
  | .Tuple _ _ _, .Tuple vs _ _ => vs.all (foldedForSure 8)
  | _, _ => true
def parC (S : Scp) (i j : Nat) : Expr → Expr → Bool
  | .Tuple [.Name x px, .Name y py] _ _, .Tuple [a, b] _ _ => decide (S.N[i]? = some x) && decide (S.N[j]? = some y) && decide (i ≠ j) && decide (x ≠ y) && decide (S.sc.names.lookup x = some .local) && decide (S.sc.names.lookup y = some .local) &&
      (py.line == px.line) && plainX a && plainX b && !([a, b].all (foldedForSure 8)) && !([a, b].all (constantsAlone 8))
  | _, _ => false
def MOp.nm : MOp → String
  | .app => "append"
def isPth : E → Bool
  | .sl _ => true
  | .ix p _ => isPth p
  | _ => false
def cksT (nb : List Str) (es : E) (S : Scp) : Expr → Bool
  | .Tuple ps _ _ => cks nb es S ps
  | _ => false
mutual
def cs1 (nb : List Str) : S → Scp → Stmt → Bool
  | .asg tg e, S, .Assign [ptg] pe pos => tgC S tg ptg && ck nb e S false pe && (noLc S ptg pe || (isComp e && lcOk S pos.line ptg pe)) && noSwap ptg pe
  | .par i j es, S, .Assign [ptg] pe pos => parC S i j ptg pe && cksT nb es S pe
  | .mu op _ p es, S, .Expr (.Call (.Attribute po name apos) (pa :: ps) [] cpos) pos => decide (name = (op.nm : Str)) && (apos.endLine == cpos.line) && isPth p && ck nb p S false po && cks nb es S (pa :: ps) && decide (ps.length < 20)
  | .setI _ p i e, S, .Assign [.Subscript po pi _] pe pos => isPth p && ck nb p S false po && plainX pi && ck nb i S false pi && ck nb e S false pe
  | .ret e, S, .Return (some pe) _ => ck nb e S false pe
  | .retS i, S, .Return (some (.Name x _)) _ => visC S i x
  | .ife c a b, S, .If pc pa pb _ => ck nb c S false pc && csk nb a S pa && csk nb b S pb
  | .forE tg it _ _ body, S, .For ptg pit pbody [] _ => ck nb it S true pit && plainX pit && tgC S tg ptg && csk nb body S pbody
  | .whi _ _ c body, S, .While pc pbody [] _ => ck nb c S false pc && csk nb body S pbody
  | .drop e, S, .Expr pe pos => ck nb e S false pe && noComp pe
  | _, _, _ => false
def csk (nb : List Str) : S → Scp → List Stmt → Bool
  | .nil, _, [] => true
  | .seq a b, S, st :: rest => cs1 nb a S st && csk nb b S rest
  | _, _, _ => false
end
/-! ### who owns what, behind them -/
def leTy1 : Option (Option (Ty × Bool)) → Option (Option (Ty × Bool)) → Bool
  | some (some (t, a)), some (some (u, b)) => Ty.le t u && (!a || b)
  | _, some (some _) => false
  | _, _ => true
def leTys (τ τ' : Tys) : Bool := (List.range τ'.length).all fun i => leTy1 τ[i]? τ'[i]?
def joinTy1 : Option (Ty × Bool) → Option (Ty × Bool) → Option (Ty × Bool)
  | some (t, a), some (u, b) => some (Ty.join t u, a || b)
  | _, _ => none
def joinTys (τ τ' : Tys) : Tys := List.zipWith joinTy1 τ τ'
def joinO : Option Tys → Option Tys → Option Tys
  | none, r => r
  | r, none => r
  | some τ, some τ' => some (joinTys τ τ')
def demT (τ : Tys) (B : List Nat) : Tys := B.foldl (fun τ j => match τ[j]? with
  | some (some (_, a)) => τ.set j (some (.S, a))
  | _ => τ) τ
/-- the type of a list's items at the end of a path -/
def tyAt : Nat → Ty → Option Ty
  | _, .S => none
  | _, .F => some .F
  | 0, .L t => some t
  | n + 1, .L t => tyAt n t
/-- the type behind a write of u -/
def wkP : Nat → Ty → Ty → Ty
  | 0, t, u => if t = .F ∧ u = .F then .F else .L (Ty.join t.el u)
  | n + 1, t, u => if t = .F ∧ u = .F then .F else .L (wkP n t.el u)
def ptyOk : E → Tys → Bool
  | .sl _, _ => true
  | .ix p i, τ => ptyOk p τ && (ty i τ).isSome
  | _, _ => false
structure SC where
  rt : Ty
  τx : Tys
def ifB {α : Type} (b : Bool) (o : Option α) : Option α := match b with
  | true => o
  | false => none
def muT (tf : Bool) (i n : Nat) (T : Tv) (τ : Tys) : Option Tys := match (demT τ T.B)[i]? with
  | some (some (t, a)) => ifB ((tyAt n t).isSome && decide (i ∉ T.B) && (!tf || (decide (t = .F) && decide (T.nm = .F)))) (some ((demT τ T.B).set i (some (wkP n t T.nm, a || T.a))))
  | _ => none
def leO (r : Option Tys) (τ : Tys) : Bool := match r with
  | none => true
  | some τ' => leTys τ' τ
def sty (c : SC) : S → List Nat → Tys → Option (Option Tys)
  | .nil, _, τ => some (some τ)
  | .seq a b, fz, τ => (sty c a fz τ).bind fun r => match r with
    | some τ' => sty c b fz τ'
    | none => some none
  | .asg (.one i) e, _, τ => ifB (leTys τ c.τx) ((ty e τ).bind fun T => some (some ((demT τ T.B).set i (some (T.t, T.a)))))
  | .asg (.tup is) e, _, τ => ifB (leTys τ c.τx) ((ty e τ).bind fun T => some (some (setTy (.tup is) (some (if T.nm = .F then (.F, false) else (.S, T.a))) (demT τ T.B))))
  | .par i j es, _, τ => ifB (leTys τ c.τx) ((tys es τ).bind fun T => some (some (setTy (.tup [i, j]) (some (T.nm, T.a)) (demT τ T.B))))
  | .mu _ tf p es, fz, τ => ifB (leTys τ c.τx && ptyOk p τ && decide (pthI p ∉ fz)) ((tys es τ).bind fun T => (muT tf (pthI p) (pthN p) T τ).bind fun τ' => some (some τ'))
  | .setI tf p i e, fz, τ => ifB (leTys τ c.τx && ptyOk p τ && (ty i τ).isSome && decide (pthI p ∉ fz)) ((ty e τ).bind fun T => (muT tf (pthI p) (pthN p) T τ).bind fun τ' => some (some τ'))
  | .ret e, _, τ => ifB (leTys τ c.τx) ((ty e τ).bind fun T => ifB (Ty.le T.t c.rt) (some none))
  | .retS i, _, τ => match τ[i]? with
    | some (some (t, _)) => ifB (Ty.le t c.rt) (some none)
    | _ => none
  | .ife e a b, fz, τ => ifB (leTys τ c.τx) ((ty e τ).bind fun _ => (sty c a fz τ).bind fun r1 => (sty c b fz τ).bind fun r2 => some (joinO r1 r2))
  | .forE tg it im τi body, fz, τ => ifB (leTys τ c.τx && leTys τ τi) ((ty it τ).bind fun T => ifB (im || T.B.all fun j => match τi[j]? with
      | some (some (t, _)) => decide (t = .S)
      | _ => true) ((sty c body (fz ++ T.B) (setTy tg (some (if im = true then (.F, false) else (.S, T.a))) τi)).bind fun r => ifB (leO r τi) (some (some τi))))
  | .whi _ τi e body, fz, τ => ifB (leTys τ τi && leTys τi c.τx) ((ty e τi).bind fun _ => (sty c body fz τi).bind fun r => ifB (leO r τi) (some (some τi)))
  | .drop e, _, τ => ifB (leTys τ c.τx) ((ty e τ).bind fun _ => some (some τ))
end VS
set_option Elab.async false
set_option linter.all false
set_option maxRecDepth 100000
namespace VS
open PySem PySem.Spec L2
open PyProof.Rows hiding St
/-! ### the slots between statements -/
/-- what must stay: the pinned nodes (each with the slots that may own it) and a promise about the heap -/
structure Keep where
  pn : List (Addr × List Nat)
  J : Hp → Prop
structure KeepOk (W : Keep) : Prop where
  same : ∀ H H', Same H H' → W.J H → W.J H'
  upd : ∀ H a u, MutAt H a → (∀ q ∈ W.pn, q.1 ≠ a) → W.J H → W.J (upd H a u)
/-- a slot's value may lie so -/
structure SlOk (K : PySem.W.Frag) (H₀ : Hp) (A₀ : List Addr) (H : Hp) (p : List Addr × List Addr) : Prop where
  nd : p.1.Nodup
  ap : ∀ b ∈ p.1, b ∉ p.2
  new : ∀ b ∈ p.1, New K H₀ b ∧ MutAt H b
  shr : ∀ b ∈ p.2, New K H₀ b ∨ b ∈ A₀
  old : ∀ b, b ∈ p.1 ∨ b ∈ p.2 → Old K H b
structure SI (K : PySem.W.Frag) (H₀ : Hp) (A₀ : List Addr) (W : Keep) (τ : Tys) (δ : Sl) (σ : St) (nd : List (List Addr × List Addr)) (H : Hp) : Prop where
  kf : KF K H
  sm : Same H₀ H
  ls : σ.length = δ.length
  ln : nd.length = δ.length
  rep : ∀ (i : Nat) (d : D) (t : Ty) (a : Bool), δ[i]? = some (some d) → τ[i]? = some (some (t, a)) → ∃ v o s, σ[i]? = some (some v) ∧ nd[i]? = some (o, s) ∧ Rw K H d t v o s ∧ (a = false → ∀ b ∈ s, New K H₀ b)
  slot : ∀ (i : Nat) (p : List Addr × List Addr), nd[i]? = some p → SlOk K H₀ A₀ H p
  sep : ∀ (i j : Nat) (p q : List Addr × List Addr), nd[i]? = some p → nd[j]? = some q → i ≠ j → ∀ b ∈ p.1, b ∉ q.1 ∧ b ∉ q.2
  pin : ∀ q ∈ W.pn, Old K H q.1 ∧ ∀ (i : Nat) (p : List Addr × List Addr), nd[i]? = some p → q.1 ∈ p.1 → i ∈ q.2
  J : W.J H
section
variable {K : PySem.W.Frag} {H₀ H H1 : Hp} {A₀ : List Addr} {W : Keep} {τ τ' : Tys} {δ : Sl} {σ : St} {nd : List (List Addr × List Addr)}
theorem SI.sv (h : SI K H₀ A₀ W τ δ σ nd H) : SV K H₀ H τ δ σ nd where
  kf := h.kf
  sm := h.sm
  ls := h.ls
  ln := h.ln
  rep := h.rep
  old := fun i p e => (h.slot i p e).old
  own := fun i p e => (h.slot i p e).new
theorem SlOk.grow {p : List Addr × List Addr} (e : Same H H1) (h : SlOk K H₀ A₀ H p) : SlOk K H₀ A₀ H1 p where
  nd := h.nd
  ap := h.ap
  new := fun b hb => ⟨(h.new b hb).1, let ⟨u, hu, m⟩ := (h.new b hb).2; ⟨u, e _ _ hu, m⟩⟩
  shr := h.shr
  old := fun b hb n => h.old b hb (n.back e)
theorem SI.grow (ok : KeepOk W) (e : Same H H1) (kf : KF K H1) (h : SI K H₀ A₀ W τ δ σ nd H) : SI K H₀ A₀ W τ δ σ nd H1 where
  kf := kf
  sm := h.sm.trans e
  ls := h.ls
  ln := h.ln
  rep := fun i d t a h1 h2 => by
    obtain ⟨v, o, s, h3, h4, h5, h6⟩ := h.rep i d t a h1 h2
    exact ⟨v, o, s, h3, h4, Rw.same e d h5, h6⟩
  slot := fun i p h1 => (h.slot i p h1).grow e
  sep := h.sep
  pin := fun q hq => ⟨fun n => (h.pin q hq).1 (n.back e), (h.pin q hq).2⟩
  J := ok.same _ _ e h.J
/-- fewer things to keep -/
theorem SI.less {W' : Keep} (hp : ∀ q ∈ W'.pn, q ∈ W.pn) (hJ : W.J H → W'.J H) (h : SI K H₀ A₀ W τ δ σ nd H) : SI K H₀ A₀ W' τ δ σ nd H :=
  ⟨h.kf, h.sm, h.ls, h.ln, h.rep, h.slot, h.sep, fun q hq => h.pin q (hp q hq), hJ h.J⟩
/-- more things to keep -/
theorem SI.more {W' : Keep} (h : SI K H₀ A₀ W τ δ σ nd H) (hp : ∀ q ∈ W'.pn, q ∈ W.pn ∨ (Old K H q.1 ∧ ∀ (i : Nat) (p : List Addr × List Addr), nd[i]? = some p → q.1 ∈ p.1 → i ∈ q.2)) (hJ : W'.J H) : SI K H₀ A₀ W' τ δ σ nd H :=
  ⟨h.kf, h.sm, h.ls, h.ln, h.rep, h.slot, h.sep, fun q hq => (hp q hq).elim (h.pin q) id, hJ⟩
theorem exists_list {α : Type} {P : Nat → α → Prop} : ∀ (n : Nat), (∀ i < n, ∃ p, P i p) → ∃ l : List α, l.length = n ∧ ∀ i p, l[i]? = some p → P i p
  | 0, _ => ⟨[], rfl, fun i p h => by simp at h⟩
  | n + 1, h => by
    obtain ⟨l, h1, h2⟩ := exists_list n fun i hi => h i (by omega)
    obtain ⟨p, hp⟩ := h n (by omega)
    refine ⟨l ++ [p], by simp [h1], fun i q hq => ?_⟩
    by_cases hi : i < l.length
    · rw [List.getElem?_append_left hi] at hq; exact h2 i q hq
    · have := (List.getElem?_eq_some_iff.mp hq).1
      simp at this
      have e : i = l.length := by omega
      subst e
      simp at hq
      subst hq
      rw [h1]; exact hp
/-- what became of the nodes -/
structure NdLe (τ' : Tys) (nd nd' : List (List Addr × List Addr)) : Prop where
  sub : ∀ (j : Nat) (p' : List Addr × List Addr), nd'[j]? = some p' → ∃ p, nd[j]? = some p ∧ (∀ b ∈ p'.1, b ∈ p.1) ∧ (∀ b ∈ p'.2, b ∈ p.1 ∨ b ∈ p.2)
  shr : ∀ (j : Nat) (p' : List Addr × List Addr) (a : Bool), nd'[j]? = some p' → τ'[j]? = some (some (Ty.S, a)) → p'.1 = []
  non : ∀ (j : Nat) (p' : List Addr × List Addr), nd'[j]? = some p' → (∀ x, τ'[j]? ≠ some (some x)) → p' = ([], [])
theorem leTys_get (h : leTys τ τ' = true) {i : Nat} {t : Ty} {a : Bool} (e : τ'[i]? = some (some (t, a))) : ∃ u b, τ[i]? = some (some (u, b)) ∧ Ty.le u t = true ∧ (a = false → b = false) := by
  unfold leTys at h
  have hi : i < τ'.length := (List.getElem?_eq_some_iff.mp e).1
  have := List.all_eq_true.mp h i (List.mem_range.mpr hi)
  rw [e] at this
  cases q : τ[i]? with
  | none => rw [q] at this; simp [leTy1] at this
  | some x => cases x with
    | none => rw [q] at this; simp [leTy1] at this
    | some y =>
      obtain ⟨u, b⟩ := y
      rw [q] at this
      simp only [leTy1, Bool.and_eq_true, Bool.or_eq_true, Bool.not_eq_true'] at this
      refine ⟨u, b, rfl, this.1, fun ha => ?_⟩
      rcases this.2 with z | z
      · exact z
      · rw [ha] at z; cases z
theorem SI.weak (h : SI K H₀ A₀ W τ δ σ nd H) (hle : leTys τ τ' = true) : ∃ nd', SI K H₀ A₀ W τ' δ σ nd' H ∧ NdLe τ' nd nd' := by
  have key : ∃ nd' : List (List Addr × List Addr), nd'.length = nd.length ∧ ∀ (i : Nat) (p' : List Addr × List Addr), nd'[i]? = some p' → ∃ p : List Addr × List Addr, nd[i]? = some p ∧
      ((∃ (d : D) (t : Ty) (a : Bool) (v : V), δ[i]? = some (some d) ∧ τ'[i]? = some (some (t, a)) ∧ σ[i]? = some (some v) ∧ Rw K H d t v p'.1 p'.2 ∧ (a = false → ∀ b ∈ p'.2, New K H₀ b) ∧ Less p.1 p.2 p'.1 p'.2) ∨
      (p' = ([], []) ∧ ∀ (d : D) (x : Ty × Bool), δ[i]? = some (some d) → τ'[i]? = some (some x) → False)) := by
    refine exists_list _ fun i hi => ?_
    have hp : nd[i]? = some nd[i] := by simp [hi]
    by_cases c : ∃ d t a, δ[i]? = some (some d) ∧ τ'[i]? = some (some (t, a))
    · obtain ⟨d, t, a, hd, ht⟩ := c
      obtain ⟨u, b, hu, hle1, hab⟩ := leTys_get hle ht
      obtain ⟨v, o, s, h1, h2, h3, h4⟩ := h.rep i d u b hd hu
      obtain ⟨p, q, h5, h6⟩ := Rw.less d hle1 h3
      refine ⟨(p, q), (o, s), h2, .inl ⟨d, t, a, v, hd, ht, h1, h5, fun ha x hx => ?_, h6⟩⟩
      rcases h6.mem hx with z | z
      · exact ((h.slot i _ h2).new x z).1
      · exact h4 (hab ha) x z
    · exact ⟨([], []), nd[i], hp, .inr ⟨rfl, fun d x hd hx => c ⟨d, x.1, x.2, hd, hx⟩⟩⟩
  obtain ⟨nd', hl, hP⟩ := key
  have sub : ∀ (j : Nat) (p' : List Addr × List Addr), nd'[j]? = some p' → ∃ p, nd[j]? = some p ∧ (∀ b ∈ p'.1, b ∈ p.1) ∧ (∀ b ∈ p'.2, b ∈ p.1 ∨ b ∈ p.2) ∧ SlOk K H₀ A₀ H p' := fun j p' hj => by
    obtain ⟨p, hp, ⟨_, _, _, _, _, _, _, _, _, l⟩ | ⟨rfl, _⟩⟩ := hP j p' hj
    · have so := h.slot j p hp
      refine ⟨p, hp, fun b hb => l.omem hb, fun b hb => l.mem hb, l.nodup so.nd, l.apart so.nd so.ap, fun b hb => so.new b (l.omem hb), fun b hb => ?_, fun b hb => ?_⟩
      · rcases l.mem hb with z | z
        · exact .inl (so.new b z).1
        · exact so.shr b z
      · rcases hb with z | z
        · exact so.old b (.inl (l.omem z))
        · exact so.old b (l.mem z)
    · exact ⟨p, hp, by simp, by simp, by simp, by simp, by simp, by simp, by simp⟩
  refine ⟨nd', ⟨h.kf, h.sm, h.ls, hl.trans h.ln, fun i d t a hd ht => ?_, fun i p hp => ?_, fun i j p q hp hq ne b hb => ?_, fun q hq => ⟨(h.pin q hq).1, fun i p hp hb => ?_⟩, h.J⟩, ⟨fun j p' hj => ?_, fun j p' a hj ht => ?_, fun j p' hj hn => ?_⟩⟩
  · have hi : i < nd'.length := by rw [hl, h.ln]; exact (List.getElem?_eq_some_iff.mp hd).1
    have hp : nd'[i]? = some nd'[i] := by simp [hi]
    obtain ⟨p, hp2, ⟨d', t', a', v, e1, e2, e3, e4, e5, _⟩ | ⟨_, z⟩⟩ := hP i _ hp
    · rw [hd] at e1; cases e1
      rw [ht] at e2; cases e2
      exact ⟨v, nd'[i].1, nd'[i].2, e3, hp, e4, e5⟩
    · exact (z d _ hd ht).elim
  · obtain ⟨_, _, _, _, so⟩ := sub i p hp
    exact so
  · obtain ⟨p0, h1, h2, h3, _⟩ := sub i p hp
    obtain ⟨q0, k1, k2, k3, _⟩ := sub j q hq
    have := h.sep i j p0 q0 h1 k1 ne b (h2 b hb)
    exact ⟨fun z => this.1 (k2 b z), fun z => (k3 b z).elim this.1 this.2⟩
  · obtain ⟨p0, h1, h2, _⟩ := sub i p hp
    exact (h.pin q hq).2 i p0 h1 (h2 _ hb)
  · obtain ⟨p, h1, h2, h3, _⟩ := sub j p' hj
    exact ⟨p, h1, h2, h3⟩
  · obtain ⟨p, hp2, ⟨d', t', a', v, e1, e2, e3, e4, e5, _⟩ | ⟨e, z⟩⟩ := hP j p' hj
    · rw [ht] at e2; cases e2
      exact Rw.s_o _ e4
    · rw [e]
  · obtain ⟨p, hp2, ⟨d', t', a', v, e1, e2, e3, e4, e5, _⟩ | ⟨e, z⟩⟩ := hP j p' hj
    · exact (hn _ e2).elim
    · exact e
theorem demT_step (τ : Tys) (j : Nat) : leTys τ (match τ[j]? with
  | some (some (_, a)) => τ.set j (some (.S, a))
  | _ => τ) = true := by
  have refl : leTys τ τ = true := by
    unfold leTys
    refine List.all_eq_true.mpr fun i _ => ?_
    rcases τ[i]? with _ | _ | ⟨t, a⟩ <;> simp [leTy1, Ty.le_refl]
  split
  · rename_i t a e
    unfold leTys
    refine List.all_eq_true.mpr fun i hi => ?_
    by_cases hj : j = i
    · subst hj
      have : j < τ.length := by simpa using hi
      rw [List.getElem?_set_self this, e]
      simp [leTy1, Ty.le_S]
    · rw [List.getElem?_set_ne hj]
      rcases τ[i]? with _ | _ | ⟨t, a⟩ <;> simp [leTy1, Ty.le_refl]
  · exact refl
theorem leTys_refl (τ : Tys) : leTys τ τ = true := by
  unfold leTys
  refine List.all_eq_true.mpr fun i _ => ?_
  rcases τ[i]? with _ | _ | ⟨t, a⟩ <;> simp [leTy1, Ty.le_refl]
theorem Ty.le_trans : ∀ {a b c : Ty}, Ty.le a b = true → Ty.le b c = true → Ty.le a c = true
  | _, _, .S, _, _ => Ty.le_S _
  | .F, .F, .F, _, _ => rfl
  | .F, .F, .L _, _, h => h
  | .F, .L b, .L c, h, h' => Ty.le_trans (a := .F) (b := b) (c := c) h h'
  | .L a, .L b, .L c, h, h' => Ty.le_trans (a := a) (b := b) (c := c) h h'
  | .F, .S, .F, _, h => nomatch h
  | .F, .S, .L _, _, h => nomatch h
  | .F, .L _, .F, _, h => nomatch h
  | .S, .S, .F, _, h => nomatch h
  | .S, .S, .L _, _, h => nomatch h
  | .S, .F, _, h, _ => nomatch h
  | .S, .L _, _, h, _ => nomatch h
  | .L _, .S, .F, _, h => nomatch h
  | .L _, .S, .L _, _, h => nomatch h
  | .L _, .F, _, h, _ => nomatch h
  | .L _, .L _, .F, _, h => nomatch h
theorem leTys_trans {τ'' : Tys} (h : leTys τ τ' = true) (h' : leTys τ' τ'' = true) : leTys τ τ'' = true := by
  unfold leTys
  refine List.all_eq_true.mpr fun i hi => ?_
  cases q : τ''[i]? with
  | none => cases τ[i]? with
    | none => rfl
    | some x => rcases x with _ | ⟨t, a⟩ <;> rfl
  | some y => cases y with
    | none => cases τ[i]? with
      | none => rfl
      | some x => rcases x with _ | ⟨t, a⟩ <;> rfl
    | some y =>
      obtain ⟨t, a⟩ := y
      obtain ⟨u, b, e1, l1, i1⟩ := leTys_get h' q
      obtain ⟨w, c, e2, l2, i2⟩ := leTys_get h e1
      rw [e2]
      simp only [leTy1, Bool.and_eq_true, Bool.or_eq_true, Bool.not_eq_true']
      refine ⟨Ty.le_trans l2 l1, ?_⟩
      cases a with
      | true => exact .inr rfl
      | false => exact .inl (i2 (i1 rfl))
theorem demT_le : ∀ (B : List Nat) (τ : Tys), leTys τ (demT τ B) = true
  | [], τ => leTys_refl τ
  | j :: B, τ => leTys_trans (demT_step τ j) (demT_le B _)
theorem demT_S : ∀ (B : List Nat) (τ : Tys) (i : Nat), i ∈ B → ∀ t a, (demT τ B)[i]? = some (some (t, a)) → t = .S
  | j :: B, τ, i, h, t, a, e => by
    have e : (demT _ B)[i]? = some (some (t, a)) := e
    obtain ⟨u, b, e1, l1, _⟩ := leTys_get (demT_le B _) e
    by_cases hj : i = j
    · subst hj
      have e1 : (match τ[i]? with
        | some (some (_, a)) => τ.set i (some (.S, a))
        | _ => τ)[i]? = some (some (u, b)) := e1
      split at e1
      · rename_i e2
        have hl : i < τ.length := (List.getElem?_eq_some_iff.mp e2).1
        rw [List.getElem?_set_self hl] at e1
        cases e1
        cases t with
        | S => rfl
        | _ => cases l1
      · rename_i h2
        exact (h2 _ _ e1).elim
    · exact demT_S B _ i ((List.mem_cons.mp h).resolve_left hj) t a e
/-- the aliased slots own nothing any more -/
theorem SI.dem (h : SI K H₀ A₀ W τ δ σ nd H) (B : List Nat) : ∃ nd', SI K H₀ A₀ W (demT τ B) δ σ nd' H ∧ (∀ (j : Nat) (p' : List Addr × List Addr), nd'[j]? = some p' → (∃ p, nd[j]? = some p ∧ (∀ b ∈ p'.1, b ∈ p.1) ∧ (∀ b ∈ p'.2, b ∈ p.1 ∨ b ∈ p.2)) ∧ (j ∈ B → p'.1 = [])) := by
  obtain ⟨nd', h', n⟩ := h.weak (demT_le B τ)
  refine ⟨nd', h', fun j p' hj => ⟨n.sub j p' hj, fun hb => ?_⟩⟩
  by_cases c : ∃ x, (demT τ B)[j]? = some (some x)
  · obtain ⟨⟨t, a⟩, e⟩ := c
    have := demT_S B τ j hb t a e
    subst this
    exact n.shr j p' a hj e
  · rw [n.non j p' hj fun x e => c ⟨x, e⟩]
/-- a value put into a slot -/
theorem SI.put {i : Nat} {d : D} {t : Ty} {a : Bool} {v : V} {o s : List Addr} (h : SI K H₀ A₀ W τ δ σ nd H) (r : Rw K H d t v o s) (no : o.Nodup) (ho : ∀ b ∈ o, New K H₀ b ∧ b ∉ s)
    (hx : ∀ b ∈ o, ∀ (j : Nat) (p : List Addr × List Addr), nd[j]? = some p → j ≠ i → b ∉ p.1 ∧ b ∉ p.2) (hp : ∀ q ∈ W.pn, q.1 ∈ o → i ∈ q.2)
    (hs : ∀ b ∈ s, New K H₀ b ∨ b ∈ A₀) (hsx : ∀ b ∈ s, ∀ (j : Nat) (p : List Addr × List Addr), nd[j]? = some p → j ≠ i → b ∉ p.1) (ha : a = false → ∀ b ∈ s, New K H₀ b) :
    SI K H₀ A₀ W (τ.set i (some (t, a))) (δ.set i (some d)) (σ.set i (some v)) (nd.set i (o, s)) H where
  kf := h.kf
  sm := h.sm
  ls := by rw [List.length_set, List.length_set]; exact h.ls
  ln := by rw [List.length_set, List.length_set]; exact h.ln
  rep := fun j e t' b h1 h2 => by
    by_cases hj : i = j
    · subst hj
      have hl : i < δ.length := by
        have := (List.getElem?_eq_some_iff.mp h1).1
        simpa using this
      have hl2 : i < τ.length := by
        have := (List.getElem?_eq_some_iff.mp h2).1
        simpa using this
      rw [List.getElem?_set_self hl] at h1
      rw [List.getElem?_set_self hl2] at h2
      cases h1
      cases h2
      exact ⟨v, o, s, List.getElem?_set_self (by rw [h.ls]; exact hl), List.getElem?_set_self (by rw [h.ln]; exact hl), r, ha⟩
    · rw [List.getElem?_set_ne hj] at h1 h2
      obtain ⟨w, o, s', h3, h4, h5⟩ := h.rep j e t' b h1 h2
      exact ⟨w, o, s', by rw [List.getElem?_set_ne hj]; exact h3, by rw [List.getElem?_set_ne hj]; exact h4, h5⟩
  slot := fun j p h1 => by
    by_cases hj : i = j
    · subst hj
      have hl : i < nd.length := by
        have := (List.getElem?_eq_some_iff.mp h1).1
        simpa using this
      rw [List.getElem?_set_self hl] at h1
      cases h1
      exact ⟨no, fun b hb => (ho b hb).2, fun b hb => ⟨(ho b hb).1, Rw.mut d r b hb⟩, hs, Rw.old d r⟩
    · rw [List.getElem?_set_ne hj] at h1
      exact h.slot j p h1
  sep := fun j k p q h1 h2 ne b hb => by
    by_cases hj : i = j
    · subst hj
      have hl : i < nd.length := by
        have := (List.getElem?_eq_some_iff.mp h1).1
        simpa using this
      rw [List.getElem?_set_self hl] at h1
      cases h1
      rw [List.getElem?_set_ne ne] at h2
      exact hx b hb k q h2 (Ne.symm ne)
    · rw [List.getElem?_set_ne hj] at h1
      by_cases hk : i = k
      · subst hk
        have hl : i < nd.length := by
          have := (List.getElem?_eq_some_iff.mp h2).1
          simpa using this
        rw [List.getElem?_set_self hl] at h2
        cases h2
        exact ⟨fun z => (hx b z j p h1 ne).1 hb, fun z => hsx b z j p h1 ne hb⟩
      · rw [List.getElem?_set_ne hk] at h2
        exact h.sep j k p q h1 h2 ne b hb
  pin := fun q hq => ⟨(h.pin q hq).1, fun j p h1 hb => by
    by_cases hj : i = j
    · subst hj
      have hl : i < nd.length := by
        have := (List.getElem?_eq_some_iff.mp h1).1
        simpa using this
      rw [List.getElem?_set_self hl] at h1
      cases h1
      exact hp q hq hb
    · rw [List.getElem?_set_ne hj] at h1
      exact (h.pin q hq).2 j p h1 hb⟩
  J := h.J
/-- what a value leans on lies apart from the slots -/
structure ApartN (K : PySem.W.Frag) (H₀ : Hp) (A₀ : List Addr) (W : Keep) (nd : List (List Addr × List Addr)) (o s : List Addr) : Prop where
  dis : o.Nodup
  ap : ∀ b ∈ o, b ∉ s
  new : ∀ b ∈ o, New K H₀ b
  out : ∀ b ∈ o, ∀ (j : Nat) (p : List Addr × List Addr), nd[j]? = some p → b ∉ p.1 ∧ b ∉ p.2
  pin : ∀ q ∈ W.pn, q.1 ∉ o
  shr : ∀ b ∈ s, New K H₀ b ∨ b ∈ A₀
  free : ∀ b ∈ s, ∀ (j : Nat) (p : List Addr × List Addr), nd[j]? = some p → b ∉ p.1
theorem SI.putA {i : Nat} {d : D} {t : Ty} {a : Bool} {v : V} {o s : List Addr} (h : SI K H₀ A₀ W τ δ σ nd H) (r : Rw K H d t v o s) (A : ApartN K H₀ A₀ W nd o s) (ha : a = false → ∀ b ∈ s, New K H₀ b) :
    SI K H₀ A₀ W (τ.set i (some (t, a))) (δ.set i (some d)) (σ.set i (some v)) (nd.set i (o, s)) H :=
  h.put r A.dis (fun b hb => ⟨A.new b hb, A.ap b hb⟩) (fun b hb j p hp _ => A.out b hb j p hp) (fun q hq hb => (A.pin q hq hb).elim) A.shr (fun b hb j p hp _ => A.free b hb j p hp) ha
/-- an expression's value, the aliased slots demoted -/
theorem ApartN.of {H0 : Hp} {nd' : List (List Addr × List Addr)} {B : List Nat} {o s : List Addr} (sm : Same H₀ H0) (h : SI K H₀ A₀ W τ δ σ nd H0) (no : o.Nodup) (ho : ∀ b ∈ o, New K H0 b ∧ b ∉ s)
    (hs : ∀ b ∈ s, New K H0 b ∨ ∃ i p, nd[i]? = some p ∧ (b ∈ p.2 ∨ (i ∈ B ∧ b ∈ p.1)))
    (hd : ∀ (j : Nat) (p' : List Addr × List Addr), nd'[j]? = some p' → (∃ p, nd[j]? = some p ∧ (∀ b ∈ p'.1, b ∈ p.1) ∧ (∀ b ∈ p'.2, b ∈ p.1 ∨ b ∈ p.2)) ∧ (j ∈ B → p'.1 = [])) : ApartN K H₀ A₀ W nd' o s where
  dis := no
  ap := fun b hb => (ho b hb).2
  new := fun b hb => (ho b hb).1.back sm
  out := fun b hb j p' hj => by
    obtain ⟨⟨p, hp, h1, h2⟩, _⟩ := hd j p' hj
    have ol := (h.slot j p hp).old b
    exact ⟨fun z => ol (.inl (h1 b z)) (ho b hb).1, fun z => ol (h2 b z) (ho b hb).1⟩
  pin := fun q hq hb => (h.pin q hq).1 (ho _ hb).1
  shr := fun b hb => by
    rcases hs b hb with z | ⟨i, p, hp, z | ⟨_, z⟩⟩
    · exact .inl (z.back sm)
    · exact (h.slot i p hp).shr b z
    · exact .inl ((h.slot i p hp).new b z).1
  free := fun b hb j p' hj z => by
    obtain ⟨⟨p, hp, h1, h2⟩, hB⟩ := hd j p' hj
    rcases hs b hb with n | ⟨i, q, hq, y | ⟨hi, y⟩⟩
    · exact (h.slot j p hp).old b (.inl (h1 b z)) n
    · by_cases e : j = i
      · subst e
        rw [hp] at hq; cases hq
        exact (h.slot j p hp).ap b (h1 b z) y
      · exact (h.sep j i p q hp hq e b (h1 b z)).2 y
    · by_cases e : j = i
      · subst e
        rw [hB hi] at z
        exact nomatch z
      · exact (h.sep j i p q hp hq e b (h1 b z)).1 y
end
end VS
set_option Elab.async false
set_option linter.all false
set_option maxRecDepth 100000
namespace VS
open PySem PySem.Spec L2
open PyProof.Rows hiding St
/-! ### writes -/
def PathV (K : PySem.W.Frag) (H : Hp) : V → List D → V → Prop
  | v, [], w => w = v
  | v, k :: ks, w => ∃ a vs j x, v = .ref a ∧ (SqL K H a vs ∨ SqT K H a vs) ∧ stepD vs k = some j ∧ vs[j]? = some x ∧ PathV K H x ks w
theorem PathV.snoc {K : PySem.W.Frag} {H : Hp} : ∀ (ks : List D) {v w x : V} {k : D} {a : Addr} {vs : List V} {j : Nat}, PathV K H v ks w → w = .ref a → (SqL K H a vs ∨ SqT K H a vs) → stepD vs k = some j → vs[j]? = some x → PathV K H v (ks ++ [k]) x
  | [], v, w, x, k, a, vs, j, h, e, h1, h2, h3 => by
    have h : w = v := h
    subst h
    exact ⟨a, vs, j, x, e, h1, h2, h3, rfl⟩
  | k' :: ks, v, w, x, k, a, vs, j, h, e, h1, h2, h3 => by
    obtain ⟨a', vs', j', x', e1, e2, e3, e4, h⟩ := h
    exact ⟨a', vs', j', x', e1, e2, e3, e4, h.snoc ks e h1 h2 h3⟩
theorem PathV.same {K : PySem.W.Frag} {H H' : Hp} (e : Same H H') : ∀ (ks : List D) {v w : V}, PathV K H v ks w → PathV K H' v ks w
  | [], v, w, h => h
  | k :: ks, v, w, h => by
    obtain ⟨a, vs, j, x, e1, e2, e3, e4, h⟩ := h
    exact ⟨a, vs, j, x, e1, e2.imp (fun z => e.seq z) fun z => sqt_same e z, e3, e4, h.same e ks⟩
theorem sq_uniq {K : PySem.W.Frag} {H : Hp} {a : Addr} {vs ws : List V} (kf : KF K H) (h : H a = some (.lst vs)) (q : SqL K H a ws ∨ SqT K H a ws) : ws = vs := by
  rcases q with ((q | ⟨o, q⟩) | ⟨o, its, r, q, _⟩) | ((q | ⟨o, q⟩) | ⟨o, its, r, q, _⟩)
  · rw [h] at q; cases q; rfl
  · rw [h] at q; cases q
  · rw [kf.1 _ _ q] at h; cases h
  · rw [h] at q; cases q
  · rw [h] at q; cases q
  · rw [kf.1 _ _ q] at h; cases h
theorem vals_uniq : ∀ {xs ys : List V} {us : List Value}, Vals xs us → Vals ys us → xs = ys
  | _, _, _, .nil, .nil => rfl
  | _, _, _, .cons r t, .cons r' t' => by
    have := r.abs.symm.trans r'.abs
    cases this
    rw [vals_uniq t t']
theorem stepD_len {α β : Type} {xs : List α} {ys : List β} (h : xs.length = ys.length) (k : D) : stepD xs k = stepD ys k := by
  cases k <;> simp only [stepD, h]
theorem tyAt_F (n : Nat) : tyAt n .F = some .F := by cases n <;> rfl
theorem tyAt_el {n : Nat} {t te : Ty} (h : tyAt (n + 1) t = some te) : tyAt n t.el = some te := by
  cases t with
  | S => cases h
  | F => rw [tyAt_F] at h; cases h; exact tyAt_F n
  | L t => exact h
theorem tyAt_ne {n : Nat} {t te : Ty} (h : tyAt n t = some te) : t ≠ .S := by
  rintro rfl
  cases n <;> cases h
theorem RwL.setAt {K : PySem.W.Frag} {H : Hp} {t : Ty} : ∀ {xs : List D} {vs : List V} {o s : List Addr} {j : Nat} {x : D}, RwL K H xs t vs o s → xs[j]? = some x →
    ∃ w oA ox oB sA sx sB vA vB, vs = vA ++ w :: vB ∧ vA.length = j ∧ vs[j]? = some w ∧ o = oA ++ (ox ++ oB) ∧ s = sA ++ (sx ++ sB) ∧ RwL K H (xs.take j) t vA oA sA ∧ Rw K H x t w ox sx ∧ RwL K H (xs.drop (j + 1)) t vB oB sB
  | d :: ds, vs, o, s, 0, x, h, e => by
    rw [rwl_cons] at h
    obtain ⟨v, vs', o1, s1, o2, s2, rfl, rfl, rfl, h1, h2⟩ := h
    cases e
    exact ⟨v, [], o1, o2, [], s1, s2, [], vs', rfl, rfl, rfl, rfl, rfl, rwl_nil.mpr ⟨rfl, rfl, rfl⟩, h1, h2⟩
  | d :: ds, vs, o, s, j + 1, x, h, e => by
    rw [rwl_cons] at h
    obtain ⟨v, vs', o1, s1, o2, s2, rfl, rfl, rfl, h1, h2⟩ := h
    obtain ⟨w, oA, ox, oB, sA, sx, sB, vA, vB, rfl, rfl, e1, rfl, rfl, k1, k2, k3⟩ := RwL.setAt h2 (show ds[j]? = some x from e)
    exact ⟨w, o1 ++ oA, ox, oB, s1 ++ sA, sx, sB, v :: vA, vB, rfl, rfl, e1, by simp, by simp, rwl_cons.mpr ⟨v, vA, o1, s1, oA, sA, rfl, rfl, rfl, h1, k1⟩, k2, k3⟩
theorem set_split {α : Type} {xs : List α} {j : Nat} {x y : α} (h : xs[j]? = some x) : xs.set j y = xs.take j ++ y :: xs.drop (j + 1) := by
  have hj : j < xs.length := (List.getElem?_eq_some_iff.mp h).1
  rw [List.set_eq_take_append_cons_drop, if_pos hj]
section
variable {K : PySem.W.Frag} {H : Hp}
/-- a write somewhere in a value: what is there, and what becomes of the value -/
structure ModR (K : PySem.W.Frag) (H : Hp) (f : List D → R (List D)) (d' : D) (t te : Ty) (v : V) (o s : List Addr) (a : Addr) (xs ys : List D) (vs : List V) (ol sl : List Addr) : Prop where
  f : f xs = .ok ys
  at_ : H a = some (.lst vs)
  mem : a ∈ o
  rw : RwL K H xs te vs ol sl
  hol : ∀ b ∈ ol, b ∈ o ∧ b ≠ a
  hsl : ∀ b ∈ sl, b ∈ s
  dis : ol.Nodup
  put : ∀ ws on sn, RwL K (upd H a (.lst ws)) ys te ws on sn → on.Nodup → (∀ b ∈ on, (b ∈ ol ∨ (b ∉ o ∧ b ∉ s)) ∧ b ∉ sn ∧ b ≠ a) → (∀ b ∈ sn, b ∉ o) →
    ∃ o' s', Rw K (upd H a (.lst ws)) d' t v o' s' ∧ o'.Nodup ∧ (∀ b ∈ o', b ∈ o ∨ b ∈ on) ∧ (∀ b ∈ s', b ∈ s ∨ b ∈ sn) ∧ (∀ b ∈ o', b ∉ s')
/-- one item of a list (or a tuple) -/
theorem mod_item {f : List D → R (List D)} {t te : Ty} {xs : List D} {vs : List V} {o s : List Addr} {j : Nat} {x y : D} {a : Addr} (h : RwL K H xs t vs o s) (hx : xs[j]? = some x) (no : o.Nodup) (ap : ∀ b ∈ o, b ∉ s)
    (ih : ∀ {w : V} {ox sx : List Addr}, vs[j]? = some w → Rw K H x t w ox sx → ox.Nodup → (∀ b ∈ ox, b ∉ sx) → ∃ xs' ys' vs' ol sl, ModR K H f y t te w ox sx a xs' ys' vs' ol sl) :
    ∃ xs' ys' vs' ol sl, f xs' = .ok ys' ∧ H a = some (.lst vs') ∧ a ∈ o ∧ RwL K H xs' te vs' ol sl ∧ (∀ b ∈ ol, b ∈ o ∧ b ≠ a) ∧ (∀ b ∈ sl, b ∈ s) ∧ ol.Nodup ∧
      ∀ ws on sn, RwL K (upd H a (.lst ws)) ys' te ws on sn → on.Nodup → (∀ b ∈ on, (b ∈ ol ∨ (b ∉ o ∧ b ∉ s)) ∧ b ∉ sn ∧ b ≠ a) → (∀ b ∈ sn, b ∉ o) →
        ∃ o' s', RwL K (upd H a (.lst ws)) (xs.set j y) t vs o' s' ∧ o'.Nodup ∧ (∀ b ∈ o', b ∈ o ∨ b ∈ on) ∧ (∀ b ∈ s', b ∈ s ∨ b ∈ sn) ∧ (∀ b ∈ o', b ∉ s') := by
  obtain ⟨w, oA, ox, oB, sA, sx, sB, vA, vB, rfl, hA, hw, rfl, rfl, r1, r2, r3⟩ := h.setAt hx
  have n1 := List.nodup_append.mp no
  have n2 := List.nodup_append.mp n1.2.1
  obtain ⟨xs', ys', vs', ol, sl, M⟩ := ih hw r2 n2.1 fun b hb hs => ap b (by simp [hb]) (by simp [hs])
  refine ⟨xs', ys', vs', ol, sl, M.f, M.at_, by simp [M.mem], M.rw, fun b hb => ⟨by simp [(M.hol b hb).1], (M.hol b hb).2⟩, fun b hb => by simp [M.hsl b hb], M.dis, fun ws on sn hr hno hon hsn => ?_⟩
  obtain ⟨o', s', q1, q2, q3, q4, q5⟩ := M.put ws on sn hr hno (fun b hb => ⟨(hon b hb).1.imp id fun z => ⟨fun y => z.1 (by simp [y]), fun y => z.2 (by simp [y])⟩, (hon b hb).2⟩) fun b hb hq => hsn b hb (by simp [hq])
  have mu : Mut (some (HO.lst vs')) := trivial
  have aA : a ∉ oA := fun z => n1.2.2 a z a (by simp [M.mem]) rfl
  have aB : a ∉ oB := fun z => n2.2.2 a M.mem a z rfl
  have aS : a ∉ sA ++ (sx ++ sB) := ap a (by simp [M.mem])
  have r1' := RwL.other (w := HO.lst ws) M.at_ mu aA (fun z => aS (by simp [z])) r1
  have r3' := RwL.other (w := HO.lst ws) M.at_ mu aB (fun z => aS (by simp [z])) r3
  have inx : ∀ b ∈ o', b ∈ ox ∨ (b ∈ on ∧ b ∉ oA ∧ b ∉ oB ∧ b ∉ sA ∧ b ∉ sB) := fun b hb => by
    rcases q3 b hb with z | z
    · exact .inl z
    · rcases (hon b z).1 with y | ⟨y1, y2⟩
      · exact .inl (M.hol b y).1
      · exact .inr ⟨z, fun k => y1 (by simp [k]), fun k => y1 (by simp [k]), fun k => y2 (by simp [k]), fun k => y2 (by simp [k])⟩
  refine ⟨oA ++ (o' ++ oB), sA ++ (s' ++ sB), ?_, ?_, fun b hb => ?_, fun b hb => ?_, fun b hb hs => ?_⟩
  · rw [set_split hx]
    exact r1'.app (rwl_cons.mpr ⟨w, vB, o', s', oB, sB, rfl, rfl, rfl, q1, r3'⟩)
  · refine List.nodup_append.mpr ⟨n1.1, List.nodup_append.mpr ⟨q2, n2.2.1, fun b hb c hc e => ?_⟩, fun b hb c hc e => ?_⟩
    · subst e
      rcases inx b hb with z | z
      · exact n2.2.2 b z b hc rfl
      · exact z.2.2.1 hc
    · subst e
      rcases List.mem_append.mp hc with hc | hc
      · rcases inx b hc with z | z
        · exact n1.2.2 b hb b (by simp [z]) rfl
        · exact z.2.1 hb
      · exact n1.2.2 b hb b (by simp [hc]) rfl
  · rcases List.mem_append.mp hb with hb | hb
    · exact .inl (by simp [hb])
    · rcases List.mem_append.mp hb with hb | hb
      · exact (q3 b hb).imp (fun z => by simp [z]) id
      · exact .inl (by simp [hb])
  · rcases List.mem_append.mp hb with hb | hb
    · exact .inl (by simp [hb])
    · rcases List.mem_append.mp hb with hb | hb
      · exact (q4 b hb).imp (fun z => by simp [z]) id
      · exact .inl (by simp [hb])
  · have sOut : ∀ b, b ∈ oA ∨ b ∈ oB → b ∉ s' := fun b hb hs => by
      have bo : b ∈ oA ++ (ox ++ oB) := by rcases hb with z | z <;> simp [z]
      rcases q4 b hs with z | z
      · exact ap b bo (by simp [z])
      · exact hsn b z bo
    rcases List.mem_append.mp hb with hb | hb
    · rcases List.mem_append.mp hs with hs | hs
      · exact ap b (by simp [hb]) (by simp [hs])
      · rcases List.mem_append.mp hs with hs | hs
        · exact sOut b (.inl hb) hs
        · exact ap b (by simp [hb]) (by simp [hs])
    · rcases List.mem_append.mp hb with hb | hb
      · rcases List.mem_append.mp hs with hs | hs
        · rcases inx b hb with z | z
          · exact ap b (by simp [z]) (by simp [hs])
          · exact z.2.2.2.1 hs
        · rcases List.mem_append.mp hs with hs | hs
          · exact q5 b hb hs
          · rcases inx b hb with z | z
            · exact ap b (by simp [z]) (by simp [hs])
            · exact z.2.2.2.2 hs
      · rcases List.mem_append.mp hs with hs | hs
        · exact ap b (by simp [hb]) (by simp [hs])
        · rcases List.mem_append.mp hs with hs | hs
          · exact sOut b (.inr hb) hs
          · exact ap b (by simp [hb]) (by simp [hs])
theorem R.ok_of {α β : Type} {r : R α} {f : α → R β} {b : β} (h : (r >>= f) = .ok b) : ∃ a, r = .ok a ∧ f a = .ok b := by
  cases r with
  | ok a => exact ⟨a, rfl, h⟩
  | ex x => cases h
  | no => cases h
theorem Rw.mod {tf : Bool} {f : List D → R (List D)} (kf : KF K H) : ∀ (ks : List D) {d d' : D} {t te : Ty} {v : V} {o s : List Addr} {a : Addr}, Rw K H d t v o s → o.Nodup → (∀ b ∈ o, b ∉ s) → tyAt ks.length t = some te → (tf = true → t = .F) →
    modG tf f ks d = .ok d' → PathV K H v ks (.ref a) → ∃ xs ys vs ol sl, ModR K H f d' t te v o s a xs ys vs ol sl
  | [], d, d', t, te, v, o, s, a, h, no, ap, ht, _, hm, hv => by
    cases d with
    | list xs =>
      obtain ⟨ys, hf, hm⟩ := R.ok_of (show (f xs >>= fun ys => R.ok (PyData.list ys)) = .ok d' from hm)
      cases hm
      rw [rw_lst] at h
      obtain ⟨a0, vs, o', s', rfl, hl, hr, n⟩ := h
      have hv : V.ref a = V.ref a0 := hv
      cases hv
      have el : t.el = te := by
        cases t with
        | S => cases ht
        | F => cases ht; rfl
        | L t => cases ht; rfl
      rw [el] at hr
      have key : H a = some (.lst vs) ∧ o = a :: o' ∧ s = s' := by
        cases t with
        | S => cases ht
        | F => exact ⟨hl, n.1, n.2⟩
        | L t => exact ⟨hl, n.1, n.2⟩
      obtain ⟨ha, rfl, rfl⟩ := key
      have n1 := List.nodup_cons.mp no
      refine ⟨xs, ys, vs, o', s, hf, ha, List.mem_cons_self, hr, fun b hb => ⟨List.mem_cons_of_mem _ hb, fun e => n1.1 (e ▸ hb)⟩, fun b hb => hb, n1.2, fun ws on sn k1 k2 k3 k4 => ?_⟩
      refine ⟨a :: on, sn, rw_lst.mpr ⟨a, ws, on, sn, rfl, ?_, by rw [el]; exact k1, ?_⟩, List.nodup_cons.mpr ⟨fun z => (k3 a z).2.2 rfl, k2⟩, fun b hb => ?_, fun b hb => .inr hb, fun b hb hs => ?_⟩
      · cases t with
        | S => cases ht
        | F => exact upd_same
        | L t => exact upd_same
      · cases t with
        | S => cases ht
        | F => exact ⟨rfl, rfl⟩
        | L t => exact ⟨rfl, rfl⟩
      · rcases List.mem_cons.mp hb with z | z
        · exact .inl (by rw [z]; exact List.mem_cons_self)
        · exact .inr z
      · rcases List.mem_cons.mp hb with z | z
        · exact k4 b hs (by rw [z]; exact List.mem_cons_self)
        · exact (k3 b z).2.1 hs
    | _ => cases hm
  | k :: ks, d, d', t, te, v, o, s, a, h, no, ap, ht, htf, hm, hv => by
    obtain ⟨a1, vs1, j1, w1, rfl, hq1, hj1, hw1, hv1⟩ := hv
    have ht' := tyAt_el (n := ks.length) ht
    cases d with
    | list xs =>
      rw [rw_lst] at h
      obtain ⟨a0, vs, o', s', e0, hl, hr, n⟩ := h
      cases e0
      have key : H a1 = some (.lst vs) ∧ o = a1 :: o' ∧ s = s' := by
        cases t with
        | S => exact absurd rfl (tyAt_ne ht)
        | F => exact ⟨hl, n.1, n.2⟩
        | L t => exact ⟨hl, n.1, n.2⟩
      obtain ⟨ha1, rfl, rfl⟩ := key
      have ev := sq_uniq kf ha1 hq1
      subst ev
      have hm : (match stepD xs k with
        | some j => match xs[j]? with
          | some x => modG tf f ks x >>= fun y => R.ok (PyData.list (xs.set j y))
          | none => .no
        | none => .no) = .ok d' := hm
      rw [stepD_len hr.length] at hj1
      rw [hj1] at hm
      dsimp only at hm
      cases qx : xs[j1]? with
      | none => rw [qx] at hm; cases hm
      | some x =>
        rw [qx] at hm
        obtain ⟨y, hy, hm⟩ := R.ok_of (show (modG tf f ks x >>= fun y => R.ok (PyData.list (xs.set j1 y))) = .ok d' from hm)
        cases hm
        have n1 := List.nodup_cons.mp no
        obtain ⟨xs', ys', vs', ol, sl, m1, m2, m3, m4, m5, m6, m7, m8⟩ := mod_item (f := f) (te := te) (y := y) (a := a) hr qx n1.2 (fun b hb => ap b (List.mem_cons_of_mem _ hb)) fun {w ox sx} hw r2 nx apx => by
          rw [hw1] at hw
          cases hw
          exact Rw.mod kf ks r2 nx apx ht' (fun e => by rw [htf e]; rfl) hy hv1
        refine ⟨xs', ys', vs', ol, sl, m1, m2, List.mem_cons_of_mem _ m3, m4, fun b hb => ⟨List.mem_cons_of_mem _ (m5 b hb).1, (m5 b hb).2⟩, m6, m7, fun ws on sn k1 k2 k3 k4 => ?_⟩
        obtain ⟨o2, s2, r, q2, q3, q4, q5⟩ := m8 ws on sn k1 k2 (fun b hb => ⟨(k3 b hb).1.imp id fun z => ⟨fun y => z.1 (List.mem_cons_of_mem _ y), z.2⟩, (k3 b hb).2⟩) fun b hb hq => k4 b hb (List.mem_cons_of_mem _ hq)
        have ne : a1 ≠ a := fun e => n1.1 (e ▸ m3)
        have a1n : a1 ∉ o2 := fun z => by
          rcases q3 a1 z with z | z
          · exact n1.1 z
          · rcases (k3 a1 z).1 with y | y
            · exact n1.1 (m5 a1 y).1
            · exact y.1 List.mem_cons_self
        refine ⟨a1 :: o2, s2, rw_lst.mpr ⟨a1, vs1, o2, s2, rfl, ?_, r, ?_⟩, List.nodup_cons.mpr ⟨a1n, q2⟩, fun b hb => ?_, q4, fun b hb hs => ?_⟩
        · cases t with
          | S => exact absurd rfl (tyAt_ne ht)
          | F => exact (upd_ne ne).trans ha1
          | L t => exact (upd_ne ne).trans ha1
        · cases t with
          | S => exact absurd rfl (tyAt_ne ht)
          | F => exact ⟨rfl, rfl⟩
          | L t => exact ⟨rfl, rfl⟩
        · rcases List.mem_cons.mp hb with z | z
          · exact .inl (by rw [z]; exact List.mem_cons_self)
          · exact (q3 b z).imp (fun y => List.mem_cons_of_mem _ y) id
        · rcases List.mem_cons.mp hb with z | z
          · subst z
            rcases q4 b hs with y | y
            · exact ap b List.mem_cons_self y
            · exact k4 b y List.mem_cons_self
          · exact q5 b z hs
    | tuple xs =>
      cases tf with
      | false => cases hm
      | true =>
        have e := htf rfl
        subst e
        have hm : (match stepD xs k with
          | some j => match xs[j]? with
            | some x => modG true f ks x >>= fun y => R.ok (PyData.tuple (xs.set j y))
            | none => .no
          | none => .no) = .ok d' := hm
        rw [rw_tup] at h
        obtain ⟨a0, vs, e0, hl, hr⟩ := h
        cases e0
        have ev : vs1 = vs := by
          have hl0 := hl
          rcases hl with (hl | ⟨o, hl⟩) | ⟨ob, its, rr, hl, hz⟩
          · rcases hq1 with ((q | ⟨o, q⟩) | ⟨o, its, r, q, _⟩) | ((q | ⟨o, q⟩) | ⟨o, its, r, q, _⟩)
            · rw [hl] at q; cases q
            · rw [hl] at q; cases q
            · rw [kf.1 _ _ q] at hl; cases hl
            · rw [hl] at q; cases q; rfl
            · rw [hl] at q; cases q
            · rw [kf.1 _ _ q] at hl; cases hl
          · rcases hq1 with ((q | ⟨o, q⟩) | ⟨o, its, r, q, _⟩) | ((q | ⟨o, q⟩) | ⟨o, its, r, q, _⟩)
            · rw [hl] at q; cases q
            · rw [hl] at q; cases q
            · rw [kf.1 _ _ q] at hl; cases hl
            · rw [hl] at q; cases q
            · rw [hl] at q; cases q; rfl
            · rw [kf.1 _ _ q] at hl; cases hl
          · rcases hq1 with ((q | ⟨o, q⟩) | ⟨ob2, its2, r, q, qc, _, q2, _⟩) | ((q | ⟨o, q⟩) | ⟨ob2, its2, r, q, _, q2, _, q3⟩)
            · rw [kf.1 _ _ hl] at q; cases q
            · rw [kf.1 _ _ hl] at q; cases q
            · rw [hl] at q; cases q
              exact absurd (qc.symm.trans hz.1) (by decide)
            · rw [kf.1 _ _ hl] at q; cases q
            · rw [kf.1 _ _ hl] at q; cases q
            · rw [hl] at q; cases q
              have e1 := hz.2.1
              rw [q2] at e1
              cases e1
              exact vals_uniq q3 hz.2.2.2
        subst ev
        rw [stepD_len hr.length] at hj1
        rw [hj1] at hm
        dsimp only at hm
        cases qx : xs[j1]? with
        | none => rw [qx] at hm; cases hm
        | some x =>
          rw [qx] at hm
          obtain ⟨y, hy, hm⟩ := R.ok_of (show (modG true f ks x >>= fun y => R.ok (PyData.tuple (xs.set j1 y))) = .ok d' from hm)
          cases hm
          obtain ⟨xs', ys', vs', ol, sl, m1, m2, m3, m4, m5, m6, m7, m8⟩ := mod_item (f := f) (te := te) (y := y) (a := a) hr qx no ap fun {w ox sx} hw r2 nx apx => by
            rw [hw1] at hw
            cases hw
            exact Rw.mod kf ks r2 nx apx ht' (fun e => rfl) hy hv1
          refine ⟨xs', ys', vs', ol, sl, m1, m2, m3, m4, m5, m6, m7, fun ws on sn k1 k2 k3 k4 => ?_⟩
          obtain ⟨o2, s2, r, q2, q3, q4, q5⟩ := m8 ws on sn k1 k2 k3 k4
          refine ⟨o2, s2, rw_tup.mpr ⟨a1, vs1, rfl, ?_, r⟩, q2, q3, q4, q5⟩
          have mu : ∀ xs, Rd H a1 (.tup xs) → Rd (upd H a (.lst ws)) a1 (.tup xs) := fun xs h => by
            have ne : a1 ≠ a := by
              rintro rfl
              rcases h with h | ⟨o, h⟩ <;> rw [m2] at h <;> cases h
            exact h.imp (fun z => (upd_ne ne).trans z) fun ⟨o, z⟩ => ⟨o, (upd_ne ne).trans z⟩
          exact hl.imp (mu _) id
    | _ => cases hm
end
end VS
set_option Elab.async false
set_option linter.all false
set_option maxRecDepth 100000
namespace VS
open PySem PySem.Spec L2
open PyProof.Rows hiding St
/-! ### paths -/
theorem sq_one {K : PySem.W.Frag} {H : Hp} {a : Addr} {vs ws : List V} (kf : KF K H) (h : SqL K H a vs ∨ SqT K H a vs) (q : SqL K H a ws ∨ SqT K H a ws) : vs = ws := by
  rcases h with ((h | ⟨o1, h⟩) | ⟨o1, i1, r1, h, hc, _, hd, _, hv⟩) | ((h | ⟨o1, h⟩) | ⟨o1, i1, r1, h, hc, hd, _, hv⟩) <;>
  rcases q with ((q | ⟨o, q⟩) | ⟨o, its, r, q, qc, _, qd, _, qv⟩) | ((q | ⟨o, q⟩) | ⟨o, its, r, q, qc, qd, _, qv⟩) <;>
  first
  | (rw [h] at q; cases q; done)
  | (rw [h] at q; cases q; rfl)
  | (rw [kf.1 _ _ q] at h; cases h; done)
  | (rw [kf.1 _ _ h] at q; cases q; done)
  | (rw [h] at q; cases q; exact absurd (hc.symm.trans qc) (by decide))
  | (rw [h] at q; cases q; rw [hd] at qd; cases qd; exact vals_uniq hv qv)
theorem PathV.uniq {K : PySem.W.Frag} {H : Hp} (kf : KF K H) : ∀ (ks : List D) {v w x : V}, PathV K H v ks w → PathV K H v ks x → w = x
  | [], v, w, x, h, h' => by
    have h : w = v := h
    have h' : x = v := h'
    rw [h, h']
  | k :: ks, v, w, x, h, h' => by
    obtain ⟨a, vs, j, y, rfl, e2, e3, e4, h⟩ := h
    obtain ⟨a', vs', j', y', e1', e2', e3', e4', h'⟩ := h'
    cases e1'
    have := sq_one kf e2 e2'
    subst this
    rw [e3] at e3'; cases e3'
    rw [e4] at e4'; cases e4'
    exact PathV.uniq kf ks h h'
theorem PathV.unsnoc {K : PySem.W.Frag} {H : Hp} : ∀ (ks : List D) {v x : V} {k : D}, PathV K H v (ks ++ [k]) x → ∃ w a vs j, PathV K H v ks w ∧ w = .ref a ∧ (SqL K H a vs ∨ SqT K H a vs) ∧ stepD vs k = some j ∧ vs[j]? = some x
  | [], v, x, k, h => by
    obtain ⟨a, vs, j, y, rfl, e2, e3, e4, h⟩ := h
    have h : x = y := h
    subst h
    exact ⟨_, a, vs, j, rfl, rfl, e2, e3, e4⟩
  | k' :: ks, v, x, k, h => by
    obtain ⟨a, vs, j, y, rfl, e2, e3, e4, h⟩ := h
    obtain ⟨w, b, ws, i, h1, h2, h3, h4, h5⟩ := PathV.unsnoc ks h
    exact ⟨w, b, ws, i, ⟨a, vs, j, y, rfl, e2, e3, e4, h1⟩, h2, h3, h4, h5⟩
theorem path_ex {K : PySem.W.Frag} {H : Hp} {tf : Bool} {f : List D → R (List D)} : ∀ (ks : List D) {d d' : D} {t : Ty} {v : V} {o s : List Addr}, Rw K H d t v o s → modG tf f ks d = .ok d' → ∃ a, PathV K H v ks (.ref a)
  | [], d, d', t, v, o, s, h, hm => by
    cases d with
    | list xs =>
      rw [rw_lst] at h
      obtain ⟨a, _, _, _, rfl, _⟩ := h
      exact ⟨a, rfl⟩
    | _ => cases hm
  | k :: ks, d, d', t, v, o, s, h, hm => by
    cases d with
    | list xs =>
      have hm : (match stepD xs k with
        | some j => match xs[j]? with
          | some x => modG tf f ks x >>= fun y => R.ok (PyData.list (xs.set j y))
          | none => .no
        | none => .no) = .ok d' := hm
      rw [rw_lst] at h
      obtain ⟨a0, vs, o', s', rfl, hl, hr, n⟩ := h
      cases hj : stepD xs k with
      | none => rw [hj] at hm; cases hm
      | some j =>
        rw [hj] at hm
        dsimp only at hm
        cases qx : xs[j]? with
        | none => rw [qx] at hm; cases hm
        | some x =>
          rw [qx] at hm
          obtain ⟨y, hy, _⟩ := R.ok_of (show (modG tf f ks x >>= fun y => R.ok (PyData.list (xs.set j y))) = .ok d' from hm)
          obtain ⟨w, o1, s1, e1, r1, _⟩ := hr.item qx
          obtain ⟨a, ha⟩ := path_ex ks r1 hy
          exact ⟨a, a0, vs, j, w, rfl, .inl hl.sq, by rw [stepD_len hr.length]; exact hj, e1, ha⟩
    | tuple xs =>
      cases tf with
      | false => cases hm
      | true =>
        have hm : (match stepD xs k with
          | some j => match xs[j]? with
            | some x => modG true f ks x >>= fun y => R.ok (PyData.tuple (xs.set j y))
            | none => .no
          | none => .no) = .ok d' := hm
        rw [rw_tup] at h
        obtain ⟨a0, vs, rfl, hl, hr⟩ := h
        cases hj : stepD xs k with
        | none => rw [hj] at hm; cases hm
        | some j =>
          rw [hj] at hm
          dsimp only at hm
          cases qx : xs[j]? with
          | none => rw [qx] at hm; cases hm
          | some x =>
            rw [qx] at hm
            obtain ⟨y, hy, _⟩ := R.ok_of (show (modG true f ks x >>= fun y => R.ok (PyData.tuple (xs.set j y))) = .ok d' from hm)
            obtain ⟨w, o1, s1, e1, r1, _⟩ := hr.item qx
            obtain ⟨a, ha⟩ := path_ex ks r1 hy
            exact ⟨a, a0, vs, j, w, rfl, .inr hl, by rw [stepD_len hr.length]; exact hj, e1, ha⟩
    | _ => cases hm
section
variable {C : Ctx} {S : Scp} {X : Cx} {H₀ H : Hp} {τ : Tys} {δ : Sl} {σ : St} {nd : List (List Addr × List Addr)}
theorem we_path : ∀ (p : E), isPth p = true → okE C p → ∀ {H : Hp} {v : V} (at_ : At C S X H₀ τ δ σ nd H) (po : Expr), ck C.nb p S false po = true → ptyOk p τ = true → σ[pthI p]? = some (some v) → ∀ {ks : List D} {Q : VK},
    pthD p δ = .ok ks → (∃ w, PathV X.K H v ks w) → (∀ w H', Same H H' → KF X.K H' → PathV X.K H' v ks w → Q w H') → WE X po σ H Q
  | .sl i, _, _, H, v, at_, po, hc, _, hv, ks, Q, hk, hx, h => by
    cases po with
    | Name x pos =>
      have hc : visC S i x = true := hc
      obtain ⟨g1, g2, g3, g4⟩ := vis_of at_.G hc
      cases hk
      exact WE.of (pe_var g1 g2 g3 g4) ⟨v, hv, h v H (Same.refl H) at_.sv.kf rfl⟩
    | _ => exact absurd hc (by simp [ck])
  | .ix p i, hp, hok, H, v, at_, po, hc, hty, hv, ks, Q, hk, hx, h => by
    cases po with
    | Subscript pa pi pos =>
      have hc1 : (plainX pi && ck C.nb p S false pa && ck C.nb i S false pi) = true := hc
      simp only [Bool.and_eq_true] at hc1
      obtain ⟨⟨hpl, hca⟩, hci⟩ := hc1
      have hty : (ptyOk p τ && (ty i τ).isSome) = true := hty
      rw [Bool.and_eq_true] at hty
      obtain ⟨Ti, eTi⟩ := Option.isSome_iff_exists.mp hty.2
      obtain ⟨ks0, h1, hk⟩ := R.ok_of (show (pthD p δ >>= fun ks => ev i δ >>= fun k => R.ok (ks ++ [k])) = .ok ks from hk)
      obtain ⟨k, h2, hk⟩ := R.ok_of hk
      cases hk
      obtain ⟨x, hx⟩ := hx
      obtain ⟨w0, a, vs, j, k1, rfl, k3, k4, k5⟩ := PathV.unsnoc ks0 hx
      refine WE.of (pe_ix ix_seq pe_w pe_w (plain_ix hpl)) (we_path p hp hok.1 at_ pa hca hty.1 hv h1 ⟨_, k1⟩ fun w H1 e1 kf1 hw => ?_)
      have ew := PathV.uniq kf1 ks0 hw (k1.same e1 ks0)
      subst ew
      refine (snd i hok.2).hE (at_.grow e1 kf1) pi hci Ti eTi _ ?_
      rw [h2]
      intro H2 e2 kf2 y vy
      obtain ⟨_, _, _, ry⟩ := vy.rw
      have sq2 : SqL X.K H2 a vs ∨ SqT X.K H2 a vs := k3.imp (fun z => (e1.trans e2).seq z) fun z => sqt_same (e1.trans e2) z
      have fin := h x H2 (e1.trans e2) kf2 (PathV.snoc ks0 (hw.same e2 ks0) rfl sq2 k4 k5)
      cases k with
      | int n =>
        rw [rw_int] at ry
        obtain ⟨rfl, _⟩ := ry
        have at2 : atI vs n = some x := atI_of k4 k5
        rcases sq2 with z | z
        · exact .inl ⟨a, vs, n, x, rfl, rfl, z, at2, fin⟩
        · exact .inr (.inl ⟨a, vs, n, x, rfl, rfl, z, at2, fin⟩)
      | _ => cases k4
    | _ => exact absurd hc (by simp [ck])
end
/-! ### types of writes -/
theorem wkP_at : ∀ (n : Nat) (t u : Ty), ∃ te, tyAt n (wkP n t u) = some te ∧ Ty.le u te = true
  | 0, t, u => by
    unfold wkP
    split
    · rename_i h; exact ⟨.F, rfl, by rw [h.2]; rfl⟩
    · exact ⟨_, rfl, (Ty.le_join _ _).2⟩
  | n + 1, t, u => by
    unfold wkP
    split
    · rename_i h; exact ⟨.F, tyAt_F _, by rw [h.2]; rfl⟩
    · obtain ⟨te, h1, h2⟩ := wkP_at n t.el u
      exact ⟨te, h1, h2⟩
theorem wkP_le : ∀ (n : Nat) (t u : Ty), (tyAt n t).isSome = true → Ty.le t (wkP n t u) = true
  | n, .S, u, h => by cases n <;> cases h
  | 0, .F, u, _ => by
    unfold wkP
    split
    · rfl
    · exact (Ty.le_join .F u).1
  | 0, .L t, u, _ => by
    unfold wkP
    split
    · rename_i h; cases h.1
    · exact (Ty.le_join t u).1
  | n + 1, .F, u, _ => by
    unfold wkP
    split
    · rfl
    · exact wkP_le n .F u (by rw [tyAt_F]; rfl)
  | n + 1, .L t, u, h => by
    unfold wkP
    split
    · rename_i h; cases h.1
    · exact wkP_le n t u h
section
variable {K : PySem.W.Frag} {H₀ H H1 : Hp} {A₀ : List Addr} {W : Keep} {τ τ' : Tys} {δ : Sl} {σ : St} {nd : List (List Addr × List Addr)}
/-- a slot forgotten -/
theorem SI.drop (h : SI K H₀ A₀ W τ δ σ nd H) (i : Nat) : SI K H₀ A₀ W (τ.set i none) δ σ (nd.set i ([], [])) H where
  kf := h.kf
  sm := h.sm
  ls := h.ls
  ln := by rw [List.length_set]; exact h.ln
  rep := fun j e t b h1 h2 => by
    by_cases hj : i = j
    · subst hj
      have hl : i < τ.length := by
        have := (List.getElem?_eq_some_iff.mp h2).1
        simpa using this
      rw [List.getElem?_set_self hl] at h2
      cases h2
    · rw [List.getElem?_set_ne hj] at h2
      obtain ⟨w, o, s', h3, h4, h5⟩ := h.rep j e t b h1 h2
      exact ⟨w, o, s', h3, by rw [List.getElem?_set_ne hj]; exact h4, h5⟩
  slot := fun j p h1 => by
    by_cases hj : i = j
    · subst hj
      have hl : i < nd.length := by
        have := (List.getElem?_eq_some_iff.mp h1).1
        simpa using this
      rw [List.getElem?_set_self hl] at h1
      cases h1
      exact ⟨by simp, by simp, by simp, by simp, by simp⟩
    · rw [List.getElem?_set_ne hj] at h1
      exact h.slot j p h1
  sep := fun j k p q h1 h2 ne b hb => by
    by_cases hj : i = j
    · subst hj
      have hl : i < nd.length := by
        have := (List.getElem?_eq_some_iff.mp h1).1
        simpa using this
      rw [List.getElem?_set_self hl] at h1
      cases h1
      exact nomatch hb
    · rw [List.getElem?_set_ne hj] at h1
      by_cases hk : i = k
      · subst hk
        have hl : i < nd.length := by
          have := (List.getElem?_eq_some_iff.mp h2).1
          simpa using this
        rw [List.getElem?_set_self hl] at h2
        cases h2
        exact ⟨by simp, by simp⟩
      · rw [List.getElem?_set_ne hk] at h2
        exact h.sep j k p q h1 h2 ne b hb
  pin := fun q hq => ⟨(h.pin q hq).1, fun j p h1 hb => by
    by_cases hj : i = j
    · subst hj
      have hl : i < nd.length := by
        have := (List.getElem?_eq_some_iff.mp h1).1
        simpa using this
      rw [List.getElem?_set_self hl] at h1
      cases h1
      exact nomatch hb
    · rw [List.getElem?_set_ne hj] at h1
      exact (h.pin q hq).2 j p h1 hb⟩
  J := h.J
theorem old_upd {a : Addr} {w : HO} {b : Addr} (h : Old K H b) (ne : b ≠ a) : Old K (upd H a w) b := fun n => h ⟨by have := n.1; rw [upd_ne ne] at this; exact this, n.2⟩
/-- a write into a node that no slot leans on -/
theorem SI.updx (ok : KeepOk W) (h : SI K H₀ A₀ W τ δ σ nd H) {a : Addr} {u w : HO} (hu : H a = some u) (mu : Mut (some u)) (na : New K H₀ a) (hx : ∀ (j : Nat) (p : List Addr × List Addr), nd[j]? = some p → a ∉ p.1 ∧ a ∉ p.2)
    (hp : ∀ q ∈ W.pn, q.1 ≠ a) (kf : KF K (upd H a w)) : SI K H₀ A₀ W τ δ σ nd (upd H a w) where
  kf := kf
  sm := fun b x e => by
    have ne : b ≠ a := fun z => by rw [z, na.1] at e; cases e
    rw [upd_ne ne]; exact h.sm b x e
  ls := h.ls
  ln := h.ln
  rep := fun j e t b h1 h2 => by
    obtain ⟨v, o, s, h3, h4, h5, h6⟩ := h.rep j e t b h1 h2
    have := hx j _ h4
    exact ⟨v, o, s, h3, h4, Rw.other hu mu this.1 this.2 h5, h6⟩
  slot := fun j p h1 => by
    have so := h.slot j p h1
    have := hx j p h1
    have ne : ∀ b, b ∈ p.1 ∨ b ∈ p.2 → b ≠ a := fun b hb e => by
      subst e
      exact hb.elim this.1 this.2
    exact ⟨so.nd, so.ap, fun b hb => ⟨(so.new b hb).1, let ⟨z, hz, m⟩ := (so.new b hb).2; ⟨z, (upd_ne (ne b (.inl hb))).trans hz, m⟩⟩, so.shr, fun b hb => old_upd (so.old b hb) (ne b hb)⟩
  sep := h.sep
  pin := fun q hq => ⟨old_upd (h.pin q hq).1 (hp q hq), (h.pin q hq).2⟩
  J := ok.upd _ _ _ ⟨u, hu, mu⟩ hp h.J
/-- a write into what slot i owns -/
theorem SI.write (ok : KeepOk W) (h : SI K H₀ A₀ W τ δ σ nd H) {i : Nat} {o s o' s' on sn : List Addr} {v : V} {a : Addr} {vs ws : List V} {d' : D} {t : Ty} {aa : Bool} (hi : nd[i]? = some (o, s)) (hv : σ[i]? = some (some v)) (ma : a ∈ o) (hu : H a = some (.lst vs))
    (hp : ∀ q ∈ W.pn, q.1 ≠ a) (kf : KF K (upd H a (.lst ws))) (r : Rw K (upd H a (.lst ws)) d' t v o' s') (no : o'.Nodup) (ap : ∀ b ∈ o', b ∉ s') (ho : ∀ b ∈ o', b ∈ o ∨ b ∈ on) (hs : ∀ b ∈ s', b ∈ s ∨ b ∈ sn ∨ b ∈ on)
    (A : ApartN K H₀ A₀ W nd on sn) (ha : aa = false → ∀ b ∈ s', New K H₀ b) : SI K H₀ A₀ W (τ.set i (some (t, aa))) (δ.set i (some d')) σ (nd.set i (o', s')) (upd H a (.lst ws)) := by
  have so := h.slot i _ hi
  have lo : ∀ (j : Nat) (p : List Addr × List Addr), (nd.set i ([], []))[j]? = some p → j ≠ i → nd[j]? = some p := fun j p hj ne => by
    rw [List.getElem?_set_ne (Ne.symm ne)] at hj; exact hj
  have n1 : ∀ (j : Nat) (p : List Addr × List Addr), (nd.set i ([], []))[j]? = some p → a ∉ p.1 ∧ a ∉ p.2 := fun j p hj => by
    by_cases e : j = i
    · subst e
      have hl : j < nd.length := (List.getElem?_eq_some_iff.mp hi).1
      rw [List.getElem?_set_self hl] at hj
      cases hj
      exact ⟨by simp, by simp⟩
    · exact h.sep i j _ p hi (lo j p hj e) (Ne.symm e) a ma
  have h1 := (h.drop i).updx ok hu trivial (so.new a ma).1 n1 hp kf
  have h2 := h1.put (i := i) (a := aa) r no (fun b hb => ⟨?_, ap b hb⟩) (fun b hb j p hj ne => ?_) (fun q hq hb => ?_) (fun b hb => ?_) (fun b hb j p hj ne => ?_) ha
  · rw [List.set_set, List.set_set] at h2
    have es : σ.set i (some v) = σ := by
      apply List.ext_getElem?
      intro k
      by_cases e : i = k
      · subst e
        rw [List.getElem?_set_self (List.getElem?_eq_some_iff.mp hv).1, hv]
      · rw [List.getElem?_set_ne e]
    rw [es] at h2
    exact h2
  · exact (ho b hb).elim (fun z => (so.new b z).1) (A.new b)
  · rcases ho b hb with z | z
    · exact h.sep i j _ p hi (lo j p hj ne) (Ne.symm ne) b z
    · exact A.out b z j p (lo j p hj ne)
  · rcases ho _ hb with z | z
    · exact (h.pin q hq).2 i _ hi z
    · exact (A.pin q hq z).elim
  · exact (hs b hb).elim (so.shr b) fun z => z.elim (A.shr b) fun z => .inl (A.new b z)
  · rcases hs b hb with z | z
    · intro y
      exact (h.sep j i p _ (lo j p hj ne) hi ne b y).2 z
    · exact z.elim (fun z => A.free b z j p (lo j p hj ne)) fun z => (A.out b z j p (lo j p hj ne)).1
end
end VS
set_option Elab.async false
set_option linter.all false
set_option maxRecDepth 100000
namespace VS
open PySem PySem.Spec L2
open PyProof.Rows hiding St
/-! ### the soundness of statements -/
structure GdS (C : Ctx) (S : Scp) (X : Cx) : Prop where
  G : Gd C S X
  own : PassesOwn (model X.prog X.w) X.A X.env X.xe
  kind : S.sc.kind = .function
def RtOk (K : PySem.W.Frag) (H₀ : Hp) (A₀ : List Addr) (H' : Hp) (t : Ty) (d : D) (v : V) : Prop := ∃ o s, Rw K H' d t v o s ∧ o.Nodup ∧ (∀ b ∈ o, New K H₀ b ∧ b ∉ s) ∧ ∀ b ∈ s, New K H₀ b ∨ b ∈ A₀
def FinS (X : Cx) (H₀ : Hp) (A₀ : List Addr) (W : Keep) (c : SC) (o : Out) (r : Option Tys) (D : Ends) : Prop := match o with
  | .nx δ' => ∀ τ1, r = some τ1 → ∀ σ' nd' H', SI X.K H₀ A₀ W τ1 δ' σ' nd' H' → D.nx σ' H'
  | .rt d => ∀ v H', Same H₀ H' → KF X.K H' → RtOk X.K H₀ A₀ H' c.rt d v → D.rt v H'
  | .ex x δ' => ∃ Wx, Takes X Wx ∧ ∀ σ' nd' H' cls dx, SI X.K H₀ A₀ W c.τx δ' σ' nd' H' → ExR X.K X.mg H' x cls dx → Wx cls dx σ' H'
  | .no => False
section
variable {C : Ctx} {S : Scp} {X : Cx} {H₀ H H1 : Hp} {A₀ : List Addr} {W : Keep} {c : SC} {τ τ' : Tys} {δ : Sl} {σ : St} {nd : List (List Addr × List Addr)} {r r' : Option Tys} {D : Ends} {o : Out}
theorem SI.at (G : GdS C S X) (h : SI X.K H₀ A₀ W τ δ σ nd H) : At C S X H₀ τ δ σ nd H := ⟨G.G, h.sv⟩
theorem FinS.lft {α : Type} {q : R α} {f : α → Out} (ok : KeepOk W) (si : SI X.K H₀ A₀ W τ δ σ nd H) (hx : leTys τ c.τx = true) (h : FinS X H₀ A₀ W c (lft δ q f) r D) : FinG X σ H q fun a _ => FinS X H₀ A₀ W c (f a) r D := by
  cases q with
  | ok a => exact fun _ _ _ => h
  | ex x =>
    obtain ⟨Wx, tk, hW⟩ := h
    refine ⟨Wx, tk, fun H' cls dx e kf ex => ?_⟩
    obtain ⟨nd', si', _⟩ := (si.grow ok e kf).weak hx
    exact hW σ nd' H' cls dx si' ex
  | no => exact h
theorem FinS.weak (h : FinS X H₀ A₀ W c o r D) (m : ∀ τ1, r' = some τ1 → ∃ τ2, r = some τ2 ∧ leTys τ1 τ2 = true) : FinS X H₀ A₀ W c o r' D := by
  cases o with
  | nx δ' =>
    intro τ1 e σ' nd' H' si
    obtain ⟨τ2, e2, l⟩ := m τ1 e
    obtain ⟨nd2, si2, _⟩ := si.weak l
    exact h τ2 e2 σ' nd2 H' si2
  | rt d => exact h
  | ex x δ' => exact h
  | no => exact h
theorem ifB_some {α : Type} {b : Bool} {x : Option α} {y : α} (h : ifB b x = some y) : b = true ∧ x = some y := by
  cases b with
  | true => exact ⟨rfl, h⟩
  | false => cases h
theorem joinTys_le : ∀ (τ τ' : Tys), leTys τ (joinTys τ τ') = true ∧ leTys τ' (joinTys τ τ') = true := by
  intro τ τ'
  have key : ∀ i, leTy1 τ[i]? (joinTys τ τ')[i]? = true ∧ leTy1 τ'[i]? (joinTys τ τ')[i]? = true := fun i => by
    unfold joinTys
    rw [List.getElem?_zipWith]
    rcases τ[i]? with _ | _ | ⟨t, a⟩ <;> rcases τ'[i]? with _ | _ | ⟨u, b⟩ <;> simp [leTy1, joinTy1, Ty.le_join] <;> cases a <;> cases b <;> simp
  unfold leTys
  exact ⟨List.all_eq_true.mpr fun i _ => (key i).1, List.all_eq_true.mpr fun i _ => (key i).2⟩
theorem WS.kf {st : Stmt} (h : WS X st { D with nx := fun σ' H' => KF X.K H' → D.nx σ' H' } σ H) : WS X st D σ H := fun pins s I => wpAny_mono (h pins s I) (fun f s' q => by
  cases f with
  | next => obtain ⟨σ', H', I', q⟩ := q; exact ⟨σ', H', I', q (kf_inv I')⟩
  | brk => exact q
  | cont => exact q
  | ret u => exact q) fun _ _ x => x
theorem WG.kf {p : Expr} {v : V} {Q : St → Hp → Prop} (h : WG X p v σ H fun σ' H' => KF X.K H' → Q σ' H') : WG X p v σ H Q := fun pins s u I r => wpAny_mono (h pins s u I r) (fun f s' ⟨σ', H', I', q⟩ => ⟨σ', H', I', q (kf_inv I')⟩) fun _ _ x => x
theorem noComp_sw {e : Expr} {t : Option Expr} {l : Nat} {env : Env} (h : noComp e = true) : swapsWith e t l env = pure false := by
  cases e <;> first | rfl | exact absurd (show false = true from h) (by decide)
theorem sw_name {x : Str} {p : Pos} {e : Expr} {env : Env} : swappedStores [.Name x p] e env = pure none := by cases e <;> rfl
theorem sw_sub {a b : Expr} {p : Pos} {e : Expr} {env : Env} : swappedStores [.Subscript a b p] e env = pure none := by cases e <;> rfl
theorem sw_tup {ts : List Expr} {k : Nat} {p : Pos} {e : Expr} {env : Env} (h : noSwap (.Tuple ts k p) e = true) : swappedStores [.Tuple ts k p] e env = pure none := by
  cases e with
  | Tuple vs k2 p2 =>
    have h : vs.all (foldedForSure 8) = true := h
    unfold swappedStores
    simp only [h]
    split
    · rfl
    · split
      · rfl
      · split
        · rfl
        · rfl
  | _ => rfl
/-- the slots of a tuple of targets -/
theorem tgs_put (G : Gd C S X) {t : Ty} {a : Bool} {Q : St → Hp → Prop} : ∀ (is : List Nat) (ps : List Expr) {δ δ' : Sl} {ds : List PyData} {vs : List V} {o s : List Addr} {τ : Tys} {σ : St} {nd : List (List Addr × List Addr)},
    tgsC S is ps = true → setTgs is ds δ = .ok δ' → RwL X.K H ds t vs o s → ApartN X.K H₀ A₀ W nd o s → (a = false → ∀ b ∈ s, New X.K H₀ b) → SI X.K H₀ A₀ W τ δ σ nd H →
    (∀ σ' nd', SI X.K H₀ A₀ W (is.foldl (fun τ i => τ.set i (some (t, a))) τ) δ' σ' nd' H → Q σ' H) → ∃ tt : TGs, PGs X ps tt ∧ tt vs σ H Q
  | [], [], δ, δ', ds, vs, o, s, τ, σ, nd, _, h2, h3, _, _, h6, h8 => by
    cases ds with
    | nil =>
      cases h2
      rw [rwl_nil] at h3
      exact ⟨_, pgs_nil, h3.1, h8 σ nd h6⟩
    | cons d ds => cases h2
  | [], p :: ps, _, _, _, _, _, _, _, _, _, h, _, _, _, _, _, _ => by cases h
  | i :: is, [], _, _, _, _, _, _, _, _, _, h, _, _, _, _, _, _ => by cases h
  | i :: is, p :: ps, δ, δ', ds, vs, o, s, τ, σ, nd, h1, h2, h3, A, ha, h6, h8 => by
    cases ds with
    | nil => cases h2
    | cons d ds =>
      cases p with
      | Name x pos =>
        have h1 : (stoC S i x && tgsC S is ps) = true := h1
        rw [Bool.and_eq_true] at h1
        rw [rwl_cons] at h3
        obtain ⟨v, vs', o1, s1, o2, s2, rfl, rfl, rfl, r1, r2⟩ := h3
        obtain ⟨g1, g2, g3⟩ := stoC_get G h1.1
        have h2 : setTgs is ds (δ.set i (some d)) = .ok δ' := h2
        have n := List.nodup_append.mp A.dis
        have A1 : ApartN X.K H₀ A₀ W nd o1 s1 := ⟨n.1, fun b hb hs => A.ap b (by simp [hb]) (by simp [hs]), fun b hb => A.new b (by simp [hb]), fun b hb => A.out b (by simp [hb]), fun q hq hb => A.pin q hq (by simp [hb]), fun b hb => A.shr b (by simp [hb]), fun b hb => A.free b (by simp [hb])⟩
        have si := h6.putA (i := i) (a := a) r1 A1 fun e b hb => ha e b (by simp [hb])
        have A2 : ApartN X.K H₀ A₀ W (nd.set i (o1, s1)) o2 s2 := by
          have look : ∀ (j : Nat) (p : List Addr × List Addr), (nd.set i (o1, s1))[j]? = some p → p = (o1, s1) ∨ nd[j]? = some p := fun j p hj => by
            by_cases e : i = j
            · subst e
              have hl : i < nd.length := by
                have := (List.getElem?_eq_some_iff.mp hj).1
                simpa using this
              rw [List.getElem?_set_self hl] at hj
              cases hj; exact .inl rfl
            · rw [List.getElem?_set_ne e] at hj; exact .inr hj
          refine ⟨n.2.1, fun b hb hs => A.ap b (by simp [hb]) (by simp [hs]), fun b hb => A.new b (by simp [hb]), fun b hb j p hj => ?_, fun q hq hb => A.pin q hq (by simp [hb]), fun b hb => A.shr b (by simp [hb]), fun b hb j p hj => ?_⟩
          · rcases look j p hj with z | z
            · subst z
              exact ⟨fun y => n.2.2 b y b hb rfl, fun y => A.ap b (by simp [hb]) (by simp [y])⟩
            · exact A.out b (by simp [hb]) j p z
          · rcases look j p hj with z | z
            · subst z
              exact fun y => A.ap b (by simp [y]) (by simp [hb])
            · exact A.free b (by simp [hb]) j p z
        obtain ⟨tt, pt, q⟩ := tgs_put G is ps h1.2 h2 r2 A2 (fun e b hb => ha e b (by simp [hb])) si h8
        exact ⟨_, pgs_cons (pg_name (i := i) (by rw [G.N]; exact G.nd) g1 g2 g3) pt, v, vs', rfl, q⟩
      | _ => cases h1
theorem tgs_len : ∀ (is : List Nat) (es : List Expr), tgsC S is es = true → es.length = is.length
  | [], [], _ => rfl
  | [], _ :: _, h => by cases h
  | _ :: _, [], h => by cases h
  | i :: is, e :: es, h => by
    cases e with
    | Name x pos =>
      have h : (stoC S i x && tgsC S is es) = true := h
      rw [Bool.and_eq_true] at h
      rw [List.length_cons, List.length_cons, tgs_len is es h.2]
    | _ => cases h
theorem tgs_names {env : Env} : ∀ (is : List Nat) (es : List Expr), tgsC S is es = true → assignEach es env = es.map fun e => (false, assign e env)
  | [], [], _ => rfl
  | [], _ :: _, h => by cases h
  | _ :: _, [], h => by cases h
  | i :: is, e :: es, h => by
    cases e with
    | Name x pos =>
      have h : (stoC S i x && tgsC S is es) = true := h
      rw [Bool.and_eq_true] at h
      show (false, assign (.Name x pos) env) :: assignEach es env = _
      rw [tgs_names is es h.2]; rfl
    | _ => cases h
theorem setTgs_len : ∀ (is : List Nat) (ds : List PyData) {δ δ' : Sl}, setTgs is ds δ = .ok δ' → ds.length = is.length
  | [], [], _, _, _ => rfl
  | [], _ :: _, _, _, h => by cases h
  | _ :: _, [], _, _, h => by cases h
  | i :: is, d :: ds, _, _, h => by rw [List.length_cons, List.length_cons, setTgs_len is ds h]
/-- a target takes a value -/
theorem wg_put (G : Gd C S X) {tg : Tg} {p : Expr} {t : Ty} {a : Bool} {d : PyData} {δ' : Sl} {v : V} {o s : List Addr} {Q : St → Hp → Prop} (hc : tgC S tg p = true) (hs : setTg tg d δ = .ok δ') (r : Rw X.K H d t v o s)
    (A : ApartN X.K H₀ A₀ W nd o s) (ha : a = false → ∀ b ∈ s, New X.K H₀ b) (si : SI X.K H₀ A₀ W τ δ σ nd H)
    (h : ∀ σ' nd', SI X.K H₀ A₀ W (setTy tg (some (match tg with | .one _ => t | .tup _ => t.tu, a)) τ) δ' σ' nd' H → Q σ' H) : WG X p v σ H Q := by
  cases tg with
  | one i =>
    cases p with
    | Name x pos =>
      have hc : stoC S i x = true := hc
      cases hs
      obtain ⟨g1, g2, g3⟩ := stoC_get G hc
      refine WG.of (pg_name (i := i) (by rw [G.N]; exact G.nd) g1 g2 g3) ?_
      exact h _ _ (si.putA r A ha)
    | _ => cases hc
  | tup is =>
    cases p with
    | Tuple es k pos =>
      have hc : tgsC S is es = true := hc
      cases d with
      | tuple ds =>
        rw [rw_tup] at r
        obtain ⟨q, vs, rfl, hq, hr⟩ := r
        have hs : setTgs is ds δ = .ok δ' := hs
        obtain ⟨tt, pt, hq2⟩ := tgs_put (Q := Q) G is es hc hs hr A ha si h
        have na := tgs_names (env := X.env) is es hc
        refine WG.of (pg_tup (n := es.length) G.calm pt (by rw [na, List.length_map]) ?_) ⟨q, vs, rfl, hq, by rw [hr.length, setTgs_len is ds hs, tgs_len is es hc], hq2⟩
        rw [na, List.findIdx?_eq_none_iff]
        intro x hx
        obtain ⟨e, _, rfl⟩ := List.mem_map.mp hx
        rfl
      | _ => cases hs
    | _ => cases hc
theorem tg_assign {tg : Tg} {p : Expr} (hc : tgC S tg p = true) : (assignEach [p] X.env).map (·.2) = [assign p X.env] := by
  cases tg with
  | one i => cases p with
    | Name x pos => rfl
    | _ => cases hc
  | tup is => cases p with
    | Tuple es k pos => rfl
    | _ => cases hc
theorem tg_swap {tg : Tg} {p e : Expr} {env : Env} (hc : tgC S tg p = true) (h : noSwap p e = true) : swappedStores [p] e env = pure none := by
  cases tg with
  | one i => cases p with
    | Name x pos => exact sw_name
    | _ => cases hc
  | tup is => cases p with
    | Tuple es k pos => exact sw_tup h
    | _ => cases hc
end
end VS
set_option Elab.async false
set_option linter.all false
set_option maxRecDepth 100000
namespace VS
open PySem PySem.Spec L2
open PyProof.Rows hiding St
section
variable {K : PySem.W.Frag} {H₀ H H1 Hb : Hp} {A₀ : List Addr} {W : Keep} {τ τ' : Tys} {δ : Sl} {σ : St} {nd : List (List Addr × List Addr)} {T : Tv}
theorem ApartN.less {o s p q : List Addr} (A : ApartN K H₀ A₀ W nd o s) (l : Less o s p q) : ApartN K H₀ A₀ W nd p q where
  dis := l.nodup A.dis
  ap := l.apart A.dis A.ap
  new := fun b hb => A.new b (l.omem hb)
  out := fun b hb => A.out b (l.omem hb)
  pin := fun q hq hb => A.pin q hq (l.omem hb)
  shr := fun b hb => (l.mem hb).elim (fun z => .inl (A.new b z)) (A.shr b)
  free := fun b hb j p hj => (l.mem hb).elim (fun z => (A.out b z j p hj).1) fun z => A.free b z j p hj
/-- an expression's value, the aliased slots demoted -/
theorem SI.val (ok : KeepOk W) (si : SI K H₀ A₀ W τ δ σ nd H) (e : Same H H1) (kf : KF K H1) {d : PyData} {v : V} (vl : Vl K H₀ H H1 nd T d v) :
    ∃ nd' o s, SI K H₀ A₀ W (demT τ T.B) δ σ nd' H1 ∧ Rw K H1 d T.t v o s ∧ ApartN K H₀ A₀ W nd' o s ∧ (T.a = false → ∀ b ∈ s, New K H₀ b) := by
  obtain ⟨o, s, r, no, ho, hs, ha⟩ := vl
  obtain ⟨nd', si', hd⟩ := (si.grow ok e kf).dem T.B
  exact ⟨nd', o, s, si', r, ApartN.of si.sm si no ho hs hd, ha⟩
theorem SI.valL (ok : KeepOk W) (si : SI K H₀ A₀ W τ δ σ nd H) (e : Same H H1) (kf : KF K H1) {d : List PyData} {v : List V} (vl : VlL K H₀ H H1 nd T d v) :
    ∃ nd' o s, SI K H₀ A₀ W (demT τ T.B) δ σ nd' H1 ∧ RwL K H1 d T.nm v o s ∧ ApartN K H₀ A₀ W nd' o s ∧ (T.a = false → ∀ b ∈ s, New K H₀ b) := by
  obtain ⟨o, s, r, no, ho, hs, ha⟩ := vl
  obtain ⟨nd', si', hd⟩ := (si.grow ok e kf).dem T.B
  exact ⟨nd', o, s, si', r, ApartN.of si.sm si no ho hs hd, ha⟩
/-- what a write needs, and what it leaves -/
theorem SI.mutate (ok : KeepOk W) (sib : SI K H₀ A₀ W τ δ σ nd Hb) (e : Same Hb H) (kf : KF K H) {on sn : List Addr} (no : on.Nodup) (ho : ∀ b ∈ on, New K Hb b ∧ b ∉ sn)
    (hs : ∀ b ∈ sn, New K Hb b ∨ ∃ i p, nd[i]? = some p ∧ (b ∈ p.2 ∨ (i ∈ T.B ∧ b ∈ p.1))) (ha : T.a = false → ∀ b ∈ sn, New K H₀ b)
    {tf : Bool} {i : Nat} {ks : List PyData} {f : List PyData → R (List PyData)} {d d' : PyData} {v : V} {a : Addr} (hm : muT tf i ks.length T τ = some τ') (hd : δ[i]? = some (some d)) (hv : σ[i]? = some (some v)) (hfz : ∀ q ∈ W.pn, i ∉ q.2)
    (hmod : modG tf f ks d = .ok d') (hp : PathV K H v ks (.ref a)) :
    ∃ te xs ys vs ol sl, Ty.le T.nm te = true ∧ f xs = .ok ys ∧ H a = some (.lst vs) ∧ RwL K H xs te vs ol sl ∧ a ∉ ol ∧ a ∉ sl ∧ a ∉ on ∧ a ∉ sn ∧ ol.Nodup ∧ (∀ b ∈ ol, b ∉ sl ∧ b ∉ on ∧ b ∉ sn) ∧ (∀ b ∈ on, b ∉ sl) ∧
      ∀ ws o2 s2, KF K (upd H a (.lst ws)) → RwL K (upd H a (.lst ws)) ys te ws o2 s2 → o2.Nodup → (∀ b ∈ o2, b ∈ ol ∨ b ∈ on) → (∀ b ∈ s2, b ∈ sl ∨ b ∈ sn ∨ b ∈ on) → (∀ b ∈ o2, b ∉ s2) →
        ∃ nd', SI K H₀ A₀ W τ' (δ.set i (some d')) σ nd' (upd H a (.lst ws)) := by
  unfold muT at hm
  split at hm
  · rename_i t aa et
    obtain ⟨hc, hm⟩ := ifB_some hm
    cases hm
    simp only [Bool.and_eq_true, decide_eq_true_eq, Bool.or_eq_true, Bool.not_eq_true'] at hc
    obtain ⟨⟨hat, hiB⟩, htf⟩ := hc
    obtain ⟨te, hte, hle⟩ := wkP_at ks.length t T.nm
    have hlt : i < (demT τ T.B).length := (List.getElem?_eq_some_iff.mp et).1
    -- the weakened types
    have hlt2 : leTys τ ((demT τ T.B).set i (some (wkP ks.length t T.nm, aa || T.a))) = true := by
      refine leTys_trans (demT_le T.B τ) ?_
      unfold leTys
      refine List.all_eq_true.mpr fun j _ => ?_
      by_cases ej : i = j
      · subst ej
        rw [List.getElem?_set_self hlt, et]
        simp only [leTy1, Bool.and_eq_true, Bool.or_eq_true, Bool.not_eq_true']
        refine ⟨wkP_le _ _ _ hat, ?_⟩
        cases aa <;> simp
      · rw [List.getElem?_set_ne ej]
        rcases (demT τ T.B)[j]? with _ | _ | ⟨t, a⟩ <;> simp [leTy1, Ty.le_refl]
    obtain ⟨nd2, si2, nl⟩ := (sib.grow ok e kf).weak hlt2
    have A : ApartN K H₀ A₀ W nd2 on sn := by
      refine ApartN.of sib.sm sib no ho hs fun j p' hj => ⟨nl.sub j p' hj, fun hb => ?_⟩
      have ne : i ≠ j := fun z => hiB (z ▸ hb)
      by_cases c : ∃ x, (demT τ T.B)[j]? = some (some x)
      · obtain ⟨⟨u, b⟩, ex⟩ := c
        have := demT_S T.B τ j hb u b ex
        subst this
        exact nl.shr j p' b hj (by rw [List.getElem?_set_ne ne]; exact ex)
      · rw [nl.non j p' hj fun x ex => c ⟨x, by rw [List.getElem?_set_ne ne] at ex; exact ex⟩]
    obtain ⟨v', o, s, hv', hnd, hrw, hfl⟩ := si2.rep i d _ _ hd (List.getElem?_set_self hlt)
    rw [hv] at hv'
    cases hv'
    have so := si2.slot i _ hnd
    obtain ⟨xs, ys, vs, ol, sl, M⟩ := Rw.mod kf ks hrw so.nd so.ap hte (fun z => by
      rcases htf with y | ⟨y1, y2⟩
      · rw [y] at z; cases z
      · rw [y1, y2]
        have : ∀ n, wkP n .F .F = .F := fun n => by cases n <;> rfl
        exact this _) hmod hp
    have oOut : ∀ b ∈ o, b ∉ on ∧ b ∉ sn := fun b hb => ⟨fun z => (A.out b z i _ hnd).1 hb, fun z => A.free b z i _ hnd hb⟩
    refine ⟨te, xs, ys, vs, ol, sl, hle, M.f, M.at_, M.rw, fun z => (M.hol a z).2 rfl, fun z => so.ap a M.mem (M.hsl a z), (oOut a M.mem).1, (oOut a M.mem).2, M.dis, fun b hb => ⟨fun z => so.ap b (M.hol b hb).1 (M.hsl b z), oOut b (M.hol b hb).1⟩, fun b hb z => (A.out b hb i _ hnd).2 (M.hsl b z), fun ws o2 s2 kf3 h1 h2 h3 h4 h5 => ?_⟩
    have c1 : ∀ b ∈ o2, b ∈ ol ∨ (b ∉ o ∧ b ∉ s) := fun b hb => by
      rcases h3 b hb with z | z
      · exact .inl z
      · exact .inr ⟨fun y => (oOut b y).1 z, fun y => (A.out b z i _ hnd).2 y⟩
    have c2 : ∀ b ∈ o2, b ≠ a := by
      intro b hb e
      subst e
      rcases h3 b hb with z | z
      · exact (M.hol b z).2 rfl
      · exact (oOut b M.mem).1 z
    have c3 : ∀ b ∈ s2, b ∉ o := by
      intro b hb hbo
      rcases h4 b hb with y | y | y
      · exact so.ap b hbo (M.hsl b y)
      · exact (oOut b hbo).2 y
      · exact (oOut b hbo).1 y
    obtain ⟨o', s', r, q2, q3, q4, q5⟩ := M.put ws o2 s2 h1 h2 (fun b hb => ⟨c1 b hb, h5 b hb, c2 b hb⟩) c3
    have := si2.write ok (t := wkP ks.length t T.nm) (aa := aa || T.a) (on := on) (sn := sn) hnd hv M.mem M.at_ (fun q hq z => hfz q hq ((si2.pin q hq).2 i _ hnd (z ▸ M.mem))) kf3 r q2 q5 ?_ ?_ A ?_
    · rw [List.set_set] at this
      exact ⟨_, this⟩
    · exact fun b hb => (q3 b hb).elim .inl fun z => (h3 b z).imp (fun y => (M.hol b y).1) id
    · intro b hb
      rcases q4 b hb with z | z
      · exact .inl z
      · rcases h4 b z with y | y | y
        · exact .inl (M.hsl b y)
        · exact .inr (.inl y)
        · exact .inr (.inr y)
    · intro hf b hb
      have hf2 : aa = false ∧ T.a = false := by cases aa <;> simp_all
      rcases q4 b hb with z | z
      · exact hfl hf b z
      · rcases h4 b z with y | y | y
        · exact hfl hf b (M.hsl b y)
        · exact ha hf2.2 b y
        · exact A.new b y
  · cases hm
end
end VS
set_option Elab.async false
set_option linter.all false
set_option maxRecDepth 100000
namespace VS
open PySem PySem.Spec L2
open PyProof.Rows hiding St
def okS (C : Ctx) : S → Prop
  | .nil => True
  | .seq a b => okS C a ∧ okS C b
  | .asg _ e => okE C e
  | .par _ _ es => okE C es
  | .mu _ _ p es => okE C p ∧ okE C es
  | .setI _ p i e => okE C p ∧ okE C i ∧ okE C e
  | .ret e => okE C e
  | .retS _ => True
  | .ife c a b => okE C c ∧ okS C a ∧ okS C b
  | .forE _ it _ _ b => okE C it ∧ okS C b
  | .whi _ _ c b => okE C c ∧ okS C b
  | .drop e => okE C e
def Snd1 (C : Ctx) (s : S) : Prop := ∀ {S X H₀ A₀ W fz c τ δ σ nd H}, GdS C S X → KeepOk W → (∀ q ∈ W.pn, ∀ i ∈ q.2, i ∈ fz) → SI X.K H₀ A₀ W τ δ σ nd H → ∀ st, cs1 C.nb s S st = true → ∀ r, sty c s fz τ = some r → ∀ D, FinS X H₀ A₀ W c (sev s δ) r D → WS X st D σ H
def SndL (C : Ctx) (s : S) : Prop := ∀ {S X H₀ A₀ W fz c τ δ σ nd H}, GdS C S X → KeepOk W → (∀ q ∈ W.pn, ∀ i ∈ q.2, i ∈ fz) → SI X.K H₀ A₀ W τ δ σ nd H → ∀ st, csk C.nb s S st = true → ∀ r, sty c s fz τ = some r → ∀ D, FinS X H₀ A₀ W c (sev s δ) r D → WSs X st D σ H
structure SndS (C : Ctx) (s : S) : Prop where
  one : Snd1 C s
  all : SndL C s
def asgT (tg : Tg) (T : Tv) (τ : Tys) : Tys := match tg with
  | .one i => (demT τ T.B).set i (some (T.t, T.a))
  | .tup is => setTy (.tup is) (some (if T.nm = .F then (.F, false) else (.S, T.a))) (demT τ T.B)
section
variable {C : Ctx}
theorem SndS.of {s : S} (h : Snd1 C s) (n : ∀ S st, csk C.nb s S st = false) : SndS C s := ⟨h, fun _ _ _ _ st hc => by rw [n] at hc; cases hc⟩
theorem snds_nil : SndS C .nil where
  one := fun _ _ _ _ st hc => by cases st <;> exact absurd hc (by simp [cs1])
  all := fun {S X H₀ A₀ W fz c τ δ σ nd H} G ok hfz si st hc r hr D h => by
    cases st with
    | nil =>
      cases hr
      have h : ∀ τ1, some τ = some τ1 → ∀ σ' nd' H', SI X.K H₀ A₀ W τ1 δ σ' nd' H' → D.nx σ' H' := h
      exact WSs.of pss_nil (h τ rfl σ nd H si)
    | cons _ _ => exact absurd hc (by simp [csk])
theorem snds_seq {a b : S} (iha : SndS C a) (ihb : SndS C b) : SndS C (.seq a b) where
  one := fun _ _ _ _ st hc => by cases st <;> exact absurd hc (by simp [cs1])
  all := fun {S X H₀ A₀ W fz c τ δ σ nd H} G ok hfz si st hc r hr D h => by
    cases st with
    | nil => exact absurd hc (by simp [csk])
    | cons s1 rest =>
      have hc : (cs1 C.nb a S s1 && csk C.nb b S rest) = true := hc
      rw [Bool.and_eq_true] at hc
      have hr : ((sty c a fz τ).bind fun r => match r with
        | some τ' => sty c b fz τ'
        | none => some none) = some r := hr
      obtain ⟨ra, ea, hr⟩ := Option.bind_eq_some_iff.mp hr
      refine WSs.of (pss_cons ps_w pss_w) ?_
      refine iha.one G ok hfz si s1 hc.1 ra ea { D with nx := WSs X rest D } ?_
      have h : FinS X H₀ A₀ W c ((sev a δ).thn (sev b)) r D := h
      cases q : sev a δ with
      | nx δ' =>
        rw [q] at h
        intro τ1 e1 σ' nd' H' si'
        subst e1
        exact ihb.all G ok hfz si' rest hc.2 r hr D h
      | rt d => rw [q] at h; exact h
      | ex x δ' => rw [q] at h; exact h
      | no => rw [q] at h; exact h
theorem noLc_sw {S : Scp} {tg e : Expr} {l : Nat} {env : Env} (hs : env.scope = S.sc) (h : noLc S tg e = true) : swapsWith e (some tg) l env = pure false := by
  cases tg with
  | Name x p =>
    have h : (noComp e || decide (S.sc.names.lookup x = some .cell)) = true := h
    rw [Bool.or_eq_true] at h
    rcases h with h | h
    · exact noComp_sw h
    · have k : env.kindOf x = some .cell := by
        show env.scope.names.lookup x = _
        rw [hs]
        exact of_decide_eq_true h
      cases e <;> first
        | rfl
        | (unfold swapsWith
           simp only [k]
           rw [show ((some NameKind.cell) == some NameKind.local) = false from rfl, Bool.and_false, Bool.false_and, Bool.false_and])
  | _ => exact noComp_sw h
theorem snds_asg {tg : Tg} {e : E} (hok : okE C e) : SndS C (.asg tg e) := by
  have ih := snd e hok
  refine SndS.of (fun {S X H₀ A₀ W fz c τ δ σ nd H} G ok hfz si st hc r hr D h => ?_) (fun _ st => by cases st <;> rfl)
  cases st with
  | Assign tgs pe pos =>
    rcases tgs with _ | ⟨ptg, _ | ⟨_, _⟩⟩ <;> try (exfalso; revert hc; simp [cs1]; done)
    have hc1 : (tgC S tg ptg && ck C.nb e S false pe && (noLc S ptg pe || (isComp e && lcOk S pos.line ptg pe)) && noSwap ptg pe) = true := hc
    simp only [Bool.and_eq_true, Bool.or_eq_true] at hc1
    obtain ⟨⟨⟨hct, hce⟩, hcomp⟩, hns⟩ := hc1
    have hsty : ∃ T, leTys τ c.τx = true ∧ ty e τ = some T ∧ r = some (asgT tg T τ) := by
      cases tg with
      | one i =>
        obtain ⟨h1, h2⟩ := ifB_some (show ifB (leTys τ c.τx) ((ty e τ).bind fun T => some (some ((demT τ T.B).set i (some (T.t, T.a))))) = some r from hr)
        obtain ⟨T, e1, h3⟩ := Option.bind_eq_some_iff.mp h2
        exact ⟨T, h1, e1, (Option.some.inj h3).symm⟩
      | tup is =>
        obtain ⟨h1, h2⟩ := ifB_some (show ifB (leTys τ c.τx) ((ty e τ).bind fun T => some (some (setTy (.tup is) (some (if T.nm = .F then (.F, false) else (.S, T.a))) (demT τ T.B)))) = some r from hr)
        obtain ⟨T, e1, h3⟩ := Option.bind_eq_some_iff.mp h2
        exact ⟨T, h1, e1, (Option.some.inj h3).symm⟩
    obtain ⟨T, hx, eT, rfl⟩ := hsty
    -- the store
    have store : ∀ (d : PyData) (v : V) (H' : Hp), Same H H' → KF X.K H' → Vl X.K H₀ H H' nd T d v → FinS X H₀ A₀ W c (lft δ (setTg tg d δ) .nx) (some (asgT tg T τ)) D → WG X ptg v σ H' D.nx := by
      intro d v H' e1 kf1 vl hf
      obtain ⟨nd', o, s, si', rv, A, ha⟩ := si.val ok e1 kf1 vl
      cases qs : setTg tg d δ with
      | ok δ' =>
        rw [qs] at hf
        cases tg with
        | one i => exact wg_put G.G hct qs rv A ha si' fun σ' nd2 si2 => hf _ rfl σ' nd2 H' si2
        | tup is =>
          by_cases cF : T.nm = .F
          · unfold asgT at hf; rw [show (if T.nm = .F then ((.F, false) : Ty × Bool) else (.S, T.a)) = (.F, false) from if_pos cF] at hf
            rw [Tv.nm_tu cF] at rv
            have es := Rw.f_s _ rv
            subst es
            exact wg_put (a := false) G.G hct qs rv A (fun _ => by simp) si' fun σ' nd2 si2 => hf _ rfl σ' nd2 H' si2
          · unfold asgT at hf; rw [show (if T.nm = .F then ((.F, false) : Ty × Bool) else (.S, T.a)) = (.S, T.a) from if_neg cF] at hf
            obtain ⟨p, q, rv2, l⟩ := Rw.less d (Ty.le_S T.t) rv
            exact wg_put G.G hct qs rv2 (A.less l) (fun e b hb => (l.mem hb).elim (fun z => A.new b z) (ha e b)) si' fun σ' nd2 si2 => hf _ rfl σ' nd2 H' si2
      | ex x =>
        cases tg with
        | one i => cases qs
        | tup is =>
          exfalso
          cases d with
          | tuple ds =>
            have key : ∀ (is : List Nat) (ds : List PyData) (δ : Sl), setTgs is ds δ ≠ .ex x := by
              intro is
              induction is with
              | nil => intro ds δ; cases ds <;> exact nofun
              | cons i is ih => intro ds δ; cases ds with
                | nil => exact nofun
                | cons d ds => exact ih ds _
            exact key is ds δ qs
          | _ => cases qs
      | no => rw [qs] at hf; exact False.elim hf
    have h0 := FinS.lft (τ := τ) ok si hx (show FinS X H₀ A₀ W c (lft δ (ev e δ) fun d => lft δ (setTg tg d δ) .nx) _ D from h)
    rcases hcomp with hcomp | ⟨hc1, hlc⟩
    · refine WS.of (ps_asg pe_w pg_w (show swapsWithSole [ptg] pe pos.line X.env = pure false from noLc_sw G.G.sc hcomp) (tg_swap hct hns) (tg_assign hct)) ?_
      refine ih.hE (si.at G) pe hce T eT _ ?_
      cases qe : ev e δ with
      | ok d =>
        rw [qe] at h0
        exact fun H' e1 kf1 v vl => store d v H' e1 kf1 vl (h0 H' e1 kf1)
      | ex x => rw [qe] at h0; exact h0
      | no => rw [qe] at h0; exact h0
    · -- a comprehension stored
      cases e with
      | comp own tg1 it cnd elt =>
        cases ptg with
        | Name x px =>
          cases tg with
          | tup is => cases hct
          | one i =>
            cases pe with
            | ListComp pe gs scope pcs =>
              rcases gs with _ | ⟨⟨ptg, pit, pifs, n⟩, _ | ⟨_, _⟩⟩ <;> try (exfalso; revert hce; simp [ck]; done)
              rcases n with (_ | n) | n <;> try (exact absurd hce (by intro z; cases z))
              have hce1 : (blkC S.N S.sc scope own && plainX pit && ck C.nb it S true pit && tgC (S.blk scope) tg1 ptg && tgIn (own.map (·.2)) tg1 && ckc C.nb cnd (S.blk scope) pifs && ck C.nb elt (S.blk scope) false pe) = true := hce
              simp only [Bool.and_eq_true] at hce1
              obtain ⟨⟨⟨⟨⟨⟨h1, h2⟩, h3⟩, h4⟩, h5⟩, h6⟩, h7⟩ := hce1
              have hlc1 : (decide (S.sc.names.lookup x = some .local) && (px.line == pcs.line) && !(scope.names.any fun (n, k) => n == x && (k == .local || k == .cell))) = true := hlc
              simp only [Bool.and_eq_true, decide_eq_true_eq, Bool.not_eq_true'] at hlc1
              obtain ⟨⟨l1, l2⟩, l3⟩ := hlc1
              have eT : ((ty it τ).bind fun Ti => (tyc cnd (setTy tg1 (some (.S, Ti.a)) (wipeT τ (own.map (·.2))))).bind fun _ =>
                    (ty elt (setTy tg1 (some (.S, Ti.a)) (wipeT τ (own.map (·.2))))).bind fun U => some (compT Ti U)) = some T := eT
              obtain ⟨Ti, e1, eT⟩ := Option.bind_eq_some_iff.mp eT
              obtain ⟨⟨⟩, e2, eT⟩ := Option.bind_eq_some_iff.mp eT
              obtain ⟨U, e3, eT⟩ := Option.bind_eq_some_iff.mp eT
              cases eT
              have hct1 : stoC S i x = true := hct
              obtain ⟨g1, g2, g3⟩ := stoC_get G.G hct1
              refine WS.kf (WS.of (ps_setLc (i := i) (own := own) G.G.calm (by rw [G.G.N]; exact G.G.nd) g1 (by rw [G.G.sc]; exact l1) (sw_true (by rw [G.G.sc]; exact G.kind) (by rw [G.G.sc]; exact l1) l2 l3) pi_w (blkOk_by (by rw [G.G.N, G.G.sc]; exact h1)) gu_w qu_w eu_w (plain_folded h2)) ?_)
              refine comp_core (Q := fun v H' => D.nx (σ.set i (some v)) H') (snd it hok.1) (snd cnd hok.2.1) (snd elt hok.2.2) (si.at G) h3 h4 h5 h6 h7 e1 e2 e3 ?_
              have h0 : FinG X σ H ((ev it δ >>= iterD) >>= fun xs => nox (compL (compF tg1 cnd elt own δ) xs) >>= fun ys => .ok (PyData.list ys)) (fun d _ => FinS X H₀ A₀ W c (lft δ (setTg (.one i) d δ) .nx) (some (asgT (.one i) (compT Ti U) τ)) D) := h0
              refine h0.imp fun d H' e1 kf1 hf v vl => ?_
              obtain ⟨nd', o, s, si', rv, A, ha⟩ := si.val ok e1 kf1 vl
              exact hf _ rfl _ _ H' (si'.putA rv A ha)
            | _ => cases hlc
        | _ => cases hlc
      | _ => cases hc1
  | _ => exact absurd hc (by simp [cs1])
theorem snds_ret {e : E} (ih : Snd C e) : SndS C (.ret e) := by
  refine SndS.of (fun {S X H₀ A₀ W fz c τ δ σ nd H} G ok hfz si st hc r hr D h => ?_) (fun _ st => by cases st <;> rfl)
  cases st with
  | Return pe pos =>
    cases pe with
    | none => exact absurd hc (by simp [cs1])
    | some pe =>
      have hce : ck C.nb e S false pe = true := hc
      obtain ⟨hx, hr⟩ := ifB_some (show ifB (leTys τ c.τx) ((ty e τ).bind fun T => ifB (Ty.le T.t c.rt) (some none)) = some r from hr)
      obtain ⟨T, eT, hr⟩ := Option.bind_eq_some_iff.mp hr
      obtain ⟨hle, hr⟩ := ifB_some hr
      cases hr
      have h0 := FinS.lft (τ := τ) ok si hx (show FinS X H₀ A₀ W c (lft δ (ev e δ) .rt) _ D from h)
      refine WS.of (ps_ret pe_w) (ih.hE (si.at G) pe hce T eT _ (h0.imp fun d H' e1 kf1 hf v vl => ?_))
      have hf : ∀ v H', Same H₀ H' → KF X.K H' → RtOk X.K H₀ A₀ H' c.rt d v → D.rt v H' := hf
      obtain ⟨nd', o, s, si', rv, A, ha⟩ := si.val ok e1 kf1 vl
      obtain ⟨p, q, rv2, l⟩ := Rw.less d hle rv
      have A2 := A.less l
      exact hf v H' (si.sm.trans e1) kf1 ⟨p, q, rv2, A2.dis, fun b hb => ⟨A2.new b hb, A2.ap b hb⟩, A2.shr⟩
  | _ => exact absurd hc (by simp [cs1])
theorem snds_retS {i : Nat} : SndS C (.retS i) := by
  refine SndS.of (fun {S X H₀ A₀ W fz c τ δ σ nd H} G ok hfz si st hc r hr D h => ?_) (fun _ st => by cases st <;> rfl)
  cases st with
  | Return pe pos =>
    cases pe with
    | none => exact absurd hc (by simp [cs1])
    | some pe =>
      cases pe with
      | Name x px =>
        have hc : visC S i x = true := hc
        obtain ⟨g1, g2, g3, g4⟩ := vis_of G.G hc
        have hr : (match τ[i]? with
          | some (some (t, _)) => ifB (Ty.le t c.rt) (some none)
          | _ => none) = some r := hr
        split at hr
        · rename_i t a et
          obtain ⟨hle, hr⟩ := ifB_some hr
          have h : FinS X H₀ A₀ W c (lft δ (slotD δ i) .rt) r D := h
          unfold slotD at h
          split at h
          · rename_i d hd
            have hf : ∀ v H', Same H₀ H' → KF X.K H' → RtOk X.K H₀ A₀ H' c.rt d v → D.rt v H' := h
            obtain ⟨v, o, s, e1, e2, rv, ha⟩ := si.rep i d t a hd et
            obtain ⟨p, q, rv2, l⟩ := Rw.less d hle rv
            have so := si.slot i _ e2
            refine WS.of (ps_ret (pe_var g1 g2 g3 g4)) ⟨v, e1, hf v H si.sm si.kf ⟨p, q, rv2, l.nodup so.nd, fun b hb => ⟨(so.new b (l.omem hb)).1, l.apart so.nd so.ap b hb⟩, fun b hb => ?_⟩⟩
            exact (l.mem hb).elim (fun z => .inl (so.new b z).1) (so.shr b)
          · exact False.elim h
        · cases hr
      | _ => exact absurd hc (by simp [cs1])
  | _ => exact absurd hc (by simp [cs1])
theorem joinO_l {r1 r2 : Option Tys} : ∀ τ1, r1 = some τ1 → ∃ τ2, joinO r1 r2 = some τ2 ∧ leTys τ1 τ2 = true := by
  rintro τ1 rfl
  cases r2 with
  | none => exact ⟨τ1, rfl, leTys_refl _⟩
  | some τ2 => exact ⟨_, rfl, (joinTys_le τ1 τ2).1⟩
theorem joinO_r {r1 r2 : Option Tys} : ∀ τ1, r2 = some τ1 → ∃ τ2, joinO r1 r2 = some τ2 ∧ leTys τ1 τ2 = true := by
  rintro τ1 rfl
  cases r1 with
  | none => exact ⟨τ1, rfl, leTys_refl _⟩
  | some τ2 => exact ⟨_, rfl, (joinTys_le τ2 τ1).2⟩
theorem snds_ife {e : E} {a b : S} (ih : Snd C e) (iha : SndS C a) (ihb : SndS C b) : SndS C (.ife e a b) := by
  refine SndS.of (fun {S X H₀ A₀ W fz c τ δ σ nd H} G ok hfz si st hc r hr D h => ?_) (fun _ st => by cases st <;> rfl)
  cases st with
  | If pc pa pb pos =>
    have hc1 : (ck C.nb e S false pc && csk C.nb a S pa && csk C.nb b S pb) = true := hc
    simp only [Bool.and_eq_true] at hc1
    obtain ⟨⟨hce, hca⟩, hcb⟩ := hc1
    obtain ⟨hx, hr⟩ := ifB_some (show ifB (leTys τ c.τx) ((ty e τ).bind fun _ => (sty c a fz τ).bind fun r1 => (sty c b fz τ).bind fun r2 => some (joinO r1 r2)) = some r from hr)
    obtain ⟨T, eT, hr⟩ := Option.bind_eq_some_iff.mp hr
    obtain ⟨r1, e1, hr⟩ := Option.bind_eq_some_iff.mp hr
    obtain ⟨r2, e2, hr⟩ := Option.bind_eq_some_iff.mp hr
    cases hr
    have h0 := FinS.lft (τ := τ) ok si hx (show FinS X H₀ A₀ W c (lft δ (ev e δ >>= boolD) fun r => match r with
      | true => sev a δ
      | false => sev b δ) _ D from h)
    refine WS.of (ps_if pt_w pss_w pss_w) (ih.hT (si.at G) pc hce T eT _ (h0.imp fun c' H' e kf hf => ?_))
    have si' := si.grow ok e kf
    cases c' with
    | true =>
      show WSs X pa D σ H'
      exact iha.all G ok hfz si' pa hca r1 e1 D (FinS.weak hf joinO_l)
    | false =>
      show WSs X pb D σ H'
      exact ihb.all G ok hfz si' pb hcb r2 e2 D (FinS.weak hf joinO_r)
  | _ => exact absurd hc (by simp [cs1])
theorem snds_drop {e : E} (ih : Snd C e) : SndS C (.drop e) := by
  refine SndS.of (fun {S X H₀ A₀ W fz c τ δ σ nd H} G ok hfz si st hc r hr D h => ?_) (fun _ st => by cases st <;> rfl)
  cases st with
  | Expr pe pos =>
    have hc1 : (ck C.nb e S false pe && noComp pe) = true := by
      simp only [cs1] at hc
      exact hc
    simp only [Bool.and_eq_true] at hc1
    obtain ⟨hx, hr⟩ := ifB_some (show ifB (leTys τ c.τx) ((ty e τ).bind fun _ => some (some τ)) = some r from hr)
    obtain ⟨T, eT, hr⟩ := Option.bind_eq_some_iff.mp hr
    cases hr
    have h0 := FinS.lft (τ := τ) ok si hx (show FinS X H₀ A₀ W c (lft δ (ev e δ) fun _ => .nx δ) _ D from h)
    refine WS.of (ps_expr pe_w (noComp_sw hc1.2)) (ih.hE (si.at G) pe hc1.1 T eT _ (h0.imp fun d H' e1 kf hf v vl => ?_))
    exact hf τ rfl σ nd H' (si.grow ok e1 kf)
  | _ => exact absurd hc (by simp [cs1])
theorem snds_whi {fuel : Sl → Nat} {τi : Tys} {e : E} {b : S} (ih : Snd C e) (ihb : SndS C b) : SndS C (.whi fuel τi e b) := by
  refine SndS.of (fun {S X H₀ A₀ W fz c τ δ σ nd H} G ok hfz si st hc r hr D h => ?_) (fun _ st => by cases st <;> rfl)
  cases st with
  | While pc pbody orelse pos =>
    cases orelse with
    | cons _ _ => exact absurd hc (by simp [cs1])
    | nil =>
      have hc1 : (ck C.nb e S false pc && csk C.nb b S pbody) = true := hc
      simp only [Bool.and_eq_true] at hc1
      obtain ⟨hx, hr⟩ := ifB_some (show ifB (leTys τ τi && leTys τi c.τx) ((ty e τi).bind fun _ => (sty c b fz τi).bind fun r => ifB (leO r τi) (some (some τi))) = some r from hr)
      rw [Bool.and_eq_true] at hx
      obtain ⟨T, eT, hr⟩ := Option.bind_eq_some_iff.mp hr
      obtain ⟨rb, eb, hr⟩ := Option.bind_eq_some_iff.mp hr
      obtain ⟨hle, hr⟩ := ifB_some hr
      cases hr
      refine WS.of (ps_while G.own pt_w pss_w) ?_
      obtain ⟨nd1, si1, _⟩ := si.weak hx.1
      have h : FinS X H₀ A₀ W c (whL (fun δ => ev e δ >>= boolD) (sev b) (fuel δ) δ) (some τi) D := h
      refine ⟨fun m σ' H' => ∃ δ' nd', SI X.K H₀ A₀ W τi δ' σ' nd' H' ∧ FinS X H₀ A₀ W c (whL (fun δ => ev e δ >>= boolD) (sev b) m δ') (some τi) D, ⟨fuel δ, δ, nd1, si1, h⟩, ?_⟩
      rintro m σ2 H2 ⟨δ2, nd2, si2, h2⟩
      cases m with
      | zero => exact False.elim h2
      | succ m =>
        have h0 := FinS.lft (τ := τi) ok si2 hx.2 (show FinS X H₀ A₀ W c (lft δ2 (ev e δ2 >>= boolD) fun b' => match b' with
          | true => (sev b δ2).thn (whL (fun δ => ev e δ >>= boolD) (sev b) m)
          | false => .nx δ2) (some τi) D from h2)
        refine ih.hT (si2.at G) pc hc1.1 T eT _ (h0.imp fun c' H3 e3 kf3 hf => ?_)
        have si3 := si2.grow ok e3 kf3
        cases c' with
        | false =>
          rw [if_neg (by decide)]
          exact hf τi rfl σ2 nd2 H3 si3
        | true =>
          rw [if_pos rfl]
          refine ⟨fun σ' H' => ∃ δ' nd', SI X.K H₀ A₀ W τi δ' σ' nd' H' ∧ FinS X H₀ A₀ W c (whL (fun δ => ev e δ >>= boolD) (sev b) m δ') (some τi) D, fun σ' H' hN => ⟨m, Nat.lt_succ_self m, hN⟩, ?_⟩
          refine ihb.all G ok hfz si3 pbody hc1.2 rb eb _ ?_
          have hf : FinS X H₀ A₀ W c ((sev b δ2).thn (whL (fun δ => ev e δ >>= boolD) (sev b) m)) (some τi) D := hf
          cases q : sev b δ2 with
          | nx δ' =>
            rw [q] at hf
            intro τ1 e1 σ' nd' H' si'
            subst e1
            obtain ⟨nd4, si4, _⟩ := si'.weak hle
            exact ⟨δ', nd4, si4, hf⟩
          | rt d => rw [q] at hf; exact hf
          | ex x δ' => rw [q] at hf; exact hf
          | no => rw [q] at hf; exact hf
  | _ => exact absurd hc (by simp [cs1])
end
end VS
set_option Elab.async false
set_option linter.all false
set_option maxRecDepth 100000
namespace VS
open PySem PySem.Spec L2
open PyProof.Rows hiding St
section
variable {C : Ctx}
theorem sw_par {x y : Str} {px py pt pt2 : Pos} {k k2 : Nat} {a b : Expr} {env : Env} (hk : env.scope.kind = .function) (hx : env.scope.names.lookup x = some .local) (hy : env.scope.names.lookup y = some .local) (hl : (py.line == px.line) = true) (ne : x ≠ y)
    (ha : plainX a = true) (hb : plainX b = true) (h1 : [a, b].all (foldedForSure 8) = false) (h2 : [a, b].all (constantsAlone 8) = false) :
    swappedStores [.Tuple [.Name x px, .Name y py] k pt] (.Tuple [a, b] k2 pt2) env = pure (some [x, y]) := by
  have kx : env.kindOf x = some .local := hx
  have ky : env.kindOf y = some .local := hy
  have hbk : env.blockKind = .function := by unfold Env.blockKind; rw [hk]; rfl
  have hne : (y == x) = false := by simpa using fun e => ne e.symm
  have hed : ([x, y] : List Str).eraseDups = [x, y] := by
    simp [List.eraseDups_cons, hne]
  unfold swappedStores
  simp only [hbk, h1, h2, List.length_cons, List.length_nil, List.head?_cons, Option.map_some, Expr.pos, Option.getD_some, List.filterMap_cons, List.filterMap_nil, kx, ky, hl]
  simp [hed]
  intro h
  exfalso
  rcases h with h | h
  · cases a <;> simp_all [plainX]
  · cases b <;> simp_all [plainX]
theorem snds_par {i j : Nat} {es : E} (ih : Snd C es) : SndS C (.par i j es) := by
  refine SndS.of (fun {S X H₀ A₀ W fz c τ δ σ nd H} G ok hfz si st hc r hr D h => ?_) (fun _ st => by cases st <;> rfl)
  cases st with
  | Assign tgs pe pos =>
    rcases tgs with _ | ⟨ptg, _ | ⟨_, _⟩⟩ <;> try (exfalso; revert hc; simp [cs1]; done)
    have hc1 : (parC S i j ptg pe && cksT C.nb es S pe) = true := hc
    rw [Bool.and_eq_true] at hc1
    obtain ⟨hpar, hcs⟩ := hc1
    unfold parC at hpar
    split at hpar
    · rename_i x px y py k1 p1 a b k2 p2
      simp only [Bool.and_eq_true, decide_eq_true_eq, Bool.not_eq_true'] at hpar
      obtain ⟨⟨⟨⟨⟨⟨⟨⟨⟨⟨hi, hj⟩, hij⟩, hxy⟩, hx⟩, hy⟩, hl⟩, hpa⟩, hpb⟩, hf1⟩, hf2⟩ := hpar
      obtain ⟨hlx, hr⟩ := ifB_some (show ifB (leTys τ c.τx) ((tys es τ).bind fun T => some (some (setTy (.tup [i, j]) (some (T.nm, T.a)) (demT τ T.B)))) = some r from hr)
      obtain ⟨T, eT, hr⟩ := Option.bind_eq_some_iff.mp hr
      cases hr
      have h0 := FinS.lft (τ := τ) ok si hlx (show FinS X H₀ A₀ W c (lft δ (evl es δ) fun ds => lft δ (setTgs [i, j] ds δ) .nx) _ D from h)
      refine WS.of (ps_par (i := i) (j := j) G.G.calm (by rw [G.G.N]; exact G.G.nd) (by rw [G.G.N]; exact hi) (by rw [G.G.N]; exact hj) hij (by rw [G.G.sc]; exact hx) (by rw [G.G.sc]; exact hy) pa_w
        (sw_par (by rw [G.G.sc]; exact G.kind) (by rw [G.G.sc]; exact hx) (by rw [G.G.sc]; exact hy) hl hxy hpa hpb hf1 hf2)) ?_
      refine ih.hA (si.at G) [a, b] hcs T eT _ (h0.imp fun ds H' e1 kf1 hf vs vl => ?_)
      obtain ⟨nd', o, s, si', rv, A, ha⟩ := si.valL ok e1 kf1 vl
      rcases ds with _ | ⟨d1, _ | ⟨d2, _ | ⟨d3, ds⟩⟩⟩
      · exact False.elim hf
      · exact False.elim hf
      · have hf : FinS X H₀ A₀ W c (.nx ((δ.set i (some d1)).set j (some d2))) (some (setTy (.tup [i, j]) (some (T.nm, T.a)) (demT τ T.B))) D := hf
        rw [rwl_cons] at rv
        obtain ⟨v1, vs', o1, s1, o2', s2', rfl, rfl, rfl, r1, rv⟩ := rv
        rw [rwl_cons] at rv
        obtain ⟨v2, vs'', o2, s2, o3, s3, rfl, rfl, rfl, r2, rv⟩ := rv
        rw [rwl_nil] at rv
        obtain ⟨rfl, rfl, rfl⟩ := rv
        rw [List.append_nil, List.append_nil] at A
        rw [List.append_nil] at ha
        refine ⟨v1, v2, rfl, ?_⟩
        have n := List.nodup_append.mp A.dis
        have A1 : ApartN X.K H₀ A₀ W nd' o1 s1 := ⟨n.1, fun b hb hs => A.ap b (by simp [hb]) (by simp [hs]), fun b hb => A.new b (by simp [hb]), fun b hb => A.out b (by simp [hb]), fun q hq hb => A.pin q hq (by simp [hb]), fun b hb => A.shr b (by simp [hb]), fun b hb => A.free b (by simp [hb])⟩
        have si1 := si'.putA (i := i) (a := T.a) r1 A1 fun e b hb => ha e b (by simp [hb])
        have look : ∀ (k : Nat) (p : List Addr × List Addr), (nd'.set i (o1, s1))[k]? = some p → p = (o1, s1) ∨ nd'[k]? = some p := fun k p hj => by
          by_cases e : i = k
          · subst e
            have hl : i < nd'.length := by
              have := (List.getElem?_eq_some_iff.mp hj).1
              simpa using this
            rw [List.getElem?_set_self hl] at hj
            cases hj; exact .inl rfl
          · rw [List.getElem?_set_ne e] at hj; exact .inr hj
        have A2 : ApartN X.K H₀ A₀ W (nd'.set i (o1, s1)) o2 s2 := by
          refine ⟨n.2.1, fun b hb hs => A.ap b (by simp [hb]) (by simp [hs]), fun b hb => A.new b (by simp [hb]), fun b hb j p hj => ?_, fun q hq hb => A.pin q hq (by simp [hb]), fun b hb => A.shr b (by simp [hb]), fun b hb j p hj => ?_⟩
          · rcases look j p hj with z | z
            · subst z
              exact ⟨fun y => n.2.2 b y b hb rfl, fun y => A.ap b (by simp [hb]) (by simp [y])⟩
            · exact A.out b (by simp [hb]) j p z
          · rcases look j p hj with z | z
            · subst z
              exact fun y => A.ap b (by simp [y]) (by simp [hb])
            · exact A.free b (by simp [hb]) j p z
        exact hf _ rfl _ _ _ (si1.putA (i := j) (a := T.a) r2 A2 fun e b hb => ha e b (by simp [hb]))
      · exact False.elim hf
    · cases hpar
  | _ => exact absurd hc (by simp [cs1])
theorem nox_ok {α : Type} {r : R α} {f : α → Out} {δ : Sl} {X : Cx} {H₀ : Hp} {A₀ : List Addr} {W : Keep} {c : SC} {q : Option Tys} {D : Ends} (h : FinS X H₀ A₀ W c (lft δ (nox r) f) q D) : ∃ a, r = .ok a ∧ FinS X H₀ A₀ W c (f a) q D := by
  cases r with
  | ok a => exact ⟨a, rfl, h⟩
  | ex x => exact False.elim h
  | no => exact False.elim h
theorem demT_ne : ∀ (B : List Nat) (τ : Tys) {i : Nat}, i ∉ B → (demT τ B)[i]? = τ[i]?
  | [], τ, i, _ => rfl
  | j :: B, τ, i, h => by
    have hj : j ≠ i := fun e => h (e ▸ List.mem_cons_self)
    show (demT _ B)[i]? = _
    rw [demT_ne B _ fun z => h (List.mem_cons_of_mem _ z)]
    show (match τ[j]? with
      | some (some (_, a)) => τ.set j (some (.S, a))
      | _ => τ)[i]? = _
    split
    · rw [List.getElem?_set_ne hj]
    · rfl
theorem muT_slot {tf : Bool} {i n : Nat} {T : Tv} {τ τ' : Tys} (h : muT tf i n T τ = some τ') : ∃ t a te, τ[i]? = some (some (t, a)) ∧ tyAt n t = some te ∧ (tf = true → t = .F) := by
  unfold muT at h
  split at h
  · rename_i t a e
    obtain ⟨hc, _⟩ := ifB_some h
    simp only [Bool.and_eq_true, decide_eq_true_eq, Bool.or_eq_true, Bool.not_eq_true'] at hc
    obtain ⟨⟨hat, hiB⟩, htf⟩ := hc
    rw [demT_ne _ _ hiB] at e
    obtain ⟨te, h1⟩ := Option.isSome_iff_exists.mp hat
    refine ⟨t, a, te, e, h1, fun z => ?_⟩
    rcases htf with y | ⟨y, _⟩
    · rw [y] at z; cases z
    · exact y
  · cases h
theorem snds_app {tf : Bool} {p es : E} (hokp : okE C p) (hok : okE C es) : SndS C (.mu .app tf p es) := by
  refine SndS.of (fun {S X H₀ A₀ W fz c τ δ σ nd H} G ok hfz si st hc r hr D h => ?_) (fun _ st => by cases st <;> rfl)
  have ih := snd es hok
  cases st with
  | Expr pe pos =>
    cases pe with
    | Call f args kws cpos =>
      cases f with
      | Attribute po name apos =>
        cases kws with
        | cons _ _ => exact absurd hc (by cases args <;> simp [cs1])
        | nil =>
          cases args with
          | nil => exact absurd hc (by simp [cs1])
          | cons pa ps =>
            have hc1 : (decide (name = ("append" : Str)) && (apos.endLine == cpos.line) && isPth p && ck C.nb p S false po && cks C.nb es S (pa :: ps) && decide (ps.length < 20)) = true := hc
            simp only [Bool.and_eq_true, decide_eq_true_eq] at hc1
            obtain ⟨⟨⟨⟨⟨rfl, hline⟩, hpth⟩, hcp⟩, hcs⟩, hlen⟩ := hc1
            obtain ⟨hx, hr⟩ := ifB_some (show ifB (leTys τ c.τx && ptyOk p τ && decide (pthI p ∉ fz)) ((tys es τ).bind fun T => (muT tf (pthI p) (pthN p) T τ).bind fun τ' => some (some τ')) = some r from hr)
            simp only [Bool.and_eq_true, decide_eq_true_eq] at hx
            obtain ⟨⟨hlx, hpty⟩, hnf⟩ := hx
            obtain ⟨T, eT, hr⟩ := Option.bind_eq_some_iff.mp hr
            obtain ⟨τ', eM, hr⟩ := Option.bind_eq_some_iff.mp hr
            cases hr
            obtain ⟨ks, eks, h⟩ := nox_ok (show FinS X H₀ A₀ W c (lft δ (nox (pthD p δ)) fun ks => lft δ (slotD δ (pthI p)) fun d => lft δ (nox (modG tf .ok ks d)) fun _ => lft δ (evl es δ) fun ds => lft δ (nox (modG tf (mop .app ds) ks d)) fun d' => .nx (δ.set (pthI p) (some d'))) _ D from h)
            have hd : ∃ d, δ[pthI p]? = some (some d) ∧ FinS X H₀ A₀ W c (lft δ (nox (modG tf .ok ks d)) fun _ => lft δ (evl es δ) fun ds => lft δ (nox (modG tf (mop .app ds) ks d)) fun d' => .nx (δ.set (pthI p) (some d'))) (some τ') D := by
              unfold slotD at h
              split at h
              · rename_i d hd; exact ⟨d, hd, h⟩
              · exact False.elim h
            obtain ⟨d, hd, h⟩ := hd
            obtain ⟨d0, em0, h⟩ := nox_ok h
            have h0 := FinS.lft (τ := τ) ok si hlx h
            obtain ⟨t, aa, te0, et, hte0, htf0⟩ := muT_slot eM
            obtain ⟨v, o, s, hv, hnd, hrw, _⟩ := si.rep _ d t aa hd et
            obtain ⟨a, hpa⟩ := path_ex ks hrw em0
            have hkl : ks.length = pthN p := by
              have key : ∀ (p : E) (ks : List PyData), isPth p = true → pthD p δ = .ok ks → ks.length = pthN p := by
                intro p
                induction p with
                | sl i => intro ks _ e; cases e; rfl
                | ix q i ihq _ =>
                  intro ks hp e
                  obtain ⟨k1, h1, e⟩ := R.ok_of (show (pthD q δ >>= fun ks => ev i δ >>= fun k => R.ok (ks ++ [k])) = .ok ks from e)
                  obtain ⟨k2, h2, e⟩ := R.ok_of e
                  cases e
                  rw [List.length_append, ihq k1 hp h1]; rfl
                | _ => intro ks hp e; cases hp
              exact key p ks hpth eks
            have hfz' : ∀ q ∈ W.pn, pthI p ∉ q.2 := fun q hq z => hnf (hfz q hq _ z)
            rw [← hkl] at eM hte0
            have hcall : WE X (.Call (.Attribute po ("append" : Str) apos) (pa :: ps) [] cpos) σ H fun _ H' => D.nx σ H' := by
              have hpl := cks_plain hcs
              rw [List.all_cons, Bool.and_eq_true] at hpl
              have hbase : attributeBase po ("append" : Str) X.env (eval po X.env) = eval po X.env := by
                cases p with
                | sl i => cases po <;> first | rfl | exact absurd hcp (by simp [ck])
                | ix q i => cases po <;> first | rfl | exact absurd hcp (by simp [ck])
                | _ => cases hpth
              refine WE.kf (WE.of (pe_bm PySem.F.plainAttrs_list PySem.F.slot_list_append PySem.F.type_list_append mt_append pe_w pa_w hbase ?_ hline (star_plain hpl.1) (plain_any hpl.2)) ?_)
              · simp only [Bool.and_eq_true, decide_eq_true_eq]
                refine ⟨⟨?_, rfl⟩, ?_⟩
                · have := plain_any (pos := cpos) (env := X.env) (cks_plain hcs)
                  rw [List.all_eq_true]
                  intro x hx
                  rw [List.any_eq_false] at this
                  simpa using this x hx
                · simp; omega
              · refine we_path p hpth hokp (si.at G) po hcp hpty hv eks ⟨_, hpa⟩ fun w H1 e1 kf1 hw => ?_
                have ew := PathV.uniq kf1 ks hw (hpa.same e1 ks)
                subst ew
                have si1 := si.grow ok e1 kf1
                obtain ⟨v1, o1, s1, hv1, hnd1, hrw1, _⟩ := si1.rep _ d t aa hd et
                rw [hv] at hv1
                cases hv1
                have so := si1.slot _ _ hnd1
                obtain ⟨xs0, ys0, vs0, ol0, sl0, M0⟩ := Rw.mod kf1 ks hrw1 so.nd so.ap hte0 htf0 em0 hw
                refine ⟨.inl ⟨rfl, vs0, SqL.of M0.at_⟩, ih.hA (si1.at G) (pa :: ps) hcs T eT _ (FinG.imp (FinS.lft (τ := τ) ok si1 hlx h) fun ds H2 e2 kf2 hf vs vl => ?_)⟩
                obtain ⟨d', emod, hf⟩ := nox_ok hf
                obtain ⟨on, sn, rl, no, hno, hsn, ha⟩ := vl
                have hg : ∀ τ1, some τ' = some τ1 → ∀ σ' nd' H', SI X.K H₀ A₀ W τ1 (δ.set (pthI p) (some d')) σ' nd' H' → D.nx σ' H' := hf
                obtain ⟨te, xs, ys, vsl, ol, sl, hle, hfx, hat, hrl, m1, m2, m3, m4, m5, m6, m7, fin⟩ := SI.mutate ok si1 e2 kf2 no hno hsn ha eM hd hv hfz' emod (hw.same e2 ks)
                rcases ds with _ | ⟨d1, _ | ⟨d2, ds⟩⟩
                · cases hfx
                · have hfx : (if xs.length < sizeLine then R.ok (xs ++ [d1]) else .no) = .ok ys := hfx
                  by_cases hsz : xs.length < sizeLine
                  · rw [if_pos hsz] at hfx
                    cases hfx
                    obtain ⟨w1, rfl, rw1⟩ := rw_one rl
                    refine ⟨a, vsl, w1, rfl, rfl, hat, by rw [hrl.length]; exact hsz, fun kf3 => ?_⟩
                    obtain ⟨p1, q1, rw2, l⟩ := Rw.less d1 hle rw1
                    have mu : Mut (some (HO.lst vsl)) := trivial
                    have ap1 : a ∉ p1 := fun z => m3 (l.omem z)
                    have aq1 : a ∉ q1 := fun z => (l.mem z).elim m3 m4
                    have c1 : (ol ++ p1).Nodup := List.nodup_append.mpr ⟨m5, l.nodup no, fun b hb c hc e => (m6 b hb).2.1 (l.omem (e ▸ hc))⟩
                    have c2 : ∀ b ∈ ol ++ p1, b ∈ ol ∨ b ∈ on := fun b hb => (List.mem_append.mp hb).imp id fun z => l.omem z
                    have c3 : ∀ b ∈ sl ++ q1, b ∈ sl ∨ b ∈ sn ∨ b ∈ on := fun b hb => (List.mem_append.mp hb).imp id fun z => (l.mem z).symm
                    have c4 : ∀ b ∈ ol ++ p1, b ∉ sl ++ q1 := by
                      intro b hb hs
                      rcases List.mem_append.mp hb with hb | hb <;> rcases List.mem_append.mp hs with hs | hs
                      · exact (m6 b hb).1 hs
                      · exact (l.mem hs).elim (m6 b hb).2.1 (m6 b hb).2.2
                      · exact m7 b (l.omem hb) hs
                      · exact l.apart no (fun b hb => (hno b hb).2) b hb hs
                    obtain ⟨nd', si'⟩ := fin (vsl ++ [w1]) (ol ++ p1) (sl ++ q1) kf3 ((RwL.other hat mu m1 m2 hrl).app (RwL.one (Rw.other hat mu ap1 aq1 rw2))) c1 c2 c3 c4
                    exact hg τ' rfl σ nd' _ si'
                  · rw [if_neg hsz] at hfx; cases hfx
                · cases hfx
            exact WS.of (ps_expr pe_w) hcall
      | _ => exact absurd hc (by simp [cs1])
    | _ => exact absurd hc (by simp [cs1])
  | _ => exact absurd hc (by simp [cs1])
end
end VS
set_option Elab.async false
set_option linter.all false
set_option maxRecDepth 100000
namespace VS
open PySem PySem.Spec L2
open PyProof.Rows hiding St
section
variable {C : Ctx}
theorem setTg_ex {tg : Tg} {d : PyData} {δ : Sl} {x : Ex} : setTg tg d δ ≠ .ex x := by
  cases tg with
  | one i => exact nofun
  | tup is =>
    cases d with
    | tuple ds =>
      have key : ∀ (is : List Nat) (ds : List PyData) (δ : Sl), setTgs is ds δ ≠ .ex x := by
        intro is
        induction is with
        | nil => intro ds δ; cases ds <;> exact nofun
        | cons i is ih => intro ds δ; cases ds with
          | nil => exact nofun
          | cons d ds => exact ih ds _
      exact key is ds δ
    | _ => exact nofun
theorem Itk.go' {K : PySem.W.Frag} {J : It} {vs : List V} {St : Hp → Prop} (h : Itk K J vs St) : True := trivial
theorem snds_for {tg : Tg} {it : E} {im : Bool} {τi : Tys} {b : S} (ih : Snd C it) (ihb : SndS C b) : SndS C (.forE tg it im τi b) := by
  refine SndS.of (fun {S X H₀ A₀ W fz c τ δ σ nd H} G ok hfz si st hc r hr D h => ?_) (fun _ st => by cases st <;> rfl)
  cases st with
  | For ptg pit pbody orelse pos =>
    cases orelse with
    | cons _ _ => exact absurd hc (by simp [cs1])
    | nil =>
      have hc1 : (ck C.nb it S true pit && plainX pit && tgC S tg ptg && csk C.nb b S pbody) = true := hc
      simp only [Bool.and_eq_true] at hc1
      obtain ⟨⟨⟨hci, hpl⟩, hct⟩, hcb⟩ := hc1
      obtain ⟨hx, hr⟩ := ifB_some (show ifB (leTys τ c.τx && leTys τ τi) ((ty it τ).bind fun T => ifB (im || T.B.all fun j => match τi[j]? with
        | some (some (t, _)) => decide (t = .S)
        | _ => true) ((sty c b (fz ++ T.B) (setTy tg (some (if im = true then (.F, false) else (.S, T.a))) τi)).bind fun r => ifB (leO r τi) (some (some τi)))) = some r from hr)
      rw [Bool.and_eq_true] at hx
      obtain ⟨T, eT, hr⟩ := Option.bind_eq_some_iff.mp hr
      obtain ⟨hdem, hr⟩ := ifB_some hr
      obtain ⟨rb, eb, hr⟩ := Option.bind_eq_some_iff.mp hr
      obtain ⟨hle, hr⟩ := ifB_some hr
      cases hr
      have h0 := FinS.lft (τ := τ) ok si hx.1 (show FinS X H₀ A₀ W c (lft δ (ev it δ >>= iterD) fun xs => match (!im || immL xs) with
        | true => forL (fun x δ => lft δ (setTg tg x δ) (sev b)) xs δ
        | false => .no) (some τi) D from h)
      refine WS.of (ps_for G.own G.G.calm pi_w pg_w pss_w (plain_folded hpl)) ?_
      refine ih.hI (si.at G) ptg pit hci T eT _ (h0.imp fun xs H1 e1 kf1 hf J vs St w hJ hSt hStd hsz hw hvl => ?_)
      cases him : (!im || immL xs) with
      | false => rw [him] at hf; exact False.elim hf
      | true =>
        rw [him] at hf
        have hf : FinS X H₀ A₀ W c (forL (fun x δ => lft δ (setTg tg x δ) (sev b)) xs δ) (some τi) D := hf
        obtain ⟨sI, rI, hsI, haI⟩ := hvl.allS si.sm
        have lenV : vs.length = xs.length := rI.length
        have imI : im = true → sI = [] := fun e => by
          subst e
          exact (RwL.imm xs him rI).2.1
        obtain ⟨nd1, si1, nl⟩ := (si.grow ok e1 kf1).weak hx.2
        let W' : Keep := ⟨w.toList.map (fun a => (a, T.B)) ++ (sI.map (fun b => (b, ([] : List Nat))) ++ W.pn), fun H => W.J H ∧ St H ∧ RwL X.K H xs .S vs [] sI⟩
        have inW : ∀ q, q ∈ W'.pn ↔ ((∃ a, w = some a ∧ q = (a, T.B)) ∨ (∃ b ∈ sI, q = (b, [])) ∨ q ∈ W.pn) := fun q => by
          show q ∈ w.toList.map (fun a => (a, T.B)) ++ (sI.map (fun b => (b, ([] : List Nat))) ++ W.pn) ↔ _
          rw [List.mem_append, List.mem_append]
          have e1 : q ∈ w.toList.map (fun a => (a, T.B)) ↔ ∃ a, w = some a ∧ q = (a, T.B) := by
            cases w with
            | none => simp
            | some a => simp
          have e2 : q ∈ sI.map (fun b => (b, ([] : List Nat))) ↔ ∃ b ∈ sI, q = (b, []) := by
            rw [List.mem_map]
            exact ⟨fun ⟨b, h1, h2⟩ => ⟨b, h1, h2.symm⟩, fun ⟨b, h1, h2⟩ => ⟨b, h1, h2.symm⟩⟩
          rw [e1, e2]
        have ok' : KeepOk W' := by
          refine ⟨fun Ha Hc e ⟨j1, j2, j3⟩ => ⟨ok.same _ _ e j1, hStd.1 _ _ e j2, RwL.same e _ j3⟩, fun Ha a u mu hp ⟨j1, j2, j3⟩ => ⟨?_, ?_, ?_⟩⟩
          · exact ok.upd _ _ _ mu (fun q hq => hp q ((inW q).mpr (.inr (.inr hq)))) j1
          · refine hStd.2 _ _ _ mu (fun e => ?_) j2
            exact hp (a, T.B) ((inW _).mpr (.inl ⟨a, e, rfl⟩)) rfl
          · obtain ⟨o, ho, m⟩ := mu
            exact RwL.other ho m (by simp) (fun z => hp (a, []) ((inW _).mpr (.inr (.inl ⟨a, z, rfl⟩))) rfl) j3
        -- who may own what is pinned
        have ownB : ∀ (a : Addr), (New X.K H a ∨ ∃ i p, nd[i]? = some p ∧ (a ∈ p.2 ∨ (i ∈ T.B ∧ a ∈ p.1))) → ∀ (i : Nat) (p' : List Addr × List Addr), nd1[i]? = some p' → a ∈ p'.1 → i ∈ T.B ∧ ∃ p, nd[i]? = some p ∧ a ∈ p.1 := fun a ha i p' hp' hm => by
          obtain ⟨p, hp, h1, _⟩ := nl.sub i p' hp'
          rcases ha with z | ⟨k, q, hq, z | ⟨hk, z⟩⟩
          · exact ((si.slot i p hp).old a (.inl (h1 a hm)) z).elim
          · by_cases ek : i = k
            · subst ek
              rw [hp] at hq; cases hq
              exact ((si.slot i p hp).ap a (h1 a hm) z).elim
            · exact ((si.sep i k p q hp hq ek a (h1 a hm)).2 z).elim
          · by_cases ek : i = k
            · subst ek
              exact ⟨hk, p, hp, h1 a hm⟩
            · exact ((si.sep i k p q hp hq ek a (h1 a hm)).1 z).elim
        have si2 : SI X.K H₀ A₀ W' τi δ σ nd1 H1 := by
          refine si1.more (fun q hq => ?_) ⟨si1.J, hSt, rI⟩
          rcases (inW q).mp hq with ⟨a, ea, rfl⟩ | ⟨b', hb', rfl⟩ | hq
          · obtain ⟨w1, w2⟩ := hw a ea
            exact .inr ⟨w1, fun i p' hp' hm => (ownB a w2 i p' hp' hm).1⟩
          · refine .inr ⟨RwL.old xs rI b' (.inr hb'), fun i p' hp' hm => ?_⟩
            obtain ⟨hB, p, hp, hm2⟩ := ownB b' (hsI b' hb') i p' hp' hm
            exfalso
            have noim : im = false := by
              cases im with
              | false => rfl
              | true => rw [imI rfl] at hb'; exact nomatch hb'
            rw [noim, Bool.false_or] at hdem
            have hi := List.all_eq_true.mp hdem i hB
            have pe : p'.1 = [] := by
              by_cases cx : ∃ x, τi[i]? = some (some x)
              · obtain ⟨⟨t, a⟩, ex⟩ := cx
                rw [ex] at hi
                have ht : t = .S := of_decide_eq_true hi
                subst ht
                exact nl.shr i p' a hp' ex
              · rw [nl.non i p' hp' fun x ex => cx ⟨x, ex⟩]
            rw [pe] at hm
            exact nomatch hm
          · exact .inl hq
        have hfz' : ∀ q ∈ W'.pn, ∀ i ∈ q.2, i ∈ fz ++ T.B := fun q hq i hi => by
          rcases (inW q).mp hq with ⟨a, ea, rfl⟩ | ⟨b', hb', rfl⟩ | hq
          · exact List.mem_append_right _ hi
          · exact nomatch hi
          · exact List.mem_append_left _ (hfz q hq i hi)
        have shrI : ∀ b ∈ sI, New X.K H₀ b ∨ b ∈ A₀ := fun b hb => by
          rcases hsI b hb with z | ⟨k, q, hq, z | ⟨_, z⟩⟩
          · exact .inl (z.back si.sm)
          · exact (si.slot k q hq).shr b z
          · exact .inl ((si.slot k q hq).new b z).1
        refine ⟨fun i m σ' H' => m = vs.length - i ∧ i ≤ vs.length ∧ ∃ δ' nd', SI X.K H₀ A₀ W' τi δ' σ' nd' H' ∧ FinS X H₀ A₀ W c (forL (fun x δ => lft δ (setTg tg x δ) (sev b)) (xs.drop i) δ') (some τi) D, ⟨vs.length, by omega, Nat.zero_le _, δ, nd1, si2, hf⟩, fun i m σ2 H2 hW => ?_⟩
        obtain ⟨rfl, hi, δ2, nd2, si3, hf2⟩ := hW
        by_cases hlt : i < vs.length
        · have hxl : i < xs.length := by omega
          refine .inr ⟨hJ.go i _ si3.J.2.1 hlt, fun σ' H' => ∃ δ' nd', SI X.K H₀ A₀ W' τi δ' σ' nd' H' ∧ FinS X H₀ A₀ W c (forL (fun x δ => lft δ (setTg tg x δ) (sev b)) (xs.drop (i + 1)) δ') (some τi) D, fun σ' H' hN => ⟨vs.length - (i + 1), by omega, rfl, hlt, hN⟩, fun x H' hy => ?_⟩
          obtain ⟨rfl, hxv⟩ := hJ.yld i _ x _ si3.J.2.1 hy hlt
          rw [List.drop_eq_getElem_cons hxl] at hf2
          have hf2 : FinS X H₀ A₀ W c ((lft δ2 (setTg tg xs[i] δ2) (sev b)).thn (forL (fun x δ => lft δ (setTg tg x δ) (sev b)) (xs.drop (i + 1)))) (some τi) D := hf2
          cases qs : setTg tg xs[i] δ2 with
          | ex x => exact (setTg_ex qs).elim
          | no => rw [qs] at hf2; exact False.elim hf2
          | ok δ3 =>
            rw [qs] at hf2
            have hf2 : FinS X H₀ A₀ W c ((sev b δ3).thn (forL (fun x δ => lft δ (setTg tg x δ) (sev b)) (xs.drop (i + 1)))) (some τi) D := hf2
            obtain ⟨v1, o1, s1, ev1, rv1, l1, l2⟩ := si3.J.2.2.item (i := i) (d := xs[i]) (by simp [hxl])
            have eo1 : o1 = [] := List.sublist_nil.mp l1
            subst eo1
            have exv : v1 = x := by rw [hxv] at ev1; exact (Option.some.inj ev1).symm
            subst exv
            have A : ApartN X.K H₀ A₀ W' nd2 [] s1 := ⟨List.nodup_nil, by simp, by simp, by simp, by simp, fun b hb => shrI b (l2.subset hb), fun b hb j p hj hm => nomatch (si3.pin (b, []) ((inW _).mpr (.inr (.inl ⟨b, l2.subset hb, rfl⟩)))).2 j p hj hm⟩
            have body : ∀ σ' nd', SI X.K H₀ A₀ W' (setTy tg (some (if im = true then (.F, false) else (.S, T.a))) τi) δ3 σ' nd' H' → WSs X pbody { D with nx := fun σ' H' => ∃ δ' nd', SI X.K H₀ A₀ W' τi δ' σ' nd' H' ∧ FinS X H₀ A₀ W c (forL (fun x δ => lft δ (setTg tg x δ) (sev b)) (xs.drop (i + 1)) δ') (some τi) D, ct := fun σ' H' => ∃ δ' nd', SI X.K H₀ A₀ W' τi δ' σ' nd' H' ∧ FinS X H₀ A₀ W c (forL (fun x δ => lft δ (setTg tg x δ) (sev b)) (xs.drop (i + 1)) δ') (some τi) D, bk := D.nx } σ' H' := fun σ' nd' si4 => by
              refine ihb.all G ok' hfz' si4 pbody hcb rb eb _ ?_
              cases q : sev b δ3 with
              | nx δ' =>
                rw [q] at hf2
                intro τ1 e1 σ' nd' H' si'
                subst e1
                obtain ⟨nd4, si4, _⟩ := si'.weak hle
                exact ⟨δ', nd4, si4, hf2⟩
              | rt d => rw [q] at hf2; exact hf2
              | ex x δ' =>
                rw [q] at hf2
                obtain ⟨Wx, tk, hW⟩ := hf2
                exact ⟨Wx, tk, fun σ' nd' H' cls dx si' ex => hW σ' nd' H' cls dx (si'.less (fun q hq => (inW q).mpr (.inr (.inr hq))) fun j => j.1) ex⟩
              | no => rw [q] at hf2; exact hf2
            cases im with
            | true =>
              have imx : imm xs[i] = true := by
                have key : ∀ (l : List PyData) (i : Nat) (hi : i < l.length), immL l = true → imm l[i] = true := by
                  intro l
                  induction l with
                  | nil => intro i hi; exact absurd hi (by simp)
                  | cons d l ihl =>
                    intro i hi h
                    rw [immL, Bool.and_eq_true] at h
                    cases i with
                    | zero => exact h.1
                    | succ i => exact ihl i (by simpa using hi) h.2
                exact key xs i hxl him
              obtain ⟨_, es, rF⟩ := Rw.imm _ imx rv1
              subst es
              refine wg_put (t := .F) (a := false) G.G hct qs (rF .F) A (fun _ => by simp) si3 fun σ' nd' si4 => ?_
              cases tg <;> exact body σ' nd' si4
            | false =>
              refine wg_put (t := .S) (a := T.a) G.G hct qs rv1 A (fun e b hb => haI e b (l2.subset hb)) si3 fun σ' nd' si4 => ?_
              cases tg <;> exact body σ' nd' si4
        · have ei : i = vs.length := by omega
          subst ei
          refine .inl ⟨hJ.stop _ si3.J.2.1, ?_⟩
          rw [List.drop_of_length_le (by omega)] at hf2
          exact hf2 τi rfl σ2 nd2 H2 (si3.less (fun q hq => (inW q).mpr (.inr (.inr hq))) fun j => j.1)
  | _ => exact absurd hc (by simp [cs1])
end
end VS
set_option Elab.async false
set_option linter.all false
set_option maxRecDepth 100000
namespace VS
open PySem PySem.Spec L2
open PyProof.Rows hiding St
section
variable {C : Ctx}
theorem plain_set {o i : Expr} {pos : Pos} {env : Env} (h : plainX i = true) : ∀ v, assign (.Subscript o i pos) env v = (do
      let ov ← holding [v] (eval o env)
      let iv ← holding [v, ov] (eval i env)
      standAt pos
      holding [v, ov, iv] (setItem ov iv v)
      release [v, ov, iv] []) := by
  cases i <;> first | (intro _; rfl) | exact absurd (show false = true from h) (by decide)
theorem pthD_len {δ : Sl} : ∀ (p : E) (ks : List PyData), isPth p = true → pthD p δ = .ok ks → ks.length = pthN p
  | .sl i, ks, _, e => by cases e; rfl
  | .ix q i, ks, hp, e => by
    obtain ⟨k1, h1, e⟩ := R.ok_of (show (pthD q δ >>= fun ks => ev i δ >>= fun k => R.ok (ks ++ [k])) = .ok ks from e)
    obtain ⟨k2, h2, e⟩ := R.ok_of e
    cases e
    rw [List.length_append, pthD_len q k1 hp h1]; rfl
theorem snds_setI {tf : Bool} {p i e : E} (hokp : okE C p) (hoki : okE C i) (hok : okE C e) : SndS C (.setI tf p i e) := by
  refine SndS.of (fun {S X H₀ A₀ W fz c τ δ σ nd H} G ok hfz si st hc r hr D h => ?_) (fun _ st => by cases st <;> rfl)
  have ih := snd e hok
  have ihi := snd i hoki
  cases st with
  | Assign tgs pe pos =>
    rcases tgs with _ | ⟨ptg, _ | ⟨_, _⟩⟩ <;> try (first | exact absurd (show false = true from hc) Bool.false_ne_true | (cases ptg <;> exact absurd (show false = true from hc) Bool.false_ne_true))
    cases ptg with
    | Subscript po pi p' =>
      have hc1 : (isPth p && ck C.nb p S false po && plainX pi && ck C.nb i S false pi && ck C.nb e S false pe) = true := hc
      simp only [Bool.and_eq_true, decide_eq_true_eq] at hc1
      obtain ⟨⟨⟨⟨hpth, hcp⟩, hpl⟩, hci⟩, hce⟩ := hc1
      obtain ⟨hx, hr⟩ := ifB_some (show ifB (leTys τ c.τx && ptyOk p τ && (ty i τ).isSome && decide (pthI p ∉ fz)) ((ty e τ).bind fun T => (muT tf (pthI p) (pthN p) T τ).bind fun τ' => some (some τ')) = some r from hr)
      simp only [Bool.and_eq_true, decide_eq_true_eq] at hx
      obtain ⟨⟨⟨hlx, hpty⟩, hti⟩, hnf⟩ := hx
      obtain ⟨Ti, eTi⟩ := Option.isSome_iff_exists.mp hti
      obtain ⟨T, eT, hr⟩ := Option.bind_eq_some_iff.mp hr
      obtain ⟨τ', eM, hr⟩ := Option.bind_eq_some_iff.mp hr
      cases hr
      have h0 := FinS.lft (τ := τ) ok si hlx (show FinS X H₀ A₀ W c (lft δ (ev e δ) fun y => lft δ (nox (pthD p δ)) fun ks => lft δ (nox (ev i δ)) fun k => lft δ (slotD δ (pthI p)) fun d => lft δ (nox (modG tf (setD k y) ks d)) fun d' => .nx (δ.set (pthI p) (some d'))) _ D from h)
      have hsw : swapsWithSole [.Subscript po pi p'] pe pos.line X.env = pure false := by cases pe <;> rfl
      refine WS.kf (WS.of (ps_asg pe_w (pg_sub pe_w pe_w set_list (plain_set hpl)) hsw sw_sub) ?_)
      refine ih.hE (si.at G) pe hce T eT _ (h0.imp fun y H1 e1 kf1 hf v vl => ?_)
      obtain ⟨ks, eks, hf⟩ := nox_ok hf
      obtain ⟨k, ek, hf⟩ := nox_ok hf
      have hd : ∃ d, δ[pthI p]? = some (some d) ∧ FinS X H₀ A₀ W c (lft δ (nox (modG tf (setD k y) ks d)) fun d' => .nx (δ.set (pthI p) (some d'))) (some τ') D := by
        unfold slotD at hf
        split at hf
        · rename_i d hd; exact ⟨d, hd, hf⟩
        · exact False.elim hf
      obtain ⟨d, hd, hf⟩ := hd
      obtain ⟨d', emod, hf⟩ := nox_ok hf
      obtain ⟨t, aa, te0, et, hte0, htf0⟩ := muT_slot eM
      have si1 := si.grow ok e1 kf1
      obtain ⟨v0, o0, s0, hv, hnd, hrw, _⟩ := si1.rep _ d t aa hd et
      obtain ⟨a, hpa⟩ := path_ex ks hrw emod
      rw [← pthD_len p ks hpth eks] at eM hte0
      have hfz' : ∀ q ∈ W.pn, pthI p ∉ q.2 := fun q hq z => hnf (hfz q hq _ z)
      refine we_path p hpth hokp (si1.at G) po hcp hpty hv eks ⟨_, hpa⟩ fun w H2 e2 kf2 hw => ?_
      have ew := PathV.uniq kf2 ks hw (hpa.same e2 ks)
      subst ew
      have si2 := si1.grow ok e2 kf2
      refine ihi.hE (si2.at G) pi hci Ti eTi _ ?_
      rw [ek]
      intro H3 e3 kf3 x vx
      obtain ⟨_, _, _, rx⟩ := vx.rw
      obtain ⟨on, sn, rl, no, hno, hsn, ha⟩ := vl.nm si.sm
      obtain ⟨te, xs, ys, vsl, ol, sl, hle, hfx, hat, hrl, m1, m2, m3, m4, m5, m6, m7, fin⟩ := SI.mutate (T := T) ok si ((e1.trans e2).trans e3) kf3 no hno hsn ha eM hd hv hfz' emod (hw.same e3 ks)
      have hg : ∀ τ1, some τ' = some τ1 → ∀ σ' nd' H', SI X.K H₀ A₀ W τ1 (δ.set (pthI p) (some d')) σ' nd' H' → D.nx σ' H' := hf
      unfold setD at hfx
      cases hj : stepD xs k with
      | none => rw [hj] at hfx; cases hfx
      | some j =>
        rw [hj] at hfx
        have hfx : R.ok (xs.set j y) = .ok ys := hfx
        cases hfx
        cases k with
        | int n =>
          rw [rw_int] at rx
          obtain ⟨rfl, _⟩ := rx
          have hj : ixN xs.length n = some j := hj
          refine ⟨a, vsl, n, j, rfl, rfl, hat, by rw [hrl.length]; exact hj, fun kf4 => ?_⟩
          obtain ⟨p1, q1, rw2, l⟩ := Rw.less y hle (Rw.same (e2.trans e3) y rl)
          have mu : Mut (some (HO.lst vsl)) := trivial
          have ap1 : a ∉ p1 := fun z => m3 (l.omem z)
          have aq1 : a ∉ q1 := fun z => (l.mem z).elim m3 m4
          by_cases hjl : j < xs.length
          · obtain ⟨w0, oA, ox, oB, sA, sx, sB, vA, vB, rfl, rfl, hw0, rfl, rfl, r1, r2, r3⟩ := hrl.setAt (j := j) (x := xs[j]) (by simp [hjl])
            have n1 := List.nodup_append.mp m5
            have n2 := List.nodup_append.mp n1.2.1
            have rA := RwL.other (w := HO.lst ((vA ++ w0 :: vB).set vA.length v)) hat mu (fun z => m1 (by simp [z])) (fun z => m2 (by simp [z])) r1
            have rB := RwL.other (w := HO.lst ((vA ++ w0 :: vB).set vA.length v)) hat mu (fun z => m1 (by simp [z])) (fun z => m2 (by simp [z])) r3
            have rX := Rw.other (w := HO.lst ((vA ++ w0 :: vB).set vA.length v)) hat mu ap1 aq1 rw2
            have rr : RwL X.K (upd H3 a (.lst ((vA ++ w0 :: vB).set vA.length v))) (xs.set vA.length y) te ((vA ++ w0 :: vB).set vA.length v) (oA ++ (p1 ++ oB)) (sA ++ (q1 ++ sB)) := by
              rw [set_split (x := xs[vA.length]) (by simp [hjl])]
              have ev : (vA ++ w0 :: vB).set vA.length v = vA ++ v :: vB := by simp
              rw [ev] at rA rB rX ⊢
              exact rA.app (rwl_cons.mpr ⟨v, vB, p1, q1, oB, sB, rfl, rfl, rfl, rX, rB⟩)
            have c1 : (oA ++ (p1 ++ oB)).Nodup := by
              refine List.nodup_append.mpr ⟨n1.1, List.nodup_append.mpr ⟨l.nodup no, n2.2.1, fun b hb c hc e => ?_⟩, fun b hb c hc e => ?_⟩
              · subst e
                exact (m6 b (by simp [hc])).2.1 (l.omem hb)
              · subst e
                rcases List.mem_append.mp hc with hc | hc
                · exact (m6 b (by simp [hb])).2.1 (l.omem hc)
                · exact n1.2.2 b hb b (by simp [hc]) rfl
            have c2 : ∀ b ∈ oA ++ (p1 ++ oB), b ∈ oA ++ (ox ++ oB) ∨ b ∈ on := fun b hb => by
              rcases List.mem_append.mp hb with hb | hb
              · exact .inl (by simp [hb])
              · rcases List.mem_append.mp hb with hb | hb
                · exact .inr (l.omem hb)
                · exact .inl (by simp [hb])
            have c3 : ∀ b ∈ sA ++ (q1 ++ sB), b ∈ sA ++ (sx ++ sB) ∨ b ∈ sn ∨ b ∈ on := fun b hb => by
              rcases List.mem_append.mp hb with hb | hb
              · exact .inl (by simp [hb])
              · rcases List.mem_append.mp hb with hb | hb
                · exact .inr (l.mem hb).symm
                · exact .inl (by simp [hb])
            have c4 : ∀ b ∈ oA ++ (p1 ++ oB), b ∉ sA ++ (q1 ++ sB) := by
              have sOut : ∀ b, b ∈ oA ∨ b ∈ oB → b ∉ q1 := fun b hb hs => by
                have bo : b ∈ oA ++ (ox ++ oB) := by rcases hb with z | z <;> simp [z]
                exact (l.mem hs).elim (m6 b bo).2.1 (m6 b bo).2.2
              intro b hb hs
              rcases List.mem_append.mp hb with hb | hb
              · rcases List.mem_append.mp hs with hs | hs
                · exact (m6 b (by simp [hb])).1 (by simp [hs])
                · rcases List.mem_append.mp hs with hs | hs
                  · exact sOut b (.inl hb) hs
                  · exact (m6 b (by simp [hb])).1 (by simp [hs])
              · rcases List.mem_append.mp hb with hb | hb
                · rcases List.mem_append.mp hs with hs | hs
                  · exact m7 b (l.omem hb) (by simp [hs])
                  · rcases List.mem_append.mp hs with hs | hs
                    · exact l.apart no (fun b hb => (hno b hb).2) b hb hs
                    · exact m7 b (l.omem hb) (by simp [hs])
                · rcases List.mem_append.mp hs with hs | hs
                  · exact (m6 b (by simp [hb])).1 (by simp [hs])
                  · rcases List.mem_append.mp hs with hs | hs
                    · exact sOut b (.inr hb) hs
                    · exact (m6 b (by simp [hb])).1 (by simp [hs])
            obtain ⟨nd', si'⟩ := fin _ _ _ kf4 rr c1 c2 c3 c4
            exact hg τ' rfl σ nd' _ si'
          · have e1 : xs.set j y = xs := List.set_eq_of_length_le (by omega)
            have e2 : vsl.set j v = vsl := List.set_eq_of_length_le (by rw [hrl.length]; omega)
            rw [e2] at kf4 ⊢
            rw [e1] at fin
            obtain ⟨nd', si'⟩ := fin vsl ol sl kf4 (RwL.other hat mu m1 m2 hrl) m5 (fun b hb => .inl hb) (fun b hb => .inl hb) (fun b hb => (m6 b hb).1)
            exact hg τ' rfl σ nd' _ si'
        | _ => cases hj
    | _ => exact absurd hc (by simp [cs1])
  | _ => exact absurd hc (by simp [cs1])
/-- every tree of statements is sound -/
theorem snds : ∀ (s : S), okS C s → SndS C s
  | .nil, _ => snds_nil
  | .seq a b, h => snds_seq (snds a h.1) (snds b h.2)
  | .asg tg e, h => snds_asg h
  | .par i j es, h => snds_par (snd es h)
  | .mu .app tf p es, h => snds_app h.1 h.2
  | .setI tf p i e, h => snds_setI h.1 h.2.1 h.2.2
  | .ret e, h => snds_ret (snd e h)
  | .retS i, _ => snds_retS
  | .ife c a b, h => snds_ife (snd c h.1) (snds a h.2.1) (snds b h.2.2)
  | .forE tg it im τi b, h => snds_for (snd it h.1) (snds b h.2)
  | .whi f τi c b, h => snds_whi (snd c h.1) (snds b h.2)
  | .drop e, h => snds_drop (snd e h)
end
end VS
set_option Elab.async false
set_option linter.all false
set_option maxRecDepth 100000
namespace VS
open PySem PySem.Spec L2
open PyProof.Rows hiding St
/-! ### defs -/
def fnD (s : S) (n m : Nat) (ds : List D) : R D := match decide (ds.length = m) with
  | true => match sev s (ds.map some ++ List.replicate (n - m) none) with
    | .nx _ => .ok .none
    | .rt d => .ok d
    | .ex x _ => .ex x
    | .no => .no
  | false => .no
def par0 (m n : Nat) : Tys := List.replicate m (some (.S, true)) ++ List.replicate (n - m) (some (.F, false))
def fuI (i : Nat) (δ : Sl) : Nat := match slotD δ i with
  | .ok (.int b) => b.toNat + 1
  | _ => 0
def celS (scope : Scope) : Str → Bool := fun x => scope.names.lookup x == some .cell
abbrev Ctx.lv (C : Ctx) (k : Nat) : Ctx := { C with k := k }
theorem WSs.kf0 {X : Cx} {st : List Stmt} {D : Ends} {σ : St} {H : Hp} (h : KF X.K H → WSs X st D σ H) : WSs X st D σ H := fun pins s I => h (kf_inv I) pins s I
theorem fnD_len {s : S} {n m : Nat} {ds : List D} (h : fnD s n m ds ≠ .no) : ds.length = m := by
  unfold fnD at h
  by_cases e : ds.length = m
  · exact e
  · rw [decide_eq_false e] at h
    exact absurd rfl h
theorem keep0 : KeepOk ⟨[], fun _ => True⟩ := ⟨fun _ _ _ h => h, fun _ _ _ _ _ h => h⟩
theorem fn_ok {C : Ctx} {x : Str} {args : Arguments} {body : List Stmt} {scope : Scope} {f : Addr} {fd : FuncData} {N ps : List Str} {t : Ty} {s : S} {r : Option Tys} (F : FunD C.K x x args body scope [] [] f fd) (Sc : FnScope N ps scope) (hok : okS C s)
    (hle : ps.length ≤ N.length) (hck : csk C.nb s ⟨N, scope, celS scope⟩ body = true) (hty : sty ⟨t, []⟩ s [] (par0 ps.length N.length) = some r) :
    FnOk C.P C.w C.K C.mg C.base (L2.CX C.P C.w) (C.k + 1) f fd ps (spF C.K C.mg ps.length (fnD s N.length ps.length) t) := by
  refine F.ok Sc (fun vs H Q E h => ?_) (fun cdv A outer s0 H vs Q E hr h => ⟨_, pss_w, ?_⟩)
  · obtain ⟨ds, sh, h1, h2, _⟩ := h
    rw [← h1]; exact h2.length
  · obtain ⟨ds, sh, h1, h2, h3⟩ := h
    refine WSs.kf0 fun kf => ?_
    have kf : KF C.K H := kf
    have G : GdS C ⟨N, scope, celS scope⟩ (cxOf (L2.CX C.P C.w) C.P C.w C.K C.mg C.base N x scope f cdv A outer s0 H E) :=
      ⟨⟨rfl, rfl, rfl, rfl, rfl, rfl, hr, rfl, rfl, Sc.nd, fun _ _ => rfl⟩, passes_of (K := fun e s' => L2.CX C.P C.w outer H s0 E e s') rfl, Sc.kind⟩
    -- the parameters' nodes
    obtain ⟨nl, hnl, hP⟩ := exists_list (P := fun i (p : List Addr × List Addr) => p.1 = [] ∧ ∃ d v, ds[i]? = some d ∧ vs[i]? = some v ∧ Rw C.K H d .S v [] p.2 ∧ ∀ b ∈ p.2, b ∈ sh) ds.length fun i hi => by
      obtain ⟨v, o', s', e1, r1, l1, l2⟩ := h2.item (i := i) (d := ds[i]) (by simp [hi])
      have eo : o' = [] := List.sublist_nil.mp l1
      subst eo
      exact ⟨([], s'), rfl, ds[i], v, by simp [hi], e1, r1, fun b hb => l2.subset hb⟩
    have lenV : vs.length = ds.length := h2.length
    have look : ∀ (i : Nat) (p : List Addr × List Addr), (nl ++ List.replicate (N.length - ps.length) ([], []))[i]? = some p → (i < ds.length ∧ nl[i]? = some p) ∨ p = ([], []) := fun i p hi => by
      by_cases hl : i < nl.length
      · rw [List.getElem?_append_left hl] at hi
        exact .inl ⟨by omega, hi⟩
      · rw [List.getElem?_append_right (by omega)] at hi
        have := List.mem_of_getElem? hi
        exact .inr (List.eq_of_mem_replicate this)
    have si : SI C.K H sh ⟨[], fun _ => True⟩ (par0 ps.length N.length) (ds.map some ++ List.replicate (N.length - ps.length) none) (L2.start N vs) (nl ++ List.replicate (N.length - ps.length) ([], [])) H := by
      refine ⟨kf, Same.refl H, ?_, ?_, fun i d t a e1 e2 => ?_, fun i p hi => ?_, fun i j p q hi hj ne b hb => ?_, fun q hq => by simp at hq, trivial⟩
      · unfold L2.start
        simp only [List.length_append, List.length_map, List.length_replicate, lenV, h1]
      · simp only [List.length_append, List.length_map, List.length_replicate, hnl]
      · have hi : i < ds.length := by
          by_cases c : i < ds.length
          · exact c
          · rw [List.getElem?_append_right (by rw [List.length_map]; omega)] at e1
            have := List.mem_of_getElem? e1
            exact absurd (List.eq_of_mem_replicate this) nofun
        have e1' : ds[i]? = some d := by
          rw [List.getElem?_append_left (by rw [List.length_map]; exact hi), List.getElem?_map] at e1
          cases q : ds[i]? with
          | none => rw [q] at e1; cases e1
          | some y => rw [q] at e1; cases e1; rfl
        have ht : t = .S ∧ a = true := by
          unfold par0 at e2
          rw [List.getElem?_append_left (by rw [List.length_replicate]; omega)] at e2
          have := List.mem_of_getElem? e2
          have := List.eq_of_mem_replicate this
          cases this
          exact ⟨rfl, rfl⟩
        obtain ⟨rfl, rfl⟩ := ht
        have hnl' : nl[i]? = some nl[i] := by simp [hnl, hi]
        obtain ⟨hp1, d', v, k1, k2, k3, k4⟩ := hP i _ hnl'
        rw [e1'] at k1
        cases k1
        refine ⟨v, [], nl[i].2, ?_, ?_, k3, nofun⟩
        · unfold L2.start
          rw [List.getElem?_append_left (by rw [List.length_map]; omega), List.getElem?_map, k2]; rfl
        · rw [List.getElem?_append_left (by omega), hnl', ← hp1]
      · rcases look i p hi with ⟨hl, z⟩ | rfl
        · obtain ⟨hp1, d', v, k1, k2, k3, k4⟩ := hP i p z
          refine ⟨by rw [hp1]; exact List.nodup_nil, by rw [hp1]; simp, by rw [hp1]; simp, fun b hb => .inr (k4 b hb), fun b hb => ?_⟩
          rw [hp1] at hb
          exact Rw.old d' k3 b (hb.imp (fun z => nomatch z) id)
        · exact ⟨by simp, by simp, by simp, by simp, by simp⟩
      · rcases look i p hi with ⟨hl, z⟩ | rfl
        · obtain ⟨hp1, _⟩ := hP i p z
          rw [hp1] at hb; exact nomatch hb
        · exact nomatch hb
    refine (snds s hok).all (W := ⟨[], fun _ => True⟩) (fz := []) (c := ⟨t, []⟩) G keep0 (by simp) si body hck r hty _ ?_
    unfold fnD at h3
    rw [decide_eq_true h1] at h3
    dsimp only at h3
    cases q : sev s (ds.map some ++ List.replicate (N.length - ps.length) none) with
    | nx δ' =>
      rw [q] at h3
      intro τ1 _ σ' nd' H' si'
      exact h3 .non H' si'.sm si'.kf ⟨[], [], rw_non.mpr ⟨rfl, rfl, rfl⟩, List.nodup_nil, by simp, by simp⟩
    | rt d =>
      rw [q] at h3
      intro v H' sm kf' ⟨o, s', r1, r2, r3, r4⟩
      exact h3 v H' sm kf' ⟨o, s', r1, r2, r3, r4⟩
    | ex y δ' =>
      rw [q] at h3
      refine ⟨fun cls dx _ H' => E cls dx H', takes_of rfl rfl rfl rfl, fun σ' nd' H' cls dx si' ex => ?_⟩
      exact h3 cls dx H' si'.sm si'.kf ex
    | no => rw [q] at h3; exact h3
theorem FnV.up {C : Ctx} {x : Str} {F : List D → R D} {t : Ty} {k : Nat} (h : FnV C x F t) (hk : Nat.ble C.k k = true) : FnV (C.lv k) x F t := by
  obtain ⟨f, fd, ps, j, h1, h2⟩ := h.ex
  exact ⟨f, fd, ps, j, Nat.le_trans h1 (Nat.le_of_ble_eq_true hk), h2⟩
/-- a def of the text -/
theorem FnV.ofD {C : Ctx} {x : Str} {args : Arguments} {body : List Stmt} {scope : Scope} {f : Addr} {fd : FuncData} {N ps : List Str} {t : Ty} {s : S} {r : Option Tys} (F : FunD C.K x x args body scope [] [] f fd) (hm : C.mg x = some (.ref f)) (hb : Binds C.K fd ps [])
    (Sc : FnScope N ps scope) (hok : okS C s) (hle : ps.length ≤ N.length) (hck : csk C.nb s ⟨N, scope, celS scope⟩ body = true) (hty : sty ⟨t, []⟩ s [] (par0 ps.length N.length) = some r) : FnV (C.lv (C.k + 1)) x (fnD s N.length ps.length) t :=
  ⟨f, fd, ps, C.k + 1, Nat.le_refl _, fun _ => fnD_len, fn_ok F Sc hok hle hck hty, hm, F.kp, hb⟩
/-- the law's def -/
def spLaw (K : PySem.W.Frag) : Sp := fun vs H Q _ => ∃ (a : Addr) (ns : List Int), vs = [.ref a] ∧ SqL K H a (ns.map V.int) ∧ ns.length ≤ 63 ∧ ∀ H', Q (.bl true) H'
theorem rw_ns {K : PySem.W.Frag} {H : Hp} : ∀ ns : List Int, RwL K H (ns.map fun i => PyData.int i) .S (ns.map V.int) [] []
  | [] => rwl_nil.mpr ⟨rfl, rfl, rfl⟩
  | n :: ns => rwl_cons.mpr ⟨.int n, _, [], [], [], [], rfl, rfl, rfl, rw_int.mpr ⟨rfl, rfl, rfl⟩, rw_ns ns⟩
theorem law_cx0 {P : Program} {w : World} {K : PySem.W.Frag} {mg : Str → Option Value} {base : Heap} {k : Nat} {f : Addr} {fd : FuncData} {ps : List Str} (F : FnOk P w K mg base (L2.CX P w) k f fd ps (spLaw K)) : FnOk P w K mg base CX0 k f fd ps (spLaw K) where
  len := F.len
  run := fun A outer s H args us vs Q E hr he hb hv hs => codeAny_mono (F.run A outer s H args us vs Q (fun _ _ _ => False) hr he hb hv hs) fun r s' h => by
    cases r with
    | ok fl => cases fl <;> exact h
    | error e =>
      obtain ⟨_, _, _, _, _, _, _, _, _, _, _, _, z⟩ := h
      exact z.elim
theorem law_ok {C : Ctx} {x : Str} {args : Arguments} {body : List Stmt} {scope : Scope} {f : Addr} {fd : FuncData} {N : List Str} {t : Ty} {s : S} {r : Option Tys} (F : FunD C.K x x args body scope [] [] f fd)
    (Sc : FnScope N ["script"] scope) (hok : okS C s) (hle : 1 ≤ N.length) (hck : csk C.nb s ⟨N, scope, celS scope⟩ body = true) (hty : sty ⟨t, []⟩ s [] (par0 1 N.length) = some r)
    (hlaw : ∀ ns : List Int, ns.length ≤ 63 → fnD s N.length 1 [.list (ns.map fun i => PyData.int i)] = .ok (.bool true)) :
    FnOk C.P C.w C.K C.mg C.base CX0 (C.k + 1) f fd ["script"] (spLaw C.K) := by
  refine law_cx0 ((fn_ok F Sc hok hle hck hty).imp fun vs H Q E h => ?_)
  obtain ⟨a, ns, rfl, hS, hlen, q⟩ := h
  refine ⟨[.list (ns.map fun i => PyData.int i)], [a], rfl, RwL.one (rw_lst.mpr ⟨a, _, [], [], rfl, hS, rw_ns ns, rfl, rfl⟩), ?_⟩
  rw [show fnD s N.length (["script"] : List Str).length [.list (ns.map fun i => PyData.int i)] = .ok (.bool true) from hlaw ns hlen]
  intro v H' _ _ ⟨o, s', r1, _⟩
  rw [rw_bl] at r1
  rw [r1.1]
  exact q H'
end VS
set_option Elab.async false
set_option linter.all false
set_option maxRecDepth 100000
namespace VS
open PySem PySem.Spec L2
open PyProof.Rows hiding St
/-! ### reckoning with trees -/
section
variable {α β : Type} {δ δ' : Sl}
@[simp] theorem q_ok (a : α) (f : α → R β) : (R.ok a >>= f) = f a := (rfl)
@[simp] theorem q_no (f : α → R β) : ((R.no : R α) >>= f) = .no := (rfl)
@[simp] theorem q_ex (x : Ex) (f : α → R β) : ((R.ex x : R α) >>= f) = .ex x := (rfl)
@[simp] theorem q_lok (a : α) (f : α → Out) : lft δ (.ok a) f = f a := (rfl)
@[simp] theorem q_lno (f : α → Out) : lft δ .no f = .no := (rfl)
@[simp] theorem q_lex (x : Ex) (f : α → Out) : lft δ (.ex x) f = .ex x δ := (rfl)
@[simp] theorem q_tn (f : Sl → Out) : (Out.nx δ).thn f = f δ := (rfl)
@[simp] theorem q_tr (d : D) (f : Sl → Out) : (Out.rt d).thn f = .rt d := (rfl)
@[simp] theorem q_tx (x : Ex) (f : Sl → Out) : (Out.ex x δ).thn f = .ex x δ := (rfl)
@[simp] theorem q_to (f : Sl → Out) : (Out.no).thn f = .no := (rfl)
@[simp] theorem q_nox (a : α) : nox (R.ok a) = .ok a := (rfl)
@[simp] theorem q_noxn : nox (R.no : R α) = .no := (rfl)
-- slots
@[simp] theorem q_s0 (d : D) (l : Sl) : slotD (some d :: l) 0 = .ok d := (rfl)
@[simp] theorem q_s1 (o : Option D) (l : Sl) (n : Nat) : slotD (o :: l) (n + 1) = slotD l n := (rfl)
@[simp] theorem q_t1 (i : Nat) (d : D) (δ : Sl) : setTg (.one i) d δ = .ok (δ.set i (some d)) := (rfl)
@[simp] theorem q_t2 (is : List Nat) (ds : List D) (δ : Sl) : setTg (.tup is) (.tuple ds) δ = setTgs is ds δ := (rfl)
@[simp] theorem q_t3 (δ : Sl) : setTgs [] [] δ = .ok δ := (rfl)
@[simp] theorem q_t4 (i : Nat) (is : List Nat) (d : D) (ds : List D) (δ : Sl) : setTgs (i :: is) (d :: ds) δ = setTgs is ds (δ.set i (some d)) := (rfl)
@[simp] theorem q_w0 (δ : Sl) : wipeD δ [] = δ := (rfl)
@[simp] theorem q_w1 (δ : Sl) (v : Nat) (vs : List Nat) : wipeD δ (v :: vs) = (wipeD δ vs).set v none := (rfl)
-- expressions
variable {a b c es i lo hi : E}
@[simp] theorem q_sl (j : Nat) : ev (.sl j) δ = slotD δ j := (rfl)
@[simp] theorem q_ki (j : Int) : ev (.k (.int j)) δ = .ok (.int j) := (rfl)
@[simp] theorem q_kb (j : Bool) : ev (.k (.bool j)) δ = .ok (.bool j) := (rfl)
@[simp] theorem q_ks (j : Str) : ev (.k (.str j)) δ = .ok (.str j) := (rfl)
@[simp] theorem q_kn : ev (.k .none) δ = .ok .none := (rfl)
@[simp] theorem q_gl (x : Str) (d : D) : ev (.gl x d) δ = .ok d := (rfl)
@[simp] theorem q_ari (op : Operator) : ev (.ari op a b) δ = ev a δ >>= fun x => ev b δ >>= fun y => ariD op x y := (rfl)
@[simp] theorem q_cat : ev (.cat a b) δ = ev a δ >>= fun x => ev b δ >>= fun y => catD x y := (rfl)
@[simp] theorem q_rep : ev (.rep a b) δ = ev a δ >>= fun x => ev b δ >>= fun y => repD x y := (rfl)
@[simp] theorem q_neg : ev (.neg a) δ = ev a δ >>= negD := (rfl)
@[simp] theorem q_negD (j : Int) : negD (.int j) = .ok (.int (-j)) := (rfl)
@[simp] theorem q_not : ev (.not a) δ = ev a δ >>= boolD >>= fun b => .ok (.bool (!b)) := (rfl)
@[simp] theorem q_and : ev (.and a b) δ = ev a δ >>= boolD >>= fun c => match c with
    | true => ev b δ >>= boolD >>= fun c => .ok (.bool c)
    | false => .ok (.bool false) := (rfl)
@[simp] theorem q_or : ev (.or a b) δ = ev a δ >>= boolD >>= fun c => match c with
    | true => .ok (.bool true)
    | false => ev b δ >>= boolD >>= fun c => .ok (.bool c) := (rfl)
@[simp] theorem q_one : ev (.one a) δ = ev a δ >>= boolD >>= fun c => .ok (.bool c) := (rfl)
@[simp] theorem q_boolD (b : Bool) : boolD (.bool b) = .ok b := (rfl)
@[simp] theorem q_cmp (op : CmpOp) : ev (.cmp op a b) δ = ev a δ >>= fun x => ev b δ >>= fun y => cmpD op x y >>= fun c => .ok (.bool c) := (rfl)
@[simp] theorem q_chain (o1 o2 : CmpOp) : ev (.chain o1 o2 a b c) δ = ev a δ >>= fun x => ev b δ >>= fun y => cmpD o1 x y >>= fun r => match r with
    | true => ev c δ >>= fun z => cmpD o2 y z >>= fun r => .ok (.bool r)
    | false => .ok (.bool false) := (rfl)
@[simp] theorem q_ife : ev (.ife c a b) δ = ev c δ >>= boolD >>= fun r => match r with
    | true => ev a δ
    | false => ev b δ := (rfl)
@[simp] theorem q_tup : ev (.tup es) δ = evl es δ >>= fun ds => if ds.length ≤ sizeLine then .ok (.tuple ds) else .no := (rfl)
@[simp] theorem q_lst : ev (.lst es) δ = evl es δ >>= fun ds => if ds.length ≤ sizeLine then .ok (.list ds) else .no := (rfl)
@[simp] theorem q_ix : ev (.ix a i) δ = ev a δ >>= fun x => ev i δ >>= fun y => ixD x y := (rfl)
@[simp] theorem q_slc : ev (.slc a lo hi) δ = ev a δ >>= fun x => evo lo δ >>= fun l => evo hi δ >>= fun h => slcD x l h := (rfl)
@[simp] theorem q_call (x : Str) (F : List D → R D) (t : Ty) : ev (.call x F t es) δ = evl es δ >>= F := (rfl)
@[simp] theorem q_blt (b : BI) : ev (.blt b es) δ = evl es δ >>= bltD b := (rfl)
@[simp] theorem q_isi (T : TN) : ev (.isi T a) δ = ev a δ >>= isiD T := (rfl)
@[simp] theorem q_rng1 : ev (.rng1 a) δ = ev a δ >>= intD >>= fun j => rngD 0 j := (rfl)
@[simp] theorem q_rng2 : ev (.rng2 a b) δ = ev a δ >>= intD >>= fun i => ev b δ >>= intD >>= fun j => rngD i j := (rfl)
@[simp] theorem q_intD (j : Int) : intD (.int j) = .ok j := (rfl)
@[simp] theorem q_cI : ev (.cI a) δ = ev a δ >>= fun d => if imm d = true then .ok d else .no := (rfl)
@[simp] theorem q_cL : ev (.cL a) δ = ev a δ >>= fun d => match d with
    | .list ds => if immL ds = true then .ok (.list ds) else .no
    | _ => .no := (rfl)
@[simp] theorem q_nil : evl .nil δ = .ok [] := (rfl)
@[simp] theorem q_cons : evl (.cons a es) δ = ev a δ >>= fun d => evl es δ >>= fun ds => .ok (d :: ds) := (rfl)
@[simp] theorem q_nop : evo .nop δ = .ok none := (rfl)
@[simp] theorem q_prt : evo (.prt a) δ = ev a δ >>= intD >>= fun j => .ok (some j) := (rfl)
@[simp] theorem q_cnop : evc .nop δ = .ok true := (rfl)
@[simp] theorem q_cprt : evc (.prt a) δ = ev a δ >>= boolD := (rfl)
@[simp] theorem q_itL (xs : List D) : iterD (.list xs) = .ok xs := (rfl)
@[simp] theorem q_itT (xs : List D) : iterD (.tuple xs) = .ok xs := (rfl)
-- the operators
@[simp] theorem q_ii (op : Operator) (i j : Int) : ariD op (.int i) (.int j) = aOp op i j := (rfl)
@[simp] theorem q_add (i j : Int) : aOp .Add i j = .ok (.int (i + j)) := (rfl)
@[simp] theorem q_sub (i j : Int) : aOp .Sub i j = .ok (.int (i - j)) := (rfl)
theorem q_mul {i j : Int} (h : mulOk i j) : aOp .Mult i j = .ok (.int (i * j)) := if_pos h
theorem q_div {i j : Int} (h : 0 < j) (h2 : j.natAbs.log2 < 9000) : aOp .FloorDiv i j = .ok (.int (i / j)) := if_pos ⟨h, h2⟩
theorem q_mod {i j : Int} (h : 0 < j) : aOp .Mod i j = .ok (.int (i % j)) := if_pos h
@[simp] theorem q_lt (i j : Int) : cmpD .Lt (.int i) (.int j) = .ok (decide (i < j)) := (rfl)
@[simp] theorem q_le (i j : Int) : cmpD .LtE (.int i) (.int j) = .ok (decide (i ≤ j)) := (rfl)
@[simp] theorem q_gt (i j : Int) : cmpD .Gt (.int i) (.int j) = .ok (decide (j < i)) := (rfl)
@[simp] theorem q_ge (i j : Int) : cmpD .GtE (.int i) (.int j) = .ok (decide (j ≤ i)) := (rfl)
@[simp] theorem q_eq (x y : D) : cmpD .Eq x y = eqD x y := (rfl)
@[simp] theorem q_ne (x y : D) : cmpD .NotEq x y = notR (eqD x y) := (rfl)
@[simp] theorem q_notR (b : Bool) : notR (.ok b) = .ok (!b) := (rfl)
@[simp] theorem q_is (x : D) : cmpD .Is x .none = .ok (isNonD x) := (rfl)
@[simp] theorem q_isnot (x : D) : cmpD .IsNot x .none = .ok (!isNonD x) := (rfl)
@[simp] theorem q_eqi (i j : Int) : eqD (.int i) (.int j) = .ok (decide (i = j)) := by
  have h1 : SeqAt.shaped (.int i) = true := rfl
  have h2 : SeqAt.shaped (.int j) = true := rfl
  unfold eqD
  rw [if_pos ⟨h1, h2⟩]
  show R.ok (i == j) = _
  congr 1
@[simp] theorem q_ci (i : Int) : imm (.int i) = true := (rfl)
@[simp] theorem q_cb (i : Bool) : imm (.bool i) = true := (rfl)
@[simp] theorem q_cs (i : Str) : imm (.str i) = true := (rfl)
@[simp] theorem q_cn : imm .none = true := (rfl)
@[simp] theorem q_ct (l : List D) : imm (.tuple l) = immL l := (rfl)
@[simp] theorem q_c0 : immL [] = true := (rfl)
@[simp] theorem q_c1 (d : D) (l : List D) : immL (d :: l) = (imm d && immL l) := (rfl)
theorem immL_all {l : List D} (h : ∀ d ∈ l, imm d = true) : immL l = true := by
  induction l with
  | nil => rfl
  | cons d l ih => rw [immL, h d List.mem_cons_self, ih fun x hx => h x (List.mem_cons_of_mem _ hx)]; rfl
@[simp] theorem q_blt1 (b : BI) (d : D) : bltD b [d] = blt1 b d := (rfl)
@[simp] theorem q_blt2 (b : BI) (d e : D) : bltD b [d, e] = blt2 b d e := (rfl)
@[simp] theorem q_lenL (l : List D) : blt1 .len (.list l) = .ok (.int l.length) := (rfl)
@[simp] theorem q_lenT (l : List D) : blt1 .len (.tuple l) = .ok (.int l.length) := (rfl)
@[simp] theorem q_abs (i : Int) : blt1 .abs (.int i) = .ok (.int (if i < 0 then -i else i)) := (rfl)
@[simp] theorem q_int (i : Int) : blt1 .int (.int i) = .ok (.int i) := (rfl)
@[simp] theorem q_intb (i : Bool) : blt1 .int (.bool i) = .ok (.int (if i then 1 else 0)) := (rfl)
@[simp] theorem q_isnN : isNonD .none = true := (rfl)
@[simp] theorem q_isnI (i : Int) : isNonD (.int i) = false := (rfl)
@[simp] theorem q_isnL (l : List D) : isNonD (.list l) = false := (rfl)
@[simp] theorem q_isnT (l : List D) : isNonD (.tuple l) = false := (rfl)
@[simp] theorem q_slcL (l : List D) (lo hi : Option Int) : slcD (.list l) lo hi = .ok (.list (cutD l lo hi)) := (rfl)
-- statements
variable {s t : S}
@[simp] theorem q_snil : sev .nil δ = .nx δ := (rfl)
@[simp] theorem q_sseq : sev (.seq s t) δ = (sev s δ).thn (sev t) := (rfl)
@[simp] theorem q_sasg (tg : Tg) : sev (.asg tg a) δ = lft δ (ev a δ) fun d => lft δ (setTg tg d δ) .nx := (rfl)
@[simp] theorem q_spar (j k : Nat) : sev (.par j k es) δ = lft δ (evl es δ) fun ds => lft δ (setTgs [j, k] ds δ) .nx := (rfl)
@[simp] theorem q_sret : sev (.ret a) δ = lft δ (ev a δ) .rt := (rfl)
@[simp] theorem q_sretS (j : Nat) : sev (.retS j) δ = lft δ (slotD δ j) .rt := (rfl)
@[simp] theorem q_sife : sev (.ife a s t) δ = lft δ (ev a δ >>= boolD) fun r => match r with
    | true => sev s δ
    | false => sev t δ := (rfl)
@[simp] theorem q_sdrop : sev (.drop a) δ = lft δ (ev a δ) fun _ => .nx δ := (rfl)
@[simp] theorem q_sfor (tg : Tg) (im : Bool) (τ : Tys) : sev (.forE tg a im τ s) δ = lft δ (ev a δ >>= iterD) fun xs => match (!im || immL xs) with
    | true => forL (fun x δ => lft δ (setTg tg x δ) (sev s)) xs δ
    | false => .no := (rfl)
@[simp] theorem q_swhi (f : Sl → Nat) (τ : Tys) : sev (.whi f τ a s) δ = whL (fun δ => ev a δ >>= boolD) (sev s) (f δ) δ := (rfl)
@[simp] theorem q_app (j : Nat) (tf : Bool) : sev (.mu .app tf (.sl j) es) δ = lft δ (slotD δ j) fun d => lft δ (nox (modG tf .ok [] d)) fun _ => lft δ (evl es δ) fun ds => lft δ (nox (modG tf (mop .app ds) [] d)) fun d' => .nx (δ.set j (some d')) := (rfl)
@[simp] theorem q_modL (tf : Bool) (f : List D → R (List D)) (l : List D) : modG tf f [] (.list l) = f l >>= fun ys => .ok (.list ys) := (rfl)
@[simp] theorem q_mopA (d : D) (l : List D) : mop .app [d] l = if l.length < sizeLine then .ok (l ++ [d]) else .no := (rfl)
end
theorem sz {n : Nat} (h : n ≤ 1000000) : n ≤ sizeLine := Nat.le_trans h (by decide)
theorem szl {n : Nat} (h : n < 1000000) : n < sizeLine := Nat.lt_of_lt_of_le h (by decide)
@[simp] theorem sz_iff (n : Nat) (h : n ≤ 1000000) : (n ≤ sizeLine) = True := by simp [sz h]
/-- all turns go through -/
theorem forL_all {f : D → Sl → Out} {xs : List D} {δ : Sl} (I : Nat → Sl → Prop) (h0 : I 0 δ) (h : ∀ i δ, (hi : i < xs.length) → I i δ → ∃ δ', f xs[i] δ = .nx δ' ∧ I (i + 1) δ') : ∃ δ', forL f xs δ = .nx δ' ∧ I xs.length δ' := by
  induction xs generalizing δ I with
  | nil => exact ⟨δ, rfl, h0⟩
  | cons x xs ih =>
    obtain ⟨δ1, e1, i1⟩ := h 0 δ (by simp) h0
    obtain ⟨δ2, e2, i2⟩ := ih (δ := δ1) (fun i => I (i + 1)) i1 fun i δ hi hI => h (i + 1) δ (by simpa using hi) hI
    refine ⟨δ2, ?_, i2⟩
    show (f x δ).thn (forL f xs) = _
    have e1 : f x δ = .nx δ1 := e1
    rw [e1]; exact e2
theorem F_rt {s : S} {n m : Nat} {ds : List D} {δ : Sl} {d : D} (h : decide (ds.length = m) = true) (e : ds.map some ++ List.replicate (n - m) none = δ) (hs : sev s δ = .rt d) : fnD s n m ds = .ok d := by
  unfold fnD
  rw [h, e, hs]
theorem rngD_ok {lo hi : Int} (h1 : -1000000 ≤ lo) (h2 : lo ≤ 1000000) (h3 : -1000000 ≤ hi) (h4 : hi ≤ 1000000) (h5 : (hi - lo).toNat ≤ 1000000) : rngD lo hi = .ok (.list ((List.range (hi - lo).toNat).map fun (i : Nat) => .int (lo + (i : Int)))) := by
  unfold rngD
  rw [if_pos ⟨by omega, by omega, by omega, by omega, sz h5⟩]
theorem sq {s t : S} {δ δ1 : Sl} {r : Out} (h : sev s δ = .nx δ1) (h2 : sev t δ1 = r) : sev (.seq s t) δ = r := by
  show (sev s δ).thn (sev t) = r
  rw [h]; exact h2
theorem sqx {s t : S} {δ : Sl} {d : D} (h : sev s δ = .rt d) : sev (.seq s t) δ = .rt d := by
  show (sev s δ).thn (sev t) = _
  rw [h]; rfl
/-- a loop whose every turn goes through -/
theorem s_for {tg : Tg} {it : E} {im : Bool} {τ : Tys} {s : S} {δ : Sl} {xs : List D} (h1 : (ev it δ >>= iterD) = .ok xs) (h2 : (!im || immL xs) = true) (I : Nat → Sl → Prop) (h0 : I 0 δ)
    (h : ∀ i δ, (hi : i < xs.length) → I i δ → ∃ δ1 δ', setTg tg xs[i] δ = .ok δ1 ∧ sev s δ1 = .nx δ' ∧ I (i + 1) δ') : ∃ δ', sev (.forE tg it im τ s) δ = .nx δ' ∧ I xs.length δ' := by
  obtain ⟨δ', e, hI⟩ := forL_all (f := fun x δ => lft δ (setTg tg x δ) (sev s)) (xs := xs) I h0 fun i δ hi hI => by
    obtain ⟨δ1, δ', e1, e2, hI'⟩ := h i δ hi hI
    exact ⟨δ', by show lft δ (setTg tg xs[i] δ) (sev s) = _; rw [e1]; exact e2, hI'⟩
  refine ⟨δ', ?_, hI⟩
  show (lft δ (ev it δ >>= iterD) fun xs => match (!im || immL xs) with
    | true => forL (fun x δ => lft δ (setTg tg x δ) (sev s)) xs δ
    | false => .no) = _
  rw [h1]
  show (match (!im || immL xs) with
    | true => forL (fun x δ => lft δ (setTg tg x δ) (sev s)) xs δ
    | false => .no) = _
  rw [h2]; exact e
theorem immL_rng (lo : Int) (n : Nat) : immL ((List.range n).map fun (i : Nat) => PyData.int (lo + (i : Int))) = true := immL_all fun d hd => by
  obtain ⟨i, _, rfl⟩ := List.mem_map.mp hd
  rfl
theorem s_range {i : Nat} {a : E} {τ : Tys} {s : S} {δ : Sl} {n : Int} (h1 : ev a δ = .ok (.int n)) (hn : n ≤ 1000000) (hn2 : -1000000 ≤ n) (I : Nat → Sl → Prop) (h0 : I 0 δ)
    (h : ∀ k δ, k < n.toNat → I k δ → ∃ δ', sev s (δ.set i (some (.int (k : Int)))) = .nx δ' ∧ I (k + 1) δ') : ∃ δ', sev (.forE (.one i) (.rng1 a) true τ s) δ = .nx δ' ∧ I n.toNat δ' := by
  obtain ⟨δ', e, hI⟩ := s_for (tg := .one i) (it := .rng1 a) (im := true) (τ := τ) (s := s) (δ := δ) (xs := (List.range (n - 0).toNat).map fun (i : Nat) => PyData.int (0 + (i : Int))) (by
    simp only [q_rng1, h1, q_ok, q_intD]
    rw [rngD_ok (by omega) (by omega) (by omega) (by omega) (by omega)]
    rfl) (by rw [immL_rng]; rfl) I h0 fun k δ hk hI => by
      have hk' : k < n.toNat := by simpa using hk
      obtain ⟨δ', e, hI'⟩ := h k δ hk' hI
      refine ⟨_, δ', rfl, ?_, hI'⟩
      simpa using e
  refine ⟨δ', e, ?_⟩
  simpa using hI
theorem s_range2 {i : Nat} {a b : E} {τ : Tys} {s : S} {δ : Sl} {m n : Int} (h1 : ev a δ = .ok (.int m)) (h2 : ev b δ = .ok (.int n)) (hn : n ≤ 1000000) (hn2 : -1000000 ≤ n) (hm : m ≤ 100000) (hm2 : 0 ≤ m) (I : Nat → Sl → Prop) (h0 : I 0 δ)
    (h : ∀ (k : Nat) δ, m + k < n → I k δ → ∃ δ', sev s (δ.set i (some (.int (m + (k : Int))))) = .nx δ' ∧ I (k + 1) δ') : ∃ δ', sev (.forE (.one i) (.rng2 a b) true τ s) δ = .nx δ' ∧ I (n - m).toNat δ' := by
  obtain ⟨δ', e, hI⟩ := s_for (tg := .one i) (it := .rng2 a b) (im := true) (τ := τ) (s := s) (δ := δ) (xs := (List.range (n - m).toNat).map fun (i : Nat) => PyData.int (m + (i : Int))) (by
    simp only [q_rng2, h1, h2, q_ok, q_intD]
    rw [rngD_ok (by omega) (by omega) (by omega) (by omega) (by omega)]
    rfl) (by rw [immL_rng]; rfl) I h0 fun k δ hk hI => by
      have hk' : k < (n - m).toNat := by simpa using hk
      obtain ⟨δ', e, hI'⟩ := h k δ (by omega) hI
      refine ⟨_, δ', rfl, ?_, hI'⟩
      simpa using e
  refine ⟨δ', e, ?_⟩
  simpa using hI
theorem sq_for {tg : Tg} {it : E} {im : Bool} {τ : Tys} {s t : S} {δ : Sl} {r : Out} (xs : List D) (h1 : (ev it δ >>= iterD) = .ok xs) (h2 : (!im || immL xs) = true) (I : Nat → Sl → Prop) (h0 : I 0 δ)
    (h : ∀ i δ, (hi : i < xs.length) → I i δ → ∃ δ1 δ', setTg tg xs[i] δ = .ok δ1 ∧ sev s δ1 = .nx δ' ∧ I (i + 1) δ') (fin : ∀ δ', I xs.length δ' → sev t δ' = r) : sev (.seq (.forE tg it im τ s) t) δ = r := by
  obtain ⟨δ', e, hI⟩ := s_for (τ := τ) h1 h2 I h0 h
  exact sq e (fin δ' hI)
theorem sq_rng {i : Nat} {a : E} {τ : Tys} {s t : S} {δ : Sl} {r : Out} (n : Int) (h1 : ev a δ = .ok (.int n)) (hn : n ≤ 1000000) (hn2 : -1000000 ≤ n) (I : Nat → Sl → Prop) (h0 : I 0 δ)
    (h : ∀ k δ, k < n.toNat → I k δ → ∃ δ', sev s (δ.set i (some (.int (k : Int)))) = .nx δ' ∧ I (k + 1) δ') (fin : ∀ δ', I n.toNat δ' → sev t δ' = r) : sev (.seq (.forE (.one i) (.rng1 a) true τ s) t) δ = r := by
  obtain ⟨δ', e, hI⟩ := s_range (τ := τ) h1 hn hn2 I h0 h
  exact sq e (fin δ' hI)
theorem sq_rng2 {i : Nat} {a b : E} {τ : Tys} {s t : S} {δ : Sl} {r : Out} (m n : Int) (h1 : ev a δ = .ok (.int m)) (h2 : ev b δ = .ok (.int n)) (hn : n ≤ 1000000) (hn2 : -1000000 ≤ n) (hm : m ≤ 100000) (hm2 : 0 ≤ m) (I : Nat → Sl → Prop) (h0 : I 0 δ)
    (h : ∀ (k : Nat) δ, m + k < n → I k δ → ∃ δ', sev s (δ.set i (some (.int (m + (k : Int))))) = .nx δ' ∧ I (k + 1) δ') (fin : ∀ δ', I (n - m).toNat δ' → sev t δ' = r) : sev (.seq (.forE (.one i) (.rng2 a b) true τ s) t) δ = r := by
  obtain ⟨δ', e, hI⟩ := s_range2 (τ := τ) h1 h2 hn hn2 hm hm2 I h0 h
  exact sq e (fin δ' hI)
theorem q_ixL {xs : List D} {k : Int} {d : D} (h : atI xs k = some d) : ixD (.list xs) (.int k) = .ok d := by
  show (match atI xs k with
    | some d => R.ok d
    | none => .no) = _
  rw [h]
theorem q_ixN {xs : List D} {k : Nat} {d : D} (h : xs[k]? = some d) : ixD (.list xs) (.int (k : Int)) = .ok d := q_ixL (atI_of (j := k) (by
  have := (List.getElem?_eq_some_iff.mp h).1
  unfold ixN
  rw [if_pos (by omega), if_pos (by omega), Int.toNat_natCast]) h)
theorem compL_cons {f : D → R (Option D)} {x : D} {xs ys : List D} {o : Option D} (h : f x = .ok o) (h2 : compL f xs = .ok ys) : compL f (x :: xs) = .ok (o.toList ++ ys) := by
  rw [compL, h, q_ok, h2, q_ok]
theorem ev_comp {β : Type} {own : List (Str × Nat)} {tg : Tg} {it elt : E} {δ : Sl} (l : List β) (f g : β → D) (h1 : (ev it δ >>= iterD) = .ok (l.map f))
    (h : ∀ b ∈ l, ∃ δ', setTg tg (f b) (wipeD δ (own.map (·.2))) = .ok δ' ∧ ev elt δ' = .ok (g b)) : ev (.comp own tg it .nop elt) δ = .ok (.list (l.map g)) := by
  show (ev it δ >>= iterD >>= fun xs => nox (compL (fun x => setTg tg x (wipeD δ (own.map (·.2))) >>= fun δ' => evc .nop δ' >>= fun c => match c with
        | true => ev elt δ' >>= fun y => .ok (some y)
        | false => .ok none) xs) >>= fun ys => R.ok (PyData.list ys)) = _
  rw [h1]
  have key : ∀ l : List β, (∀ b ∈ l, ∃ δ', setTg tg (f b) (wipeD δ (own.map (·.2))) = .ok δ' ∧ ev elt δ' = .ok (g b)) → compL (fun x => setTg tg x (wipeD δ (own.map (·.2))) >>= fun δ' => evc .nop δ' >>= fun c => match c with
        | true => ev elt δ' >>= fun y => .ok (some y)
        | false => .ok none) (l.map f) = .ok (l.map g) := by
    intro l
    induction l with
    | nil => intro _; rfl
    | cons b l ih =>
      intro h
      obtain ⟨δ', e1, e2⟩ := h b List.mem_cons_self
      refine compL_cons (o := some (g b)) ?_ (ih fun c hc => h c (List.mem_cons_of_mem _ hc))
      simp only [e1, q_ok, q_cnop, e2]
  simp only [q_ok, key l h, q_nox]
theorem intsD_map (l : List Int) : intsD (l.map fun i => PyData.int i) = .ok l := by
  induction l with
  | nil => rfl
  | cons i l ih =>
    show (intsD (l.map fun i => PyData.int i) >>= fun l => R.ok (i :: l)) = _
    rw [ih]; rfl
theorem blt_sum (l : List Int) : blt1 .sum (.list (l.map fun i => PyData.int i)) = .ok (.int l.sum) := by
  show (intsD (l.map fun i => PyData.int i) >>= fun l => R.ok (PyData.int l.sum)) = _
  rw [intsD_map]; rfl
/-! ### equality of data -/
/-- d can be compared and is at most n deep -/
def Shp (n : Nat) (d : D) : Prop := d.canLay0 = true ∧ d.depth ≤ n
theorem Shp.shaped {n : Nat} {d : D} (h : Shp n d) (hn : n ≤ 64) : SeqAt.shaped d = true := by
  unfold SeqAt.shaped
  rw [h.1, decide_eq_true (Nat.le_trans h.2 hn)]; rfl
theorem Shp.all {n : Nat} : ∀ {l : List D}, (∀ d ∈ l, Shp n d) → PyData.canLayAll0 l = true ∧ PyData.depthAll l ≤ n
  | [], _ => ⟨rfl, Nat.zero_le _⟩
  | d :: l, h => by
    have h1 := h d List.mem_cons_self
    have h2 := Shp.all fun x hx => h x (List.mem_cons_of_mem _ hx)
    exact ⟨by rw [PyData.canLayAll0, h1.1, h2.1]; rfl, by rw [PyData.depthAll]; exact Nat.max_le.mpr ⟨h1.2, h2.2⟩⟩
theorem Shp.list {n : Nat} {l : List D} (h : ∀ d ∈ l, Shp n d) : Shp (n + 1) (.list l) := ⟨by rw [PyData.canLay0]; exact (Shp.all h).1, by rw [PyData.depth]; exact Nat.succ_le_succ (Shp.all h).2⟩
theorem Shp.tuple {n : Nat} {l : List D} (h : ∀ d ∈ l, Shp n d) : Shp (n + 1) (.tuple l) := ⟨by rw [PyData.canLay0]; exact (Shp.all h).1, by rw [PyData.depth]; exact Nat.succ_le_succ (Shp.all h).2⟩
theorem Shp.int (i : Int) (n : Nat) : Shp n (.int i) := ⟨rfl, Nat.zero_le _⟩
theorem eqD_self {n : Nat} {d : D} (h : Shp n d) (hn : n ≤ 64 := by decide) : eqD d d = .ok true := by
  unfold eqD
  rw [if_pos ⟨h.shaped hn, h.shaped hn⟩, PySem.SeqAt.eqv_refl d h.1]
/-! ### by any wish -/
section
variable {W : Out → Prop} {s t a b : S} {δ : Sl} {c : E}
theorem P_sq {δ1 : Sl} (h : sev s δ = .nx δ1) (k : W (sev t δ1)) : W (sev (.seq s t) δ) := by
  rw [sq h rfl]; exact k
theorem P_nil (k : W (.nx δ)) : W (sev .nil δ) := k
theorem P_ife {J : Sl → Prop} {bb : Bool} (hc : ev c δ = .ok (.bool bb)) (h1 : bb = true → ∃ δ', sev a δ = .nx δ' ∧ J δ') (h2 : bb = false → ∃ δ', sev b δ = .nx δ' ∧ J δ') (k : ∀ δ', J δ' → W (sev t δ')) : W (sev (.seq (.ife c a b) t) δ) := by
  have key : ∃ δ', sev (.ife c a b) δ = .nx δ' ∧ J δ' := by
    rw [q_sife, hc, q_ok, q_boolD, q_lok]
    cases bb with
    | true => exact h1 rfl
    | false => exact h2 rfl
  obtain ⟨δ', e, j⟩ := key
  exact P_sq e (k δ' j)
theorem P_rng {i : Nat} {a : E} {τ : Tys} (n : Int) (h1 : ev a δ = .ok (.int n)) (hn : n ≤ 1000000) (hn2 : -1000000 ≤ n) (I : Nat → Sl → Prop) (h0 : I 0 δ)
    (h : ∀ k δ, k < n.toNat → I k δ → ∃ δ', sev s (δ.set i (some (.int (k : Int)))) = .nx δ' ∧ I (k + 1) δ') (fin : ∀ δ', I n.toNat δ' → W (sev t δ')) : W (sev (.seq (.forE (.one i) (.rng1 a) true τ s) t) δ) := by
  obtain ⟨δ', e, hI⟩ := s_range (τ := τ) h1 hn hn2 I h0 h
  exact P_sq e (fin δ' hI)
theorem P_for {tg : Tg} {it : E} {im : Bool} {τ : Tys} (xs : List D) (h1 : (ev it δ >>= iterD) = .ok xs) (h2 : (!im || immL xs) = true) (I : Nat → Sl → Prop) (h0 : I 0 δ)
    (h : ∀ i δ, (hi : i < xs.length) → I i δ → ∃ δ1 δ', setTg tg xs[i] δ = .ok δ1 ∧ sev s δ1 = .nx δ' ∧ I (i + 1) δ') (fin : ∀ δ', I xs.length δ' → W (sev t δ')) : W (sev (.seq (.forE tg it im τ s) t) δ) := by
  obtain ⟨δ', e, hI⟩ := s_for (τ := τ) h1 h2 I h0 h
  exact P_sq e (fin δ' hI)
end
end VS
set_option Elab.async false
set_option linter.all false
set_option maxRecDepth 100000
namespace VS
open PySem PySem.Spec L2
open PyProof.Rows hiding St
def Tcommon_divisor : S := (.seq (.whi (fuI 1) [some (.S, true), some (.S, true)] (.cmp .Gt (.sl 1) (.k (.int 0)))
(.seq (.par 0 1 (.cons (.cI (.sl 1)) (.cons (.ari .Mod (.sl 0) (.sl 1)) .nil)))
.nil))
(.seq (.ret (.cI (.sl 0)))
.nil))
def Fcommon_divisor : List D → R D := fnD Tcommon_divisor 2 2
def T_law_draws : S := (.seq (.asg (.one 2) (.lst .nil))
(.seq (.forE (.one 3) (.slc (.sl 0) .nop (.prt (.k (.int 63)))) true [some (.S, true), some (.S, true), some (.F, false), some (.F, false), some (.F, false), some (.F, false), some (.F, false), some (.F, false)]
(.seq (.asg (.one 4) (.blt .abs (.cons (.blt .int (.cons (.sl 3) .nil)) .nil)))
(.seq (.ife (.cmp .GtE (.sl 4) (.ari .Pow (.k (.int 10)) (.k (.int 18))))
(.seq (.forE (.one 5) (.rng1 (.k (.int 60))) true [some (.S, true), some (.S, true), some (.F, false), some (.F, false), some (.F, false), some (.F, false), some (.F, false), some (.F, false)]
(.seq (.ife (.cmp .Gt (.sl 4) (.k (.int 0)))
(.seq (.mu .app false (.sl 2) (.cons (.ari .Mod (.sl 4) (.k (.int 1000003))) .nil))
(.seq (.asg (.one 4) (.ari .FloorDiv (.sl 4) (.k (.int 1000003))))
.nil))
.nil)
.nil))
.nil)
(.seq (.asg (.one 6) (.ari .Mod (.ari .Add (.ari .Add (.ari .Mult (.sl 4) (.k (.int 48271))) (.ari .Mult (.k (.int 7)) (.blt .len (.cons (.sl 2) .nil)))) (.k (.int 11))) (.k (.int 2147483647))))
(.seq (.forE (.one 5) (.rng1 (.k (.int 4))) true [some (.S, true), some (.S, true), some (.F, false), some (.F, false), some (.F, false), some (.F, false), some (.F, false), some (.F, false)]
(.seq (.asg (.one 6) (.ari .Mod (.ari .Add (.ari .Add (.ari .Add (.ari .Mult (.sl 6) (.k (.int 69621))) (.ari .FloorDiv (.sl 6) (.k (.int 65536)))) (.ari .Mult (.k (.int 13)) (.sl 5))) (.k (.int 5))) (.k (.int 2147483629))))
(.seq (.mu .app false (.sl 2) (.cons (.ari .Mod (.ari .FloorDiv (.sl 6) (.k (.int 8))) (.k (.int 1000003))) .nil))
.nil)))
.nil)))
.nil)))
(.seq (.forE (.one 5) (.rng1 (.sl 1)) true [some (.S, true), some (.S, true), some (.F, false), some (.F, false), some (.F, false), some (.F, false), some (.F, false), some (.F, false)]
(.seq (.ife (.cmp .Lt (.blt .len (.cons (.sl 2) .nil)) (.sl 1))
(.seq (.asg (.one 7) (.k (.int 0)))
(.seq (.ife (.cmp .Gt (.blt .len (.cons (.sl 2) .nil)) (.k (.int 0)))
(.seq (.asg (.one 7) (.cI (.ix (.sl 2) (.ari .Mod (.sl 5) (.blt .len (.cons (.sl 2) .nil))))))
.nil)
.nil)
(.seq (.mu .app false (.sl 2) (.cons (.ari .Mod (.ari .Add (.ari .Add (.ari .Mult (.sl 7) (.k (.int 16807))) (.ari .Mult (.k (.int 31)) (.blt .len (.cons (.sl 2) .nil)))) (.k (.int 17))) (.k (.int 1000003))) .nil))
.nil)))
.nil)
.nil))
(.seq (.ret (.cL (.slc (.sl 2) .nop (.prt (.sl 1)))))
.nil))))
def F_law_draws : List D → R D := fnD T_law_draws 8 2
def T_law_gcd : S := (.seq (.asg (.one 0) (.blt .abs (.cons (.sl 0) .nil)))
(.seq (.asg (.one 1) (.blt .abs (.cons (.sl 1) .nil)))
(.seq (.whi (fuI 1) [some (.F, false), some (.F, false)] (.cmp .Gt (.sl 1) (.k (.int 0)))
(.seq (.par 0 1 (.cons (.cI (.sl 1)) (.cons (.ari .Mod (.sl 0) (.sl 1)) .nil)))
.nil))
(.seq (.retS 0)
.nil))))
def F_law_gcd : List D → R D := fnD T_law_gcd 2 2
def T_law_power : S := (.seq (.asg (.one 2) (.k (.int 1)))
(.seq (.forE (.one 3) (.rng1 (.sl 1)) true [some (.S, true), some (.S, true), some (.F, false), some (.F, false)]
(.seq (.asg (.one 2) (.ari .Mult (.sl 2) (.sl 0)))
.nil))
(.seq (.retS 2)
.nil)))
def F_law_power : List D → R D := fnD T_law_power 4 2
def T_law_factorial : S := (.seq (.asg (.one 1) (.k (.int 1)))
(.seq (.forE (.one 2) (.rng2 (.k (.int 2)) (.ari .Add (.sl 0) (.k (.int 1)))) true [some (.S, true), some (.F, false), some (.F, false)]
(.seq (.asg (.one 1) (.ari .Mult (.sl 1) (.sl 2)))
.nil))
(.seq (.retS 1)
.nil)))
def F_law_factorial : List D → R D := fnD T_law_factorial 3 1
def T_law_standings : S := (.seq (.asg (.one 2) (.lst (.cons (.lst .nil) .nil)))
(.seq (.forE (.tup [3, 4]) (.sl 1) true [some (.S, true), some (.S, true), some (.S, false), some (.F, false), some (.F, false), some (.S, false), some (.S, false), some (.F, false), some (.F, false)]
(.seq (.asg (.one 5) (.lst .nil))
(.seq (.forE (.one 6) (.sl 2) false [some (.S, true), some (.S, true), some (.S, false), some (.F, false), some (.F, false), some ((.L .S), false), some (.S, false), some (.F, false), some (.F, false)]
(.seq (.asg (.one 5) (.cat (.sl 5) (.comp [("k", 8)] (.one 8) (.rng1 (.ari .Add (.ari .FloorDiv (.sl 0) (.sl 3)) (.k (.int 1)))) .nop (.cL (.cat (.sl 6) (.lst (.cons (.cI (.sl 8)) .nil)))))))
.nil))
(.seq (.asg (.one 2) (.sl 5))
.nil))))
(.seq (.asg (.one 7) (.comp [("width", 3), ("load", 4)] (.tup [3, 4]) (.sl 1) .nop (.cI (.sl 3))))
(.seq (.ret (.comp [("calls", 6)] (.one 6) (.sl 2) (.prt (.cmp .LtE (.blt .sum (.cons (.comp [("k", 8)] (.one 8) (.rng1 (.blt .len (.cons (.sl 6) .nil))) .nop (.ari .Mult (.ix (.sl 6) (.sl 8)) (.ix (.sl 7) (.sl 8)))) .nil)) (.sl 0))) (.sl 6)))
.nil))))
def F_law_standings : List D → R D := fnD T_law_standings 9 2
def Tfraction : S := (.seq (.asg (.one 2) (.call "common_divisor" Fcommon_divisor .F (.cons (.blt .abs (.cons (.sl 0) .nil)) (.cons (.blt .abs (.cons (.sl 1) .nil)) .nil))))
(.seq (.ife (.cmp .Lt (.sl 1) (.k (.int 0)))
(.seq (.asg (.one 2) (.neg (.sl 2)))
.nil)
.nil)
(.seq (.ret (.tup (.cons (.ari .FloorDiv (.sl 0) (.sl 2)) (.cons (.ari .FloorDiv (.sl 1) (.sl 2)) .nil))))
.nil)))
def Ffraction : List D → R D := fnD Tfraction 3 2
def T_law_fraction : S := (.seq (.ife (.cmp .Lt (.sl 1) (.k (.int 0)))
(.seq (.par 0 1 (.cons (.neg (.sl 0)) (.cons (.neg (.sl 1)) .nil)))
.nil)
.nil)
(.seq (.asg (.one 2) (.call "_law_gcd" F_law_gcd .F (.cons (.cI (.sl 0)) (.cons (.cI (.sl 1)) .nil))))
(.seq (.ret (.tup (.cons (.ari .FloorDiv (.sl 0) (.sl 2)) (.cons (.ari .FloorDiv (.sl 1) (.sl 2)) .nil))))
.nil)))
def F_law_fraction : List D → R D := fnD T_law_fraction 3 2
def Tplus : S := (.seq (.ret (.call "fraction" Ffraction .F (.cons (.ari .Add (.ari .Mult (.ix (.sl 0) (.k (.int 0))) (.ix (.sl 1) (.k (.int 1)))) (.ari .Mult (.ix (.sl 1) (.k (.int 0))) (.ix (.sl 0) (.k (.int 1))))) (.cons (.ari .Mult (.ix (.sl 0) (.k (.int 1))) (.ix (.sl 1) (.k (.int 1)))) .nil))))
.nil)
def Fplus : List D → R D := fnD Tplus 2 2
def Tminus : S := (.seq (.ret (.call "fraction" Ffraction .F (.cons (.ari .Sub (.ari .Mult (.ix (.sl 0) (.k (.int 0))) (.ix (.sl 1) (.k (.int 1)))) (.ari .Mult (.ix (.sl 1) (.k (.int 0))) (.ix (.sl 0) (.k (.int 1))))) (.cons (.ari .Mult (.ix (.sl 0) (.k (.int 1))) (.ix (.sl 1) (.k (.int 1)))) .nil))))
.nil)
def Fminus : List D → R D := fnD Tminus 2 2
def Ttimes : S := (.seq (.ret (.call "fraction" Ffraction .F (.cons (.ari .Mult (.ix (.sl 0) (.k (.int 0))) (.ix (.sl 1) (.k (.int 0)))) (.cons (.ari .Mult (.ix (.sl 0) (.k (.int 1))) (.ix (.sl 1) (.k (.int 1)))) .nil))))
.nil)
def Ftimes : List D → R D := fnD Ttimes 2 2
def Tover : S := (.seq (.ret (.call "fraction" Ffraction .F (.cons (.ari .Mult (.ix (.sl 0) (.k (.int 0))) (.ix (.sl 1) (.k (.int 1)))) (.cons (.ari .Mult (.ix (.sl 0) (.k (.int 1))) (.ix (.sl 1) (.k (.int 0)))) .nil))))
.nil)
def Fover : List D → R D := fnD Tover 2 2
def T_law_plus : S := (.seq (.ret (.call "_law_fraction" F_law_fraction .F (.cons (.ari .Add (.ari .Mult (.ix (.sl 0) (.k (.int 0))) (.ix (.sl 1) (.k (.int 1)))) (.ari .Mult (.ix (.sl 1) (.k (.int 0))) (.ix (.sl 0) (.k (.int 1))))) (.cons (.ari .Mult (.ix (.sl 0) (.k (.int 1))) (.ix (.sl 1) (.k (.int 1)))) .nil))))
.nil)
def F_law_plus : List D → R D := fnD T_law_plus 2 2
def T_law_times : S := (.seq (.ret (.call "_law_fraction" F_law_fraction .F (.cons (.ari .Mult (.ix (.sl 0) (.k (.int 0))) (.ix (.sl 1) (.k (.int 0)))) (.cons (.ari .Mult (.ix (.sl 0) (.k (.int 1))) (.ix (.sl 1) (.k (.int 1)))) .nil))))
.nil)
def F_law_times : List D → R D := fnD T_law_times 2 2
def T_law_over : S := (.seq (.ret (.call "_law_fraction" F_law_fraction .F (.cons (.ari .Mult (.ix (.sl 0) (.k (.int 0))) (.ix (.sl 1) (.k (.int 1)))) (.cons (.ari .Mult (.ix (.sl 0) (.k (.int 1))) (.ix (.sl 1) (.k (.int 0)))) .nil))))
.nil)
def F_law_over : List D → R D := fnD T_law_over 2 2
def Tshare_with : S := (.seq (.asg (.one 3) (.call "times" Ftimes .F (.cons (.cI (.sl 1)) (.cons (.cI (.sl 2)) .nil))))
(.seq (.ret (.call "over" Fover .F (.cons (.cI (.sl 3)) (.cons (.call "plus" Fplus .F (.cons (.tup (.cons (.cI (.sl 0)) (.cons (.k (.int 1)) .nil))) (.cons (.cI (.sl 3)) .nil))) .nil))))
.nil))
def Fshare_with : List D → R D := fnD Tshare_with 4 3
def Tweights_of : S := (.seq (.asg (.one 2) (.lst (.cons (.tup (.cons (.k (.int 1)) (.cons (.k (.int 1)) .nil))) .nil)))
(.seq (.forE (.one 3) (.rng2 (.k (.int 1)) (.ari .Add (.sl 0) (.k (.int 1)))) true [some (.S, true), some (.S, true), some (.F, false), some (.F, false)]
(.seq (.mu .app false (.sl 2) (.cons (.call "times" Ftimes .F (.cons (.cI (.ix (.sl 2) (.neg (.k (.int 1))))) (.cons (.call "over" Fover .F (.cons (.cI (.sl 1)) (.cons (.tup (.cons (.cI (.sl 3)) (.cons (.k (.int 1)) .nil))) .nil))) .nil))) .nil))
.nil))
(.seq (.retS 2)
.nil)))
def Fweights_of : List D → R D := fnD Tweights_of 4 2
def Ttotal_of : S := (.seq (.asg (.one 1) (.tup (.cons (.k (.int 0)) (.cons (.k (.int 1)) .nil))))
(.seq (.forE (.one 2) (.sl 0) true [some (.S, true), some (.F, false), some (.F, false)]
(.seq (.asg (.one 1) (.call "plus" Fplus .F (.cons (.cI (.sl 1)) (.cons (.cI (.sl 2)) .nil))))
.nil))
(.seq (.retS 1)
.nil)))
def Ftotal_of : List D → R D := fnD Ttotal_of 3 1
def Tspare_of : S := (.seq (.ret (.call "minus" Fminus .F (.cons (.tup (.cons (.cI (.sl 0)) (.cons (.k (.int 1)) .nil))) (.cons (.cI (.sl 1)) .nil))))
.nil)
def Fspare_of : List D → R D := fnD Tspare_of 2 2
def Tweight_of : S := (.seq (.asg (.one 3) (.tup (.cons (.k (.int 0)) (.cons (.k (.int 1)) .nil))))
(.seq (.forE (.tup [4, 5]) (.sl 1) true [some (.S, true), some (.S, true), some (.S, true), some (.F, false), some (.F, false), some (.F, false)]
(.seq (.ife (.cmp .LtE (.sl 4) (.sl 2))
(.seq (.asg (.one 3) (.call "plus" Fplus .F (.cons (.cI (.sl 3)) (.cons (.call "times" Ftimes .F (.cons (.call "times" Ftimes .F (.cons (.tup (.cons (.cI (.sl 4)) (.cons (.k (.int 1)) .nil))) (.cons (.cI (.sl 5)) .nil))) (.cons (.cI (.ix (.sl 0) (.ari .Sub (.sl 2) (.sl 4)))) .nil))) .nil))))
.nil)
.nil)
.nil))
(.seq (.ret (.call "over" Fover .F (.cons (.cI (.sl 3)) (.cons (.tup (.cons (.cI (.sl 2)) (.cons (.k (.int 1)) .nil))) .nil))))
.nil)))
def Fweight_of : List D → R D := fnD Tweight_of 6 3
def T_law_total : S := (.seq (.asg (.one 1) (.tup (.cons (.k (.int 0)) (.cons (.k (.int 1)) .nil))))
(.seq (.forE (.one 2) (.sl 0) true [some (.S, true), some (.F, false), some (.F, false)]
(.seq (.asg (.one 1) (.call "_law_plus" F_law_plus .F (.cons (.cI (.sl 1)) (.cons (.cI (.sl 2)) .nil))))
.nil))
(.seq (.retS 1)
.nil)))
def F_law_total : List D → R D := fnD T_law_total 3 1
def T_law_standing_weight : S := (.seq (.asg (.one 2) (.tup (.cons (.k (.int 1)) (.cons (.k (.int 1)) .nil))))
(.seq (.forE (.one 3) (.rng1 (.blt .len (.cons (.sl 0) .nil))) true [some (.S, true), some (.S, true), some (.F, false), some (.F, false), some (.F, false)]
(.seq (.asg (.one 4) (.call "_law_fraction" F_law_fraction .F (.cons (.call "_law_power" F_law_power .F (.cons (.cI (.ix (.ix (.sl 1) (.sl 3)) (.k (.int 0)))) (.cons (.cI (.ix (.sl 0) (.sl 3))) .nil))) (.cons (.ari .Mult (.call "_law_power" F_law_power .F (.cons (.cI (.ix (.ix (.sl 1) (.sl 3)) (.k (.int 1)))) (.cons (.cI (.ix (.sl 0) (.sl 3))) .nil))) (.call "_law_factorial" F_law_factorial .F (.cons (.cI (.ix (.sl 0) (.sl 3))) .nil))) .nil))))
(.seq (.asg (.one 2) (.call "_law_times" F_law_times .F (.cons (.cI (.sl 2)) (.cons (.cI (.sl 4)) .nil))))
.nil)))
(.seq (.retS 2)
.nil)))
def F_law_standing_weight : List D → R D := fnD T_law_standing_weight 5 2
def Tlost_share : S := (.seq (.asg (.one 2) (.tup (.cons (.k (.int 1)) (.cons (.k (.int 1)) .nil))))
(.seq (.forE (.one 3) (.rng2 (.k (.int 1)) (.ari .Add (.sl 0) (.k (.int 1)))) true [some (.S, true), some (.S, true), some (.F, false), some (.F, false)]
(.seq (.asg (.one 2) (.call "share_with" Fshare_with .F (.cons (.cI (.sl 3)) (.cons (.cI (.sl 1)) (.cons (.cI (.sl 2)) .nil)))))
.nil))
(.seq (.retS 2)
.nil)))
def Flost_share : List D → R D := fnD Tlost_share 4 2
def Tshared_out : S := (.seq (.asg (.one 1) (.call "total_of" Ftotal_of .F (.cons (.sl 0) .nil)))
(.seq (.ret (.comp [("weight", 2)] (.one 2) (.sl 0) .nop (.call "over" Fover .F (.cons (.cI (.sl 2)) (.cons (.cI (.sl 1)) .nil)))))
.nil))
def Fshared_out : List D → R D := fnD Tshared_out 3 1
def Twaiting_weights : S := (.seq (.asg (.one 3) (.call "weights_of" Fweights_of .F (.cons (.cI (.sl 0)) (.cons (.cI (.sl 1)) .nil))))
(.seq (.asg (.one 4) (.call "over" Fover .F (.cons (.cI (.sl 1)) (.cons (.tup (.cons (.cI (.sl 0)) (.cons (.k (.int 1)) .nil))) .nil))))
(.seq (.forE (.one 5) (.rng1 (.sl 2)) true [some (.S, true), some (.S, true), some (.S, true), some (.F, false), some (.F, false), some (.F, false)]
(.seq (.mu .app false (.sl 3) (.cons (.call "times" Ftimes .F (.cons (.cI (.ix (.sl 3) (.neg (.k (.int 1))))) (.cons (.cI (.sl 4)) .nil))) .nil))
.nil))
(.seq (.retS 3)
.nil))))
def Fwaiting_weights : List D → R D := fnD Twaiting_weights 6 3
def Twhole_weight : S := (.seq (.asg (.one 2) (.call "weights_of" Fweights_of .F (.cons (.cI (.sl 0)) (.cons (.cI (.sl 1)) .nil))))
(.seq (.asg (.one 3) (.call "times" Ftimes .F (.cons (.cI (.ix (.sl 2) (.neg (.k (.int 1))))) (.cons (.call "over" Fover .F (.cons (.tup (.cons (.cI (.sl 0)) (.cons (.k (.int 1)) .nil))) (.cons (.call "spare_of" Fspare_of .F (.cons (.cI (.sl 0)) (.cons (.cI (.sl 1)) .nil))) .nil))) .nil))))
(.seq (.ret (.call "plus" Fplus .F (.cons (.call "total_of" Ftotal_of .F (.cons (.cL (.slc (.sl 2) .nop (.prt (.neg (.k (.int 1)))))) .nil)) (.cons (.cI (.sl 3)) .nil))))
.nil)))
def Fwhole_weight : List D → R D := fnD Twhole_weight 4 2
def Tuse_weights : S := (.seq (.asg (.one 2) (.lst (.cons (.tup (.cons (.k (.int 1)) (.cons (.k (.int 1)) .nil))) .nil)))
(.seq (.forE (.one 3) (.rng2 (.k (.int 1)) (.ari .Add (.sl 0) (.k (.int 1)))) true [some (.S, true), some (.S, true), some (.F, false), some (.F, false)]
(.seq (.mu .app false (.sl 2) (.cons (.call "weight_of" Fweight_of .F (.cons (.sl 2) (.cons (.sl 1) (.cons (.cI (.sl 3)) .nil)))) .nil))
.nil))
(.seq (.retS 2)
.nil)))
def Fuse_weights : List D → R D := fnD Tuse_weights 4 2
def Twait_share : S := (.seq (.asg (.one 2) (.call "lost_share" Flost_share .F (.cons (.cI (.sl 0)) (.cons (.cI (.sl 1)) .nil))))
(.seq (.asg (.one 3) (.call "times" Ftimes .F (.cons (.tup (.cons (.cI (.sl 0)) (.cons (.k (.int 1)) .nil))) (.cons (.cI (.sl 2)) .nil))))
(.seq (.ret (.call "over" Fover .F (.cons (.cI (.sl 3)) (.cons (.call "minus" Fminus .F (.cons (.tup (.cons (.cI (.sl 0)) (.cons (.k (.int 1)) .nil))) (.cons (.call "times" Ftimes .F (.cons (.cI (.sl 1)) (.cons (.call "minus" Fminus .F (.cons (.tup (.cons (.k (.int 1)) (.cons (.k (.int 1)) .nil))) (.cons (.cI (.sl 2)) .nil))) .nil))) .nil))) .nil))))
.nil)))
def Fwait_share : List D → R D := fnD Twait_share 4 2
def Twaiting_shares : S := (.seq (.asg (.one 3) (.call "whole_weight" Fwhole_weight .F (.cons (.cI (.sl 0)) (.cons (.cI (.sl 1)) .nil))))
(.seq (.ret (.comp [("weight", 4)] (.one 4) (.call "waiting_weights" Fwaiting_weights .F (.cons (.cI (.sl 0)) (.cons (.cI (.sl 1)) (.cons (.cI (.sl 2)) .nil)))) .nop (.call "over" Fover .F (.cons (.cI (.sl 4)) (.cons (.cI (.sl 3)) .nil)))))
.nil))
def Fwaiting_shares : List D → R D := fnD Twaiting_shares 5 3
def Tuse_shares : S := (.seq (.ret (.call "shared_out" Fshared_out .F (.cons (.call "use_weights" Fuse_weights .F (.cons (.cI (.sl 0)) (.cons (.sl 1) .nil))) .nil)))
.nil)
def Fuse_shares : List D → R D := fnD Tuse_shares 2 2
def Toverflow : S := (.seq (.asg (.one 2) (.call "times" Ftimes .F (.cons (.cI (.sl 1)) (.cons (.call "lost_share" Flost_share .F (.cons (.cI (.sl 0)) (.cons (.cI (.sl 1)) .nil))) .nil))))
(.seq (.asg (.one 3) (.call "minus" Fminus .F (.cons (.call "plus" Fplus .F (.cons (.tup (.cons (.ari .Add (.sl 0) (.k (.int 1))) (.cons (.k (.int 1)) .nil))) (.cons (.cI (.sl 2)) .nil))) (.cons (.cI (.sl 1)) .nil))))
(.seq (.ret (.tup (.cons (.cI (.sl 2)) (.cons (.call "times" Ftimes .F (.cons (.cI (.sl 2)) (.cons (.call "plus" Fplus .F (.cons (.call "minus" Fminus .F (.cons (.tup (.cons (.k (.int 1)) (.cons (.k (.int 1)) .nil))) (.cons (.cI (.sl 2)) .nil))) (.cons (.call "over" Fover .F (.cons (.cI (.sl 1)) (.cons (.cI (.sl 3)) .nil))) .nil))) .nil))) .nil))))
.nil)))
def Foverflow : List D → R D := fnD Toverflow 4 2
def Tlost_behind : S := (.seq (.ret (.call "over" Fover .F (.cons (.call "lost_share" Flost_share .F (.cons (.ari .Add (.sl 0) (.sl 1)) (.cons (.cI (.sl 2)) .nil))) (.cons (.call "lost_share" Flost_share .F (.cons (.cI (.sl 0)) (.cons (.cI (.sl 2)) .nil))) .nil))))
.nil)
def Flost_behind : List D → R D := fnD Tlost_behind 3 3
def Tmean_waiting : S := (.seq (.ret (.call "times" Ftimes .F (.cons (.call "wait_share" Fwait_share .F (.cons (.cI (.sl 0)) (.cons (.cI (.sl 1)) .nil))) (.cons (.call "over" Fover .F (.cons (.cI (.sl 1)) (.cons (.call "spare_of" Fspare_of .F (.cons (.cI (.sl 0)) (.cons (.cI (.sl 1)) .nil))) .nil))) .nil))))
.nil)
def Fmean_waiting : List D → R D := fnD Tmean_waiting 2 2
def Twide_lost : S := (.seq (.asg (.one 2) (.call "use_shares" Fuse_shares .F (.cons (.cI (.sl 0)) (.cons (.sl 1) .nil))))
(.seq (.asg (.one 3) (.lst .nil))
(.seq (.forE (.tup [4, 5]) (.sl 1) true [some (.S, true), some (.S, true), some (.F, false), some (.F, false), some (.F, false), some (.F, false), some (.F, false)]
(.seq (.asg (.one 6) (.blt .max (.cons (.k (.int 0)) (.cons (.ari .Add (.ari .Sub (.sl 0) (.sl 4)) (.k (.int 1))) .nil))))
(.seq (.mu .app false (.sl 3) (.cons (.call "total_of" Ftotal_of .F (.cons (.cL (.slc (.sl 2) (.prt (.sl 6)) .nop)) .nil)) .nil))
.nil)))
(.seq (.retS 3)
.nil))))
def Fwide_lost : List D → R D := fnD Twide_lost 7 2
def T_law_right_overflow : S := (.seq (.asg (.one 3) (.call "lost_share" Flost_share .F (.cons (.cI (.sl 0)) (.cons (.cI (.sl 2)) .nil))))
(.seq (.asg (.one 4) (.call "_law_times" F_law_times .F (.cons (.cI (.sl 2)) (.cons (.cI (.sl 3)) .nil))))
(.seq (.asg (.one 5) (.call "_law_plus" F_law_plus .F (.cons (.call "_law_plus" F_law_plus .F (.cons (.tup (.cons (.ari .Add (.sl 0) (.k (.int 1))) (.cons (.k (.int 1)) .nil))) (.cons (.cI (.sl 4)) .nil))) (.cons (.tup (.cons (.neg (.ix (.sl 2) (.k (.int 0)))) (.cons (.cI (.ix (.sl 2) (.k (.int 1)))) .nil))) .nil))))
(.seq (.asg (.one 6) (.call "_law_times" F_law_times .F (.cons (.cI (.sl 4)) (.cons (.cI (.sl 4)) .nil))))
(.seq (.asg (.one 7) (.call "_law_plus" F_law_plus .F (.cons (.call "_law_plus" F_law_plus .F (.cons (.cI (.sl 4)) (.cons (.tup (.cons (.neg (.ix (.sl 6) (.k (.int 0)))) (.cons (.cI (.ix (.sl 6) (.k (.int 1)))) .nil))) .nil))) (.cons (.call "_law_over" F_law_over .F (.cons (.call "_law_times" F_law_times .F (.cons (.cI (.sl 4)) (.cons (.cI (.sl 2)) .nil))) (.cons (.cI (.sl 5)) .nil))) .nil))))
(.seq (.ife (.cmp .NotEq (.call "overflow" Foverflow .F (.cons (.cI (.sl 0)) (.cons (.cI (.sl 2)) .nil))) (.tup (.cons (.cI (.sl 4)) (.cons (.cI (.sl 7)) .nil))))
(.seq (.ret (.k (.bool false)))
.nil)
.nil)
(.seq (.ret (.cmp .Eq (.call "_law_times" F_law_times .F (.cons (.call "lost_behind" Flost_behind .F (.cons (.cI (.sl 0)) (.cons (.cI (.sl 1)) (.cons (.cI (.sl 2)) .nil)))) (.cons (.cI (.sl 3)) .nil))) (.call "lost_share" Flost_share .F (.cons (.ari .Add (.sl 0) (.sl 1)) (.cons (.cI (.sl 2)) .nil)))))
.nil)))))))
def F_law_right_overflow : List D → R D := fnD T_law_right_overflow 8 3
def Tmean_use : S := (.seq (.asg (.one 2) (.call "wide_lost" Fwide_lost .F (.cons (.cI (.sl 0)) (.cons (.sl 1) .nil))))
(.seq (.asg (.one 3) (.tup (.cons (.k (.int 0)) (.cons (.k (.int 1)) .nil))))
(.seq (.forE (.one 4) (.rng1 (.blt .len (.cons (.sl 1) .nil))) true [some (.S, true), some (.S, true), some (.F, false), some (.F, false), some (.F, false), some (.F, false), some (.F, false), some (.F, false)]
(.seq (.asg (.tup [5, 6]) (.cI (.ix (.sl 1) (.sl 4))))
(.seq (.asg (.one 7) (.call "minus" Fminus .F (.cons (.tup (.cons (.k (.int 1)) (.cons (.k (.int 1)) .nil))) (.cons (.cI (.ix (.sl 2) (.sl 4))) .nil))))
(.seq (.asg (.one 3) (.call "plus" Fplus .F (.cons (.cI (.sl 3)) (.cons (.call "times" Ftimes .F (.cons (.call "times" Ftimes .F (.cons (.tup (.cons (.cI (.sl 5)) (.cons (.k (.int 1)) .nil))) (.cons (.cI (.sl 6)) .nil))) (.cons (.cI (.sl 7)) .nil))) .nil))))
.nil))))
(.seq (.retS 3)
.nil))))
def Fmean_use : List D → R D := fnD Tmean_use 8 2
def T_law_right_waits : S := (.seq (.asg (.one 3) (.comp [("k", 7)] (.one 7) (.rng1 (.ari .Add (.sl 0) (.k (.int 1)))) .nop (.call "_law_standing_weight" F_law_standing_weight .F (.cons (.lst (.cons (.cI (.sl 7)) .nil)) (.cons (.lst (.cons (.cI (.sl 1)) .nil)) .nil)))))
(.seq (.asg (.one 4) (.call "_law_over" F_law_over .F (.cons (.tup (.cons (.cI (.sl 0)) (.cons (.k (.int 1)) .nil))) (.cons (.call "_law_plus" F_law_plus .F (.cons (.tup (.cons (.cI (.sl 0)) (.cons (.k (.int 1)) .nil))) (.cons (.tup (.cons (.neg (.ix (.sl 1) (.k (.int 0)))) (.cons (.cI (.ix (.sl 1) (.k (.int 1)))) .nil))) .nil))) .nil))))
(.seq (.asg (.one 5) (.call "_law_plus" F_law_plus .F (.cons (.call "_law_total" F_law_total .F (.cons (.cL (.slc (.sl 3) .nop (.prt (.neg (.k (.int 1)))))) .nil)) (.cons (.call "_law_times" F_law_times .F (.cons (.cI (.ix (.sl 3) (.sl 0))) (.cons (.cI (.sl 4)) .nil))) .nil))))
(.seq (.asg (.one 6) (.comp [("weight", 13)] (.one 13) (.sl 3) .nop (.call "_law_over" F_law_over .F (.cons (.cI (.sl 13)) (.cons (.cI (.sl 5)) .nil)))))
(.seq (.forE (.one 7) (.rng1 (.sl 2)) true [some (.S, true), some (.S, true), some (.S, true), some (.F, false), some (.F, false), some (.F, false), some (.F, false), some (.F, false), some (.F, false), some (.F, false), some (.F, false), some (.F, false), some (.F, false), some (.F, false)]
(.seq (.mu .app false (.sl 6) (.cons (.call "_law_times" F_law_times .F (.cons (.cI (.ix (.sl 6) (.ari .Sub (.blt .len (.cons (.sl 6) .nil)) (.k (.int 1))))) (.cons (.call "_law_over" F_law_over .F (.cons (.cI (.sl 1)) (.cons (.tup (.cons (.cI (.sl 0)) (.cons (.k (.int 1)) .nil))) .nil))) .nil))) .nil))
.nil))
(.seq (.asg (.one 8) (.call "waiting_shares" Fwaiting_shares .F (.cons (.cI (.sl 0)) (.cons (.cI (.sl 1)) (.cons (.cI (.sl 2)) .nil)))))
(.seq (.ife (.cmp .NotEq (.sl 8) (.sl 6))
(.seq (.ret (.k (.bool false)))
.nil)
.nil)
(.seq (.asg (.one 9) (.call "_law_over" F_law_over .F (.cons (.call "_law_times" F_law_times .F (.cons (.cI (.ix (.sl 3) (.sl 0))) (.cons (.cI (.sl 4)) .nil))) (.cons (.cI (.sl 5)) .nil))))
(.seq (.ife (.cmp .NotEq (.call "wait_share" Fwait_share .F (.cons (.cI (.sl 0)) (.cons (.cI (.sl 1)) .nil))) (.sl 9))
(.seq (.ret (.k (.bool false)))
.nil)
.nil)
(.seq (.asg (.one 10) (.call "_law_over" F_law_over .F (.cons (.cI (.sl 1)) (.cons (.tup (.cons (.cI (.sl 0)) (.cons (.k (.int 1)) .nil))) .nil))))
(.seq (.asg (.one 11) (.call "_law_plus" F_law_plus .F (.cons (.tup (.cons (.k (.int 1)) (.cons (.k (.int 1)) .nil))) (.cons (.tup (.cons (.neg (.ix (.sl 10) (.k (.int 0)))) (.cons (.cI (.ix (.sl 10) (.k (.int 1)))) .nil))) .nil))))
(.seq (.asg (.one 12) (.call "_law_over" F_law_over .F (.cons (.call "_law_times" F_law_times .F (.cons (.call "_law_over" F_law_over .F (.cons (.cI (.ix (.sl 3) (.sl 0))) (.cons (.cI (.sl 5)) .nil))) (.cons (.cI (.sl 10)) .nil))) (.cons (.call "_law_times" F_law_times .F (.cons (.cI (.sl 11)) (.cons (.cI (.sl 11)) .nil))) .nil))))
(.seq (.mu .app false (.sl 8) (.cons (.tup (.cons (.k (.int 0)) (.cons (.k (.int 1)) .nil))) .nil))
(.seq (.ret (.and (.cmp .Eq (.call "mean_waiting" Fmean_waiting .F (.cons (.cI (.sl 0)) (.cons (.cI (.sl 1)) .nil))) (.sl 12)) (.one (.cmp .Eq (.call "waiting_shares" Fwaiting_shares .F (.cons (.cI (.sl 0)) (.cons (.cI (.sl 1)) (.cons (.cI (.sl 2)) .nil)))) (.sl 6)))))
.nil))))))))))))))
def F_law_right_waits : List D → R D := fnD T_law_right_waits 14 3
def T_law_right_use : S := (.seq (.asg (.one 3) (.call "_law_total" F_law_total .F (.cons (.sl 2) .nil)))
(.seq (.asg (.one 4) (.comp [("weight", 8)] (.one 8) (.sl 2) .nop (.call "_law_over" F_law_over .F (.cons (.cI (.sl 8)) (.cons (.cI (.sl 3)) .nil)))))
(.seq (.asg (.one 5) (.cL (.blt .list (.cons (.sl 1) .nil))))
(.seq (.ife (.or (.cmp .NotEq (.call "use_shares" Fuse_shares .F (.cons (.cI (.sl 0)) (.cons (.sl 5) .nil))) (.sl 4)) (.one (.cmp .NotEq (.sl 5) (.sl 1))))
(.seq (.ret (.k (.bool false)))
.nil)
.nil)
(.seq (.asg (.one 6) (.comp [("width", 9), ("load", 10)] (.tup [9, 10]) (.sl 1) .nop (.call "_law_total" F_law_total .F (.cons (.comp [("used", 11)] (.one 11) (.rng1 (.ari .Add (.sl 0) (.k (.int 1)))) (.prt (.cmp .Lt (.ari .Sub (.sl 0) (.sl 11)) (.sl 9))) (.cI (.ix (.sl 4) (.sl 11)))) .nil))))
(.seq (.asg (.one 7) (.call "_law_total" F_law_total .F (.cons (.comp [("used", 11)] (.one 11) (.rng1 (.ari .Add (.sl 0) (.k (.int 1)))) .nop (.call "_law_times" F_law_times .F (.cons (.tup (.cons (.cI (.sl 11)) (.cons (.k (.int 1)) .nil))) (.cons (.cI (.ix (.sl 4) (.sl 11))) .nil)))) .nil)))
(.seq (.ret (.and (.cmp .Eq (.call "wide_lost" Fwide_lost .F (.cons (.cI (.sl 0)) (.cons (.sl 5) .nil))) (.sl 6)) (.one (.cmp .Eq (.call "mean_use" Fmean_use .F (.cons (.cI (.sl 0)) (.cons (.sl 5) .nil))) (.sl 7)))))
.nil)))))))
def F_law_right_use : List D → R D := fnD T_law_right_use 12 3
def T_law_right_wide : S := (.seq (.asg (.one 2) (.comp [("used", 4)] (.one 4) (.rng1 (.ari .Add (.sl 0) (.k (.int 1)))) .nop (.tup (.cons (.k (.int 0)) (.cons (.k (.int 1)) .nil)))))
(.seq (.forE (.one 3) (.call "_law_standings" F_law_standings (.L .S) (.cons (.cI (.sl 0)) (.cons (.sl 1) .nil))) false [some (.S, true), some (.S, true), some (.F, false), some (.S, true), some (.F, false), some (.F, false), some (.F, false), some (.F, false)]
(.seq (.asg (.one 4) (.blt .sum (.cons (.comp [("k", 5)] (.one 5) (.rng1 (.blt .len (.cons (.sl 3) .nil))) .nop (.ari .Mult (.ix (.sl 3) (.sl 5)) (.ix (.ix (.sl 1) (.sl 5)) (.k (.int 0))))) .nil)))
(.seq (.setI false (.sl 2) (.sl 4) (.call "_law_plus" F_law_plus .F (.cons (.cI (.ix (.sl 2) (.sl 4))) (.cons (.call "_law_standing_weight" F_law_standing_weight .F (.cons (.sl 3) (.cons (.comp [("width", 6), ("load", 7)] (.tup [6, 7]) (.sl 1) .nop (.cI (.sl 7))) .nil))) .nil))))
.nil)))
(.seq (.ret (.call "_law_right_use" F_law_right_use .F (.cons (.cI (.sl 0)) (.cons (.sl 1) (.cons (.sl 2) .nil)))))
.nil)))
def F_law_right_wide : List D → R D := fnD T_law_right_wide 8 2
def T_law_right_great : S := (.seq (.asg (.one 2) (.cL (.cat (.lst (.cons (.tup (.cons (.k (.int 1)) (.cons (.k (.int 1)) .nil))) .nil)) (.rep (.lst (.cons (.tup (.cons (.k (.int 0)) (.cons (.k (.int 1)) .nil))) .nil)) (.sl 0)))))
(.seq (.forE (.tup [3, 4]) (.sl 1) true [some (.S, true), some (.S, true), some (.S, false), some (.F, false), some (.F, false), some (.S, false), some (.F, false), some (.F, false)]
(.seq (.asg (.one 5) (.lst .nil))
(.seq (.forE (.one 6) (.rng1 (.ari .Add (.sl 0) (.k (.int 1)))) true [some (.S, true), some (.S, true), some (.S, false), some (.F, false), some (.F, false), some (.F, false), some (.F, false), some (.F, false)]
(.seq (.mu .app false (.sl 5) (.cons (.call "_law_total" F_law_total .F (.cons (.comp [("k", 7)] (.one 7) (.rng1 (.ari .Add (.ari .FloorDiv (.sl 6) (.sl 3)) (.k (.int 1)))) .nop (.call "_law_times" F_law_times .F (.cons (.cI (.ix (.sl 2) (.ari .Sub (.sl 6) (.ari .Mult (.sl 7) (.sl 3))))) (.cons (.call "_law_standing_weight" F_law_standing_weight .F (.cons (.lst (.cons (.cI (.sl 7)) .nil)) (.cons (.lst (.cons (.cI (.sl 4)) .nil)) .nil))) .nil)))) .nil)) .nil))
.nil))
(.seq (.asg (.one 2) (.sl 5))
.nil))))
(.seq (.ret (.call "_law_right_use" F_law_right_use .F (.cons (.cI (.sl 0)) (.cons (.sl 1) (.cons (.sl 2) .nil)))))
.nil)))
def F_law_right_great : List D → R D := fnD T_law_right_great 8 2
def Tlaw : S := (.seq (.asg (.one 1) (.call "_law_draws" F_law_draws .F (.cons (.sl 0) (.cons (.k (.int 40)) .nil))))
(.seq (.asg (.one 2) (.ari .Add (.k (.int 1)) (.ari .Mod (.ix (.sl 1) (.k (.int 0))) (.k (.int 8)))))
(.seq (.ife (.cmp .Eq (.ari .Mod (.ix (.sl 1) (.k (.int 1))) (.k (.int 16))) (.k (.int 5)))
(.seq (.asg (.one 2) (.ari .Add (.k (.int 10)) (.ari .Mod (.ix (.sl 1) (.k (.int 2))) (.k (.int 31)))))
.nil)
.nil)
(.seq (.asg (.one 3) (.ari .Add (.k (.int 1)) (.ari .Mod (.ix (.sl 1) (.k (.int 3))) (.k (.int 12)))))
(.seq (.asg (.one 4) (.call "_law_fraction" F_law_fraction .F (.cons (.ari .Add (.k (.int 1)) (.ari .Mod (.ix (.sl 1) (.k (.int 4))) (.ari .Mult (.sl 2) (.sl 3)))) (.cons (.cI (.sl 3)) .nil))))
(.seq (.ife (.cmp .GtE (.ix (.sl 4) (.k (.int 0))) (.ari .Mult (.sl 2) (.ix (.sl 4) (.k (.int 1)))))
(.seq (.asg (.one 4) (.call "_law_fraction" F_law_fraction .F (.cons (.ari .Sub (.ari .Mult (.ari .Mult (.sl 2) (.sl 3)) (.k (.int 2))) (.k (.int 1))) (.cons (.ari .Mult (.sl 3) (.k (.int 2))) .nil))))
.nil)
.nil)
(.seq (.ife (.not (.call "_law_right_waits" F_law_right_waits .F (.cons (.cI (.sl 2)) (.cons (.cI (.sl 4)) (.cons (.ari .Mod (.ix (.sl 1) (.k (.int 5))) (.k (.int 6))) .nil)))))
(.seq (.ret (.k (.bool false)))
.nil)
.nil)
(.seq (.asg (.one 5) (.ari .Mod (.ix (.sl 1) (.k (.int 6))) (.k (.int 9))))
(.seq (.asg (.one 6) (.lst .nil))
(.seq (.forE (.one 7) (.rng1 (.ari .Mod (.ix (.sl 1) (.k (.int 7))) (.k (.int 4)))) true [some (.S, true), some (.F, false), some (.F, false), some (.F, false), some (.F, false), some (.F, false), some (.F, false), some (.F, false), some (.F, false)]
(.seq (.mu .app false (.sl 6) (.cons (.tup (.cons (.ari .Add (.k (.int 1)) (.ari .Mod (.ix (.sl 1) (.ari .Add (.k (.int 8)) (.sl 7))) (.k (.int 4)))) (.cons (.call "_law_fraction" F_law_fraction .F (.cons (.ari .Add (.k (.int 1)) (.ari .Mod (.ix (.sl 1) (.ari .Add (.k (.int 12)) (.sl 7))) (.k (.int 9)))) (.cons (.ari .Add (.k (.int 1)) (.ari .Mod (.ix (.sl 1) (.ari .Add (.k (.int 16)) (.sl 7))) (.k (.int 6)))) .nil))) .nil))) .nil))
.nil))
(.seq (.ife (.or (.not (.call "_law_right_wide" F_law_right_wide .F (.cons (.cI (.sl 5)) (.cons (.sl 6) .nil)))) (.one (.not (.call "_law_right_wide" F_law_right_wide .F (.cons (.cI (.sl 5)) (.cons (.lst (.cons (.tup (.cons (.k (.int 1)) (.cons (.cI (.sl 4)) .nil))) .nil)) .nil))))))
(.seq (.ret (.k (.bool false)))
.nil)
.nil)
(.seq (.ife (.or (.cmp .NotEq (.call "use_shares" Fuse_shares .F (.cons (.cI (.sl 5)) (.cons (.lst .nil) .nil))) (.cat (.lst (.cons (.tup (.cons (.k (.int 1)) (.cons (.k (.int 1)) .nil))) .nil)) (.rep (.lst (.cons (.tup (.cons (.k (.int 0)) (.cons (.k (.int 1)) .nil))) .nil)) (.sl 5)))) (.one (.cmp .NotEq (.call "wide_lost" Fwide_lost .F (.cons (.k (.int 2)) (.cons (.lst (.cons (.tup (.cons (.k (.int 3)) (.cons (.tup (.cons (.k (.int 1)) (.cons (.k (.int 1)) .nil))) .nil))) .nil)) .nil))) (.lst (.cons (.tup (.cons (.k (.int 1)) (.cons (.k (.int 1)) .nil))) .nil)))))
(.seq (.ret (.k (.bool false)))
.nil)
.nil)
(.seq (.ife (.cmp .Eq (.ari .Mod (.ix (.sl 1) (.k (.int 24))) (.k (.int 32))) (.k (.int 5)))
(.seq (.asg (.one 8) (.comp [("k", 7)] (.one 7) (.rng1 (.ari .Add (.k (.int 4)) (.ari .Mod (.ix (.sl 1) (.k (.int 29))) (.k (.int 2))))) .nop (.tup (.cons (.ari .Add (.k (.int 1)) (.ari .Mod (.ix (.sl 1) (.ari .Add (.k (.int 25)) (.sl 7))) (.k (.int 10)))) (.cons (.call "_law_fraction" F_law_fraction .F (.cons (.ari .Add (.k (.int 1)) (.ari .Mod (.ix (.sl 1) (.ari .Add (.k (.int 30)) (.sl 7))) (.k (.int 5)))) (.cons (.ari .Add (.k (.int 1)) (.ari .Mod (.ix (.sl 1) (.ari .Add (.k (.int 33)) (.sl 7))) (.k (.int 3)))) .nil))) .nil)))))
(.seq (.ife (.not (.call "_law_right_great" F_law_right_great .F (.cons (.ari .Add (.k (.int 9)) (.ari .Mod (.ix (.sl 1) (.k (.int 35))) (.k (.int 20)))) (.cons (.sl 8) .nil))))
(.seq (.ret (.k (.bool false)))
.nil)
.nil)
.nil))
.nil)
(.seq (.ife (.cmp .Eq (.ari .Mod (.ix (.sl 1) (.k (.int 24))) (.k (.int 32))) (.k (.int 6)))
(.seq (.ife (.or (.not (.call "_law_right_waits" F_law_right_waits .F (.cons (.ari .Add (.k (.int 41)) (.ari .Mod (.ix (.sl 1) (.k (.int 25))) (.k (.int 20)))) (.cons (.cI (.sl 4)) (.cons (.ari .Sub (.k (.int 40)) (.ari .Mod (.ix (.sl 1) (.k (.int 26))) (.k (.int 5)))) .nil))))) (.one (.not (.call "_law_right_overflow" F_law_right_overflow .F (.cons (.ari .Add (.k (.int 20)) (.ari .Mod (.ix (.sl 1) (.k (.int 27))) (.k (.int 31)))) (.cons (.ari .Mod (.ix (.sl 1) (.k (.int 28))) (.k (.int 10))) (.cons (.cI (.sl 4)) .nil)))))))
(.seq (.ret (.k (.bool false)))
.nil)
.nil)
.nil)
.nil)
(.seq (.ret (.call "_law_right_overflow" F_law_right_overflow .F (.cons (.ari .Mod (.ix (.sl 1) (.k (.int 20))) (.k (.int 7))) (.cons (.ari .Mod (.ix (.sl 1) (.k (.int 21))) (.k (.int 5))) (.cons (.call "_law_fraction" F_law_fraction .F (.cons (.ari .Add (.k (.int 1)) (.ari .Mod (.ix (.sl 1) (.k (.int 22))) (.k (.int 12)))) (.cons (.ari .Add (.k (.int 1)) (.ari .Mod (.ix (.sl 1) (.k (.int 23))) (.k (.int 6)))) .nil))) .nil)))))
.nil)))))))))))))))
def Flaw : List D → R D := fnD Tlaw 9 1
end VS
set_option Elab.async false
set_option linter.all false
set_option maxRecDepth 100000
namespace VS
open PySem PySem.Spec L2
open PyProof.Rows hiding St
def topS (i : Nat) : Stmt := PySem.Challenge.pw_switchways_k79_waiting_and_wide_calls.main.body.getD i (.Pass ⟨0, 0, 0, 0⟩)
structure Fx (C : Ctx) : Prop where
  nb : C.nb = (["abs", "int", "len", "list", "max", "range", "sum"] : List Str)
  f_common_divisor : ∃ f fd, FunD C.K "common_divisor" "common_divisor" (defArgs (topS 1)) (defBody (topS 1)) (defScope (topS 1)) [] [] f fd ∧ C.mg "common_divisor" = some (.ref f)
  f__law_draws : ∃ f fd, FunD C.K "_law_draws" "_law_draws" (defArgs (topS 29)) (defBody (topS 29)) (defScope (topS 29)) [] [] f fd ∧ C.mg "_law_draws" = some (.ref f)
  f__law_gcd : ∃ f fd, FunD C.K "_law_gcd" "_law_gcd" (defArgs (topS 30)) (defBody (topS 30)) (defScope (topS 30)) [] [] f fd ∧ C.mg "_law_gcd" = some (.ref f)
  f__law_power : ∃ f fd, FunD C.K "_law_power" "_law_power" (defArgs (topS 32)) (defBody (topS 32)) (defScope (topS 32)) [] [] f fd ∧ C.mg "_law_power" = some (.ref f)
  f__law_factorial : ∃ f fd, FunD C.K "_law_factorial" "_law_factorial" (defArgs (topS 33)) (defBody (topS 33)) (defScope (topS 33)) [] [] f fd ∧ C.mg "_law_factorial" = some (.ref f)
  f__law_standings : ∃ f fd, FunD C.K "_law_standings" "_law_standings" (defArgs (topS 40)) (defBody (topS 40)) (defScope (topS 40)) [] [] f fd ∧ C.mg "_law_standings" = some (.ref f)
  f_fraction : ∃ f fd, FunD C.K "fraction" "fraction" (defArgs (topS 2)) (defBody (topS 2)) (defScope (topS 2)) [] [] f fd ∧ C.mg "fraction" = some (.ref f)
  f__law_fraction : ∃ f fd, FunD C.K "_law_fraction" "_law_fraction" (defArgs (topS 31)) (defBody (topS 31)) (defScope (topS 31)) [] [] f fd ∧ C.mg "_law_fraction" = some (.ref f)
  f_plus : ∃ f fd, FunD C.K "plus" "plus" (defArgs (topS 3)) (defBody (topS 3)) (defScope (topS 3)) [] [] f fd ∧ C.mg "plus" = some (.ref f)
  f_minus : ∃ f fd, FunD C.K "minus" "minus" (defArgs (topS 4)) (defBody (topS 4)) (defScope (topS 4)) [] [] f fd ∧ C.mg "minus" = some (.ref f)
  f_times : ∃ f fd, FunD C.K "times" "times" (defArgs (topS 5)) (defBody (topS 5)) (defScope (topS 5)) [] [] f fd ∧ C.mg "times" = some (.ref f)
  f_over : ∃ f fd, FunD C.K "over" "over" (defArgs (topS 6)) (defBody (topS 6)) (defScope (topS 6)) [] [] f fd ∧ C.mg "over" = some (.ref f)
  f__law_plus : ∃ f fd, FunD C.K "_law_plus" "_law_plus" (defArgs (topS 34)) (defBody (topS 34)) (defScope (topS 34)) [] [] f fd ∧ C.mg "_law_plus" = some (.ref f)
  f__law_times : ∃ f fd, FunD C.K "_law_times" "_law_times" (defArgs (topS 35)) (defBody (topS 35)) (defScope (topS 35)) [] [] f fd ∧ C.mg "_law_times" = some (.ref f)
  f__law_over : ∃ f fd, FunD C.K "_law_over" "_law_over" (defArgs (topS 36)) (defBody (topS 36)) (defScope (topS 36)) [] [] f fd ∧ C.mg "_law_over" = some (.ref f)
  f_share_with : ∃ f fd, FunD C.K "share_with" "share_with" (defArgs (topS 8)) (defBody (topS 8)) (defScope (topS 8)) [] [] f fd ∧ C.mg "share_with" = some (.ref f)
  f_weights_of : ∃ f fd, FunD C.K "weights_of" "weights_of" (defArgs (topS 10)) (defBody (topS 10)) (defScope (topS 10)) [] [] f fd ∧ C.mg "weights_of" = some (.ref f)
  f_total_of : ∃ f fd, FunD C.K "total_of" "total_of" (defArgs (topS 11)) (defBody (topS 11)) (defScope (topS 11)) [] [] f fd ∧ C.mg "total_of" = some (.ref f)
  f_spare_of : ∃ f fd, FunD C.K "spare_of" "spare_of" (defArgs (topS 14)) (defBody (topS 14)) (defScope (topS 14)) [] [] f fd ∧ C.mg "spare_of" = some (.ref f)
  f_weight_of : ∃ f fd, FunD C.K "weight_of" "weight_of" (defArgs (topS 21)) (defBody (topS 21)) (defScope (topS 21)) [] [] f fd ∧ C.mg "weight_of" = some (.ref f)
  f__law_total : ∃ f fd, FunD C.K "_law_total" "_law_total" (defArgs (topS 37)) (defBody (topS 37)) (defScope (topS 37)) [] [] f fd ∧ C.mg "_law_total" = some (.ref f)
  f__law_standing_weight : ∃ f fd, FunD C.K "_law_standing_weight" "_law_standing_weight" (defArgs (topS 38)) (defBody (topS 38)) (defScope (topS 38)) [] [] f fd ∧ C.mg "_law_standing_weight" = some (.ref f)
  f_lost_share : ∃ f fd, FunD C.K "lost_share" "lost_share" (defArgs (topS 9)) (defBody (topS 9)) (defScope (topS 9)) [] [] f fd ∧ C.mg "lost_share" = some (.ref f)
  f_shared_out : ∃ f fd, FunD C.K "shared_out" "shared_out" (defArgs (topS 12)) (defBody (topS 12)) (defScope (topS 12)) [] [] f fd ∧ C.mg "shared_out" = some (.ref f)
  f_waiting_weights : ∃ f fd, FunD C.K "waiting_weights" "waiting_weights" (defArgs (topS 17)) (defBody (topS 17)) (defScope (topS 17)) [] [] f fd ∧ C.mg "waiting_weights" = some (.ref f)
  f_whole_weight : ∃ f fd, FunD C.K "whole_weight" "whole_weight" (defArgs (topS 18)) (defBody (topS 18)) (defScope (topS 18)) [] [] f fd ∧ C.mg "whole_weight" = some (.ref f)
  f_use_weights : ∃ f fd, FunD C.K "use_weights" "use_weights" (defArgs (topS 22)) (defBody (topS 22)) (defScope (topS 22)) [] [] f fd ∧ C.mg "use_weights" = some (.ref f)
  f_wait_share : ∃ f fd, FunD C.K "wait_share" "wait_share" (defArgs (topS 15)) (defBody (topS 15)) (defScope (topS 15)) [] [] f fd ∧ C.mg "wait_share" = some (.ref f)
  f_waiting_shares : ∃ f fd, FunD C.K "waiting_shares" "waiting_shares" (defArgs (topS 19)) (defBody (topS 19)) (defScope (topS 19)) [] [] f fd ∧ C.mg "waiting_shares" = some (.ref f)
  f_use_shares : ∃ f fd, FunD C.K "use_shares" "use_shares" (defArgs (topS 23)) (defBody (topS 23)) (defScope (topS 23)) [] [] f fd ∧ C.mg "use_shares" = some (.ref f)
  f_overflow : ∃ f fd, FunD C.K "overflow" "overflow" (defArgs (topS 26)) (defBody (topS 26)) (defScope (topS 26)) [] [] f fd ∧ C.mg "overflow" = some (.ref f)
  f_lost_behind : ∃ f fd, FunD C.K "lost_behind" "lost_behind" (defArgs (topS 27)) (defBody (topS 27)) (defScope (topS 27)) [] [] f fd ∧ C.mg "lost_behind" = some (.ref f)
  f_mean_waiting : ∃ f fd, FunD C.K "mean_waiting" "mean_waiting" (defArgs (topS 16)) (defBody (topS 16)) (defScope (topS 16)) [] [] f fd ∧ C.mg "mean_waiting" = some (.ref f)
  f_wide_lost : ∃ f fd, FunD C.K "wide_lost" "wide_lost" (defArgs (topS 24)) (defBody (topS 24)) (defScope (topS 24)) [] [] f fd ∧ C.mg "wide_lost" = some (.ref f)
  f__law_right_overflow : ∃ f fd, FunD C.K "_law_right_overflow" "_law_right_overflow" (defArgs (topS 44)) (defBody (topS 44)) (defScope (topS 44)) [] [] f fd ∧ C.mg "_law_right_overflow" = some (.ref f)
  f_mean_use : ∃ f fd, FunD C.K "mean_use" "mean_use" (defArgs (topS 25)) (defBody (topS 25)) (defScope (topS 25)) [] [] f fd ∧ C.mg "mean_use" = some (.ref f)
  f__law_right_waits : ∃ f fd, FunD C.K "_law_right_waits" "_law_right_waits" (defArgs (topS 39)) (defBody (topS 39)) (defScope (topS 39)) [] [] f fd ∧ C.mg "_law_right_waits" = some (.ref f)
  f__law_right_use : ∃ f fd, FunD C.K "_law_right_use" "_law_right_use" (defArgs (topS 43)) (defBody (topS 43)) (defScope (topS 43)) [] [] f fd ∧ C.mg "_law_right_use" = some (.ref f)
  f__law_right_wide : ∃ f fd, FunD C.K "_law_right_wide" "_law_right_wide" (defArgs (topS 41)) (defBody (topS 41)) (defScope (topS 41)) [] [] f fd ∧ C.mg "_law_right_wide" = some (.ref f)
  f__law_right_great : ∃ f fd, FunD C.K "_law_right_great" "_law_right_great" (defArgs (topS 42)) (defBody (topS 42)) (defScope (topS 42)) [] [] f fd ∧ C.mg "_law_right_great" = some (.ref f)
  f_law : ∃ f fd, FunD C.K "law" "law" (defArgs (topS 45)) (defBody (topS 45)) (defScope (topS 45)) [] [] f fd ∧ C.mg "law" = some (.ref f)
theorem sc_common_divisor : FnScope ["first", "second"] ["first", "second"] (defScope (topS 1)) := ⟨rfl, rfl, rfl, by decide +kernel, rfl, by decide +kernel, by decide +kernel⟩
theorem sc__law_draws : FnScope ["script", "many", "found", "cell", "number", "k", "mixed", "base"] ["script", "many"] (defScope (topS 29)) := ⟨rfl, rfl, rfl, by decide +kernel, rfl, by decide +kernel, by decide +kernel⟩
theorem sc__law_gcd : FnScope ["first", "second"] ["first", "second"] (defScope (topS 30)) := ⟨rfl, rfl, rfl, by decide +kernel, rfl, by decide +kernel, by decide +kernel⟩
theorem sc__law_power : FnScope ["base", "times_v", "made", "k"] ["base", "times_v"] (defScope (topS 32)) := ⟨rfl, rfl, rfl, by decide +kernel, rfl, by decide +kernel, by decide +kernel⟩
theorem sc__law_factorial : FnScope ["n", "made", "k"] ["n"] (defScope (topS 33)) := ⟨rfl, rfl, rfl, by decide +kernel, rfl, by decide +kernel, by decide +kernel⟩
theorem sc__law_standings : FnScope ["lines", "kinds", "found", "width", "load", "longer", "calls", "widths", "k"] ["lines", "kinds"] (defScope (topS 40)) := ⟨rfl, rfl, rfl, by decide +kernel, rfl, by decide +kernel, by decide +kernel⟩
theorem sc_fraction : FnScope ["p", "s", "divisor"] ["p", "s"] (defScope (topS 2)) := ⟨rfl, rfl, rfl, by decide +kernel, rfl, by decide +kernel, by decide +kernel⟩
theorem sc__law_fraction : FnScope ["p", "s", "part"] ["p", "s"] (defScope (topS 31)) := ⟨rfl, rfl, rfl, by decide +kernel, rfl, by decide +kernel, by decide +kernel⟩
theorem sc_plus : FnScope ["first", "second"] ["first", "second"] (defScope (topS 3)) := ⟨rfl, rfl, rfl, by decide +kernel, rfl, by decide +kernel, by decide +kernel⟩
theorem sc_minus : FnScope ["first", "second"] ["first", "second"] (defScope (topS 4)) := ⟨rfl, rfl, rfl, by decide +kernel, rfl, by decide +kernel, by decide +kernel⟩
theorem sc_times : FnScope ["first", "second"] ["first", "second"] (defScope (topS 5)) := ⟨rfl, rfl, rfl, by decide +kernel, rfl, by decide +kernel, by decide +kernel⟩
theorem sc_over : FnScope ["first", "second"] ["first", "second"] (defScope (topS 6)) := ⟨rfl, rfl, rfl, by decide +kernel, rfl, by decide +kernel, by decide +kernel⟩
theorem sc__law_plus : FnScope ["first", "second"] ["first", "second"] (defScope (topS 34)) := ⟨rfl, rfl, rfl, by decide +kernel, rfl, by decide +kernel, by decide +kernel⟩
theorem sc__law_times : FnScope ["first", "second"] ["first", "second"] (defScope (topS 35)) := ⟨rfl, rfl, rfl, by decide +kernel, rfl, by decide +kernel, by decide +kernel⟩
theorem sc__law_over : FnScope ["first", "second"] ["first", "second"] (defScope (topS 36)) := ⟨rfl, rfl, rfl, by decide +kernel, rfl, by decide +kernel, by decide +kernel⟩
theorem sc_share_with : FnScope ["lines", "load", "share", "lost"] ["lines", "load", "share"] (defScope (topS 8)) := ⟨rfl, rfl, rfl, by decide +kernel, rfl, by decide +kernel, by decide +kernel⟩
theorem sc_weights_of : FnScope ["lines", "load", "found", "calls"] ["lines", "load"] (defScope (topS 10)) := ⟨rfl, rfl, rfl, by decide +kernel, rfl, by decide +kernel, by decide +kernel⟩
theorem sc_total_of : FnScope ["shares", "total", "share"] ["shares"] (defScope (topS 11)) := ⟨rfl, rfl, rfl, by decide +kernel, rfl, by decide +kernel, by decide +kernel⟩
theorem sc_spare_of : FnScope ["lines", "load"] ["lines", "load"] (defScope (topS 14)) := ⟨rfl, rfl, rfl, by decide +kernel, rfl, by decide +kernel, by decide +kernel⟩
theorem sc_weight_of : FnScope ["weights", "kinds", "used", "total", "width", "load"] ["weights", "kinds", "used"] (defScope (topS 21)) := ⟨rfl, rfl, rfl, by decide +kernel, rfl, by decide +kernel, by decide +kernel⟩
theorem sc__law_total : FnScope ["shares", "total", "share"] ["shares"] (defScope (topS 37)) := ⟨rfl, rfl, rfl, by decide +kernel, rfl, by decide +kernel, by decide +kernel⟩
theorem sc__law_standing_weight : FnScope ["calls", "loads", "weight", "k", "power"] ["calls", "loads"] (defScope (topS 38)) := ⟨rfl, rfl, rfl, by decide +kernel, rfl, by decide +kernel, by decide +kernel⟩
theorem sc_lost_share : FnScope ["lines", "load", "share", "line"] ["lines", "load"] (defScope (topS 9)) := ⟨rfl, rfl, rfl, by decide +kernel, rfl, by decide +kernel, by decide +kernel⟩
theorem sc_shared_out : FnScope ["weights", "total", "weight"] ["weights"] (defScope (topS 12)) := ⟨rfl, rfl, rfl, by decide +kernel, rfl, by decide +kernel, by decide +kernel⟩
theorem sc_waiting_weights : FnScope ["lines", "load", "most", "found", "step", "waiting"] ["lines", "load", "most"] (defScope (topS 17)) := ⟨rfl, rfl, rfl, by decide +kernel, rfl, by decide +kernel, by decide +kernel⟩
theorem sc_whole_weight : FnScope ["lines", "load", "weights", "full"] ["lines", "load"] (defScope (topS 18)) := ⟨rfl, rfl, rfl, by decide +kernel, rfl, by decide +kernel, by decide +kernel⟩
theorem sc_use_weights : FnScope ["lines", "kinds", "found", "used"] ["lines", "kinds"] (defScope (topS 22)) := ⟨rfl, rfl, rfl, by decide +kernel, rfl, by decide +kernel, by decide +kernel⟩
theorem sc_wait_share : FnScope ["lines", "load", "share", "above"] ["lines", "load"] (defScope (topS 15)) := ⟨rfl, rfl, rfl, by decide +kernel, rfl, by decide +kernel, by decide +kernel⟩
theorem sc_waiting_shares : FnScope ["lines", "load", "most", "total", "weight"] ["lines", "load", "most"] (defScope (topS 19)) := ⟨rfl, rfl, rfl, by decide +kernel, rfl, by decide +kernel, by decide +kernel⟩
theorem sc_use_shares : FnScope ["lines", "kinds"] ["lines", "kinds"] (defScope (topS 23)) := ⟨rfl, rfl, rfl, by decide +kernel, rfl, by decide +kernel, by decide +kernel⟩
theorem sc_overflow : FnScope ["lines", "load", "mean", "below"] ["lines", "load"] (defScope (topS 26)) := ⟨rfl, rfl, rfl, by decide +kernel, rfl, by decide +kernel, by decide +kernel⟩
theorem sc_lost_behind : FnScope ["lines", "more", "load"] ["lines", "more", "load"] (defScope (topS 27)) := ⟨rfl, rfl, rfl, by decide +kernel, rfl, by decide +kernel, by decide +kernel⟩
theorem sc_mean_waiting : FnScope ["lines", "load"] ["lines", "load"] (defScope (topS 16)) := ⟨rfl, rfl, rfl, by decide +kernel, rfl, by decide +kernel, by decide +kernel⟩
theorem sc_wide_lost : FnScope ["lines", "kinds", "shares", "found", "width", "load", "first"] ["lines", "kinds"] (defScope (topS 24)) := ⟨rfl, rfl, rfl, by decide +kernel, rfl, by decide +kernel, by decide +kernel⟩
theorem sc__law_right_overflow : FnScope ["lines", "more", "load", "lost", "mean", "below", "square", "due"] ["lines", "more", "load"] (defScope (topS 44)) := ⟨rfl, rfl, rfl, by decide +kernel, rfl, by decide +kernel, by decide +kernel⟩
theorem sc_mean_use : FnScope ["lines", "kinds", "lost", "total", "at", "width", "load", "kept"] ["lines", "kinds"] (defScope (topS 25)) := ⟨rfl, rfl, rfl, by decide +kernel, rfl, by decide +kernel, by decide +kernel⟩
theorem sc__law_right_waits : FnScope ["lines", "load", "most", "weights", "tail", "total", "due", "k", "told", "waits", "step", "rest", "first", "weight"] ["lines", "load", "most"] (defScope (topS 39)) := ⟨rfl, rfl, rfl, by decide +kernel, rfl, by decide +kernel, by decide +kernel⟩
theorem sc__law_right_use : FnScope ["lines", "kinds", "weights", "total", "due", "passed", "lost", "mean", "weight", "width", "load", "used"] ["lines", "kinds", "weights"] (defScope (topS 43)) := ⟨rfl, rfl, rfl, by decide +kernel, rfl, by decide +kernel, by decide +kernel⟩
theorem sc__law_right_wide : FnScope ["lines", "kinds", "weights", "calls", "used", "k", "width", "load"] ["lines", "kinds"] (defScope (topS 41)) := ⟨rfl, rfl, rfl, by decide +kernel, rfl, by decide +kernel, by decide +kernel⟩
theorem sc__law_right_great : FnScope ["lines", "kinds", "weights", "width", "load", "made", "used", "k"] ["lines", "kinds"] (defScope (topS 42)) := ⟨rfl, rfl, rfl, by decide +kernel, rfl, by decide +kernel, by decide +kernel⟩
theorem sc_law : FnScope ["script", "draws", "lines", "whole", "load", "few", "kinds", "k", "more"] ["script"] (defScope (topS 45)) := ⟨rfl, rfl, rfl, by decide +kernel, rfl, by decide +kernel, by decide +kernel⟩
section
variable {C : Ctx} (X : Fx C)
include X
theorem v_common_divisor : FnV (C.lv 1) "common_divisor" Fcommon_divisor .F := by
  obtain ⟨f, fd, F, hm⟩ := X.f_common_divisor
  exact FnV.ofD (C := C.lv 0) F hm (F.bindsN fun _ _ _ _ _ _ us hl => match us, hl with | [_, _], _ => rfl) sc_common_divisor ⟨⟨⟨trivial, trivial⟩, ⟨⟨trivial, ⟨⟨trivial, trivial⟩, trivial⟩⟩, trivial⟩⟩, ⟨trivial, trivial⟩⟩ (by decide) (by show csk C.nb _ _ _ = true; rw [X.nb]; decide +kernel) (r := none) (by decide +kernel)
theorem v__law_draws : FnV (C.lv 1) "_law_draws" F_law_draws .F := by
  obtain ⟨f, fd, F, hm⟩ := X.f__law_draws
  exact FnV.ofD (C := C.lv 0) F hm (F.bindsN fun _ _ _ _ _ _ us hl => match us, hl with | [_, _], _ => rfl) sc__law_draws ⟨trivial, ⟨⟨⟨trivial, trivial, trivial⟩, ⟨⟨⟨trivial, trivial⟩, trivial⟩, ⟨⟨⟨trivial, ⟨trivial, trivial⟩⟩, ⟨⟨trivial, ⟨⟨⟨trivial, trivial⟩, ⟨⟨trivial, ⟨⟨trivial, trivial⟩, trivial⟩⟩, ⟨⟨trivial, trivial⟩, trivial⟩⟩, trivial⟩, trivial⟩⟩, trivial⟩, ⟨⟨⟨⟨⟨trivial, trivial⟩, ⟨trivial, ⟨trivial, trivial⟩⟩⟩, trivial⟩, trivial⟩, ⟨⟨trivial, ⟨⟨⟨⟨⟨⟨trivial, trivial⟩, ⟨trivial, trivial⟩⟩, ⟨trivial, trivial⟩⟩, trivial⟩, trivial⟩, ⟨⟨trivial, ⟨⟨⟨trivial, trivial⟩, trivial⟩, trivial⟩⟩, trivial⟩⟩⟩, trivial⟩⟩⟩, trivial⟩⟩⟩, ⟨⟨trivial, ⟨⟨⟨⟨trivial, trivial⟩, trivial⟩, ⟨trivial, ⟨⟨⟨⟨trivial, trivial⟩, trivial⟩, ⟨⟨trivial, ⟨trivial, ⟨trivial, trivial⟩⟩⟩, trivial⟩, trivial⟩, ⟨⟨trivial, ⟨⟨⟨⟨⟨trivial, trivial⟩, ⟨trivial, ⟨trivial, trivial⟩⟩⟩, trivial⟩, trivial⟩, trivial⟩⟩, trivial⟩⟩⟩, trivial⟩, trivial⟩⟩, ⟨⟨trivial, trivial, trivial⟩, trivial⟩⟩⟩⟩ (by decide) (by show csk C.nb _ _ _ = true; rw [X.nb]; decide +kernel) (r := none) (by decide +kernel)
theorem v__law_gcd : FnV (C.lv 1) "_law_gcd" F_law_gcd .F := by
  obtain ⟨f, fd, F, hm⟩ := X.f__law_gcd
  exact FnV.ofD (C := C.lv 0) F hm (F.bindsN fun _ _ _ _ _ _ us hl => match us, hl with | [_, _], _ => rfl) sc__law_gcd ⟨⟨trivial, trivial⟩, ⟨⟨trivial, trivial⟩, ⟨⟨⟨trivial, trivial⟩, ⟨⟨trivial, ⟨⟨trivial, trivial⟩, trivial⟩⟩, trivial⟩⟩, ⟨trivial, trivial⟩⟩⟩⟩ (by decide) (by show csk C.nb _ _ _ = true; rw [X.nb]; decide +kernel) (r := none) (by decide +kernel)
theorem v__law_power : FnV (C.lv 1) "_law_power" F_law_power .F := by
  obtain ⟨f, fd, F, hm⟩ := X.f__law_power
  exact FnV.ofD (C := C.lv 0) F hm (F.bindsN fun _ _ _ _ _ _ us hl => match us, hl with | [_, _], _ => rfl) sc__law_power ⟨trivial, ⟨⟨trivial, ⟨⟨trivial, trivial⟩, trivial⟩⟩, ⟨trivial, trivial⟩⟩⟩ (by decide) (by show csk C.nb _ _ _ = true; rw [X.nb]; decide +kernel) (r := none) (by decide +kernel)
theorem v__law_factorial : FnV (C.lv 1) "_law_factorial" F_law_factorial .F := by
  obtain ⟨f, fd, F, hm⟩ := X.f__law_factorial
  exact FnV.ofD (C := C.lv 0) F hm (F.bindsN fun _ _ _ _ _ _ us hl => match us, hl with | [_], _ => rfl) sc__law_factorial ⟨trivial, ⟨⟨⟨trivial, ⟨trivial, trivial⟩⟩, ⟨⟨trivial, trivial⟩, trivial⟩⟩, ⟨trivial, trivial⟩⟩⟩ (by decide) (by show csk C.nb _ _ _ = true; rw [X.nb]; decide +kernel) (r := none) (by decide +kernel)
theorem v__law_standings : FnV (C.lv 1) "_law_standings" F_law_standings (.L .S) := by
  obtain ⟨f, fd, F, hm⟩ := X.f__law_standings
  exact FnV.ofD (C := C.lv 0) F hm (F.bindsN fun _ _ _ _ _ _ us hl => match us, hl with | [_, _], _ => rfl) sc__law_standings ⟨⟨trivial, trivial⟩, ⟨⟨trivial, ⟨trivial, ⟨⟨trivial, ⟨⟨trivial, ⟨⟨⟨trivial, trivial⟩, trivial⟩, trivial, ⟨trivial, ⟨trivial, trivial⟩⟩⟩⟩, trivial⟩⟩, ⟨trivial, trivial⟩⟩⟩⟩, ⟨⟨trivial, trivial, trivial⟩, ⟨⟨trivial, ⟨⟨⟨⟨trivial, trivial⟩, trivial, ⟨⟨trivial, trivial⟩, ⟨trivial, trivial⟩⟩⟩, trivial⟩, trivial⟩, trivial⟩, trivial⟩⟩⟩⟩ (by decide) (by show csk C.nb _ _ _ = true; rw [X.nb]; decide +kernel) (r := none) (by decide +kernel)
theorem v_fraction : FnV (C.lv 2) "fraction" Ffraction .F := by
  obtain ⟨f, fd, F, hm⟩ := X.f_fraction
  exact FnV.ofD (C := C.lv 1) F hm (F.bindsN fun _ _ _ _ _ _ us hl => match us, hl with | [_, _], _ => rfl) sc_fraction ⟨⟨(v_common_divisor X).up rfl, ⟨⟨trivial, trivial⟩, ⟨⟨trivial, trivial⟩, trivial⟩⟩⟩, ⟨⟨⟨trivial, trivial⟩, ⟨trivial, trivial⟩, trivial⟩, ⟨⟨⟨trivial, trivial⟩, ⟨⟨trivial, trivial⟩, trivial⟩⟩, trivial⟩⟩⟩ (by decide) (by show csk C.nb _ _ _ = true; rw [X.nb]; decide +kernel) (r := none) (by decide +kernel)
theorem v__law_fraction : FnV (C.lv 2) "_law_fraction" F_law_fraction .F := by
  obtain ⟨f, fd, F, hm⟩ := X.f__law_fraction
  exact FnV.ofD (C := C.lv 1) F hm (F.bindsN fun _ _ _ _ _ _ us hl => match us, hl with | [_, _], _ => rfl) sc__law_fraction ⟨⟨⟨trivial, trivial⟩, ⟨⟨trivial, ⟨trivial, trivial⟩⟩, trivial⟩, trivial⟩, ⟨⟨(v__law_gcd X).up rfl, ⟨trivial, ⟨trivial, trivial⟩⟩⟩, ⟨⟨⟨trivial, trivial⟩, ⟨⟨trivial, trivial⟩, trivial⟩⟩, trivial⟩⟩⟩ (by decide) (by show csk C.nb _ _ _ = true; rw [X.nb]; decide +kernel) (r := none) (by decide +kernel)
theorem v_plus : FnV (C.lv 3) "plus" Fplus .F := by
  obtain ⟨f, fd, F, hm⟩ := X.f_plus
  exact FnV.ofD (C := C.lv 2) F hm (F.bindsN fun _ _ _ _ _ _ us hl => match us, hl with | [_, _], _ => rfl) sc_plus ⟨⟨(v_fraction X).up rfl, ⟨⟨⟨⟨trivial, trivial⟩, ⟨trivial, trivial⟩⟩, ⟨⟨trivial, trivial⟩, ⟨trivial, trivial⟩⟩⟩, ⟨⟨⟨trivial, trivial⟩, ⟨trivial, trivial⟩⟩, trivial⟩⟩⟩, trivial⟩ (by decide) (by show csk C.nb _ _ _ = true; rw [X.nb]; decide +kernel) (r := none) (by decide +kernel)
theorem v_minus : FnV (C.lv 3) "minus" Fminus .F := by
  obtain ⟨f, fd, F, hm⟩ := X.f_minus
  exact FnV.ofD (C := C.lv 2) F hm (F.bindsN fun _ _ _ _ _ _ us hl => match us, hl with | [_, _], _ => rfl) sc_minus ⟨⟨(v_fraction X).up rfl, ⟨⟨⟨⟨trivial, trivial⟩, ⟨trivial, trivial⟩⟩, ⟨⟨trivial, trivial⟩, ⟨trivial, trivial⟩⟩⟩, ⟨⟨⟨trivial, trivial⟩, ⟨trivial, trivial⟩⟩, trivial⟩⟩⟩, trivial⟩ (by decide) (by show csk C.nb _ _ _ = true; rw [X.nb]; decide +kernel) (r := none) (by decide +kernel)
theorem v_times : FnV (C.lv 3) "times" Ftimes .F := by
  obtain ⟨f, fd, F, hm⟩ := X.f_times
  exact FnV.ofD (C := C.lv 2) F hm (F.bindsN fun _ _ _ _ _ _ us hl => match us, hl with | [_, _], _ => rfl) sc_times ⟨⟨(v_fraction X).up rfl, ⟨⟨⟨trivial, trivial⟩, ⟨trivial, trivial⟩⟩, ⟨⟨⟨trivial, trivial⟩, ⟨trivial, trivial⟩⟩, trivial⟩⟩⟩, trivial⟩ (by decide) (by show csk C.nb _ _ _ = true; rw [X.nb]; decide +kernel) (r := none) (by decide +kernel)
theorem v_over : FnV (C.lv 3) "over" Fover .F := by
  obtain ⟨f, fd, F, hm⟩ := X.f_over
  exact FnV.ofD (C := C.lv 2) F hm (F.bindsN fun _ _ _ _ _ _ us hl => match us, hl with | [_, _], _ => rfl) sc_over ⟨⟨(v_fraction X).up rfl, ⟨⟨⟨trivial, trivial⟩, ⟨trivial, trivial⟩⟩, ⟨⟨⟨trivial, trivial⟩, ⟨trivial, trivial⟩⟩, trivial⟩⟩⟩, trivial⟩ (by decide) (by show csk C.nb _ _ _ = true; rw [X.nb]; decide +kernel) (r := none) (by decide +kernel)
theorem v__law_plus : FnV (C.lv 3) "_law_plus" F_law_plus .F := by
  obtain ⟨f, fd, F, hm⟩ := X.f__law_plus
  exact FnV.ofD (C := C.lv 2) F hm (F.bindsN fun _ _ _ _ _ _ us hl => match us, hl with | [_, _], _ => rfl) sc__law_plus ⟨⟨(v__law_fraction X).up rfl, ⟨⟨⟨⟨trivial, trivial⟩, ⟨trivial, trivial⟩⟩, ⟨⟨trivial, trivial⟩, ⟨trivial, trivial⟩⟩⟩, ⟨⟨⟨trivial, trivial⟩, ⟨trivial, trivial⟩⟩, trivial⟩⟩⟩, trivial⟩ (by decide) (by show csk C.nb _ _ _ = true; rw [X.nb]; decide +kernel) (r := none) (by decide +kernel)
theorem v__law_times : FnV (C.lv 3) "_law_times" F_law_times .F := by
  obtain ⟨f, fd, F, hm⟩ := X.f__law_times
  exact FnV.ofD (C := C.lv 2) F hm (F.bindsN fun _ _ _ _ _ _ us hl => match us, hl with | [_, _], _ => rfl) sc__law_times ⟨⟨(v__law_fraction X).up rfl, ⟨⟨⟨trivial, trivial⟩, ⟨trivial, trivial⟩⟩, ⟨⟨⟨trivial, trivial⟩, ⟨trivial, trivial⟩⟩, trivial⟩⟩⟩, trivial⟩ (by decide) (by show csk C.nb _ _ _ = true; rw [X.nb]; decide +kernel) (r := none) (by decide +kernel)
theorem v__law_over : FnV (C.lv 3) "_law_over" F_law_over .F := by
  obtain ⟨f, fd, F, hm⟩ := X.f__law_over
  exact FnV.ofD (C := C.lv 2) F hm (F.bindsN fun _ _ _ _ _ _ us hl => match us, hl with | [_, _], _ => rfl) sc__law_over ⟨⟨(v__law_fraction X).up rfl, ⟨⟨⟨trivial, trivial⟩, ⟨trivial, trivial⟩⟩, ⟨⟨⟨trivial, trivial⟩, ⟨trivial, trivial⟩⟩, trivial⟩⟩⟩, trivial⟩ (by decide) (by show csk C.nb _ _ _ = true; rw [X.nb]; decide +kernel) (r := none) (by decide +kernel)
theorem v_share_with : FnV (C.lv 4) "share_with" Fshare_with .F := by
  obtain ⟨f, fd, F, hm⟩ := X.f_share_with
  exact FnV.ofD (C := C.lv 3) F hm (F.bindsN fun _ _ _ _ _ _ us hl => match us, hl with | [_, _, _], _ => rfl) sc_share_with ⟨⟨(v_times X).up rfl, ⟨trivial, ⟨trivial, trivial⟩⟩⟩, ⟨⟨(v_over X).up rfl, ⟨trivial, ⟨⟨(v_plus X).up rfl, ⟨⟨trivial, ⟨trivial, trivial⟩⟩, ⟨trivial, trivial⟩⟩⟩, trivial⟩⟩⟩, trivial⟩⟩ (by decide) (by show csk C.nb _ _ _ = true; rw [X.nb]; decide +kernel) (r := none) (by decide +kernel)
theorem v_weights_of : FnV (C.lv 4) "weights_of" Fweights_of .F := by
  obtain ⟨f, fd, F, hm⟩ := X.f_weights_of
  exact FnV.ofD (C := C.lv 3) F hm (F.bindsN fun _ _ _ _ _ _ us hl => match us, hl with | [_, _], _ => rfl) sc_weights_of ⟨⟨⟨trivial, ⟨trivial, trivial⟩⟩, trivial⟩, ⟨⟨⟨trivial, ⟨trivial, trivial⟩⟩, ⟨⟨trivial, ⟨⟨(v_times X).up rfl, ⟨⟨trivial, trivial⟩, ⟨⟨(v_over X).up rfl, ⟨trivial, ⟨⟨trivial, ⟨trivial, trivial⟩⟩, trivial⟩⟩⟩, trivial⟩⟩⟩, trivial⟩⟩, trivial⟩⟩, ⟨trivial, trivial⟩⟩⟩ (by decide) (by show csk C.nb _ _ _ = true; rw [X.nb]; decide +kernel) (r := none) (by decide +kernel)
theorem v_total_of : FnV (C.lv 4) "total_of" Ftotal_of .F := by
  obtain ⟨f, fd, F, hm⟩ := X.f_total_of
  exact FnV.ofD (C := C.lv 3) F hm (F.bindsN fun _ _ _ _ _ _ us hl => match us, hl with | [_], _ => rfl) sc_total_of ⟨⟨trivial, ⟨trivial, trivial⟩⟩, ⟨⟨trivial, ⟨⟨(v_plus X).up rfl, ⟨trivial, ⟨trivial, trivial⟩⟩⟩, trivial⟩⟩, ⟨trivial, trivial⟩⟩⟩ (by decide) (by show csk C.nb _ _ _ = true; rw [X.nb]; decide +kernel) (r := none) (by decide +kernel)
theorem v_spare_of : FnV (C.lv 4) "spare_of" Fspare_of .F := by
  obtain ⟨f, fd, F, hm⟩ := X.f_spare_of
  exact FnV.ofD (C := C.lv 3) F hm (F.bindsN fun _ _ _ _ _ _ us hl => match us, hl with | [_, _], _ => rfl) sc_spare_of ⟨⟨(v_minus X).up rfl, ⟨⟨trivial, ⟨trivial, trivial⟩⟩, ⟨trivial, trivial⟩⟩⟩, trivial⟩ (by decide) (by show csk C.nb _ _ _ = true; rw [X.nb]; decide +kernel) (r := none) (by decide +kernel)
theorem v_weight_of : FnV (C.lv 4) "weight_of" Fweight_of .F := by
  obtain ⟨f, fd, F, hm⟩ := X.f_weight_of
  exact FnV.ofD (C := C.lv 3) F hm (F.bindsN fun _ _ _ _ _ _ us hl => match us, hl with | [_, _, _], _ => rfl) sc_weight_of ⟨⟨trivial, ⟨trivial, trivial⟩⟩, ⟨⟨trivial, ⟨⟨⟨trivial, trivial⟩, ⟨⟨(v_plus X).up rfl, ⟨trivial, ⟨⟨(v_times X).up rfl, ⟨⟨(v_times X).up rfl, ⟨⟨trivial, ⟨trivial, trivial⟩⟩, ⟨trivial, trivial⟩⟩⟩, ⟨⟨trivial, ⟨trivial, trivial⟩⟩, trivial⟩⟩⟩, trivial⟩⟩⟩, trivial⟩, trivial⟩, trivial⟩⟩, ⟨⟨(v_over X).up rfl, ⟨trivial, ⟨⟨trivial, ⟨trivial, trivial⟩⟩, trivial⟩⟩⟩, trivial⟩⟩⟩ (by decide) (by show csk C.nb _ _ _ = true; rw [X.nb]; decide +kernel) (r := none) (by decide +kernel)
theorem v__law_total : FnV (C.lv 4) "_law_total" F_law_total .F := by
  obtain ⟨f, fd, F, hm⟩ := X.f__law_total
  exact FnV.ofD (C := C.lv 3) F hm (F.bindsN fun _ _ _ _ _ _ us hl => match us, hl with | [_], _ => rfl) sc__law_total ⟨⟨trivial, ⟨trivial, trivial⟩⟩, ⟨⟨trivial, ⟨⟨(v__law_plus X).up rfl, ⟨trivial, ⟨trivial, trivial⟩⟩⟩, trivial⟩⟩, ⟨trivial, trivial⟩⟩⟩ (by decide) (by show csk C.nb _ _ _ = true; rw [X.nb]; decide +kernel) (r := none) (by decide +kernel)
theorem v__law_standing_weight : FnV (C.lv 4) "_law_standing_weight" F_law_standing_weight .F := by
  obtain ⟨f, fd, F, hm⟩ := X.f__law_standing_weight
  exact FnV.ofD (C := C.lv 3) F hm (F.bindsN fun _ _ _ _ _ _ us hl => match us, hl with | [_, _], _ => rfl) sc__law_standing_weight ⟨⟨trivial, ⟨trivial, trivial⟩⟩, ⟨⟨⟨trivial, trivial⟩, ⟨⟨(v__law_fraction X).up rfl, ⟨⟨(v__law_power X).up rfl, ⟨⟨⟨trivial, trivial⟩, trivial⟩, ⟨⟨trivial, trivial⟩, trivial⟩⟩⟩, ⟨⟨⟨(v__law_power X).up rfl, ⟨⟨⟨trivial, trivial⟩, trivial⟩, ⟨⟨trivial, trivial⟩, trivial⟩⟩⟩, ⟨(v__law_factorial X).up rfl, ⟨⟨trivial, trivial⟩, trivial⟩⟩⟩, trivial⟩⟩⟩, ⟨⟨(v__law_times X).up rfl, ⟨trivial, ⟨trivial, trivial⟩⟩⟩, trivial⟩⟩⟩, ⟨trivial, trivial⟩⟩⟩ (by decide) (by show csk C.nb _ _ _ = true; rw [X.nb]; decide +kernel) (r := none) (by decide +kernel)
theorem v_lost_share : FnV (C.lv 5) "lost_share" Flost_share .F := by
  obtain ⟨f, fd, F, hm⟩ := X.f_lost_share
  exact FnV.ofD (C := C.lv 4) F hm (F.bindsN fun _ _ _ _ _ _ us hl => match us, hl with | [_, _], _ => rfl) sc_lost_share ⟨⟨trivial, ⟨trivial, trivial⟩⟩, ⟨⟨⟨trivial, ⟨trivial, trivial⟩⟩, ⟨⟨(v_share_with X).up rfl, ⟨trivial, ⟨trivial, ⟨trivial, trivial⟩⟩⟩⟩, trivial⟩⟩, ⟨trivial, trivial⟩⟩⟩ (by decide) (by show csk C.nb _ _ _ = true; rw [X.nb]; decide +kernel) (r := none) (by decide +kernel)
theorem v_shared_out : FnV (C.lv 5) "shared_out" Fshared_out .F := by
  obtain ⟨f, fd, F, hm⟩ := X.f_shared_out
  exact FnV.ofD (C := C.lv 4) F hm (F.bindsN fun _ _ _ _ _ _ us hl => match us, hl with | [_], _ => rfl) sc_shared_out ⟨⟨(v_total_of X).up rfl, ⟨trivial, trivial⟩⟩, ⟨⟨trivial, trivial, ⟨(v_over X).up rfl, ⟨trivial, ⟨trivial, trivial⟩⟩⟩⟩, trivial⟩⟩ (by decide) (by show csk C.nb _ _ _ = true; rw [X.nb]; decide +kernel) (r := none) (by decide +kernel)
theorem v_waiting_weights : FnV (C.lv 5) "waiting_weights" Fwaiting_weights .F := by
  obtain ⟨f, fd, F, hm⟩ := X.f_waiting_weights
  exact FnV.ofD (C := C.lv 4) F hm (F.bindsN fun _ _ _ _ _ _ us hl => match us, hl with | [_, _, _], _ => rfl) sc_waiting_weights ⟨⟨(v_weights_of X).up rfl, ⟨trivial, ⟨trivial, trivial⟩⟩⟩, ⟨⟨(v_over X).up rfl, ⟨trivial, ⟨⟨trivial, ⟨trivial, trivial⟩⟩, trivial⟩⟩⟩, ⟨⟨trivial, ⟨⟨trivial, ⟨⟨(v_times X).up rfl, ⟨⟨trivial, trivial⟩, ⟨trivial, trivial⟩⟩⟩, trivial⟩⟩, trivial⟩⟩, ⟨trivial, trivial⟩⟩⟩⟩ (by decide) (by show csk C.nb _ _ _ = true; rw [X.nb]; decide +kernel) (r := none) (by decide +kernel)
theorem v_whole_weight : FnV (C.lv 5) "whole_weight" Fwhole_weight .F := by
  obtain ⟨f, fd, F, hm⟩ := X.f_whole_weight
  exact FnV.ofD (C := C.lv 4) F hm (F.bindsN fun _ _ _ _ _ _ us hl => match us, hl with | [_, _], _ => rfl) sc_whole_weight ⟨⟨(v_weights_of X).up rfl, ⟨trivial, ⟨trivial, trivial⟩⟩⟩, ⟨⟨(v_times X).up rfl, ⟨⟨trivial, trivial⟩, ⟨⟨(v_over X).up rfl, ⟨⟨trivial, ⟨trivial, trivial⟩⟩, ⟨⟨(v_spare_of X).up rfl, ⟨trivial, ⟨trivial, trivial⟩⟩⟩, trivial⟩⟩⟩, trivial⟩⟩⟩, ⟨⟨(v_plus X).up rfl, ⟨⟨(v_total_of X).up rfl, ⟨⟨trivial, trivial, trivial⟩, trivial⟩⟩, ⟨trivial, trivial⟩⟩⟩, trivial⟩⟩⟩ (by decide) (by show csk C.nb _ _ _ = true; rw [X.nb]; decide +kernel) (r := none) (by decide +kernel)
theorem v_use_weights : FnV (C.lv 5) "use_weights" Fuse_weights .F := by
  obtain ⟨f, fd, F, hm⟩ := X.f_use_weights
  exact FnV.ofD (C := C.lv 4) F hm (F.bindsN fun _ _ _ _ _ _ us hl => match us, hl with | [_, _], _ => rfl) sc_use_weights ⟨⟨⟨trivial, ⟨trivial, trivial⟩⟩, trivial⟩, ⟨⟨⟨trivial, ⟨trivial, trivial⟩⟩, ⟨⟨trivial, ⟨⟨(v_weight_of X).up rfl, ⟨trivial, ⟨trivial, ⟨trivial, trivial⟩⟩⟩⟩, trivial⟩⟩, trivial⟩⟩, ⟨trivial, trivial⟩⟩⟩ (by decide) (by show csk C.nb _ _ _ = true; rw [X.nb]; decide +kernel) (r := none) (by decide +kernel)
theorem v_wait_share : FnV (C.lv 6) "wait_share" Fwait_share .F := by
  obtain ⟨f, fd, F, hm⟩ := X.f_wait_share
  exact FnV.ofD (C := C.lv 5) F hm (F.bindsN fun _ _ _ _ _ _ us hl => match us, hl with | [_, _], _ => rfl) sc_wait_share ⟨⟨(v_lost_share X).up rfl, ⟨trivial, ⟨trivial, trivial⟩⟩⟩, ⟨⟨(v_times X).up rfl, ⟨⟨trivial, ⟨trivial, trivial⟩⟩, ⟨trivial, trivial⟩⟩⟩, ⟨⟨(v_over X).up rfl, ⟨trivial, ⟨⟨(v_minus X).up rfl, ⟨⟨trivial, ⟨trivial, trivial⟩⟩, ⟨⟨(v_times X).up rfl, ⟨trivial, ⟨⟨(v_minus X).up rfl, ⟨⟨trivial, ⟨trivial, trivial⟩⟩, ⟨trivial, trivial⟩⟩⟩, trivial⟩⟩⟩, trivial⟩⟩⟩, trivial⟩⟩⟩, trivial⟩⟩⟩ (by decide) (by show csk C.nb _ _ _ = true; rw [X.nb]; decide +kernel) (r := none) (by decide +kernel)
theorem v_waiting_shares : FnV (C.lv 6) "waiting_shares" Fwaiting_shares .F := by
  obtain ⟨f, fd, F, hm⟩ := X.f_waiting_shares
  exact FnV.ofD (C := C.lv 5) F hm (F.bindsN fun _ _ _ _ _ _ us hl => match us, hl with | [_, _, _], _ => rfl) sc_waiting_shares ⟨⟨(v_whole_weight X).up rfl, ⟨trivial, ⟨trivial, trivial⟩⟩⟩, ⟨⟨⟨(v_waiting_weights X).up rfl, ⟨trivial, ⟨trivial, ⟨trivial, trivial⟩⟩⟩⟩, trivial, ⟨(v_over X).up rfl, ⟨trivial, ⟨trivial, trivial⟩⟩⟩⟩, trivial⟩⟩ (by decide) (by show csk C.nb _ _ _ = true; rw [X.nb]; decide +kernel) (r := none) (by decide +kernel)
theorem v_use_shares : FnV (C.lv 6) "use_shares" Fuse_shares .F := by
  obtain ⟨f, fd, F, hm⟩ := X.f_use_shares
  exact FnV.ofD (C := C.lv 5) F hm (F.bindsN fun _ _ _ _ _ _ us hl => match us, hl with | [_, _], _ => rfl) sc_use_shares ⟨⟨(v_shared_out X).up rfl, ⟨⟨(v_use_weights X).up rfl, ⟨trivial, ⟨trivial, trivial⟩⟩⟩, trivial⟩⟩, trivial⟩ (by decide) (by show csk C.nb _ _ _ = true; rw [X.nb]; decide +kernel) (r := none) (by decide +kernel)
theorem v_overflow : FnV (C.lv 6) "overflow" Foverflow .F := by
  obtain ⟨f, fd, F, hm⟩ := X.f_overflow
  exact FnV.ofD (C := C.lv 5) F hm (F.bindsN fun _ _ _ _ _ _ us hl => match us, hl with | [_, _], _ => rfl) sc_overflow ⟨⟨(v_times X).up rfl, ⟨trivial, ⟨⟨(v_lost_share X).up rfl, ⟨trivial, ⟨trivial, trivial⟩⟩⟩, trivial⟩⟩⟩, ⟨⟨(v_minus X).up rfl, ⟨⟨(v_plus X).up rfl, ⟨⟨⟨trivial, trivial⟩, ⟨trivial, trivial⟩⟩, ⟨trivial, trivial⟩⟩⟩, ⟨trivial, trivial⟩⟩⟩, ⟨⟨trivial, ⟨⟨(v_times X).up rfl, ⟨trivial, ⟨⟨(v_plus X).up rfl, ⟨⟨(v_minus X).up rfl, ⟨⟨trivial, ⟨trivial, trivial⟩⟩, ⟨trivial, trivial⟩⟩⟩, ⟨⟨(v_over X).up rfl, ⟨trivial, ⟨trivial, trivial⟩⟩⟩, trivial⟩⟩⟩, trivial⟩⟩⟩, trivial⟩⟩, trivial⟩⟩⟩ (by decide) (by show csk C.nb _ _ _ = true; rw [X.nb]; decide +kernel) (r := none) (by decide +kernel)
theorem v_lost_behind : FnV (C.lv 6) "lost_behind" Flost_behind .F := by
  obtain ⟨f, fd, F, hm⟩ := X.f_lost_behind
  exact FnV.ofD (C := C.lv 5) F hm (F.bindsN fun _ _ _ _ _ _ us hl => match us, hl with | [_, _, _], _ => rfl) sc_lost_behind ⟨⟨(v_over X).up rfl, ⟨⟨(v_lost_share X).up rfl, ⟨⟨trivial, trivial⟩, ⟨trivial, trivial⟩⟩⟩, ⟨⟨(v_lost_share X).up rfl, ⟨trivial, ⟨trivial, trivial⟩⟩⟩, trivial⟩⟩⟩, trivial⟩ (by decide) (by show csk C.nb _ _ _ = true; rw [X.nb]; decide +kernel) (r := none) (by decide +kernel)
theorem v_mean_waiting : FnV (C.lv 7) "mean_waiting" Fmean_waiting .F := by
  obtain ⟨f, fd, F, hm⟩ := X.f_mean_waiting
  exact FnV.ofD (C := C.lv 6) F hm (F.bindsN fun _ _ _ _ _ _ us hl => match us, hl with | [_, _], _ => rfl) sc_mean_waiting ⟨⟨(v_times X).up rfl, ⟨⟨(v_wait_share X).up rfl, ⟨trivial, ⟨trivial, trivial⟩⟩⟩, ⟨⟨(v_over X).up rfl, ⟨trivial, ⟨⟨(v_spare_of X).up rfl, ⟨trivial, ⟨trivial, trivial⟩⟩⟩, trivial⟩⟩⟩, trivial⟩⟩⟩, trivial⟩ (by decide) (by show csk C.nb _ _ _ = true; rw [X.nb]; decide +kernel) (r := none) (by decide +kernel)
theorem v_wide_lost : FnV (C.lv 7) "wide_lost" Fwide_lost .F := by
  obtain ⟨f, fd, F, hm⟩ := X.f_wide_lost
  exact FnV.ofD (C := C.lv 6) F hm (F.bindsN fun _ _ _ _ _ _ us hl => match us, hl with | [_, _], _ => rfl) sc_wide_lost ⟨⟨(v_use_shares X).up rfl, ⟨trivial, ⟨trivial, trivial⟩⟩⟩, ⟨trivial, ⟨⟨trivial, ⟨⟨trivial, ⟨⟨⟨trivial, trivial⟩, trivial⟩, trivial⟩⟩, ⟨⟨trivial, ⟨⟨(v_total_of X).up rfl, ⟨⟨trivial, trivial, trivial⟩, trivial⟩⟩, trivial⟩⟩, trivial⟩⟩⟩, ⟨trivial, trivial⟩⟩⟩⟩ (by decide) (by show csk C.nb _ _ _ = true; rw [X.nb]; decide +kernel) (r := none) (by decide +kernel)
theorem v__law_right_overflow : FnV (C.lv 7) "_law_right_overflow" F_law_right_overflow .F := by
  obtain ⟨f, fd, F, hm⟩ := X.f__law_right_overflow
  exact FnV.ofD (C := C.lv 6) F hm (F.bindsN fun _ _ _ _ _ _ us hl => match us, hl with | [_, _, _], _ => rfl) sc__law_right_overflow ⟨⟨(v_lost_share X).up rfl, ⟨trivial, ⟨trivial, trivial⟩⟩⟩, ⟨⟨(v__law_times X).up rfl, ⟨trivial, ⟨trivial, trivial⟩⟩⟩, ⟨⟨(v__law_plus X).up rfl, ⟨⟨(v__law_plus X).up rfl, ⟨⟨⟨trivial, trivial⟩, ⟨trivial, trivial⟩⟩, ⟨trivial, trivial⟩⟩⟩, ⟨⟨⟨trivial, trivial⟩, ⟨⟨trivial, trivial⟩, trivial⟩⟩, trivial⟩⟩⟩, ⟨⟨(v__law_times X).up rfl, ⟨trivial, ⟨trivial, trivial⟩⟩⟩, ⟨⟨(v__law_plus X).up rfl, ⟨⟨(v__law_plus X).up rfl, ⟨trivial, ⟨⟨⟨trivial, trivial⟩, ⟨⟨trivial, trivial⟩, trivial⟩⟩, trivial⟩⟩⟩, ⟨⟨(v__law_over X).up rfl, ⟨⟨(v__law_times X).up rfl, ⟨trivial, ⟨trivial, trivial⟩⟩⟩, ⟨trivial, trivial⟩⟩⟩, trivial⟩⟩⟩, ⟨⟨⟨⟨(v_overflow X).up rfl, ⟨trivial, ⟨trivial, trivial⟩⟩⟩, ⟨trivial, ⟨trivial, trivial⟩⟩⟩, ⟨trivial, trivial⟩, trivial⟩, ⟨⟨⟨(v__law_times X).up rfl, ⟨⟨(v_lost_behind X).up rfl, ⟨trivial, ⟨trivial, ⟨trivial, trivial⟩⟩⟩⟩, ⟨trivial, trivial⟩⟩⟩, ⟨(v_lost_share X).up rfl, ⟨⟨trivial, trivial⟩, ⟨trivial, trivial⟩⟩⟩⟩, trivial⟩⟩⟩⟩⟩⟩⟩ (by decide) (by show csk C.nb _ _ _ = true; rw [X.nb]; decide +kernel) (r := none) (by decide +kernel)
theorem v_mean_use : FnV (C.lv 8) "mean_use" Fmean_use .F := by
  obtain ⟨f, fd, F, hm⟩ := X.f_mean_use
  exact FnV.ofD (C := C.lv 7) F hm (F.bindsN fun _ _ _ _ _ _ us hl => match us, hl with | [_, _], _ => rfl) sc_mean_use ⟨⟨(v_wide_lost X).up rfl, ⟨trivial, ⟨trivial, trivial⟩⟩⟩, ⟨⟨trivial, ⟨trivial, trivial⟩⟩, ⟨⟨⟨trivial, trivial⟩, ⟨⟨trivial, trivial⟩, ⟨⟨(v_minus X).up rfl, ⟨⟨trivial, ⟨trivial, trivial⟩⟩, ⟨⟨trivial, trivial⟩, trivial⟩⟩⟩, ⟨⟨(v_plus X).up rfl, ⟨trivial, ⟨⟨(v_times X).up rfl, ⟨⟨(v_times X).up rfl, ⟨⟨trivial, ⟨trivial, trivial⟩⟩, ⟨trivial, trivial⟩⟩⟩, ⟨trivial, trivial⟩⟩⟩, trivial⟩⟩⟩, trivial⟩⟩⟩⟩, ⟨trivial, trivial⟩⟩⟩⟩ (by decide) (by show csk C.nb _ _ _ = true; rw [X.nb]; decide +kernel) (r := none) (by decide +kernel)
theorem v__law_right_waits : FnV (C.lv 8) "_law_right_waits" F_law_right_waits .F := by
  obtain ⟨f, fd, F, hm⟩ := X.f__law_right_waits
  exact FnV.ofD (C := C.lv 7) F hm (F.bindsN fun _ _ _ _ _ _ us hl => match us, hl with | [_, _, _], _ => rfl) sc__law_right_waits ⟨⟨⟨trivial, trivial⟩, trivial, ⟨(v__law_standing_weight X).up rfl, ⟨⟨trivial, trivial⟩, ⟨⟨trivial, trivial⟩, trivial⟩⟩⟩⟩, ⟨⟨(v__law_over X).up rfl, ⟨⟨trivial, ⟨trivial, trivial⟩⟩, ⟨⟨(v__law_plus X).up rfl, ⟨⟨trivial, ⟨trivial, trivial⟩⟩, ⟨⟨⟨trivial, trivial⟩, ⟨⟨trivial, trivial⟩, trivial⟩⟩, trivial⟩⟩⟩, trivial⟩⟩⟩, ⟨⟨(v__law_plus X).up rfl, ⟨⟨(v__law_total X).up rfl, ⟨⟨trivial, trivial, trivial⟩, trivial⟩⟩, ⟨⟨(v__law_times X).up rfl, ⟨⟨trivial, trivial⟩, ⟨trivial, trivial⟩⟩⟩, trivial⟩⟩⟩, ⟨⟨trivial, trivial, ⟨(v__law_over X).up rfl, ⟨trivial, ⟨trivial, trivial⟩⟩⟩⟩, ⟨⟨trivial, ⟨⟨trivial, ⟨⟨(v__law_times X).up rfl, ⟨⟨trivial, ⟨⟨trivial, trivial⟩, trivial⟩⟩, ⟨⟨(v__law_over X).up rfl, ⟨trivial, ⟨⟨trivial, ⟨trivial, trivial⟩⟩, trivial⟩⟩⟩, trivial⟩⟩⟩, trivial⟩⟩, trivial⟩⟩, ⟨⟨(v_waiting_shares X).up rfl, ⟨trivial, ⟨trivial, ⟨trivial, trivial⟩⟩⟩⟩, ⟨⟨⟨trivial, trivial⟩, ⟨trivial, trivial⟩, trivial⟩, ⟨⟨(v__law_over X).up rfl, ⟨⟨(v__law_times X).up rfl, ⟨⟨trivial, trivial⟩, ⟨trivial, trivial⟩⟩⟩, ⟨trivial, trivial⟩⟩⟩, ⟨⟨⟨⟨(v_wait_share X).up rfl, ⟨trivial, ⟨trivial, trivial⟩⟩⟩, trivial⟩, ⟨trivial, trivial⟩, trivial⟩, ⟨⟨(v__law_over X).up rfl, ⟨trivial, ⟨⟨trivial, ⟨trivial, trivial⟩⟩, trivial⟩⟩⟩, ⟨⟨(v__law_plus X).up rfl, ⟨⟨trivial, ⟨trivial, trivial⟩⟩, ⟨⟨⟨trivial, trivial⟩, ⟨⟨trivial, trivial⟩, trivial⟩⟩, trivial⟩⟩⟩, ⟨⟨(v__law_over X).up rfl, ⟨⟨(v__law_times X).up rfl, ⟨⟨(v__law_over X).up rfl, ⟨⟨trivial, trivial⟩, ⟨trivial, trivial⟩⟩⟩, ⟨trivial, trivial⟩⟩⟩, ⟨⟨(v__law_times X).up rfl, ⟨trivial, ⟨trivial, trivial⟩⟩⟩, trivial⟩⟩⟩, ⟨⟨trivial, ⟨⟨trivial, ⟨trivial, trivial⟩⟩, trivial⟩⟩, ⟨⟨⟨⟨(v_mean_waiting X).up rfl, ⟨trivial, ⟨trivial, trivial⟩⟩⟩, trivial⟩, ⟨⟨(v_waiting_shares X).up rfl, ⟨trivial, ⟨trivial, ⟨trivial, trivial⟩⟩⟩⟩, trivial⟩⟩, trivial⟩⟩⟩⟩⟩⟩⟩⟩⟩⟩⟩⟩⟩⟩ (by decide) (by show csk C.nb _ _ _ = true; rw [X.nb]; decide +kernel) (r := none) (by decide +kernel)
theorem v__law_right_use : FnV (C.lv 9) "_law_right_use" F_law_right_use .F := by
  obtain ⟨f, fd, F, hm⟩ := X.f__law_right_use
  exact FnV.ofD (C := C.lv 8) F hm (F.bindsN fun _ _ _ _ _ _ us hl => match us, hl with | [_, _, _], _ => rfl) sc__law_right_use ⟨⟨(v__law_total X).up rfl, ⟨trivial, trivial⟩⟩, ⟨⟨trivial, trivial, ⟨(v__law_over X).up rfl, ⟨trivial, ⟨trivial, trivial⟩⟩⟩⟩, ⟨⟨trivial, trivial⟩, ⟨⟨⟨⟨⟨(v_use_shares X).up rfl, ⟨trivial, ⟨trivial, trivial⟩⟩⟩, trivial⟩, ⟨trivial, trivial⟩⟩, ⟨trivial, trivial⟩, trivial⟩, ⟨⟨trivial, trivial, ⟨(v__law_total X).up rfl, ⟨⟨⟨trivial, trivial⟩, ⟨⟨trivial, trivial⟩, trivial⟩, ⟨trivial, trivial⟩⟩, trivial⟩⟩⟩, ⟨⟨(v__law_total X).up rfl, ⟨⟨⟨trivial, trivial⟩, trivial, ⟨(v__law_times X).up rfl, ⟨⟨trivial, ⟨trivial, trivial⟩⟩, ⟨⟨trivial, trivial⟩, trivial⟩⟩⟩⟩, trivial⟩⟩, ⟨⟨⟨⟨(v_wide_lost X).up rfl, ⟨trivial, ⟨trivial, trivial⟩⟩⟩, trivial⟩, ⟨⟨(v_mean_use X).up rfl, ⟨trivial, ⟨trivial, trivial⟩⟩⟩, trivial⟩⟩, trivial⟩⟩⟩⟩⟩⟩⟩ (by decide) (by show csk C.nb _ _ _ = true; rw [X.nb]; decide +kernel) (r := none) (by decide +kernel)
theorem v__law_right_wide : FnV (C.lv 10) "_law_right_wide" F_law_right_wide .F := by
  obtain ⟨f, fd, F, hm⟩ := X.f__law_right_wide
  exact FnV.ofD (C := C.lv 9) F hm (F.bindsN fun _ _ _ _ _ _ us hl => match us, hl with | [_, _], _ => rfl) sc__law_right_wide ⟨⟨⟨trivial, trivial⟩, trivial, ⟨trivial, ⟨trivial, trivial⟩⟩⟩, ⟨⟨⟨(v__law_standings X).up rfl, ⟨trivial, ⟨trivial, trivial⟩⟩⟩, ⟨⟨⟨⟨trivial, trivial⟩, trivial, ⟨⟨trivial, trivial⟩, ⟨⟨trivial, trivial⟩, trivial⟩⟩⟩, trivial⟩, ⟨⟨trivial, trivial, ⟨(v__law_plus X).up rfl, ⟨⟨trivial, trivial⟩, ⟨⟨(v__law_standing_weight X).up rfl, ⟨trivial, ⟨⟨trivial, trivial, trivial⟩, trivial⟩⟩⟩, trivial⟩⟩⟩⟩, trivial⟩⟩⟩, ⟨⟨(v__law_right_use X).up rfl, ⟨trivial, ⟨trivial, ⟨trivial, trivial⟩⟩⟩⟩, trivial⟩⟩⟩ (by decide) (by show csk C.nb _ _ _ = true; rw [X.nb]; decide +kernel) (r := none) (by decide +kernel)
theorem v__law_right_great : FnV (C.lv 10) "_law_right_great" F_law_right_great .F := by
  obtain ⟨f, fd, F, hm⟩ := X.f__law_right_great
  exact FnV.ofD (C := C.lv 9) F hm (F.bindsN fun _ _ _ _ _ _ us hl => match us, hl with | [_, _], _ => rfl) sc__law_right_great ⟨⟨⟨⟨trivial, ⟨trivial, trivial⟩⟩, trivial⟩, ⟨⟨⟨trivial, ⟨trivial, trivial⟩⟩, trivial⟩, trivial⟩⟩, ⟨⟨trivial, ⟨trivial, ⟨⟨⟨trivial, trivial⟩, ⟨⟨trivial, ⟨⟨(v__law_total X).up rfl, ⟨⟨⟨⟨trivial, trivial⟩, trivial⟩, trivial, ⟨(v__law_times X).up rfl, ⟨⟨trivial, ⟨trivial, ⟨trivial, trivial⟩⟩⟩, ⟨⟨(v__law_standing_weight X).up rfl, ⟨⟨trivial, trivial⟩, ⟨⟨trivial, trivial⟩, trivial⟩⟩⟩, trivial⟩⟩⟩⟩, trivial⟩⟩, trivial⟩⟩, trivial⟩⟩, ⟨trivial, trivial⟩⟩⟩⟩, ⟨⟨(v__law_right_use X).up rfl, ⟨trivial, ⟨trivial, ⟨trivial, trivial⟩⟩⟩⟩, trivial⟩⟩⟩ (by decide) (by show csk C.nb _ _ _ = true; rw [X.nb]; decide +kernel) (r := none) (by decide +kernel)
theorem os_law : okS (C.lv 10) Tlaw := ⟨⟨(v__law_draws X).up rfl, ⟨trivial, ⟨trivial, trivial⟩⟩⟩, ⟨⟨trivial, ⟨⟨trivial, trivial⟩, trivial⟩⟩, ⟨⟨⟨⟨⟨trivial, trivial⟩, trivial⟩, trivial⟩, ⟨⟨trivial, ⟨⟨trivial, trivial⟩, trivial⟩⟩, trivial⟩, trivial⟩, ⟨⟨trivial, ⟨⟨trivial, trivial⟩, trivial⟩⟩, ⟨⟨(v__law_fraction X).up rfl, ⟨⟨trivial, ⟨⟨trivial, trivial⟩, ⟨trivial, trivial⟩⟩⟩, ⟨trivial, trivial⟩⟩⟩, ⟨⟨⟨⟨trivial, trivial⟩, ⟨trivial, ⟨trivial, trivial⟩⟩⟩, ⟨⟨(v__law_fraction X).up rfl, ⟨⟨⟨⟨trivial, trivial⟩, trivial⟩, trivial⟩, ⟨⟨trivial, trivial⟩, trivial⟩⟩⟩, trivial⟩, trivial⟩, ⟨⟨⟨(v__law_right_waits X).up rfl, ⟨trivial, ⟨trivial, ⟨⟨⟨trivial, trivial⟩, trivial⟩, trivial⟩⟩⟩⟩, ⟨trivial, trivial⟩, trivial⟩, ⟨⟨⟨trivial, trivial⟩, trivial⟩, ⟨trivial, ⟨⟨⟨⟨trivial, trivial⟩, trivial⟩, ⟨⟨trivial, ⟨⟨⟨trivial, ⟨⟨trivial, ⟨trivial, trivial⟩⟩, trivial⟩⟩, ⟨⟨(v__law_fraction X).up rfl, ⟨⟨trivial, ⟨⟨trivial, ⟨trivial, trivial⟩⟩, trivial⟩⟩, ⟨⟨trivial, ⟨⟨trivial, ⟨trivial, trivial⟩⟩, trivial⟩⟩, trivial⟩⟩⟩, trivial⟩⟩, trivial⟩⟩, trivial⟩⟩, ⟨⟨⟨⟨(v__law_right_wide X).up rfl, ⟨trivial, ⟨trivial, trivial⟩⟩⟩, ⟨(v__law_right_wide X).up rfl, ⟨trivial, ⟨⟨⟨trivial, ⟨trivial, trivial⟩⟩, trivial⟩, trivial⟩⟩⟩⟩, ⟨trivial, trivial⟩, trivial⟩, ⟨⟨⟨⟨⟨(v_use_shares X).up rfl, ⟨trivial, ⟨trivial, trivial⟩⟩⟩, ⟨⟨⟨trivial, ⟨trivial, trivial⟩⟩, trivial⟩, ⟨⟨⟨trivial, ⟨trivial, trivial⟩⟩, trivial⟩, trivial⟩⟩⟩, ⟨⟨(v_wide_lost X).up rfl, ⟨trivial, ⟨⟨⟨trivial, ⟨⟨trivial, ⟨trivial, trivial⟩⟩, trivial⟩⟩, trivial⟩, trivial⟩⟩⟩, ⟨⟨trivial, ⟨trivial, trivial⟩⟩, trivial⟩⟩⟩, ⟨trivial, trivial⟩, trivial⟩, ⟨⟨⟨⟨⟨trivial, trivial⟩, trivial⟩, trivial⟩, ⟨⟨⟨trivial, ⟨⟨trivial, trivial⟩, trivial⟩⟩, trivial, ⟨⟨trivial, ⟨⟨trivial, ⟨trivial, trivial⟩⟩, trivial⟩⟩, ⟨⟨(v__law_fraction X).up rfl, ⟨⟨trivial, ⟨⟨trivial, ⟨trivial, trivial⟩⟩, trivial⟩⟩, ⟨⟨trivial, ⟨⟨trivial, ⟨trivial, trivial⟩⟩, trivial⟩⟩, trivial⟩⟩⟩, trivial⟩⟩⟩, ⟨⟨⟨(v__law_right_great X).up rfl, ⟨⟨trivial, ⟨⟨trivial, trivial⟩, trivial⟩⟩, ⟨trivial, trivial⟩⟩⟩, ⟨trivial, trivial⟩, trivial⟩, trivial⟩⟩, trivial⟩, ⟨⟨⟨⟨⟨trivial, trivial⟩, trivial⟩, trivial⟩, ⟨⟨⟨⟨(v__law_right_waits X).up rfl, ⟨⟨trivial, ⟨⟨trivial, trivial⟩, trivial⟩⟩, ⟨trivial, ⟨⟨trivial, ⟨⟨trivial, trivial⟩, trivial⟩⟩, trivial⟩⟩⟩⟩, ⟨(v__law_right_overflow X).up rfl, ⟨⟨trivial, ⟨⟨trivial, trivial⟩, trivial⟩⟩, ⟨⟨⟨trivial, trivial⟩, trivial⟩, ⟨trivial, trivial⟩⟩⟩⟩⟩, ⟨trivial, trivial⟩, trivial⟩, trivial⟩, trivial⟩, ⟨⟨(v__law_right_overflow X).up rfl, ⟨⟨⟨trivial, trivial⟩, trivial⟩, ⟨⟨⟨trivial, trivial⟩, trivial⟩, ⟨⟨(v__law_fraction X).up rfl, ⟨⟨trivial, ⟨⟨trivial, trivial⟩, trivial⟩⟩, ⟨⟨trivial, ⟨⟨trivial, trivial⟩, trivial⟩⟩, trivial⟩⟩⟩, trivial⟩⟩⟩⟩, trivial⟩⟩⟩⟩⟩⟩⟩⟩⟩⟩⟩⟩⟩⟩⟩
end
/-! ### the head -/
def d_common_divisor : He.DefD := ⟨("common_divisor", none), "common_divisor", "common_divisor", defArgs (topS 1), defBody (topS 1), defScope (topS 1), [], []⟩
def d__law_draws : He.DefD := ⟨("_law_draws", none), "_law_draws", "_law_draws", defArgs (topS 29), defBody (topS 29), defScope (topS 29), [], []⟩
def d__law_gcd : He.DefD := ⟨("_law_gcd", none), "_law_gcd", "_law_gcd", defArgs (topS 30), defBody (topS 30), defScope (topS 30), [], []⟩
def d__law_power : He.DefD := ⟨("_law_power", none), "_law_power", "_law_power", defArgs (topS 32), defBody (topS 32), defScope (topS 32), [], []⟩
def d__law_factorial : He.DefD := ⟨("_law_factorial", none), "_law_factorial", "_law_factorial", defArgs (topS 33), defBody (topS 33), defScope (topS 33), [], []⟩
def d__law_standings : He.DefD := ⟨("_law_standings", none), "_law_standings", "_law_standings", defArgs (topS 40), defBody (topS 40), defScope (topS 40), [], []⟩
def d_fraction : He.DefD := ⟨("fraction", none), "fraction", "fraction", defArgs (topS 2), defBody (topS 2), defScope (topS 2), [], []⟩
def d__law_fraction : He.DefD := ⟨("_law_fraction", none), "_law_fraction", "_law_fraction", defArgs (topS 31), defBody (topS 31), defScope (topS 31), [], []⟩
def d_plus : He.DefD := ⟨("plus", none), "plus", "plus", defArgs (topS 3), defBody (topS 3), defScope (topS 3), [], []⟩
def d_minus : He.DefD := ⟨("minus", none), "minus", "minus", defArgs (topS 4), defBody (topS 4), defScope (topS 4), [], []⟩
def d_times : He.DefD := ⟨("times", none), "times", "times", defArgs (topS 5), defBody (topS 5), defScope (topS 5), [], []⟩
def d_over : He.DefD := ⟨("over", none), "over", "over", defArgs (topS 6), defBody (topS 6), defScope (topS 6), [], []⟩
def d__law_plus : He.DefD := ⟨("_law_plus", none), "_law_plus", "_law_plus", defArgs (topS 34), defBody (topS 34), defScope (topS 34), [], []⟩
def d__law_times : He.DefD := ⟨("_law_times", none), "_law_times", "_law_times", defArgs (topS 35), defBody (topS 35), defScope (topS 35), [], []⟩
def d__law_over : He.DefD := ⟨("_law_over", none), "_law_over", "_law_over", defArgs (topS 36), defBody (topS 36), defScope (topS 36), [], []⟩
def d_share_with : He.DefD := ⟨("share_with", none), "share_with", "share_with", defArgs (topS 8), defBody (topS 8), defScope (topS 8), [], []⟩
def d_weights_of : He.DefD := ⟨("weights_of", none), "weights_of", "weights_of", defArgs (topS 10), defBody (topS 10), defScope (topS 10), [], []⟩
def d_total_of : He.DefD := ⟨("total_of", none), "total_of", "total_of", defArgs (topS 11), defBody (topS 11), defScope (topS 11), [], []⟩
def d_spare_of : He.DefD := ⟨("spare_of", none), "spare_of", "spare_of", defArgs (topS 14), defBody (topS 14), defScope (topS 14), [], []⟩
def d_weight_of : He.DefD := ⟨("weight_of", none), "weight_of", "weight_of", defArgs (topS 21), defBody (topS 21), defScope (topS 21), [], []⟩
def d__law_total : He.DefD := ⟨("_law_total", none), "_law_total", "_law_total", defArgs (topS 37), defBody (topS 37), defScope (topS 37), [], []⟩
def d__law_standing_weight : He.DefD := ⟨("_law_standing_weight", none), "_law_standing_weight", "_law_standing_weight", defArgs (topS 38), defBody (topS 38), defScope (topS 38), [], []⟩
def d_lost_share : He.DefD := ⟨("lost_share", none), "lost_share", "lost_share", defArgs (topS 9), defBody (topS 9), defScope (topS 9), [], []⟩
def d_shared_out : He.DefD := ⟨("shared_out", none), "shared_out", "shared_out", defArgs (topS 12), defBody (topS 12), defScope (topS 12), [], []⟩
def d_waiting_weights : He.DefD := ⟨("waiting_weights", none), "waiting_weights", "waiting_weights", defArgs (topS 17), defBody (topS 17), defScope (topS 17), [], []⟩
def d_whole_weight : He.DefD := ⟨("whole_weight", none), "whole_weight", "whole_weight", defArgs (topS 18), defBody (topS 18), defScope (topS 18), [], []⟩
def d_use_weights : He.DefD := ⟨("use_weights", none), "use_weights", "use_weights", defArgs (topS 22), defBody (topS 22), defScope (topS 22), [], []⟩
def d_wait_share : He.DefD := ⟨("wait_share", none), "wait_share", "wait_share", defArgs (topS 15), defBody (topS 15), defScope (topS 15), [], []⟩
def d_waiting_shares : He.DefD := ⟨("waiting_shares", none), "waiting_shares", "waiting_shares", defArgs (topS 19), defBody (topS 19), defScope (topS 19), [], []⟩
def d_use_shares : He.DefD := ⟨("use_shares", none), "use_shares", "use_shares", defArgs (topS 23), defBody (topS 23), defScope (topS 23), [], []⟩
def d_overflow : He.DefD := ⟨("overflow", none), "overflow", "overflow", defArgs (topS 26), defBody (topS 26), defScope (topS 26), [], []⟩
def d_lost_behind : He.DefD := ⟨("lost_behind", none), "lost_behind", "lost_behind", defArgs (topS 27), defBody (topS 27), defScope (topS 27), [], []⟩
def d_mean_waiting : He.DefD := ⟨("mean_waiting", none), "mean_waiting", "mean_waiting", defArgs (topS 16), defBody (topS 16), defScope (topS 16), [], []⟩
def d_wide_lost : He.DefD := ⟨("wide_lost", none), "wide_lost", "wide_lost", defArgs (topS 24), defBody (topS 24), defScope (topS 24), [], []⟩
def d__law_right_overflow : He.DefD := ⟨("_law_right_overflow", none), "_law_right_overflow", "_law_right_overflow", defArgs (topS 44), defBody (topS 44), defScope (topS 44), [], []⟩
def d_mean_use : He.DefD := ⟨("mean_use", none), "mean_use", "mean_use", defArgs (topS 25), defBody (topS 25), defScope (topS 25), [], []⟩
def d__law_right_waits : He.DefD := ⟨("_law_right_waits", none), "_law_right_waits", "_law_right_waits", defArgs (topS 39), defBody (topS 39), defScope (topS 39), [], []⟩
def d__law_right_use : He.DefD := ⟨("_law_right_use", none), "_law_right_use", "_law_right_use", defArgs (topS 43), defBody (topS 43), defScope (topS 43), [], []⟩
def d__law_right_wide : He.DefD := ⟨("_law_right_wide", none), "_law_right_wide", "_law_right_wide", defArgs (topS 41), defBody (topS 41), defScope (topS 41), [], []⟩
def d__law_right_great : He.DefD := ⟨("_law_right_great", none), "_law_right_great", "_law_right_great", defArgs (topS 42), defBody (topS 42), defScope (topS 42), [], []⟩
def d_law : He.DefD := ⟨("law", none), "law", "law", defArgs (topS 45), defBody (topS 45), defScope (topS 45), [], []⟩
def hfn : List He.DefD := [d_common_divisor, d__law_draws, d__law_gcd, d__law_power, d__law_factorial, d__law_standings, d_fraction, d__law_fraction, d_plus, d_minus, d_times, d_over, d__law_plus, d__law_times, d__law_over, d_share_with, d_weights_of, d_total_of, d_spare_of, d_weight_of, d__law_total, d__law_standing_weight, d_lost_share, d_shared_out, d_waiting_weights, d_whole_weight, d_use_weights, d_wait_share, d_waiting_shares, d_use_shares, d_overflow, d_lost_behind, d_mean_waiting, d_wide_lost, d__law_right_overflow, d_mean_use, d__law_right_waits, d__law_right_use, d__law_right_wide, d__law_right_great, d_law]
def hfa : List He.Fa := [.glo "common_divisor", .glo "_law_draws", .glo "_law_gcd", .glo "_law_power", .glo "_law_factorial", .glo "_law_standings", .glo "fraction", .glo "_law_fraction", .glo "plus", .glo "minus", .glo "times", .glo "over", .glo "_law_plus", .glo "_law_times", .glo "_law_over", .glo "share_with", .glo "weights_of", .glo "total_of", .glo "spare_of", .glo "weight_of", .glo "_law_total", .glo "_law_standing_weight", .glo "lost_share", .glo "shared_out", .glo "waiting_weights", .glo "whole_weight", .glo "use_weights", .glo "wait_share", .glo "waiting_shares", .glo "use_shares", .glo "overflow", .glo "lost_behind", .glo "mean_waiting", .glo "wide_lost", .glo "_law_right_overflow", .glo "mean_use", .glo "_law_right_waits", .glo "_law_right_use", .glo "_law_right_wide", .glo "_law_right_great", .glo "law", .free "abs", .free "int", .free "len", .free "list", .free "max", .free "range", .free "sum"]
abbrev HR : PySem.W.OpenRow := PySem.W.OpenLaw.row PySem.Challenge.rw_switchways_k79_waiting_and_wide_calls
abbrev hk : PySem.W.Hook := He.hookD 4 hfa hfn
def hob (s : PySem.W.SharedT) : He.AlD := He.obsDG 4 hfa hfn (HandSHeadRun.getT s)
theorem hob_eq (s : PySem.W.SharedT) : hob s = hk.obs s.abs := He.obsDG_eq (HandSHeadRun.getT_eq s)
def hnames : List PySem.Str := (["common_divisor", "fraction", "plus", "minus", "times", "over", "share_with", "lost_share", "weights_of", "total_of", "shared_out", "spare_of", "wait_share", "mean_waiting", "waiting_weights", "whole_weight", "waiting_shares", "weight_of", "use_weights", "use_shares"] : List PySem.Str) ++ (["wide_lost", "mean_use", "overflow", "lost_behind", "_law_draws", "_law_gcd", "_law_fraction", "_law_power", "_law_factorial", "_law_plus", "_law_times", "_law_over", "_law_total", "_law_standing_weight", "_law_right_waits", "_law_standings", "_law_right_wide", "_law_right_great", "_law_right_use", "_law_right_overflow"] : List PySem.Str)
theorem hrun (w : World) : HandSHeadRun.RunEq HR (PySem.W.view HR.prog [45]) hk hob 4000 hnames w := by
  intro os
  kernel_rfl
theorem fx {C : Ctx} {h : Heap} (hnb : C.nb = (["abs", "int", "len", "list", "max", "range", "sum"] : List Str)) (X : C.K.In h) (G : h.Ns mainGlobals C.mg) (c : He.SaysD hfa hfn C.K) : Fx C where
  nb := hnb
  f_common_divisor := by
    obtain ⟨fd, F⟩ := c.def_ 0 (d := d_common_divisor) rfl
    exact ⟨_, fd, F, He.glo_ok X G (c.fact 0 (f := .glo "common_divisor") rfl)⟩
  f__law_draws := by
    obtain ⟨fd, F⟩ := c.def_ 1 (d := d__law_draws) rfl
    exact ⟨_, fd, F, He.glo_ok X G (c.fact 1 (f := .glo "_law_draws") rfl)⟩
  f__law_gcd := by
    obtain ⟨fd, F⟩ := c.def_ 2 (d := d__law_gcd) rfl
    exact ⟨_, fd, F, He.glo_ok X G (c.fact 2 (f := .glo "_law_gcd") rfl)⟩
  f__law_power := by
    obtain ⟨fd, F⟩ := c.def_ 3 (d := d__law_power) rfl
    exact ⟨_, fd, F, He.glo_ok X G (c.fact 3 (f := .glo "_law_power") rfl)⟩
  f__law_factorial := by
    obtain ⟨fd, F⟩ := c.def_ 4 (d := d__law_factorial) rfl
    exact ⟨_, fd, F, He.glo_ok X G (c.fact 4 (f := .glo "_law_factorial") rfl)⟩
  f__law_standings := by
    obtain ⟨fd, F⟩ := c.def_ 5 (d := d__law_standings) rfl
    exact ⟨_, fd, F, He.glo_ok X G (c.fact 5 (f := .glo "_law_standings") rfl)⟩
  f_fraction := by
    obtain ⟨fd, F⟩ := c.def_ 6 (d := d_fraction) rfl
    exact ⟨_, fd, F, He.glo_ok X G (c.fact 6 (f := .glo "fraction") rfl)⟩
  f__law_fraction := by
    obtain ⟨fd, F⟩ := c.def_ 7 (d := d__law_fraction) rfl
    exact ⟨_, fd, F, He.glo_ok X G (c.fact 7 (f := .glo "_law_fraction") rfl)⟩
  f_plus := by
    obtain ⟨fd, F⟩ := c.def_ 8 (d := d_plus) rfl
    exact ⟨_, fd, F, He.glo_ok X G (c.fact 8 (f := .glo "plus") rfl)⟩
  f_minus := by
    obtain ⟨fd, F⟩ := c.def_ 9 (d := d_minus) rfl
    exact ⟨_, fd, F, He.glo_ok X G (c.fact 9 (f := .glo "minus") rfl)⟩
  f_times := by
    obtain ⟨fd, F⟩ := c.def_ 10 (d := d_times) rfl
    exact ⟨_, fd, F, He.glo_ok X G (c.fact 10 (f := .glo "times") rfl)⟩
  f_over := by
    obtain ⟨fd, F⟩ := c.def_ 11 (d := d_over) rfl
    exact ⟨_, fd, F, He.glo_ok X G (c.fact 11 (f := .glo "over") rfl)⟩
  f__law_plus := by
    obtain ⟨fd, F⟩ := c.def_ 12 (d := d__law_plus) rfl
    exact ⟨_, fd, F, He.glo_ok X G (c.fact 12 (f := .glo "_law_plus") rfl)⟩
  f__law_times := by
    obtain ⟨fd, F⟩ := c.def_ 13 (d := d__law_times) rfl
    exact ⟨_, fd, F, He.glo_ok X G (c.fact 13 (f := .glo "_law_times") rfl)⟩
  f__law_over := by
    obtain ⟨fd, F⟩ := c.def_ 14 (d := d__law_over) rfl
    exact ⟨_, fd, F, He.glo_ok X G (c.fact 14 (f := .glo "_law_over") rfl)⟩
  f_share_with := by
    obtain ⟨fd, F⟩ := c.def_ 15 (d := d_share_with) rfl
    exact ⟨_, fd, F, He.glo_ok X G (c.fact 15 (f := .glo "share_with") rfl)⟩
  f_weights_of := by
    obtain ⟨fd, F⟩ := c.def_ 16 (d := d_weights_of) rfl
    exact ⟨_, fd, F, He.glo_ok X G (c.fact 16 (f := .glo "weights_of") rfl)⟩
  f_total_of := by
    obtain ⟨fd, F⟩ := c.def_ 17 (d := d_total_of) rfl
    exact ⟨_, fd, F, He.glo_ok X G (c.fact 17 (f := .glo "total_of") rfl)⟩
  f_spare_of := by
    obtain ⟨fd, F⟩ := c.def_ 18 (d := d_spare_of) rfl
    exact ⟨_, fd, F, He.glo_ok X G (c.fact 18 (f := .glo "spare_of") rfl)⟩
  f_weight_of := by
    obtain ⟨fd, F⟩ := c.def_ 19 (d := d_weight_of) rfl
    exact ⟨_, fd, F, He.glo_ok X G (c.fact 19 (f := .glo "weight_of") rfl)⟩
  f__law_total := by
    obtain ⟨fd, F⟩ := c.def_ 20 (d := d__law_total) rfl
    exact ⟨_, fd, F, He.glo_ok X G (c.fact 20 (f := .glo "_law_total") rfl)⟩
  f__law_standing_weight := by
    obtain ⟨fd, F⟩ := c.def_ 21 (d := d__law_standing_weight) rfl
    exact ⟨_, fd, F, He.glo_ok X G (c.fact 21 (f := .glo "_law_standing_weight") rfl)⟩
  f_lost_share := by
    obtain ⟨fd, F⟩ := c.def_ 22 (d := d_lost_share) rfl
    exact ⟨_, fd, F, He.glo_ok X G (c.fact 22 (f := .glo "lost_share") rfl)⟩
  f_shared_out := by
    obtain ⟨fd, F⟩ := c.def_ 23 (d := d_shared_out) rfl
    exact ⟨_, fd, F, He.glo_ok X G (c.fact 23 (f := .glo "shared_out") rfl)⟩
  f_waiting_weights := by
    obtain ⟨fd, F⟩ := c.def_ 24 (d := d_waiting_weights) rfl
    exact ⟨_, fd, F, He.glo_ok X G (c.fact 24 (f := .glo "waiting_weights") rfl)⟩
  f_whole_weight := by
    obtain ⟨fd, F⟩ := c.def_ 25 (d := d_whole_weight) rfl
    exact ⟨_, fd, F, He.glo_ok X G (c.fact 25 (f := .glo "whole_weight") rfl)⟩
  f_use_weights := by
    obtain ⟨fd, F⟩ := c.def_ 26 (d := d_use_weights) rfl
    exact ⟨_, fd, F, He.glo_ok X G (c.fact 26 (f := .glo "use_weights") rfl)⟩
  f_wait_share := by
    obtain ⟨fd, F⟩ := c.def_ 27 (d := d_wait_share) rfl
    exact ⟨_, fd, F, He.glo_ok X G (c.fact 27 (f := .glo "wait_share") rfl)⟩
  f_waiting_shares := by
    obtain ⟨fd, F⟩ := c.def_ 28 (d := d_waiting_shares) rfl
    exact ⟨_, fd, F, He.glo_ok X G (c.fact 28 (f := .glo "waiting_shares") rfl)⟩
  f_use_shares := by
    obtain ⟨fd, F⟩ := c.def_ 29 (d := d_use_shares) rfl
    exact ⟨_, fd, F, He.glo_ok X G (c.fact 29 (f := .glo "use_shares") rfl)⟩
  f_overflow := by
    obtain ⟨fd, F⟩ := c.def_ 30 (d := d_overflow) rfl
    exact ⟨_, fd, F, He.glo_ok X G (c.fact 30 (f := .glo "overflow") rfl)⟩
  f_lost_behind := by
    obtain ⟨fd, F⟩ := c.def_ 31 (d := d_lost_behind) rfl
    exact ⟨_, fd, F, He.glo_ok X G (c.fact 31 (f := .glo "lost_behind") rfl)⟩
  f_mean_waiting := by
    obtain ⟨fd, F⟩ := c.def_ 32 (d := d_mean_waiting) rfl
    exact ⟨_, fd, F, He.glo_ok X G (c.fact 32 (f := .glo "mean_waiting") rfl)⟩
  f_wide_lost := by
    obtain ⟨fd, F⟩ := c.def_ 33 (d := d_wide_lost) rfl
    exact ⟨_, fd, F, He.glo_ok X G (c.fact 33 (f := .glo "wide_lost") rfl)⟩
  f__law_right_overflow := by
    obtain ⟨fd, F⟩ := c.def_ 34 (d := d__law_right_overflow) rfl
    exact ⟨_, fd, F, He.glo_ok X G (c.fact 34 (f := .glo "_law_right_overflow") rfl)⟩
  f_mean_use := by
    obtain ⟨fd, F⟩ := c.def_ 35 (d := d_mean_use) rfl
    exact ⟨_, fd, F, He.glo_ok X G (c.fact 35 (f := .glo "mean_use") rfl)⟩
  f__law_right_waits := by
    obtain ⟨fd, F⟩ := c.def_ 36 (d := d__law_right_waits) rfl
    exact ⟨_, fd, F, He.glo_ok X G (c.fact 36 (f := .glo "_law_right_waits") rfl)⟩
  f__law_right_use := by
    obtain ⟨fd, F⟩ := c.def_ 37 (d := d__law_right_use) rfl
    exact ⟨_, fd, F, He.glo_ok X G (c.fact 37 (f := .glo "_law_right_use") rfl)⟩
  f__law_right_wide := by
    obtain ⟨fd, F⟩ := c.def_ 38 (d := d__law_right_wide) rfl
    exact ⟨_, fd, F, He.glo_ok X G (c.fact 38 (f := .glo "_law_right_wide") rfl)⟩
  f__law_right_great := by
    obtain ⟨fd, F⟩ := c.def_ 39 (d := d__law_right_great) rfl
    exact ⟨_, fd, F, He.glo_ok X G (c.fact 39 (f := .glo "_law_right_great") rfl)⟩
  f_law := by
    obtain ⟨fd, F⟩ := c.def_ 40 (d := d_law) rfl
    exact ⟨_, fd, F, He.glo_ok X G (c.fact 40 (f := .glo "law") rfl)⟩
def nbs : List Str := ["abs", "int", "len", "list", "max", "range", "sum"]
theorem facts {P : Program} {w : World} {K : PySem.W.Frag} {h : Heap} {mg : Str → Option Value} {f : Addr} (X : K.In h) (G : h.Ns mainGlobals mg) (hfa1 : mg ("law" : Str) = some (.ref f)) (c : He.SaysD hfa hfn K)
    (hlaw : ∀ ns : List Int, ns.length ≤ 63 → Flaw [.list (ns.map fun i => PyData.int i)] = .ok (.bool true)) :
    ∃ fd : FuncData, (∀ (s : Shared) (v : Value), BindsTo s fd ⟨[v], []⟩ [("script", v)]) ∧ ∀ base : Heap, K.In base → base.Ns mainGlobals mg → FnOk P w K mg base CX0 11 f fd ["script"] (spLaw K) := by
  obtain ⟨fd, F⟩ := c.def_ 40 (d := d_law) rfl
  have e := hfa1.symm.trans (He.glo_ok X G (c.fact 40 (f := .glo "law") rfl))
  cases e
  have b := FunD.bindsA (ps := ["script"]) F fun _ _ _ _ _ _ us hl => match us, hl with | [_], _ => rfl
  refine ⟨fd, fun s v => b s [v] rfl, fun base _ _ => ?_⟩
  have hn : ∀ x ∈ nbs, mg x = none := fun x hx => by
      simp only [nbs, List.mem_cons, List.not_mem_nil, or_false] at hx
      rcases hx with rfl | rfl | rfl | rfl | rfl | rfl | rfl
      · exact He.free_ok X G (c.fact 41 (f := .free "abs") rfl)
      · exact He.free_ok X G (c.fact 42 (f := .free "int") rfl)
      · exact He.free_ok X G (c.fact 43 (f := .free "len") rfl)
      · exact He.free_ok X G (c.fact 44 (f := .free "list") rfl)
      · exact He.free_ok X G (c.fact 45 (f := .free "max") rfl)
      · exact He.free_ok X G (c.fact 46 (f := .free "range") rfl)
      · exact He.free_ok X G (c.fact 47 (f := .free "sum") rfl)
  have X0 : Fx (⟨P, w, K, mg, base, 0, nbs, hn⟩ : Ctx) := fx rfl X G c
  exact law_ok (C := (⟨P, w, K, mg, base, 0, nbs, hn⟩ : Ctx).lv 10) F sc_law (os_law X0) (by decide) (by show csk nbs _ _ _ = true; decide +kernel) (t := .F) (r := none) (by decide +kernel) hlaw
end VS
open PySem PySem.W PySem.Calls PyProof.Rows
set_option maxHeartbeats 0 in
theorem PySem.Challenge.head_switchways_k79_waiting_and_wide_calls (hlaw : ∀ ns : List Int, ns.length ≤ 63 → VS.Flaw [.list (ns.map fun i => PyData.int i)] = .ok (.bool true)) : PySem.Challenge.rw_switchways_k79_waiting_and_wide_calls.Holds := by
  w_on; o_law
  refine HandSHeadRun.head_any (r := OpenLaw.row PySem.Challenge.rw_switchways_k79_waiting_and_wide_calls) (q := view (OpenLaw.row PySem.Challenge.rw_switchways_k79_waiting_and_wide_calls).prog [45]) (H := VS.hk) (ob := VS.hob) (M := 4000) (loose := VS.hnames) (d := HandSHeadRun.topDef (OpenLaw.row PySem.Challenge.rw_switchways_k79_waiting_and_wide_calls).prog 45) (kwd := []) VS.hob_eq
    (by kernel_rfl) (fun s => by kernel_rfl) VS.hrun (by kernel_rfl) (by kernel_rfl) (by kernel_rfl) (by rfl) (by first | assumption | decide +kernel) (by decide +kernel) ⟨rfl, rfl, rfl, rfl, rfl, by decide +kernel⟩ ?hw ?hc
  case hw => w_witness2
  case hc =>
    refine L2.walk_ofE (l := PySem.Challenge.rw_switchways_k79_waiting_and_wide_calls) (n := 63) (k := 11) (x := "script") (CX := L2.CX0) rfl (by decide) (by kernel_rfl) ⟨rfl, by decide, by decide⟩ ?F (fun _ _ _ _ z => z)
    intro w mg fa h Y G hmg0
    obtain ⟨K, KX, c⟩ := Y
    have hmg : mg ("law" : PySem.Str) = some (.ref fa) := by
      have e : (HandSHeadRun.topDef (OpenLaw.row PySem.Challenge.rw_switchways_k79_waiting_and_wide_calls).prog 45).name = ("law" : PySem.Str) := by kernel_rfl
      rw [← e]
      exact hmg0
    obtain ⟨fd, hb, hF⟩ := VS.facts (P := (PySem.Challenge.rw_switchways_k79_waiting_and_wide_calls).prog) (w := w) KX G hmg c hlaw
    exact ⟨K, fd, VS.spLaw K, KX, hb, fun H a ns hl _ hS => ⟨a, ns, rfl, hS, hl, fun _ => rfl⟩, hF⟩
set_option Elab.async false
set_option linter.all false
set_option maxRecDepth 100000
namespace VS
open PySem PySem.Spec L2
open PyProof.Rows hiding St
theorem gcd_step (a b : Nat) (hb : 0 < b) : Nat.gcd b (a % b) = Nat.gcd a b := by
  rw [Nat.gcd_comm b, ← Nat.gcd_rec, Nat.gcd_comm]
theorem whL_gcd {c : Sl → R Bool} {f : Sl → Out} (hc : ∀ a b : Int, c [some (.int a), some (.int b)] = .ok (decide (0 < b))) (hf : ∀ a b : Int, 0 < b → f [some (.int a), some (.int b)] = .nx [some (.int b), some (.int (a % b))]) :
    ∀ (n b : Nat) (a : Nat), b < n → whL c f n [some (.int a), some (.int b)] = .nx [some (.int (Nat.gcd a b)), some (.int 0)] := by
  intro n
  induction n with
  | zero => intro b a h; omega
  | succ n ih =>
    intro b a h
    show lft _ (c _) _ = _
    rw [hc]
    by_cases h0 : b = 0
    · subst h0
      simp
    · have hb : (0 : Int) < (b : Int) := by omega
      simp only [hb, decide_true, q_lok]
      rw [hf _ _ hb]
      show whL c f n _ = _
      have e : ((a : Int) % (b : Int)) = ((a % b : Nat) : Int) := by simp
      rw [e, ih (a % b) b (Nat.lt_of_lt_of_le (Nat.mod_lt _ (by omega)) (by omega)), gcd_step a b (by omega)]
theorem f_cd (a b : Nat) : Fcommon_divisor [.int a, .int b] = .ok (.int (Nat.gcd a b)) := by
  refine F_rt rfl rfl ?_
  show sev Tcommon_divisor [some (.int a), some (.int b)] = _
  unfold Tcommon_divisor
  simp only [q_sseq, q_swhi]
  rw [show fuI 1 [some (PyData.int (a : Int)), some (PyData.int (b : Int))] = b + 1 from by simp [fuI]]
  rw [whL_gcd (by intro a b; simp) (by intro a b h; simp [q_mod h]) (b + 1) b a (by omega)]
  simp
theorem F_cd_i (a b : Int) (ha : 0 ≤ a) (hb : 0 ≤ b) : Fcommon_divisor [.int a, .int b] = .ok (.int (Int.gcd a b)) := by
  have := f_cd a.natAbs b.natAbs
  rwa [Int.natAbs_of_nonneg ha, Int.natAbs_of_nonneg hb] at this
theorem f_lgcd (a b : Int) : F_law_gcd [.int a, .int b] = .ok (.int (Int.gcd a b)) := by
  refine F_rt rfl rfl ?_
  show sev T_law_gcd [some (.int a), some (.int b)] = _
  unfold T_law_gcd
  have e : ∀ x : Int, (if x < 0 then -x else x) = (x.natAbs : Int) := by intro x; split <;> omega
  simp [e]
  rw [show fuI 1 [some (PyData.int (a.natAbs : Int)), some (PyData.int (b.natAbs : Int))] = b.natAbs + 1 from by simp [fuI]]
  rw [whL_gcd (by intro a b; simp) (by intro a b h; simp [q_mod h]) (b.natAbs + 1) b.natAbs a.natAbs (by omega)]
  simp
  rfl
def fD (q : Rat) : D := .tuple [.int q.num, .int (q.den : Int)]
theorem log2_le {a b : Nat} (h : a ≤ b) (hb : b.log2 < 9000) : a.log2 < 9000 := by
  by_cases h0 : a = 0
  · subst h0; decide
  · exact Nat.lt_of_le_of_lt (by
      rw [Nat.le_log2 (by omega)]
      exact Nat.le_trans (Nat.log2_self_le h0) h) hb
theorem f_fraction {p s : Int} (h0 : s ≠ 0) (h1 : 0 < s ∧ s.natAbs.log2 < 9000 ∨ s < 0 ∧ s.natAbs < 1000000000) : Ffraction [.int p, .int s] = .ok (fD (Rat.divInt p s)) := by
  refine F_rt rfl rfl ?_
  show sev Tfraction [some (.int p), some (.int s), none] = _
  unfold Tfraction
  have e : ∀ x : Int, (if x < 0 then -x else x) = (x.natAbs : Int) := by intro x; split <;> omega
  have hg : 0 < Nat.gcd p.natAbs s.natAbs := Nat.gcd_pos_of_pos_right _ (by omega)
  have hgs : Nat.gcd p.natAbs s.natAbs ≤ s.natAbs := Nat.gcd_le_right _ (by omega)
  have egc : Int.gcd s p = Nat.gcd p.natAbs s.natAbs := by rw [Int.gcd_comm]; rfl
  have fin : ∀ x y : Int, x = (Rat.divInt p s).num → y = ((Rat.divInt p s).den : Int) → (PyData.tuple [.int x, .int y]) = fD (Rat.divInt p s) := fun x y h1 h2 => by rw [h1, h2]; rfl
  have hden : ((Rat.divInt p s).den : Int) = (s.natAbs : Int) / (Nat.gcd p.natAbs s.natAbs : Int) := by
    rw [Rat.den_divInt, if_neg h0, egc]; rfl
  have hnum : (Rat.divInt p s).num = s.sign * p / (Nat.gcd p.natAbs s.natAbs : Int) := by rw [Rat.num_divInt, egc]
  simp [e, f_cd]
  rcases h1 with ⟨hs, hl⟩ | ⟨hs, hl⟩
  · have hn : ¬ s < 0 := by omega
    have hg2 : (0 : Int) < (Nat.gcd p.natAbs s.natAbs : Int) := by omega
    have hl2 : (Nat.gcd p.natAbs s.natAbs : Int).natAbs.log2 < 9000 := log2_le hgs hl
    simp [hn, q_div hg2 hl2]
    refine fin _ _ ?_ ?_
    · rw [hnum, Int.sign_eq_one_of_pos hs, Int.one_mul]
    · rw [hden, Int.natAbs_of_nonneg (by omega)]
  · have hdiv : ∀ x : Int, aOp .FloorDiv x (-(Nat.gcd p.natAbs s.natAbs : Int)) = .ok (.int (x.fdiv (-(Nat.gcd p.natAbs s.natAbs : Int)))) := fun x => by
      show (if _ then _ else _) = _
      rw [if_neg (by omega), if_pos ⟨by omega, by omega⟩]
    simp [hs, hdiv]
    have hd1 : (Nat.gcd p.natAbs s.natAbs : Int) ∣ p := Int.ofNat_dvd_left.mpr (Nat.gcd_dvd_left _ _)
    have hd2 : (Nat.gcd p.natAbs s.natAbs : Int) ∣ s := Int.ofNat_dvd_left.mpr (Nat.gcd_dvd_right _ _)
    have key : ∀ x : Int, (Nat.gcd p.natAbs s.natAbs : Int) ∣ x → x.fdiv (-(Nat.gcd p.natAbs s.natAbs : Int)) = (-x) / (Nat.gcd p.natAbs s.natAbs : Int) := fun x ⟨k, hk⟩ => by
      have hg0 : (Nat.gcd p.natAbs s.natAbs : Int) ≠ 0 := by omega
      rw [hk]
      clear hk
      revert hg0
      generalize (Nat.gcd p.natAbs s.natAbs : Int) = g
      intro hg0
      rw [show g * k = (-g) * (-k) by rw [Int.neg_mul_neg], Int.mul_fdiv_cancel_left _ (by omega), show -(-g * -k) = g * (-k) by rw [Int.neg_mul, Int.neg_neg], Int.mul_ediv_cancel_left _ hg0]
    rw [key _ hd1, key _ hd2]
    refine fin _ _ ?_ ?_
    · rw [hnum, Int.sign_eq_neg_one_of_neg hs, Int.neg_one_mul]
    · rw [hden]; congr 1; omega
theorem f_lfraction {p s : Int} (h0 : s ≠ 0) (h1 : s.natAbs.log2 < 9000) : F_law_fraction [.int p, .int s] = .ok (fD (Rat.divInt p s)) := by
  refine F_rt rfl rfl ?_
  show sev T_law_fraction [some (.int p), some (.int s), none] = _
  unfold T_law_fraction
  have main : ∀ p s : Int, 0 < s → s.natAbs.log2 < 9000 → .ok (PyData.tuple [.int (p / (Int.gcd p s : Int)), .int (s / (Int.gcd p s : Int))]) = R.ok (fD (Rat.divInt p s)) ∧ 0 < (Int.gcd p s : Int) ∧ ((Int.gcd p s : Int)).natAbs.log2 < 9000 := fun p s hs hl => by
    have hg : 0 < Int.gcd p s := Int.gcd_pos_of_ne_zero_right _ (by omega)
    refine ⟨?_, by omega, ?_⟩
    · unfold fD
      rw [Rat.num_divInt, Rat.den_divInt, if_neg (by omega), Int.sign_eq_one_of_pos hs, Int.one_mul, Int.gcd_comm s p]
      rw [show ((s.natAbs / Int.gcd p s : Nat) : Int) = (s.natAbs : Int) / (Int.gcd p s : Int) from rfl, Int.natAbs_of_nonneg (by omega)]
    · refine log2_le (b := s.natAbs) ?_ hl
      exact Nat.gcd_le_right _ (by omega)
  simp [f_lgcd]
  by_cases hs : s < 0
  · obtain ⟨h1, h2, h3⟩ := main (-p) (-s) (by omega) (by rw [Int.natAbs_neg]; exact h1)
    have h1 := R.ok.inj h1
    rw [Rat.neg_divInt_neg] at h1
    simp only [Int.neg_gcd, Int.gcd_neg] at h1 h2 h3
    simp only [hs, decide_true]
    simp [f_lgcd, q_div h2 h3]
    exact h1
  · obtain ⟨h1, h2, h3⟩ := main p s (by omega) h1
    simp only [hs, decide_false]
    simp [f_lgcd, q_div h2 h3]
    exact R.ok.inj h1
/-! ### numbers that are not too long -/
def bigB : Nat := 2 ^ 4000
def Sm (q : Rat) : Prop := q.num.natAbs < bigB ∧ q.den < bigB
theorem log2_lt' {a k : Nat} (h : a < 2 ^ k) (hk : 0 < k) : a.log2 < k := by
  by_cases h0 : a = 0
  · subst h0; exact hk
  · exact (Nat.log2_lt h0).mpr h
theorem big_mul {a b : Nat} (ha : a < bigB) (hb : b < bigB) : a * b < 2 ^ 8000 := by
  have : a * b < 2 ^ 4000 * 2 ^ 4000 := Nat.mul_lt_mul'' ha hb
  rwa [← Nat.pow_add] at this
theorem big_log {a b : Nat} (ha : a < bigB) (hb : b < bigB) : (a * b).log2 < 9000 := Nat.lt_trans (log2_lt' (big_mul ha hb) (by decide)) (by decide)
theorem big_ok {i j : Int} (ha : i.natAbs < bigB) (hb : j.natAbs < bigB) : mulOk i j := by
  right; right
  have h1 := log2_lt' (k := 4000) ha (by decide)
  have h2 := log2_lt' (k := 4000) hb (by decide)
  omega
@[simp] theorem q_x0 (a b : D) : ixD (.tuple [a, b]) (.int 0) = .ok a := (rfl)
@[simp] theorem q_x1 (a b : D) : ixD (.tuple [a, b]) (.int 1) = .ok b := (rfl)
@[simp] theorem q_f0 (q : Rat) : ixD (fD q) (.int 0) = .ok (.int q.num) := (rfl)
@[simp] theorem q_f1 (q : Rat) : ixD (fD q) (.int 1) = .ok (.int (q.den : Int)) := (rfl)
@[simp] theorem q_fi (q : Rat) : imm (fD q) = true := (rfl)
theorem f_times {a b : Rat} (ha : Sm a) (hb : Sm b) : Ftimes [fD a, fD b] = .ok (fD (a * b)) := by
  refine F_rt rfl rfl ?_
  show sev Ttimes [some (fD a), some (fD b)] = _
  unfold Ttimes
  have m1 : mulOk a.num b.num := big_ok ha.1 hb.1
  have m2 : mulOk (a.den : Int) (b.den : Int) := big_ok (by simpa using ha.2) (by simpa using hb.2)
  have hd : (0 : Int) < (a.den : Int) * (b.den : Int) := Int.mul_pos (by have := a.den_pos; omega) (by have := b.den_pos; omega)
  simp only [q_sseq, q_sret, q_call, q_cons, q_ari, q_ix, q_sl, q_s0, q_s1, q_ki, q_ok, q_f0, q_f1, q_ii, q_mul m1, q_mul m2, q_nil]
  rw [f_fraction (by omega) (.inl ⟨hd, by
    rw [Int.natAbs_mul]
    exact big_log (by simpa using ha.2) (by simpa using hb.2)⟩)]
  rw [Rat.mul_def', ← Rat.divInt_ofNat, Int.natCast_mul]
  rfl
theorem den_i (q : Rat) : (0 : Int) < (q.den : Int) := by have := q.den_pos; omega
theorem f_plus {a b : Rat} (ha : Sm a) (hb : Sm b) : Fplus [fD a, fD b] = .ok (fD (a + b)) := by
  refine F_rt rfl rfl ?_
  show sev Tplus [some (fD a), some (fD b)] = _
  unfold Tplus
  have m1 : mulOk a.num (b.den : Int) := big_ok ha.1 (by simpa using hb.2)
  have m3 : mulOk b.num (a.den : Int) := big_ok hb.1 (by simpa using ha.2)
  have m2 : mulOk (a.den : Int) (b.den : Int) := big_ok (by simpa using ha.2) (by simpa using hb.2)
  have hd : (0 : Int) < (a.den : Int) * (b.den : Int) := Int.mul_pos (den_i a) (den_i b)
  simp only [q_sseq, q_sret, q_call, q_cons, q_ari, q_ix, q_sl, q_s0, q_s1, q_ki, q_ok, q_f0, q_f1, q_ii, q_mul m1, q_mul m2, q_mul m3, q_nil, q_add]
  rw [f_fraction (by omega) (.inl ⟨hd, by
    rw [Int.natAbs_mul]
    exact big_log (by simpa using ha.2) (by simpa using hb.2)⟩)]
  rw [Rat.add_def', ← Rat.divInt_ofNat, Int.natCast_mul]
  rfl
theorem f_minus {a b : Rat} (ha : Sm a) (hb : Sm b) : Fminus [fD a, fD b] = .ok (fD (a - b)) := by
  refine F_rt rfl rfl ?_
  show sev Tminus [some (fD a), some (fD b)] = _
  unfold Tminus
  have m1 : mulOk a.num (b.den : Int) := big_ok ha.1 (by simpa using hb.2)
  have m3 : mulOk b.num (a.den : Int) := big_ok hb.1 (by simpa using ha.2)
  have m2 : mulOk (a.den : Int) (b.den : Int) := big_ok (by simpa using ha.2) (by simpa using hb.2)
  have hd : (0 : Int) < (a.den : Int) * (b.den : Int) := Int.mul_pos (den_i a) (den_i b)
  simp only [q_sseq, q_sret, q_call, q_cons, q_ari, q_ix, q_sl, q_s0, q_s1, q_ki, q_ok, q_f0, q_f1, q_ii, q_mul m1, q_mul m2, q_mul m3, q_nil, q_sub]
  rw [f_fraction (by omega) (.inl ⟨hd, by
    rw [Int.natAbs_mul]
    exact big_log (by simpa using ha.2) (by simpa using hb.2)⟩)]
  rw [Rat.sub_def', ← Rat.divInt_ofNat, Int.natCast_mul]
  rfl
theorem f_over {a b : Rat} (ha : Sm a) (hb : Sm b) (h0 : 0 < b) : Fover [fD a, fD b] = .ok (fD (a / b)) := by
  refine F_rt rfl rfl ?_
  show sev Tover [some (fD a), some (fD b)] = _
  unfold Tover
  have m1 : mulOk a.num (b.den : Int) := big_ok ha.1 (by simpa using hb.2)
  have m2 : mulOk (a.den : Int) b.num := big_ok (by simpa using ha.2) hb.1
  have hn : 0 < b.num := by
    have h1 : 0 ≤ b.num := Rat.num_nonneg.mpr (Rat.le_of_lt h0)
    have h2 : b.num ≠ 0 := fun e => Rat.ne_of_gt h0 (Rat.num_eq_zero.mp e)
    omega
  have hd : (0 : Int) < (a.den : Int) * b.num := Int.mul_pos (den_i a) hn
  simp only [q_sseq, q_sret, q_call, q_cons, q_ari, q_ix, q_sl, q_s0, q_s1, q_ki, q_ok, q_f0, q_f1, q_ii, q_mul m1, q_mul m2, q_nil]
  rw [f_fraction (by omega) (.inl ⟨hd, by
    rw [Int.natAbs_mul]
    exact big_log (by simpa using ha.2) hb.1⟩)]
  have e : Rat.divInt (a.num * (b.den : Int)) ((a.den : Int) * b.num) = a / b := by
    rw [← Rat.divInt_mul_divInt, Rat.num_divInt_den, ← Rat.inv_def, Rat.div_def]
  rw [e]
  rfl
theorem Sm.of {m d : Int} {q : Rat} (e : q = Rat.divInt m d) (hm : m.natAbs < bigB) (hd : d.natAbs < bigB) (h0 : d ≠ 0) : Sm q := by
  subst e
  constructor
  · rw [Rat.num_divInt]
    refine Nat.lt_of_le_of_lt (Int.natAbs_ediv_le_natAbs _ _) ?_
    rw [Int.natAbs_mul, Int.natAbs_sign_of_ne_zero h0, Nat.one_mul]
    exact hm
  · rw [Rat.den_divInt, if_neg h0]
    exact Nat.lt_of_le_of_lt (Nat.div_le_self _ _) hd
/-! ### the law's helpers -/
theorem pow_le_big {b : Int} {n k : Nat} (hk : k ≤ n) (hb : b ≠ 0) (h : b.natAbs ^ n < bigB) : (b ^ k).natAbs < bigB := by
  rw [Int.natAbs_pow]
  exact Nat.lt_of_le_of_lt (Nat.pow_le_pow_right (by omega) hk) h
theorem f_power {b : Int} {n : Nat} (hn : n ≤ 1000) (hb : b ≠ 0) (h : b.natAbs ^ n < bigB) (hb1 : b.natAbs < bigB) : F_law_power [.int b, .int (n : Int)] = .ok (.int (b ^ n)) := by
  refine F_rt rfl rfl ?_
  show sev T_law_power [some (.int b), some (.int (n : Int)), none, none] = _
  unfold T_law_power
  refine sq (δ1 := [some (.int b), some (.int (n : Int)), some (.int 1), none]) rfl ?_
  refine sq_rng (n : Int) rfl (by omega) (by omega) (fun k δ => ∃ x, δ = [some (.int b), some (.int (n : Int)), some (.int (b ^ k)), x]) ⟨none, by rw [Int.pow_zero]⟩ (fun k δ hk hI => ?_) (fun δ' hI => ?_)
  · obtain ⟨x, rfl⟩ := hI
    have m1 : mulOk (b ^ k) b := big_ok (pow_le_big (by omega) hb h) hb1
    refine ⟨_, sq (by simp [q_mul m1]; rfl) rfl, some (.int (k : Int)), ?_⟩
    rw [Int.pow_succ]
  · obtain ⟨x, rfl⟩ := hI
    simp
def fac : Nat → Nat
  | 0 => 1
  | n + 1 => fac n * (n + 1)
theorem fac_pos : ∀ n, 0 < fac n
  | 0 => by decide
  | n + 1 => Nat.mul_pos (fac_pos n) (by omega)
theorem fac_mono : ∀ {m n : Nat}, m ≤ n → fac m ≤ fac n
  | m, 0, h => by rw [Nat.le_zero.mp h]; exact Nat.le_refl _
  | m, n + 1, h => by
    by_cases e : m = n + 1
    · subst e; exact Nat.le_refl _
    · exact Nat.le_trans (fac_mono (by omega)) (Nat.le_mul_of_pos_right _ (by omega))
theorem fac_big {n : Nat} (h : n ≤ 60) : fac n < 2 ^ 300 := Nat.lt_of_le_of_lt (fac_mono h) (by decide +kernel)
theorem two_big {k a : Nat} (hk : k ≤ 4000) (h : a < 2 ^ k) : a < bigB := Nat.lt_of_lt_of_le h (Nat.pow_le_pow_right (by decide) hk)
theorem f_factorial {n : Nat} (hn : n ≤ 60) : F_law_factorial [.int (n : Int)] = .ok (.int (fac n : Int)) := by
  refine F_rt rfl rfl ?_
  show sev T_law_factorial [some (.int (n : Int)), none, none] = _
  unfold T_law_factorial
  refine sq (δ1 := [some (.int (n : Int)), some (.int 1), none]) rfl ?_
  refine sq_rng2 2 ((n : Int) + 1) rfl rfl (by omega) (by omega) (by omega) (by omega) (fun k δ => ∃ x, δ = [some (.int (n : Int)), some (.int (fac (k + 1) : Int)), x]) ⟨_, rfl⟩ (fun k δ hk hI => ?_) (fun δ' hI => ?_)
  · obtain ⟨x, rfl⟩ := hI
    have m1 : mulOk (fac (k + 1) : Int) (2 + (k : Int)) := big_ok (two_big (k := 300) (by decide) (by simpa using fac_big (by omega))) (two_big (k := 300) (by decide) (Nat.lt_of_lt_of_le (show (2 + (k : Int)).natAbs < 2 ^ 10 by omega) (by decide)))
    refine ⟨_, sq (by simp [q_mul m1]; rfl) rfl, some (.int (2 + (k : Int))), ?_⟩
    have e : (fac (k + 1 + 1) : Int) = (fac (k + 1) : Int) * (2 + (k : Int)) := by
      rw [show fac (k + 1 + 1) = fac (k + 1) * (k + 1 + 1) from rfl, Int.natCast_mul]
      congr 1
      omega
    rw [e]
  · obtain ⟨x, rfl⟩ := hI
    simp
    match n with
    | 0 => rfl
    | 1 => rfl
    | n + 2 =>
      have : ((n + 2 : Nat) + 1 - 2 : Int).toNat + 1 = n + 2 := by omega
      rw [show ((n + 2 : Nat) : Int) + 1 - 2 = ((n + 2 : Nat) + 1 - 2 : Int) from rfl, this]
end VS
set_option Elab.async false
set_option linter.all false
set_option maxRecDepth 100000
namespace VS
/-! ### the numbers of the law -/
/-- the law's weight -/
def wN (p s n k : Nat) : Nat := p ^ k * s ^ (n - k) * (fac n / fac k)
def wS (p s n j : Nat) : Nat := ((List.range j).map (wN p s n)).sum
/-- the program's term, its sums -/
def tR (q : Rat) : Nat → Rat
  | 0 => 1
  | k + 1 => tR q k * (q / ((k + 1 : Nat) : Rat))
def sR (q : Rat) : Nat → Rat
  | 0 => 0
  | k + 1 => sR q k + tR q k
def bR (q : Rat) : Nat → Rat
  | 0 => 1
  | k + 1 => (q * bR q k) / (((k + 1 : Nat) : Rat) + q * bR q k)
theorem fac_dvd : ∀ {k n : Nat}, k ≤ n → fac k ∣ fac n
  | k, 0, h => by rw [Nat.le_zero.mp h]; exact Nat.dvd_refl _
  | k, n + 1, h => by
    by_cases e : k = n + 1
    · subst e; exact Nat.dvd_refl _
    · exact Nat.dvd_trans (fac_dvd (by omega)) (Nat.dvd_mul_right _ _)
theorem wS_succ (p s n j : Nat) : wS p s n (j + 1) = wS p s n j + wN p s n j := by
  unfold wS
  rw [List.range_succ, List.map_append, List.sum_append]
  simp
theorem p10 {p k n : Nat} (hp : p ≤ 1000) (h : k ≤ n) (hn : n ≤ 60) : p ^ k ≤ 2 ^ 600 := by
  calc p ^ k ≤ 1024 ^ k := Nat.pow_le_pow_left (by omega) _
    _ ≤ 1024 ^ 60 := Nat.pow_le_pow_right (by decide) (by omega)
    _ = 2 ^ 600 := by rw [show 1024 = 2 ^ 10 by decide, ← Nat.pow_mul]
theorem wN_le {p s n k : Nat} (hp : p ≤ 1000) (hs : s ≤ 1000) (hk : k ≤ n) (hn : n ≤ 60) : wN p s n k ≤ 2 ^ 1500 := by
  unfold wN
  have h1 := p10 hp hk hn
  have h2 : s ^ (n - k) ≤ 2 ^ 600 := p10 hs (by omega) hn
  have h3 : fac n / fac k ≤ 2 ^ 300 := Nat.le_of_lt (Nat.lt_of_le_of_lt (Nat.div_le_self _ _) (fac_big hn))
  calc _ ≤ 2 ^ 600 * 2 ^ 600 * 2 ^ 300 := Nat.mul_le_mul (Nat.mul_le_mul h1 h2) h3
    _ = 2 ^ 1500 := by rw [← Nat.pow_add, ← Nat.pow_add]
theorem wS_le {p s n : Nat} (hp : p ≤ 1000) (hs : s ≤ 1000) (hn : n ≤ 60) : ∀ j, j ≤ n + 1 → wS p s n j ≤ j * 2 ^ 1500
  | 0, _ => by simp [wS]
  | j + 1, h => by
    rw [wS_succ]
    have := wS_le hp hs hn j (by omega)
    have := wN_le hp hs (show j ≤ n by omega) hn
    rw [Nat.add_mul]
    omega
theorem wS_big {p s n j : Nat} (hp : p ≤ 1000) (hs : s ≤ 1000) (hn : n ≤ 60) (hj : j ≤ n + 1) : wS p s n j ≤ 2 ^ 1506 := by
  refine Nat.le_trans (wS_le hp hs hn j hj) ?_
  rw [show 2 ^ 1506 = 2 ^ 6 * 2 ^ 1500 by rw [← Nat.pow_add]]
  exact Nat.mul_le_mul (by omega) (Nat.le_refl _)
theorem cast_pos {a : Nat} (h : 0 < a) : (0 : Rat) < (a : Rat) := Rat.natCast_pos.mpr h
theorem cast_ne {a : Nat} (h : 0 < a) : (a : Rat) ≠ 0 := Rat.ne_of_gt (cast_pos h)
theorem cast_mul (a b : Nat) : ((a * b : Nat) : Rat) = (a : Rat) * (b : Rat) := Rat.natCast_mul a b
theorem cast_add (a b : Nat) : ((a + b : Nat) : Rat) = (a : Rat) + (b : Rat) := Rat.natCast_add a b
theorem cast_pow (a b : Nat) : ((a ^ b : Nat) : Rat) = (a : Rat) ^ b := by
  induction b with
  | zero => rfl
  | succ b ih => rw [Nat.pow_succ, cast_mul, ih, Rat.pow_succ]
/-- the term, as one fraction -/
theorem tR_eq {p s : Nat} (hs : 0 < s) {q : Rat} (hq : q = (p : Rat) / (s : Rat)) : ∀ k, tR q k = ((p ^ k : Nat) : Rat) / ((s ^ k * fac k : Nat) : Rat)
  | 0 => by
    show (1 : Rat) = ((1 : Nat) : Rat) / ((1 * 1 : Nat) : Rat)
    decide +kernel
  | k + 1 => by
    show tR q k * (q / ((k + 1 : Nat) : Rat)) = _
    rw [tR_eq hs hq k, hq, show fac (k + 1) = fac k * (k + 1) from rfl]
    have h1 := cast_ne hs
    have h2 := cast_ne (fac_pos k)
    have h3 := cast_ne (show 0 < k + 1 by omega)
    have h4 := cast_ne (Nat.pow_pos (n := k) hs)
    simp only [cast_mul, Nat.pow_succ] at *
    grind
/-- over the common denominator -/
theorem tR_w {p s n : Nat} (hs : 0 < s) {q : Rat} (hq : q = (p : Rat) / (s : Rat)) {k : Nat} (hk : k ≤ n) : tR q k = (wN p s n k : Rat) / ((s ^ n * fac n : Nat) : Rat) := by
  rw [tR_eq hs hq k]
  unfold wN
  obtain ⟨m, hm⟩ := fac_dvd hk
  have e1 : fac n / fac k = m := by rw [hm, Nat.mul_div_cancel_left _ (fac_pos k)]
  have e2 : s ^ n = s ^ k * s ^ (n - k) := by rw [← Nat.pow_add]; congr 1; omega
  have hm0 : 0 < m := by
    rcases Nat.eq_zero_or_pos m with z | z
    · rw [z] at hm; have := fac_pos n; omega
    · exact z
  rw [e1, hm, e2]
  have h2 := cast_ne (fac_pos k)
  have h3 := cast_ne hm0
  have h4 := cast_ne (Nat.pow_pos (n := k) hs)
  have h5 := cast_ne (Nat.pow_pos (n := n - k) hs)
  simp only [cast_mul] at *
  grind
theorem sR_w {p s n : Nat} (hs : 0 < s) {q : Rat} (hq : q = (p : Rat) / (s : Rat)) : ∀ j, j ≤ n + 1 → sR q j = (wS p s n j : Rat) / ((s ^ n * fac n : Nat) : Rat)
  | 0, _ => by
    show (0 : Rat) = _
    rw [show wS p s n 0 = 0 from rfl, Rat.div_def]
    exact (Rat.zero_mul _).symm
  | j + 1, h => by
    show sR q j + tR q j = _
    rw [sR_w (n := n) hs hq j (by omega), tR_w (n := n) hs hq (show j ≤ n by omega), wS_succ, cast_add, Rat.div_def, Rat.div_def, Rat.div_def, Rat.add_mul]
theorem wN_pos {p s n k : Nat} (hp : 0 < p) (hs : 0 < s) (hk : k ≤ n) : 0 < wN p s n k := Nat.mul_pos (Nat.mul_pos (Nat.pow_pos hp) (Nat.pow_pos hs)) (Nat.div_pos (fac_mono hk) (fac_pos k))
theorem wS_pos {p s n : Nat} (hp : 0 < p) (hs : 0 < s) {j : Nat} (h : j < n + 1) : 0 < wS p s n (j + 1) := by
  rw [wS_succ]
  have := wN_pos (k := j) (n := n) hp hs (by omega)
  omega
theorem tR_pos {q : Rat} (hq : 0 < q) : ∀ k, 0 < tR q k
  | 0 => by show (0 : Rat) < 1; decide
  | k + 1 => Rat.mul_pos (tR_pos hq k) (by rw [Rat.div_def]; exact Rat.mul_pos hq (Rat.inv_pos.mpr (cast_pos (by omega))))
theorem sR_pos {q : Rat} (hq : 0 < q) : ∀ k, 0 < sR q (k + 1)
  | 0 => by show (0 : Rat) < 0 + 1; decide +kernel
  | k + 1 => by
    show 0 < sR q (k + 1) + tR q (k + 1)
    have h1 := sR_pos hq k
    have h2 := tR_pos hq (k + 1)
    grind
theorem bR_pos {q : Rat} (hq : 0 < q) : ∀ k, 0 < bR q k
  | 0 => by show (0 : Rat) < 1; decide
  | k + 1 => by
    have h1 := Rat.mul_pos hq (bR_pos hq k)
    have h2 := cast_pos (show 0 < k + 1 by omega)
    show 0 < (q * bR q k) / (((k + 1 : Nat) : Rat) + q * bR q k)
    rw [Rat.div_def]
    refine Rat.mul_pos h1 (Rat.inv_pos.mpr ?_)
    grind
/-- the recursion gives the last share -/
theorem bR_eq {q : Rat} (hq : 0 < q) : ∀ k, bR q k = tR q k / sR q (k + 1)
  | 0 => by show (1 : Rat) = 1 / (0 + 1); decide +kernel
  | k + 1 => by
    have h1 := sR_pos hq k
    have h2 := tR_pos hq k
    have h3 := cast_pos (show 0 < k + 1 by omega)
    have h4 := sR_pos hq (k + 1)
    have h5 := tR_pos hq (k + 1)
    show (q * bR q k) / (((k + 1 : Nat) : Rat) + q * bR q k) = tR q (k + 1) / (sR q (k + 1) + tR q (k + 1))
    rw [bR_eq hq k]
    have e : tR q (k + 1) = tR q k * (q / ((k + 1 : Nat) : Rat)) := rfl
    have h6 : 0 < sR q (k + 1) + tR q (k + 1) := h4
    have h7 := Rat.mul_pos hq h2
    have h8 : 0 < ((k + 1 : Nat) : Rat) + q * (tR q k / sR q (k + 1)) := by
      have : 0 < q * (tR q k / sR q (k + 1)) := Rat.mul_pos hq (by rw [Rat.div_def]; exact Rat.mul_pos h2 (Rat.inv_pos.mpr h1))
      grind
    have n1 := Rat.ne_of_gt h1
    have n3 := Rat.ne_of_gt h3
    have n6 := Rat.ne_of_gt h6
    have n8 := Rat.ne_of_gt h8
    rw [e] at n6 ⊢
    generalize ((k + 1 : Nat) : Rat) = c at *
    generalize sR q (k + 1) = S at *
    generalize tR q k = t at *
    grind
theorem bR_carried {q : Rat} (hq : 0 < q) : ∀ k : Nat, q - q * bR q k ≤ (k : Rat)
  | 0 => by
    show q - q * 1 ≤ (0 : Rat)
    grind
  | k + 1 => by
    have ih := bR_carried hq k
    have h1 := Rat.mul_pos hq (bR_pos hq k)
    have h3 := cast_pos (show 0 < k + 1 by omega)
    have e : ((k + 1 : Nat) : Rat) = (k : Rat) + 1 := cast_add k 1
    show q - q * ((q * bR q k) / (((k + 1 : Nat) : Rat) + q * bR q k)) ≤ _
    generalize hB : q * bR q k = B at *
    have h4 : 0 < ((k + 1 : Nat) : Rat) + B := by grind
    have n4 := Rat.ne_of_gt h4
    have e2 : q - q * (B / (((k + 1 : Nat) : Rat) + B)) = q * ((k + 1 : Nat) : Rat) / (((k + 1 : Nat) : Rat) + B) := by grind
    rw [e2]
    have h5 : q ≤ ((k + 1 : Nat) : Rat) + B := by grind
    have h6 : q * ((k + 1 : Nat) : Rat) ≤ (((k + 1 : Nat) : Rat) + B) * ((k + 1 : Nat) : Rat) := Rat.mul_le_mul_of_nonneg_right h5 (Rat.le_of_lt h3)
    refine Rat.le_of_mul_le_mul_right (c := ((k + 1 : Nat) : Rat) + B) ?_ h4
    rw [Rat.div_mul_cancel n4]
    grind
theorem bR_down {q : Rat} (hq : 0 < q) (k : Nat) : bR q (k + 1) < bR q k := by
  have h0 := bR_pos hq k
  have h1 := Rat.mul_pos hq h0
  have h2 := bR_carried hq k
  have h3 := cast_pos (show 0 < k + 1 by omega)
  have e : ((k + 1 : Nat) : Rat) = (k : Rat) + 1 := cast_add k 1
  show (q * bR q k) / (((k + 1 : Nat) : Rat) + q * bR q k) < bR q k
  have h4 : 0 < ((k + 1 : Nat) : Rat) + q * bR q k := by grind
  rw [Rat.div_lt_iff h4]
  have h5 : q < ((k + 1 : Nat) : Rat) + q * bR q k := by grind
  have := Rat.mul_lt_mul_of_pos_left h5 h0
  grind
theorem bR_lt {q : Rat} (hq : 0 < q) {i j : Nat} (h : i < j) : bR q j < bR q i := by
  induction j with
  | zero => omega
  | succ j ih =>
    by_cases e : i = j
    · subst e; exact bR_down hq i
    · have := ih (by omega)
      have := bR_down hq j
      grind
theorem bR_le1 {q : Rat} (hq : 0 < q) (j : Nat) : bR q j ≤ 1 := by
  cases j with
  | zero => exact Rat.le_refl
  | succ j => exact Rat.le_of_lt (bR_lt hq (show 0 < j + 1 by omega))
end VS
set_option Elab.async false
set_option linter.all false
set_option maxRecDepth 100000
namespace VS
open PySem PySem.Spec L2
open PyProof.Rows hiding St
theorem Sm.nat {a b : Nat} {q : Rat} (e : q = (a : Rat) / (b : Rat)) (h0 : 0 < b) (ha : a < bigB) (hb : b < bigB) : Sm q := by
  refine Sm.of (m := (a : Int)) (d := (b : Int)) ?_ (by simpa using ha) (by simpa using hb) (by omega)
  rw [Rat.divInt_eq_div, Rat.intCast_natCast, Rat.intCast_natCast, e]
theorem fD_nat (n : Nat) : (PyData.tuple [.int (n : Int), .int 1]) = fD (n : Rat) := rfl
theorem fD_one : (PyData.tuple [.int 1, .int 1]) = fD 1 := rfl
theorem fD_zero : (PyData.tuple [.int 0, .int 1]) = fD 0 := rfl
def Ld (q : Rat) : Prop := 0 < q ∧ q.num ≤ 1000 ∧ q.den ≤ 1000
structure LdP (q : Rat) (p s : Nat) : Prop where
  p0 : 0 < p
  p1 : p ≤ 1000
  s0 : 0 < s
  s1 : s ≤ 1000
  e : q = (p : Rat) / (s : Rat)
theorem Ld.p {q : Rat} (h : Ld q) : ∃ p s : Nat, LdP q p s ∧ q.num = (p : Int) ∧ q.den = s := by
  obtain ⟨h1, h2, h3⟩ := h
  have hn : 0 < q.num := by
    have h4 : 0 ≤ q.num := Rat.num_nonneg.mpr (Rat.le_of_lt h1)
    have h5 : q.num ≠ 0 := fun e => Rat.ne_of_gt h1 (Rat.num_eq_zero.mp e)
    omega
  refine ⟨q.num.toNat, q.den, ⟨by omega, by omega, q.den_pos, h3, ?_⟩, by omega, rfl⟩
  have e := Rat.num_divInt_den q
  rw [Rat.divInt_eq_div, Rat.intCast_natCast] at e
  rw [← Rat.intCast_natCast, Int.toNat_of_nonneg (by omega)]
  exact e.symm
theorem LdP.pos {q : Rat} {p s : Nat} (h : LdP q p s) : 0 < q := by
  rw [h.e, Rat.div_def]
  exact Rat.mul_pos (cast_pos h.p0) (Rat.inv_pos.mpr (cast_pos h.s0))
theorem e15 : 2 ^ 1500 < bigB := two_big (k := 1501) (by decide) (Nat.pow_lt_pow_right (by decide) (by decide))
theorem e20 {a : Nat} (h : a ≤ 2 ^ 2000) : a < bigB := Nat.lt_of_le_of_lt h (Nat.pow_lt_pow_right (by decide) (by decide))
theorem up20 {a k : Nat} (h : a ≤ 2 ^ k) (hk : k ≤ 2000) : a ≤ 2 ^ 2000 := Nat.le_trans h (Nat.pow_le_pow_right (by decide) hk)
theorem m20 {a b k l : Nat} (ha : a ≤ 2 ^ k) (hb : b ≤ 2 ^ l) : a * b ≤ 2 ^ (k + l) := by
  rw [Nat.pow_add]; exact Nat.mul_le_mul ha hb
theorem th10 {a : Nat} (h : a ≤ 1000) : a ≤ 2 ^ 10 := Nat.le_trans h (by decide)
section
variable {q : Rat} {p s : Nat} (L : LdP q p s)
include L
theorem smQ : Sm q := Sm.nat L.e L.s0 (e20 (up20 (th10 L.p1) (by decide))) (e20 (up20 (th10 L.s1) (by decide)))
theorem smT {k : Nat} (hk : k ≤ 60) : Sm (tR q k) :=
  Sm.nat (tR_eq L.s0 L.e k) (Nat.mul_pos (Nat.pow_pos L.s0) (fac_pos k)) (e20 (up20 (p10 L.p1 (Nat.le_refl k) hk) (by decide)))
    (e20 (up20 (m20 (p10 L.s1 (Nat.le_refl k) hk) (Nat.le_of_lt (fac_big hk))) (by decide)))
theorem smS {j : Nat} (hj : j ≤ 61) : Sm (sR q j) :=
  Sm.nat (sR_w (n := 60) L.s0 L.e j hj) (Nat.mul_pos (Nat.pow_pos L.s0) (fac_pos _)) (e20 (up20 (wS_big L.p1 L.s1 (Nat.le_refl 60) hj) (by decide)))
    (e20 (up20 (m20 (p10 L.s1 (Nat.le_refl 60) (Nat.le_refl 60)) (Nat.le_of_lt (fac_big (Nat.le_refl 60)))) (by decide)))
theorem bR_w (k : Nat) : bR q k = (wN p s k k : Rat) / (wS p s k (k + 1) : Rat) := by
  rw [bR_eq L.pos k, tR_w (n := k) L.s0 L.e (Nat.le_refl k), sR_w (n := k) L.s0 L.e (k + 1) (Nat.le_refl _)]
  have h1 := cast_ne (Nat.mul_pos (Nat.pow_pos (n := k) L.s0) (fac_pos k))
  have h2 := cast_ne (wS_pos (n := k) L.p0 L.s0 (j := k) (by omega))
  generalize ((s ^ k * fac k : Nat) : Rat) = c at *
  generalize ((wS p s k (k + 1) : Nat) : Rat) = S at *
  generalize ((wN p s k k : Nat) : Rat) = w at *
  grind
theorem smB {k : Nat} (hk : k ≤ 60) : Sm (bR q k) :=
  Sm.nat (bR_w L k) (wS_pos L.p0 L.s0 (by omega)) (e20 (up20 (wN_le L.p1 L.s1 (Nat.le_refl k) hk) (by decide))) (e20 (up20 (wS_big L.p1 L.s1 hk (Nat.le_refl _)) (by decide)))
theorem smQB {k : Nat} (hk : k ≤ 60) : Sm (q * bR q k) := by
  have h1 := cast_ne L.s0
  have h2 := cast_ne (wS_pos (n := k) L.p0 L.s0 (j := k) (by omega))
  refine Sm.nat (a := p * wN p s k k) (b := s * wS p s k (k + 1)) ?_ (Nat.mul_pos L.s0 (wS_pos L.p0 L.s0 (by omega))) (e20 (up20 (m20 (th10 L.p1) (wN_le L.p1 L.s1 (Nat.le_refl k) hk)) (by decide))) (e20 (up20 (m20 (th10 L.s1) (wS_big L.p1 L.s1 hk (Nat.le_refl _))) (by decide)))
  rw [bR_w L k, L.e, cast_mul, cast_mul]
  generalize (wS p s k (k + 1) : Rat) = S at *
  grind
theorem smD {k : Nat} (hk : k < 60) : Sm (((k + 1 : Nat) : Rat) + q * bR q k) := by
  have h1 := cast_ne L.s0
  have h2 := cast_ne (wS_pos (n := k) L.p0 L.s0 (j := k) (by omega))
  have b1 : s * wS p s k (k + 1) ≤ 2 ^ 1516 := m20 (th10 L.s1) (wS_big L.p1 L.s1 (by omega) (Nat.le_refl _))
  have b2 : p * wN p s k k ≤ 2 ^ 1510 := m20 (th10 L.p1) (wN_le L.p1 L.s1 (Nat.le_refl k) (by omega))
  have b3 : (k + 1) * (s * wS p s k (k + 1)) ≤ 2 ^ 1526 := m20 (th10 (show k + 1 ≤ 1000 by omega)) b1
  refine Sm.nat (a := (k + 1) * (s * wS p s k (k + 1)) + p * wN p s k k) (b := s * wS p s k (k + 1)) ?_ (Nat.mul_pos L.s0 (wS_pos L.p0 L.s0 (by omega))) (e20 (up20 (k := 1527) ?_ (by decide))) (e20 (up20 b1 (by decide)))
  · rw [bR_w L k, L.e]
    simp only [cast_add, cast_mul]
    generalize (wS p s k (k + 1) : Rat) = S at *
    grind
  · have : 2 ^ 1510 ≤ 2 ^ 1526 := Nat.pow_le_pow_right (by decide) (by decide)
    have : 2 ^ 1527 = 2 ^ 1526 + 2 ^ 1526 := by rw [Nat.pow_succ]; omega
    omega
theorem smN {k : Nat} (hk : k ≤ 1000) : Sm ((k : Nat) : Rat) := Sm.nat (a := k) (b := 1) (by show _ = (k : Rat) / 1; grind) (by decide) (e20 (up20 (th10 hk) (by decide))) (e20 (up20 (k := 1) (by decide) (by decide)))
theorem f_share_with {k : Nat} (hk : k < 60) : Fshare_with [.int ((k + 1 : Nat) : Int), fD q, fD (bR q k)] = .ok (fD (bR q (k + 1))) := by
  refine F_rt rfl rfl ?_
  show sev Tshare_with [some (.int ((k + 1 : Nat) : Int)), some (fD q), some (fD (bR q k)), none] = _
  unfold Tshare_with
  refine sq (δ1 := [some (.int ((k + 1 : Nat) : Int)), some (fD q), some (fD (bR q k)), some (fD (q * bR q k))]) ?_ ?_
  · simp [f_times (smQ L) (smB L (show k ≤ 60 by omega))]
  · refine sqx ?_
    have hp : 0 < ((k + 1 : Nat) : Rat) + q * bR q k := by
      have h1 := Rat.mul_pos L.pos (bR_pos L.pos k)
      have h2 := cast_pos (show 0 < k + 1 by omega)
      grind
    have e1 := f_plus (smN L (show k + 1 ≤ 1000 by omega)) (smQB L (show k ≤ 60 by omega))
    have e2 := f_over (smQB L (show k ≤ 60 by omega)) (smD L hk) hp
    rw [← fD_nat] at e1
    simp only [q_sret, q_call, q_cons, q_cI, q_sl, q_s0, q_s1, q_ok, q_fi, if_true, q_nil, q_tup, q_ki, q_ci, List.length_cons, List.length_nil, sz (show 0 + 1 + 1 ≤ 1000000 by decide), e1, e2, q_lok]
    rfl
theorem f_lost_share {n : Nat} (hn : n ≤ 60) : Flost_share [.int (n : Int), fD q] = .ok (fD (bR q n)) := by
  refine F_rt rfl rfl ?_
  show sev Tlost_share [some (.int (n : Int)), some (fD q), none, none] = _
  unfold Tlost_share
  refine sq (δ1 := [some (.int (n : Int)), some (fD q), some (fD (bR q 0)), none]) (by simp [sz, fD_one]; rfl) ?_
  refine sq_rng2 1 ((n : Int) + 1) rfl rfl (by omega) (by omega) (by omega) (by omega) (fun k δ => ∃ x, δ = [some (.int (n : Int)), some (fD q), some (fD (bR q k)), x]) ⟨_, rfl⟩ (fun k δ hk hI => ?_) (fun δ' hI => ?_)
  · obtain ⟨x, rfl⟩ := hI
    have e := f_share_with L (show k < 60 by omega)
    rw [show ((k + 1 : Nat) : Int) = 1 + (k : Int) by omega] at e
    exact ⟨_, sq (by simp [e]; rfl) rfl, _, rfl⟩
  · obtain ⟨x, rfl⟩ := hI
    simp
theorem f_weights {n : Nat} (hn : n ≤ 60) : Fweights_of [.int (n : Int), fD q] = .ok (.list ((List.range (n + 1)).map fun k => fD (tR q k))) := by
  refine F_rt rfl rfl ?_
  show sev Tweights_of [some (.int (n : Int)), some (fD q), none, none] = _
  unfold Tweights_of
  refine sq (δ1 := [some (.int (n : Int)), some (fD q), some (.list ((List.range 1).map fun k => fD (tR q k))), none]) (by simp [sz, fD_one]; rfl) ?_
  refine sq_rng2 1 ((n : Int) + 1) rfl rfl (by omega) (by omega) (by omega) (by omega) (fun k δ => ∃ x, δ = [some (.int (n : Int)), some (fD q), some (.list ((List.range (k + 1)).map fun k => fD (tR q k))), x]) ⟨_, rfl⟩ (fun k δ hk hI => ?_) (fun δ' hI => ?_)
  · obtain ⟨x, rfl⟩ := hI
    have hk6 : k < 60 := by omega
    have hlast : ixD (.list ((List.range (k + 1)).map fun k => fD (tR q k))) (.int (-1)) = .ok (fD (tR q k)) := by
      have : atI ((List.range (k + 1)).map fun k => fD (tR q k)) (-1) = some (fD (tR q k)) := by
        rw [List.range_succ, List.map_append]
        exact atI_last _ _
      exact q_ixL this
    have e1 := f_over (smQ L) (smN L (show k + 1 ≤ 1000 by omega)) (cast_pos (show 0 < k + 1 by omega))
    have smd : Sm (q / ((k + 1 : Nat) : Rat)) := by
      have h1 := cast_ne L.s0
      have h2 := cast_ne (show 0 < k + 1 by omega)
      refine Sm.nat (a := p) (b := s * (k + 1)) ?_ (Nat.mul_pos L.s0 (by omega)) (e20 (up20 (th10 L.p1) (by decide))) (e20 (up20 (m20 (th10 L.s1) (th10 (show k + 1 ≤ 1000 by omega))) (by decide)))
      rw [L.e, cast_mul]
      grind
    have e2 := f_times (smT L (show k ≤ 60 by omega)) smd
    rw [← fD_nat, show ((k + 1 : Nat) : Int) = 1 + (k : Int) by omega] at e1
    rw [List.range_succ (n := k + 1), List.map_append]
    show ∃ δ', _ ∧ ∃ x, δ' = [some (PyData.int (n : Int)), some (fD q), some (.list ((List.range (k + 1)).map (fun k => fD (tR q k)) ++ [fD (tR q k * (q / ((k + 1 : Nat) : Rat)))])), x]
    generalize ((k + 1 : Nat) : Rat) = c at e1 e2 smd ⊢
    refine ⟨_, sq (by simp [hlast, e1, e2, sz, szl (show k + 1 < 1000000 by omega)]) rfl, some (.int (1 + (k : Int))), rfl⟩
  · obtain ⟨x, rfl⟩ := hI
    simp
theorem f_total {n : Nat} (hn : n ≤ 60) : Ftotal_of [.list ((List.range (n + 1)).map fun k => fD (tR q k))] = .ok (fD (sR q (n + 1))) := by
  refine F_rt rfl rfl ?_
  show sev Ttotal_of [some (.list ((List.range (n + 1)).map fun k => fD (tR q k))), none, none] = _
  unfold Ttotal_of
  refine sq (δ1 := [some (.list ((List.range (n + 1)).map fun k => fD (tR q k))), some (fD (sR q 0)), none]) (by simp [sz, fD_zero]; rfl) ?_
  refine sq_for ((List.range (n + 1)).map fun k => fD (tR q k)) rfl (by
    rw [immL_all fun d hd => by
      obtain ⟨i, _, rfl⟩ := List.mem_map.mp hd
      rfl]; rfl) (fun k δ => ∃ x, δ = [some (.list ((List.range (n + 1)).map fun k => fD (tR q k))), some (fD (sR q k)), x]) ⟨_, rfl⟩ (fun k δ hk hI => ?_) (fun δ' hI => ?_)
  · obtain ⟨x, rfl⟩ := hI
    have hk' : k < n + 1 := by simpa using hk
    have e := f_plus (smS L (show k ≤ 61 by omega)) (smT L (show k ≤ 60 by omega))
    rw [List.getElem_map, List.getElem_range]
    refine ⟨_, _, rfl, ?_, some (fD (tR q k)), rfl⟩
    refine sq ?_ rfl
    simp [e]
    rfl
  · obtain ⟨x, rfl⟩ := hI
    simp
theorem f_shared {n : Nat} (hn : n ≤ 60) : Fshared_out [.list ((List.range (n + 1)).map fun k => fD (tR q k))] = .ok (.list ((List.range (n + 1)).map fun k => fD (tR q k / sR q (n + 1)))) := by
  refine F_rt rfl rfl ?_
  show sev Tshared_out [some (.list ((List.range (n + 1)).map fun k => fD (tR q k))), none, none] = _
  unfold Tshared_out
  refine sq (δ1 := [some (.list ((List.range (n + 1)).map fun k => fD (tR q k))), some (fD (sR q (n + 1))), none]) (by simp [f_total L hn]) ?_
  refine sqx ?_
  rw [q_sret, ev_comp (List.range (n + 1)) (fun k => fD (tR q k)) (fun k => fD (tR q k / sR q (n + 1))) rfl fun k hk => ?_]
  · rfl
  · have hk' : k < n + 1 := by simpa using hk
    have e := f_over (smT L (show k ≤ 60 by omega)) (smS L (show n + 1 ≤ 61 by omega)) (sR_pos L.pos n)
    refine ⟨_, rfl, ?_⟩
    simp [e]
end
end VS
set_option Elab.async false
set_option linter.all false
set_option maxRecDepth 100000
namespace VS
/-! ### few callers: the numbers -/
def cb : Nat → Nat → Nat
  | _, 0 => 1
  | 0, _ + 1 => 0
  | n + 1, k + 1 => cb n k + cb n (k + 1)
theorem cb_big : ∀ {n k : Nat}, n < k → cb n k = 0
  | 0, k + 1, _ => rfl
  | n + 1, k + 1, h => by show cb n k + cb n (k + 1) = 0; rw [cb_big (by omega), cb_big (by omega)]
theorem cb_fac : ∀ {n k : Nat}, k ≤ n → cb n k * (fac k * fac (n - k)) = fac n
  | n, 0, _ => by cases n <;> simp [cb, fac]
  | n + 1, k + 1, h => by
    show (cb n k + cb n (k + 1)) * (fac k * (k + 1) * fac (n + 1 - (k + 1))) = fac n * (n + 1)
    rw [show n + 1 - (k + 1) = n - k by omega]
    have h1 := cb_fac (show k ≤ n by omega)
    by_cases e : k = n
    · subst e
      rw [cb_big (show k < k + 1 by omega), Nat.add_zero, show cb k k * (fac k * (k + 1) * fac (k - k)) = (cb k k * (fac k * fac (k - k))) * (k + 1) by ac_rfl, h1]
    · have h2 := cb_fac (show k + 1 ≤ n by omega)
      have e3 : n - k = (n - (k + 1)) + 1 := by omega
      have e4 : fac (n - k) = fac (n - (k + 1)) * (n - k) := by rw [e3]; rfl
      have e5 : cb n (k + 1) * (fac k * (k + 1) * fac (n - k)) = fac n * (n - k) := by
        rw [← h2, e4]
        show _ = cb n (k + 1) * (fac k * (k + 1) * fac (n - (k + 1))) * (n - k)
        ac_rfl
      rw [Nat.add_mul, e5, show cb n k * (fac k * (k + 1) * fac (n - k)) = (cb n k * (fac k * fac (n - k))) * (k + 1) by ac_rfl, h1, ← Nat.mul_add]
      congr 1
      omega
theorem cb_div {n k : Nat} (h : k ≤ n) : fac n / (fac k * fac (n - k)) = cb n k := by
  rw [← cb_fac h, Nat.mul_div_cancel _ (Nat.mul_pos (fac_pos _) (fac_pos _))]
theorem cb_pos {n k : Nat} (h : k ≤ n) : 0 < cb n k := Nat.pos_of_ne_zero fun e => by
  have := cb_fac h
  rw [e, Nat.zero_mul] at this
  have := fac_pos n
  omega
theorem cb_le {n k : Nat} (h : k ≤ n) : cb n k ≤ fac n := by
  rw [← cb_fac h]
  exact Nat.le_mul_of_pos_right _ (Nat.mul_pos (fac_pos _) (fac_pos _))
theorem cb_next {n k : Nat} (h : k < n) : cb n (k + 1) * (k + 1) = cb n k * (n - k) := by
  have h1 := cb_fac (show k ≤ n by omega)
  have h2 := cb_fac (show k + 1 ≤ n by omega)
  have e3 : n - k = (n - (k + 1)) + 1 := by omega
  have e4 : fac (n - k) = fac (n - (k + 1)) * (n - k) := by rw [e3]; rfl
  rw [e4] at h1
  have e5 : (cb n (k + 1) * (k + 1)) * (fac k * fac (n - (k + 1))) = (cb n k * (n - k)) * (fac k * fac (n - (k + 1))) := by
    rw [show (cb n k * (n - k)) * (fac k * fac (n - (k + 1))) = cb n k * (fac k * (fac (n - (k + 1)) * (n - k))) by ac_rfl, h1, ← h2]
    show _ = cb n (k + 1) * (fac k * (k + 1) * fac (n - (k + 1)))
    ac_rfl
  exact Nat.eq_of_mul_eq_mul_right (Nat.mul_pos (fac_pos _) (fac_pos _)) e5
theorem cb_less {n k : Nat} (h : k ≤ n) : cb (n + 1) k * (n + 1 - k) = (n + 1) * cb n k := by
  have h1 := cb_fac h
  have h2 := cb_fac (show k ≤ n + 1 by omega)
  have e4 : fac (n + 1 - k) = fac (n - k) * (n + 1 - k) := by rw [show n + 1 - k = (n - k) + 1 by omega]; rfl
  rw [e4] at h2
  have e5 : (cb (n + 1) k * (n + 1 - k)) * (fac k * fac (n - k)) = ((n + 1) * cb n k) * (fac k * fac (n - k)) := by
    rw [show ((n + 1) * cb n k) * (fac k * fac (n - k)) = (n + 1) * (cb n k * (fac k * fac (n - k))) by ac_rfl, h1, show (n + 1) * fac n = fac (n + 1) from Nat.mul_comm _ _, ← h2]
    ac_rfl
  exact Nat.eq_of_mul_eq_mul_right (Nat.mul_pos (fac_pos _) (fac_pos _)) e5
def wC (p s N n k : Nat) : Nat := cb N k * p ^ k * s ^ (n - k)
def wCS (p s N n j : Nat) : Nat := ((List.range j).map (wC p s N n)).sum
def gR (N : Nat) (q : Rat) : Nat → Rat
  | 0 => 1
  | k + 1 => gR N q k * (q * (((N - k : Nat) : Rat) / ((k + 1 : Nat) : Rat)))
def hR (N : Nat) (q : Rat) : Nat → Rat
  | 0 => 0
  | k + 1 => hR N q k + gR N q k
theorem wCS_succ (p s N n j : Nat) : wCS p s N n (j + 1) = wCS p s N n j + wC p s N n j := by
  unfold wCS
  rw [List.range_succ, List.map_append, List.sum_append]
  simp
theorem gR_w {p s n N : Nat} (hs : 0 < s) {q : Rat} (hq : q = (p : Rat) / (s : Rat)) (hN : n ≤ N) : ∀ {k : Nat}, k ≤ n → gR N q k = (wC p s N n k : Rat) / ((s ^ n : Nat) : Rat)
  | 0, _ => by
    have h1 := cast_ne (Nat.pow_pos (n := n) hs)
    show (1 : Rat) = ((cb N 0 * p ^ 0 * s ^ (n - 0) : Nat) : Rat) / _
    rw [show cb N 0 * p ^ 0 * s ^ (n - 0) = s ^ n by rw [Nat.sub_zero, Nat.pow_zero]; cases N <;> simp [cb]]
    grind
  | k + 1, h => by
    have h1 := cast_ne (Nat.pow_pos (n := n) hs)
    have h2 := cast_ne hs
    have h3 := cast_ne (show 0 < k + 1 by omega)
    show gR N q k * (q * (((N - k : Nat) : Rat) / ((k + 1 : Nat) : Rat))) = _
    rw [gR_w hs hq hN (show k ≤ n by omega)]
    have e : wC p s N n (k + 1) * (s * (k + 1)) = wC p s N n k * (p * (N - k)) := by
      unfold wC
      rw [show n - k = (n - (k + 1)) + 1 by omega, Nat.pow_succ, Nat.pow_succ]
      have := cb_next (show k < N by omega)
      rw [show cb N (k + 1) * (p ^ k * p) * s ^ (n - (k + 1)) * (s * (k + 1)) = (cb N (k + 1) * (k + 1)) * (p ^ k * p) * (s ^ (n - (k + 1)) * s) by ac_rfl, this]
      ac_rfl
    have e2 : (wC p s N n (k + 1) : Rat) * ((s : Rat) * ((k + 1 : Nat) : Rat)) = (wC p s N n k : Rat) * ((p : Rat) * ((N - k : Nat) : Rat)) := by
      rw [← cast_mul, ← cast_mul, e, cast_mul, cast_mul]
    subst hq
    generalize ((k + 1 : Nat) : Rat) = c at *
    generalize ((s ^ n : Nat) : Rat) = C at *
    generalize (wC p s N n (k + 1) : Rat) = X at *
    generalize (wC p s N n k : Rat) = Y at *
    generalize ((N - k : Nat) : Rat) = M at *
    grind
theorem hR_w {p s n N : Nat} (hs : 0 < s) {q : Rat} (hq : q = (p : Rat) / (s : Rat)) (hN : n ≤ N) : ∀ j, j ≤ n + 1 → hR N q j = (wCS p s N n j : Rat) / ((s ^ n : Nat) : Rat)
  | 0, _ => by
    show (0 : Rat) = ((0 : Nat) : Rat) / _
    rw [Rat.div_def]; grind
  | j + 1, h => by
    show hR N q j + gR N q j = _
    rw [hR_w (n := n) hs hq hN j (by omega), gR_w (n := n) hs hq hN (show j ≤ n by omega), wCS_succ, cast_add, Rat.div_def, Rat.div_def, Rat.div_def, Rat.add_mul]
theorem div_pos' {a b : Rat} (ha : 0 < a) (hb : 0 < b) : 0 < a / b := by
  rw [Rat.div_def]
  exact Rat.mul_pos ha (Rat.inv_pos.mpr hb)
theorem gR_pos {N : Nat} {q : Rat} (hq : 0 < q) : ∀ {k}, k ≤ N → 0 < gR N q k
  | 0, _ => by show (0 : Rat) < 1; decide
  | k + 1, h => Rat.mul_pos (gR_pos hq (by omega)) (Rat.mul_pos hq (div_pos' (cast_pos (by omega)) (cast_pos (by omega))))
theorem hR_pos {N : Nat} {q : Rat} (hq : 0 < q) : ∀ {k}, k ≤ N → 0 < hR N q (k + 1)
  | 0, _ => by show (0 : Rat) < 0 + 1; decide +kernel
  | k + 1, h => by
    show 0 < hR N q (k + 1) + gR N q (k + 1)
    have h1 := hR_pos hq (show k ≤ N by omega)
    have h2 := gR_pos hq h
    grind
theorem wC_pos {p s N n k : Nat} (hp : 0 < p) (hs : 0 < s) (hk : k ≤ N) : 0 < wC p s N n k := Nat.mul_pos (Nat.mul_pos (cb_pos hk) (Nat.pow_pos hp)) (Nat.pow_pos hs)
theorem wCS_pos {p s N n : Nat} (hp : 0 < p) (hs : 0 < s) {j : Nat} (h : j ≤ N) : 0 < wCS p s N n (j + 1) := by
  rw [wCS_succ]
  have := wC_pos (k := j) (n := n) hp hs h
  omega
theorem wC_le {p s N n k : Nat} (hp : p ≤ 1000) (hs : s ≤ 1000) (hk : k ≤ n) (hn : n ≤ N) (hN : N ≤ 60) : wC p s N n k ≤ 2 ^ 1500 := by
  unfold wC
  have h1 := p10 hp hk (show n ≤ 60 by omega)
  have h2 : s ^ (n - k) ≤ 2 ^ 600 := p10 hs (Nat.sub_le _ _) (show n ≤ 60 by omega)
  have h3 : cb N k ≤ 2 ^ 300 := Nat.le_trans (cb_le (by omega)) (Nat.le_of_lt (fac_big hN))
  calc _ ≤ 2 ^ 300 * 2 ^ 600 * 2 ^ 600 := Nat.mul_le_mul (Nat.mul_le_mul h3 h1) h2
    _ = 2 ^ 1500 := by rw [← Nat.pow_add, ← Nat.pow_add]
theorem wCS_le {p s N n : Nat} (hp : p ≤ 1000) (hs : s ≤ 1000) (hn : n ≤ N) (hN : N ≤ 60) : ∀ j, j ≤ n + 1 → wCS p s N n j ≤ j * 2 ^ 1500
  | 0, _ => by simp [wCS]
  | j + 1, h => by
    rw [wCS_succ]
    have := wCS_le hp hs hn hN j (by omega)
    have := wC_le hp hs (show j ≤ n by omega) hn hN
    rw [Nat.add_mul]
    omega
theorem wCS_big {p s N n j : Nat} (hp : p ≤ 1000) (hs : s ≤ 1000) (hn : n ≤ N) (hN : N ≤ 60) (hj : j ≤ n + 1) : wCS p s N n j ≤ 2 ^ 1506 := by
  refine Nat.le_trans (wCS_le hp hs hn hN j hj) ?_
  rw [show 2 ^ 1506 = 2 ^ 6 * 2 ^ 1500 by rw [← Nat.pow_add]]
  exact Nat.mul_le_mul (by omega) (Nat.le_refl _)
/-- a caller more -/
theorem gR_more {N : Nat} {q : Rat} : ∀ {k}, k ≤ N → gR (N + 1) q k * ((N + 1 - k : Nat) : Rat) = ((N + 1 : Nat) : Rat) * gR N q k
  | 0, _ => by show (1 : Rat) * _ = _ * 1; rw [Nat.sub_zero, Rat.one_mul, Rat.mul_one]
  | k + 1, h => by
    have ih := gR_more (q := q) (show k ≤ N by omega)
    show gR (N + 1) q k * (q * (((N + 1 - k : Nat) : Rat) / ((k + 1 : Nat) : Rat))) * ((N + 1 - (k + 1) : Nat) : Rat) = _ * (gR N q k * (q * (((N - k : Nat) : Rat) / ((k + 1 : Nat) : Rat))))
    rw [show N + 1 - (k + 1) = N - k by omega]
    generalize ((k + 1 : Nat) : Rat) = c at *
    rw [Rat.div_def, Rat.div_def]
    generalize c⁻¹ = c' at *
    generalize ((N + 1 - k : Nat) : Rat) = A at *
    generalize ((N - k : Nat) : Rat) = B at *
    generalize ((N + 1 : Nat) : Rat) = C at *
    grind
/-- the share lost of N + 1 callers -/
def lR (N n : Nat) (q : Rat) : Rat := gR N q n / hR N q (n + 1)
theorem gR_pass {N n : Nat} {q : Rat} (hq : 0 < q) (hn : n ≤ N) {k : Nat} (hk : k < n) : gR (N + 1) q k * ((N + 1 - n : Nat) : Rat) < ((N + 1 : Nat) : Rat) * gR N q k := by
  rw [← gR_more (show k ≤ N by omega)]
  refine Rat.mul_lt_mul_of_pos_left ?_ (gR_pos hq (by omega))
  have : ((N + 1 - k : Nat) : Rat) = ((N + 1 - n : Nat) : Rat) + ((n - k : Nat) : Rat) := by rw [← cast_add]; congr 1; omega
  have := cast_pos (show 0 < n - k by omega)
  grind
theorem hR_pass {N n : Nat} {q : Rat} (hq : 0 < q) (hn : n ≤ N) : ∀ {k : Nat}, k < n → hR (N + 1) q (k + 1) * ((N + 1 - n : Nat) : Rat) < ((N + 1 : Nat) : Rat) * hR N q (k + 1)
  | 0, h => by
    have := gR_pass hq hn h
    show (0 + gR (N + 1) q 0) * _ < _ * (0 + gR N q 0)
    rwa [Rat.zero_add, Rat.zero_add]
  | k + 1, h => by
    have h1 := gR_pass hq hn h
    have h2 := hR_pass hq hn (show k < n by omega)
    show (hR (N + 1) q (k + 1) + gR (N + 1) q (k + 1)) * _ < _ * (hR N q (k + 1) + gR N q (k + 1))
    grind
theorem lR_up {N n : Nat} {q : Rat} (hq : 0 < q) (hn : n ≤ N) (h1 : 1 ≤ n) : lR N n q < lR (N + 1) n q := by
  obtain ⟨m, rfl⟩ : ∃ m, n = m + 1 := ⟨n - 1, by omega⟩
  have a1 := hR_pass hq hn (show m < m + 1 by omega)
  have a2 := gR_more (q := q) hn
  have p1 := gR_pos hq hn
  have p2 := hR_pos hq hn
  have p3 := gR_pos (N := N + 1) hq (show m + 1 ≤ N + 1 by omega)
  have p4 := hR_pos (N := N + 1) hq (show m + 1 ≤ N + 1 by omega)
  have p5 := cast_pos (show 0 < N + 1 by omega)
  have p6 := cast_pos (show 0 < N + 1 - (m + 1) by omega)
  unfold lR
  have e1 : hR (N + 1) q (m + 1 + 1) = hR (N + 1) q (m + 1) + gR (N + 1) q (m + 1) := rfl
  have e2 : hR N q (m + 1 + 1) = hR N q (m + 1) + gR N q (m + 1) := rfl
  rw [Rat.div_lt_iff p2, Rat.div_def, Rat.mul_assoc, Rat.mul_comm (hR (N + 1) q (m + 1 + 1))⁻¹, ← Rat.mul_assoc, ← Rat.div_def, Rat.lt_div_iff p4, e1, e2]
  refine Rat.lt_of_mul_lt_mul_right (c := ((N + 1 - (m + 1) : Nat) : Rat)) ?_ (Rat.le_of_lt p6)
  generalize gR (N + 1) q (m + 1) = X at *
  generalize gR N q (m + 1) = Y at *
  generalize hR (N + 1) q (m + 1) = A at *
  generalize hR N q (m + 1) = B at *
  generalize ((N + 1 - (m + 1) : Nat) : Rat) = u at *
  generalize ((N + 1 : Nat) : Rat) = v at *
  have a3 := Rat.mul_lt_mul_of_pos_left a1 p1
  have e3 : Y * (A + X) * u = Y * (A * u) + Y * (v * Y) := by rw [← a2]; grind
  have e4 : X * (B + Y) * u = Y * (v * B) + Y * (v * Y) := by rw [show X * (B + Y) * u = (X * u) * (B + Y) by grind, a2]; grind
  rw [e3, e4]
  grind
/-! ### more of the shares lost -/
theorem step_up {x y c : Rat} (hx : 0 < x) (h : x < y) (hc : 0 < c) : x / (c + x) < y / (c + y) := by
  have h1 : 0 < c + x := by grind
  have h2 : 0 < c + y := by grind
  rw [Rat.div_lt_iff h1, Rat.div_def, Rat.mul_assoc, Rat.mul_comm (c + y)⁻¹, ← Rat.mul_assoc, ← Rat.div_def, Rat.lt_div_iff h2]
  have := Rat.mul_lt_mul_of_pos_left h hc
  grind
theorem bR_up {q r : Rat} (hq : 0 < q) (h : q < r) : ∀ n, bR q n ≤ bR r n ∧ (1 ≤ n → bR q n < bR r n)
  | 0 => ⟨Rat.le_refl, fun h => by omega⟩
  | n + 1 => by
    have ih := (bR_up hq h n).1
    have hb := bR_pos hq n
    have hr : 0 < r := by grind
    have : bR q (n + 1) < bR r (n + 1) := by
      refine step_up (Rat.mul_pos hq hb) ?_ (cast_pos (by omega))
      have := Rat.mul_lt_mul_of_pos_right h hb
      have := Rat.mul_le_mul_of_nonneg_left ih (Rat.le_of_lt hr)
      grind
    exact ⟨Rat.le_of_lt this, fun _ => this⟩
theorem bR_half {q : Rat} (hq : 0 < q) : ∀ n, bR (2 * q) (2 * n) ≤ bR q n ∧ (1 ≤ n → bR (2 * q) (2 * n) < bR q n)
  | 0 => ⟨Rat.le_refl, fun h => by omega⟩
  | n + 1 => by
    have ih := (bR_half hq n).1
    have h2 : 0 < 2 * q := by grind
    have hb := bR_pos h2 (2 * n + 1)
    have hd := bR_down h2 (2 * n)
    have : bR (2 * q) (2 * (n + 1)) < bR q (n + 1) := by
      show (2 * q * bR (2 * q) (2 * n + 1)) / (((2 * n + 1 + 1 : Nat) : Rat) + 2 * q * bR (2 * q) (2 * n + 1)) < (q * bR q n) / (((n + 1 : Nat) : Rat) + q * bR q n)
      have e1 : ((2 * n + 1 + 1 : Nat) : Rat) = 2 * ((n + 1 : Nat) : Rat) := by rw [show 2 * n + 1 + 1 = 2 * (n + 1) by omega, cast_mul]; rfl
      have h3 := cast_pos (show 0 < n + 1 by omega)
      have h4 := Rat.mul_pos hq hb
      have e2 : (2 * q * bR (2 * q) (2 * n + 1)) / (((2 * n + 1 + 1 : Nat) : Rat) + 2 * q * bR (2 * q) (2 * n + 1)) = (q * bR (2 * q) (2 * n + 1)) / (((n + 1 : Nat) : Rat) + q * bR (2 * q) (2 * n + 1)) := by
        rw [e1]
        generalize bR (2 * q) (2 * n + 1) = b at *
        generalize ((n + 1 : Nat) : Rat) = c at *
        have n1 : c + q * b ≠ 0 := by grind
        have n2 : 2 * c + 2 * q * b ≠ 0 := by grind
        grind
      rw [e2]
      refine step_up h4 ?_ h3
      exact Rat.mul_lt_mul_of_pos_left (by grind) hq
    exact ⟨Rat.le_of_lt this, fun _ => this⟩
/-- the calls carried -/
def cR (q : Rat) : Nat → Rat
  | 0 => 0
  | k + 1 => q * sR q k
theorem tR_next (q : Rat) (k : Nat) : q * tR q k = ((k + 1 : Nat) : Rat) * tR q (k + 1) := by
  show q * tR q k = _ * (tR q k * (q / ((k + 1 : Nat) : Rat)))
  have h := cast_ne (show 0 < k + 1 by omega)
  generalize ((k + 1 : Nat) : Rat) = c at *
  grind
theorem cR_next (q : Rat) : ∀ k, cR q (k + 1) = cR q k + (k : Rat) * tR q k
  | 0 => by show q * 0 = 0 + ((0 : Nat) : Rat) * 1; grind
  | k + 1 => by
    show q * (sR q k + tR q k) = q * sR q k + _
    rw [← tR_next]
    grind
theorem gR_next (N : Nat) (q : Rat) (k : Nat) : q * (((N - k : Nat) : Rat) * gR N q k) = ((k + 1 : Nat) : Rat) * gR N q (k + 1) := by
  show _ = _ * (gR N q k * (q * (((N - k : Nat) : Rat) / ((k + 1 : Nat) : Rat))))
  have h := cast_ne (show 0 < k + 1 by omega)
  generalize ((k + 1 : Nat) : Rat) = c at *
  generalize ((N - k : Nat) : Rat) = d at *
  grind
end VS
set_option Elab.async false
set_option linter.all false
set_option maxRecDepth 100000
namespace VS
/-! ### wide calls: the numbers -/
def mv (w : Nat) (f : Nat → Rat) (u : Nat) : Rat := if w ≤ u then f (u - w) else 0
def su (f : Nat → Rat) : Nat → Rat
  | 0 => 0
  | k + 1 => su f k + f k
theorem su_congr {f g : Nat → Rat} : ∀ {n}, (∀ k, k < n → f k = g k) → su f n = su g n
  | 0, _ => rfl
  | n + 1, h => by show su f n + f n = su g n + g n; rw [su_congr fun k hk => h k (by omega), h n (by omega)]
theorem su_more {f : Nat → Rat} {n : Nat} : ∀ m, (∀ k, n ≤ k → f k = 0) → su f (n + m) = su f n
  | 0, _ => rfl
  | m + 1, h => by show su f (n + m) + f (n + m) = _; rw [su_more m h, h _ (by omega), Rat.add_zero]
theorem su_mul (c : Rat) (f : Nat → Rat) : ∀ n, su (fun k => c * f k) n = c * su f n
  | 0 => by show (0 : Rat) = c * 0; grind
  | n + 1 => by show su (fun k => c * f k) n + c * f n = c * (su f n + f n); rw [su_mul c f n, Rat.mul_add]
theorem su_add (f g : Nat → Rat) : ∀ n, su (fun k => f k + g k) n = su f n + su g n
  | 0 => by show (0 : Rat) = 0 + 0; grind
  | n + 1 => by show su (fun k => f k + g k) n + (f n + g n) = (su f n + f n) + (su g n + g n); rw [su_add f g n]; grind
theorem su_zero {f : Nat → Rat} : ∀ {n}, (∀ k, k < n → f k = 0) → su f n = 0
  | 0, _ => rfl
  | n + 1, h => by show su f n + f n = 0; rw [su_zero fun k hk => h k (by omega), h n (by omega), Rat.add_zero]
theorem su_first (f : Nat → Rat) : ∀ n, su f (n + 1) = f 0 + su (fun k => f (k + 1)) n
  | 0 => by show 0 + f 0 = f 0 + 0; grind
  | n + 1 => by
    show su f (n + 1) + f (n + 1) = f 0 + (su (fun k => f (k + 1)) n + f (n + 1))
    rw [su_first f n, Rat.add_assoc]
theorem mv_mv (a b : Nat) (f : Nat → Rat) (u : Nat) : mv a (mv b f) u = mv (b + a) f u := by
  unfold mv
  by_cases h : a ≤ u
  · rw [if_pos h]
    by_cases h2 : b ≤ u - a
    · rw [if_pos h2, if_pos (by omega)]; congr 1; omega
    · rw [if_neg h2, if_neg (by omega)]
  · rw [if_neg h, if_neg (by omega)]
def lsum {α : Type} (g : α → Rat) (l : List α) : Rat := l.foldl (fun a x => a + g x) 0
theorem lsum_app {α : Type} (g : α → Rat) (l : List α) (x : α) : lsum g (l ++ [x]) = lsum g l + g x := by
  unfold lsum
  rw [List.foldl_append]; rfl
theorem foldl_add {α : Type} (g : α → Rat) : ∀ (l : List α) (c : Rat), l.foldl (fun a x => a + g x) c = c + l.foldl (fun a x => a + g x) 0
  | [], c => by show c = c + 0; grind
  | x :: l, c => by
    show l.foldl _ (c + g x) = c + l.foldl _ (0 + g x)
    rw [foldl_add g l (c + g x), foldl_add g l (0 + g x)]
    grind
theorem lsum_cons {α : Type} (g : α → Rat) (x : α) (l : List α) : lsum g (x :: l) = g x + lsum g l := by
  show l.foldl _ (0 + g x) = _
  rw [foldl_add, Rat.zero_add]; rfl
theorem lsum_nil {α : Type} (g : α → Rat) : lsum g [] = 0 := rfl
theorem lsum_append {α : Type} (g : α → Rat) : ∀ (l m : List α), lsum g (l ++ m) = lsum g l + lsum g m
  | [], m => by rw [List.nil_append, lsum_nil, Rat.zero_add]
  | x :: l, m => by rw [List.cons_append, lsum_cons, lsum_cons, lsum_append g l m, Rat.add_assoc]
theorem lsum_congr {α : Type} {g h : α → Rat} : ∀ {l : List α}, (∀ x ∈ l, g x = h x) → lsum g l = lsum h l
  | [], _ => rfl
  | x :: l, e => by rw [lsum_cons, lsum_cons, e x List.mem_cons_self, lsum_congr fun y hy => e y (List.mem_cons_of_mem _ hy)]
theorem lsum_mul {α : Type} (c : Rat) (g : α → Rat) : ∀ (l : List α), lsum (fun x => c * g x) l = c * lsum g l
  | [] => by show (0 : Rat) = c * 0; grind
  | x :: l => by rw [lsum_cons, lsum_cons, lsum_mul c g l, Rat.mul_add]
theorem su_lsum {α : Type} (g : α → Nat → Rat) : ∀ (l : List α) (n : Nat), su (fun k => lsum (fun x => g x k) l) n = lsum (fun x => su (g x) n) l
  | [], n => su_zero fun k _ => rfl
  | x :: l, n => by
    rw [lsum_cons, ← su_lsum g l n, ← su_add]
    exact su_congr fun k _ => lsum_cons _ _ _
theorem lsum_su {α : Type} (g : α → Nat → Rat) (l : List α) (n : Nat) : lsum (fun x => su (g x) n) l = su (fun k => lsum (fun x => g x k) l) n := (su_lsum g l n).symm
/-- a kind of calls more -/
def cw (w : Nat) (q : Rat) (f : Nat → Rat) (u : Nat) : Rat := su (fun k => mv (k * w) f u * tR q k) (u / w + 1)
theorem cw_far {w : Nat} (hw : 0 < w) (q : Rat) (f : Nat → Rat) {u n : Nat} (h : u / w + 1 ≤ n) : cw w q f u = su (fun k => mv (k * w) f u * tR q k) n := by
  obtain ⟨m, rfl⟩ : ∃ m, n = u / w + 1 + m := ⟨n - (u / w + 1), by omega⟩
  unfold cw
  refine (su_more (f := fun k => mv (k * w) f u * tR q k) (n := u / w + 1) m fun k hk => ?_).symm
  have : u < k * w := by
    have := Nat.div_lt_iff_lt_mul hw (x := u) (y := k)
    exact this.mp (by omega)
  show (if k * w ≤ u then f (u - k * w) else 0) * tR q k = 0
  rw [if_neg (by omega), Rat.zero_mul]
theorem div_le_u {w : Nat} (hw : 0 < w) (u : Nat) : u / w ≤ u := Nat.div_le_self _ _
def RQ (l : List (Nat × Rat)) (f : Nat → Rat) : Prop := ∀ u : Nat, (u : Rat) * f u = lsum (fun x => ((x.1 : Rat) * x.2) * mv x.1 f u) l
def e0 (u : Nat) : Rat := if u = 0 then 1 else 0
theorem rq_nil : RQ [] e0 := fun u => by
  unfold e0
  rw [lsum_nil]
  by_cases h : u = 0
  · subst h; show ((0 : Nat) : Rat) * _ = 0; exact Rat.zero_mul _
  · rw [if_neg h, Rat.mul_zero]
theorem rq_step {l : List (Nat × Rat)} {f : Nat → Rat} {w : Nat} {q : Rat} (hw : 0 < w) (h : RQ l f) : RQ (l ++ [(w, q)]) (cw w q f) := fun u => by
  rw [lsum_app, cw_far hw q f (show u / w + 1 ≤ u + 1 by have := div_le_u hw u; omega), ← su_mul]
  have e1 : ∀ k : Nat, (u : Rat) * (mv (k * w) f u * tR q k) = mv (k * w) (fun v => (v : Rat) * f v) u * tR q k + ((k * w : Nat) : Rat) * (mv (k * w) f u * tR q k) := fun k => by
    unfold mv
    by_cases hk : k * w ≤ u
    · rw [if_pos hk, if_pos hk]
      have : (u : Rat) = ((u - k * w : Nat) : Rat) + ((k * w : Nat) : Rat) := by rw [← cast_add]; congr 1; omega
      rw [this]
      grind
    · rw [if_neg hk, if_neg hk]; grind
  rw [su_congr fun k _ => e1 k, su_add]
  congr 1
  · have e2 : ∀ k : Nat, mv (k * w) (fun v => (v : Rat) * f v) u * tR q k = lsum (fun x => ((x.1 : Rat) * x.2) * (mv x.1 (mv (k * w) f) u * tR q k)) l := fun k => by
      have : mv (k * w) (fun v => (v : Rat) * f v) u = lsum (fun x => ((x.1 : Rat) * x.2) * mv x.1 (mv (k * w) f) u) l := by
        unfold mv
        by_cases hk : k * w ≤ u
        · rw [if_pos hk]
          show ((u - k * w : Nat) : Rat) * f (u - k * w) = _
          rw [h]
          refine lsum_congr fun x _ => ?_
          congr 1
          show mv x.1 f (u - k * w) = mv x.1 (mv (k * w) f) u
          rw [mv_mv]
          unfold mv
          by_cases h2 : x.1 ≤ u - k * w
          · rw [if_pos h2, if_pos (by omega)]; congr 1; omega
          · rw [if_neg h2, if_neg (by omega)]
        · rw [if_neg hk]
          symm
          have : ∀ x ∈ l, (fun x : Nat × Rat => ((x.1 : Rat) * x.2) * (if x.1 ≤ u then if k * w ≤ u - x.1 then f (u - x.1 - k * w) else 0 else 0)) x = (fun _ => (0 : Rat) * 0) x := fun x _ => by
            show _ * (if x.1 ≤ u then if k * w ≤ u - x.1 then f (u - x.1 - k * w) else 0 else 0) = 0 * 0
            by_cases h2 : x.1 ≤ u
            · rw [if_pos h2, if_neg (by omega)]; grind
            · rw [if_neg h2]; grind
          rw [lsum_congr this, lsum_mul, Rat.zero_mul]
      rw [this, Rat.mul_comm, ← lsum_mul]
      exact lsum_congr fun x _ => by grind
    rw [su_congr fun k _ => e2 k, su_lsum (fun (x : Nat × Rat) k => ((x.1 : Rat) * x.2) * (mv x.1 (mv (k * w) f) u * tR q k))]
    refine lsum_congr fun x _ => ?_
    rw [su_mul]
    congr 1
    by_cases hx : x.1 ≤ u
    · have : mv x.1 (cw w q f) u = cw w q f (u - x.1) := by unfold mv; rw [if_pos hx]
      rw [this, cw_far hw q f (show (u - x.1) / w + 1 ≤ u + 1 by have := div_le_u hw (u - x.1); omega)]
      refine su_congr fun k _ => ?_
      congr 1
      show (if x.1 ≤ u then mv (k * w) f (u - x.1) else 0) = _
      rw [if_pos hx]
    · have : mv x.1 (cw w q f) u = 0 := by unfold mv; rw [if_neg hx]
      rw [this]
      refine su_zero fun k _ => ?_
      show (if x.1 ≤ u then mv (k * w) f (u - x.1) else 0) * _ = 0
      rw [if_neg hx, Rat.zero_mul]
  · rw [su_first]
    have e3 : ((0 * w : Nat) : Rat) * (mv (0 * w) f u * tR q 0) = 0 := by rw [Nat.zero_mul]; exact Rat.zero_mul _
    rw [e3, Rat.zero_add]
    have e4 : ∀ k : Nat, (((k + 1) * w : Nat) : Rat) * (mv ((k + 1) * w) f u * tR q (k + 1)) = ((w : Rat) * q) * (mv w (mv (k * w) f) u * tR q k) := fun k => by
      rw [mv_mv, show k * w + w = (k + 1) * w by rw [Nat.add_mul, Nat.one_mul], cast_mul]
      have := tR_next q k
      generalize ((k + 1 : Nat) : Rat) = c at *
      generalize tR q (k + 1) = t at *
      grind
    rw [su_congr fun k _ => e4 k, su_mul]
    show _ = (w : Rat) * q * mv w (cw w q f) u
    congr 1
    by_cases hx : w ≤ u
    · have : mv w (cw w q f) u = cw w q f (u - w) := by unfold mv; rw [if_pos hx]
      rw [this, cw_far hw q f (show (u - w) / w + 1 ≤ u by
        have := Nat.div_le_self (u - w) w
        omega)]
      refine su_congr fun k _ => ?_
      congr 1
      show (if w ≤ u then mv (k * w) f (u - w) else 0) = _
      rw [if_pos hx]
    · have : mv w (cw w q f) u = 0 := by unfold mv; rw [if_neg hx]
      rw [this]
      refine su_zero fun k _ => ?_
      show (if w ≤ u then mv (k * w) f (u - w) else 0) * _ = 0
      rw [if_neg hx, Rat.zero_mul]
def cvl (l : List (Nat × Rat)) : Nat → Rat := l.foldl (fun f x => cw x.1 x.2 f) e0
theorem cvl_app (l : List (Nat × Rat)) (x : Nat × Rat) : cvl (l ++ [x]) = cw x.1 x.2 (cvl l) := by
  unfold cvl
  rw [List.foldl_append]; rfl
theorem rev_ind {α : Type} {P : List α → Prop} (h0 : P []) (h1 : ∀ l x, P l → P (l ++ [x])) (l : List α) : P l := by
  have : ∀ l : List α, P l.reverse := fun l => by
    induction l with
    | nil => exact h0
    | cons x l ih => rw [List.reverse_cons]; exact h1 _ _ ih
  have h := this l.reverse
  rwa [List.reverse_reverse] at h
theorem rq_cvl (l : List (Nat × Rat)) (h : ∀ x ∈ l, 0 < x.1) : RQ l (cvl l) := by
  induction l using rev_ind with
  | h0 => exact rq_nil
  | h1 l x ih =>
    rw [cvl_app]
    exact rq_step (h x (by simp)) (ih fun y hy => h y (by simp [hy]))
/-! ### the standings -/
structure Sd where
  c : List Nat
  u : Nat
  x : Rat
def sdStep (N : Nat) (l : List Sd) (k : Nat × Rat) : List Sd := l.flatMap fun s => (List.range (N / k.1 + 1)).map fun j => ⟨s.c ++ [j], s.u + j * k.1, s.x * tR k.2 j⟩
def sds (N : Nat) (l : List (Nat × Rat)) : List Sd := l.foldl (sdStep N) [⟨[], 0, 1⟩]
theorem sds_app (N : Nat) (l : List (Nat × Rat)) (x : Nat × Rat) : sds N (l ++ [x]) = sdStep N (sds N l) x := by
  unfold sds
  rw [List.foldl_append]; rfl
def at0 (u : Nat) (s : Sd) : Rat := if s.u = u then s.x else 0
theorem lsum_flat {α β : Type} (g : β → Rat) (f : α → List β) : ∀ l : List α, lsum g (l.flatMap f) = lsum (fun x => lsum g (f x)) l
  | [] => rfl
  | x :: l => by rw [List.flatMap_cons, lsum_append, lsum_cons, lsum_flat g f l]
theorem lsum_range (g : Nat → Rat) : ∀ n, lsum g (List.range n) = su g n
  | 0 => rfl
  | n + 1 => by rw [List.range_succ, lsum_app, lsum_range g n]; rfl
theorem lsum_map {α β : Type} (g : β → Rat) (f : α → β) : ∀ l : List α, lsum g (l.map f) = lsum (fun x => g (f x)) l
  | [] => rfl
  | x :: l => by rw [List.map_cons, lsum_cons, lsum_cons, lsum_map g f l]
theorem sds_sum {N : Nat} (l : List (Nat × Rat)) (h : ∀ x ∈ l, 0 < x.1) : ∀ u, u ≤ N → lsum (at0 u) (sds N l) = cvl l u := by
  induction l using rev_ind with
  | h0 =>
    intro u _
    show 0 + at0 u ⟨[], 0, 1⟩ = e0 u
    unfold at0 e0
    rw [Rat.zero_add]
    by_cases hu : u = 0
    · subst hu; rfl
    · rw [if_neg hu, if_neg (by show ¬ (0 = u); omega)]
  | h1 l x ih =>
    intro u hu
    have hw : 0 < x.1 := h x (by simp)
    have ih := ih fun y hy => h y (by simp [hy])
    rw [cvl_app, sds_app, cw_far hw x.2 (cvl l) (show u / x.1 + 1 ≤ N / x.1 + 1 from Nat.succ_le_succ (Nat.div_le_div_right hu))]
    unfold sdStep
    rw [lsum_flat]
    have e1 : ∀ s ∈ sds N l, lsum (at0 u) ((List.range (N / x.1 + 1)).map fun j => (⟨s.c ++ [j], s.u + j * x.1, s.x * tR x.2 j⟩ : Sd)) = su (fun j => mv (j * x.1) (fun v => at0 v s) u * tR x.2 j) (N / x.1 + 1) := fun s _ => by
      rw [lsum_map, lsum_range]
      refine su_congr fun j _ => ?_
      unfold at0 mv
      by_cases hj : j * x.1 ≤ u
      · rw [if_pos hj]
        show (if s.u + j * x.1 = u then s.x * tR x.2 j else 0) = (if s.u = u - j * x.1 then s.x else 0) * tR x.2 j
        by_cases h2 : s.u = u - j * x.1
        · rw [if_pos h2, if_pos (by omega)]
        · rw [if_neg h2, if_neg (by omega), Rat.zero_mul]
      · rw [if_neg hj, Rat.zero_mul]
        show (if s.u + j * x.1 = u then s.x * tR x.2 j else 0) = 0
        rw [if_neg (by omega)]
    rw [lsum_congr e1, lsum_su (fun s j => mv (j * x.1) (fun v => at0 v s) u * tR x.2 j)]
    refine su_congr fun j _ => ?_
    rw [← lsum_congr (fun s _ => Rat.mul_comm (tR x.2 j) (mv (j * x.1) (fun v => at0 v s) u)), lsum_mul, Rat.mul_comm]
    congr 1
    unfold mv
    by_cases hj : j * x.1 ≤ u
    · rw [if_pos hj, ← ih (u - j * x.1) (by omega)]
      refine lsum_congr fun s _ => ?_
      rw [if_pos hj]
    · rw [if_neg hj]
      have : ∀ s ∈ sds N l, (if j * x.1 ≤ u then at0 (u - j * x.1) s else 0) = (0 : Rat) * 0 := fun s _ => by rw [if_neg hj]; grind
      rw [lsum_congr this, lsum_mul, Rat.zero_mul]
end VS
set_option Elab.async false
set_option linter.all false
set_option maxRecDepth 100000
namespace VS
open PySem PySem.Spec L2
open PyProof.Rows hiding St
theorem shp_fD (q : Rat) : Shp 1 (fD q) := Shp.tuple (n := 0) fun d hd => by
  rcases List.mem_cons.mp hd with rfl | hd
  · exact .int _ _
  · rcases List.mem_cons.mp hd with rfl | hd
    · exact .int _ _
    · exact nomatch hd
theorem shp_fDs {β : Type} (l : List β) (f : β → Rat) : Shp 2 (.list (l.map fun k => fD (f k))) := Shp.list fun d hd => by
  obtain ⟨k, _, rfl⟩ := List.mem_map.mp hd
  exact shp_fD _
theorem eq_fD (a b : Rat) : eqD (fD a) (fD b) = .ok (decide (a = b)) := by
  unfold eqD
  rw [if_pos ⟨(shp_fD a).shaped (by decide), (shp_fD b).shaped (by decide)⟩]
  show R.ok ((a.num == b.num) && (((a.den : Int) == (b.den : Int)) && true)) = _
  congr 1
  rw [Bool.and_true, Bool.eq_iff_iff]
  simp only [Bool.and_eq_true, beq_iff_eq, decide_eq_true_eq]
  constructor
  · rintro ⟨h1, h2⟩
    exact Rat.ext h1 (by omega)
  · rintro rfl
    exact ⟨rfl, rfl⟩
/-! ### the draws -/
def iL (l : List Int) : D := .list (l.map fun i => PyData.int i)
def Dr (l : List Int) : Prop := ∀ x ∈ l, 0 ≤ x ∧ x < 1000003
theorem Dr.app {l : List Int} {x : Int} (h : Dr l) (h1 : 0 ≤ x) (h2 : x < 1000003) : Dr (l ++ [x]) := fun y hy => by
  rcases List.mem_append.mp hy with z | z
  · exact h y z
  · rw [List.mem_singleton.mp z]; exact ⟨h1, h2⟩
theorem immL_ints (l : List Int) : immL (l.map fun i => PyData.int i) = true := immL_all fun d hd => by
  obtain ⟨i, _, rfl⟩ := List.mem_map.mp hd
  rfl
theorem q_pow18 : aOp .Pow 10 18 = .ok (.int 1000000000000000000) := rfl
theorem cut_to {α : Type} (xs : List α) (m : Nat) : cutD xs none (some (m : Int)) = xs.take m := by
  unfold cutD
  rw [HT.sIx_none, HT.sIx_nat, List.drop_zero, Nat.sub_zero]
  by_cases h : m ≤ xs.length
  · rw [Nat.min_eq_left h]
  · rw [Nat.min_eq_right (by omega), List.take_of_length_le (Nat.le_refl _), List.take_of_length_le (by omega)]
theorem app_ints (l : List Int) (x : Int) : (l.map fun i => PyData.int i) ++ [PyData.int x] = (l ++ [x]).map fun i => PyData.int i := by rw [List.map_append]; rfl
theorem len_iL (l : List Int) : blt1 .len (iL l) = .ok (.int (l.length : Int)) := by
  show R.ok (PyData.int ((l.map fun i => PyData.int i).length : Int)) = _
  rw [List.length_map]
theorem q_appI {j : Nat} {tf : Bool} {es : E} {δ : Sl} {l : List Int} {x : Int} (h1 : slotD δ j = .ok (iL l)) (h2 : evl es δ = .ok [.int x]) (h : l.length < 1000000) : sev (.mu .app tf (.sl j) es) δ = .nx (δ.set j (some (iL (l ++ [x])))) := by
  rw [q_app, h1, q_lok]
  show lft δ (nox (modG tf .ok [] (.list (l.map fun i => PyData.int i)))) _ = _
  rw [q_modL, q_ok, q_nox, q_lok, h2, q_lok]
  show lft δ (nox (modG tf (mop .app [.int x]) [] (.list (l.map fun i => PyData.int i)))) _ = _
  rw [q_modL, q_mopA, if_pos (by rw [List.length_map]; exact szl h), q_ok, q_nox, q_lok, app_ints]
  rfl
def dL (ns : List Int) (m : Int) (l : List Int) (x3 x4 x5 x6 x7 : Option D) : Sl := [some (iL ns), some (.int m), some (iL l), x3, x4, x5, x6, x7]
theorem f_draws (ns : List Int) (hns : ns.length ≤ 63) (m : Nat) (hm : m ≤ 1000) : ∃ l : List Int, F_law_draws [iL ns, .int (m : Int)] = .ok (iL l) ∧ l.length = m ∧ Dr l := by
  suffices h : ∃ l : List Int, sev T_law_draws [some (iL ns), some (.int (m : Int)), none, none, none, none, none, none] = .rt (iL l) ∧ l.length = m ∧ Dr l by
    obtain ⟨l, h1, h2⟩ := h
    exact ⟨l, F_rt (s := T_law_draws) (δ := [some (iL ns), some (.int (m : Int)), none, none, none, none, none, none]) rfl rfl h1, h2⟩
  unfold T_law_draws
  refine P_sq (W := fun o => ∃ l : List Int, o = .rt (iL l) ∧ l.length = m ∧ Dr l) (δ1 := dL ns m [] none none none none none) (by simp [sz]; rfl) ?_
  refine P_for (W := fun o => ∃ l : List Int, o = .rt (iL l) ∧ l.length = m ∧ Dr l) ((ns.take 63).map fun i => PyData.int i) (by
    show (ev (.slc (.sl 0) .nop (.prt (.k (.int 63)))) _ >>= iterD) = _
    simp only [q_slc, q_sl, dL, q_s0, q_ok, q_nop, q_prt, q_ki, q_intD, iL, q_slcL, q_itL]
    rw [show (63 : Int) = ((63 : Nat) : Int) from rfl, cut_to, List.map_take]) (by rw [immL_ints]; rfl)
    (fun i δ => ∃ l x3 x4 x5 x6, δ = dL ns m l x3 x4 x5 x6 none ∧ Dr l ∧ l.length ≤ 60 * i) ⟨[], _, _, _, _, rfl, (by intro x h; cases h), by simp⟩ (fun i δ hi hI => ?_) (fun δ' hI => ?_)
  · obtain ⟨l, x3, x4, x5, x6, rfl, hl, hlen⟩ := hI
    have hi63 : i < 63 := by
      have : i < min 63 ns.length := by simpa using hi
      omega
    rw [List.getElem_map]
    generalize (ns.take 63)[i]'(by simpa using hi) = c
    refine ⟨dL ns m l (some (.int c)) x4 x5 x6 none, ?_⟩
    suffices h : ∃ δ', sev _ (dL ns m l (some (.int c)) x4 x5 x6 none) = .nx δ' ∧ ∃ l x3 x4 x5 x6, δ' = dL ns m l x3 x4 x5 x6 none ∧ Dr l ∧ l.length ≤ 60 * (i + 1) by
      obtain ⟨δ', h1, h2⟩ := h
      exact ⟨δ', rfl, h1, h2⟩
    -- number
    generalize hW : (fun o : Out => ∃ δ', o = .nx δ' ∧ ∃ l x3 x4 x5 x6, δ' = dL ns m l x3 x4 x5 x6 none ∧ Dr l ∧ l.length ≤ 60 * (i + 1)) = W
    show (fun o : Out => ∃ δ', o = .nx δ' ∧ ∃ l x3 x4 x5 x6, δ' = dL ns m l x3 x4 x5 x6 none ∧ Dr l ∧ l.length ≤ 60 * (i + 1)) _
    rw [hW]
    have e : (if c < 0 then -c else c) = (c.natAbs : Int) := by split <;> omega
    refine P_sq (δ1 := dL ns m l (some (.int c)) (some (.int (c.natAbs : Int))) x5 x6 none) (by simp [dL, e]) ?_
    subst hW
    by_cases hbig : (1000000000000000000 : Int) ≤ (c.natAbs : Int)
    · -- a great number
      refine P_ife (W := fun o : Out => ∃ δ', o = .nx δ' ∧ ∃ l x3 x4 x5 x6, δ' = dL ns m l x3 x4 x5 x6 none ∧ Dr l ∧ l.length ≤ 60 * (i + 1)) (J := fun δ' => ∃ l x3 x4 x5 x6, δ' = dL ns m l x3 x4 x5 x6 none ∧ Dr l ∧ l.length ≤ 60 * (i + 1)) (bb := true) (by simp [dL, q_pow18, hbig]) (fun _ => ?_) (fun h => nomatch h) (fun δ' h => ⟨δ', rfl, h⟩)
      refine P_rng (W := fun o : Out => ∃ δ', o = .nx δ' ∧ ∃ l x3 x4 x5 x6, δ' = dL ns m l x3 x4 x5 x6 none ∧ Dr l ∧ l.length ≤ 60 * (i + 1)) 60 rfl (by decide) (by decide)
        (fun k δ => ∃ l x3 x5 x6, ∃ z : Int, δ = dL ns m l x3 (some (.int z)) x5 x6 none ∧ 0 ≤ z ∧ Dr l ∧ l.length ≤ 60 * i + k) ⟨l, _, _, _, _, rfl, by omega, hl, by omega⟩ (fun k δ hk hI => ?_) (fun δ' hI => ?_)
      · obtain ⟨l, x3, x5, x6, z, rfl, hz, hl, hlen⟩ := hI
        have hk60 : k < 60 := hk
        show ∃ δ', sev _ (dL ns m l x3 (some (.int z)) (some (.int (k : Int))) x6 none) = _ ∧ _
        refine P_ife (W := fun o : Out => ∃ δ', o = .nx δ' ∧ ∃ l x3 x5 x6, ∃ z : Int, δ' = dL ns m l x3 (some (.int z)) x5 x6 none ∧ 0 ≤ z ∧ Dr l ∧ l.length ≤ 60 * i + (k + 1)) (J := fun δ' => ∃ l x3 x5 x6, ∃ z : Int, δ' = dL ns m l x3 (some (.int z)) x5 x6 none ∧ 0 ≤ z ∧ Dr l ∧ l.length ≤ 60 * i + (k + 1)) (bb := decide (0 < z)) (by simp [dL]) (fun _ => ?_) (fun _ => ?_) (fun δ' h => ⟨δ', rfl, h⟩)
        · have e1 : aOp .Mod z 1000003 = .ok (.int (z % 1000003)) := q_mod (by decide)
          have e2 : aOp .FloorDiv z 1000003 = .ok (.int (z / 1000003)) := q_div (by decide) (by decide)
          refine ⟨dL ns m (l ++ [z % 1000003]) x3 (some (.int (z / 1000003))) (some (.int (k : Int))) x6 none, ?_, _, _, _, _, _, rfl, by omega, hl.app (by omega) (by omega), by rw [List.length_append]; simp; omega⟩
          refine sq (q_appI (l := l) (x := z % 1000003) rfl (by simp [dL, e1]) (by omega)) ?_
          show sev _ (dL ns m (l ++ [z % 1000003]) x3 (some (.int z)) (some (.int (k : Int))) x6 none) = _
          simp [dL, e2]
        · exact ⟨_, rfl, _, _, _, _, _, rfl, hz, hl, by omega⟩
      · obtain ⟨l, x3, x5, x6, z, rfl, hz, hl, hlen⟩ := hI
        have hlen : l.length ≤ 60 * i + 60 := hlen
        exact ⟨_, rfl, _, _, _, _, _, rfl, hl, by omega⟩
    · -- a small one
      have hsm : mulOk (c.natAbs : Int) 48271 := .inl (by omega)
      refine P_ife (W := fun o : Out => ∃ δ', o = .nx δ' ∧ ∃ l x3 x4 x5 x6, δ' = dL ns m l x3 x4 x5 x6 none ∧ Dr l ∧ l.length ≤ 60 * (i + 1)) (J := fun δ' => ∃ l x3 x4 x5 x6, δ' = dL ns m l x3 x4 x5 x6 none ∧ Dr l ∧ l.length ≤ 60 * (i + 1)) (bb := false) (by simp [dL, q_pow18]; omega) (fun h => nomatch h) (fun _ => ?_) (fun δ' h => ⟨δ', rfl, h⟩)
      have m7 : ∀ z : Int, mulOk 7 z := fun z => .inl (by decide)
      have e1 : ∀ z : Int, aOp .Mod z 2147483647 = .ok (.int (z % 2147483647)) := fun z => q_mod (by decide)
      have e2 : ∀ z : Int, aOp .Mod z 2147483629 = .ok (.int (z % 2147483629)) := fun z => q_mod (by decide)
      have e3 : ∀ z : Int, aOp .Mod z 1000003 = .ok (.int (z % 1000003)) := fun z => q_mod (by decide)
      have e4 : ∀ z : Int, aOp .FloorDiv z 65536 = .ok (.int (z / 65536)) := fun z => q_div (by decide) (by decide)
      have e5 : ∀ z : Int, aOp .FloorDiv z 8 = .ok (.int (z / 8)) := fun z => q_div (by decide) (by decide)
      have m13 : ∀ z : Int, mulOk 13 z := fun z => .inl (by decide)
      refine P_sq (W := fun o : Out => ∃ δ', o = .nx δ' ∧ ∃ l x3 x4 x5 x6, δ' = dL ns m l x3 x4 x5 x6 none ∧ Dr l ∧ l.length ≤ 60 * (i + 1)) (δ1 := dL ns m l (some (.int c)) (some (.int (c.natAbs : Int))) x5 (some (.int (((c.natAbs : Int) * 48271 + 7 * (l.length : Int) + 11) % 2147483647))) none) (by
        simp [dL, q_mul hsm, q_mul (m7 _), len_iL, e1]) ?_
      refine P_rng (W := fun o : Out => ∃ δ', o = .nx δ' ∧ ∃ l x3 x4 x5 x6, δ' = dL ns m l x3 x4 x5 x6 none ∧ Dr l ∧ l.length ≤ 60 * (i + 1)) 4 rfl (by decide) (by decide)
        (fun k δ => ∃ l x3 x4 x5, ∃ z : Int, δ = dL ns m l x3 x4 x5 (some (.int z)) none ∧ 0 ≤ z ∧ z < 4294967296 ∧ Dr l ∧ l.length ≤ 60 * i + k) ⟨l, _, _, _, _, rfl, by omega, by omega, hl, by omega⟩ (fun k δ hk hI => ?_) (fun δ' hI => ?_)
      · obtain ⟨l, x3, x4, x5, z, rfl, hz, hz2, hl, hlen⟩ := hI
        have hk4 : k < 4 := hk
        have hzm : mulOk z 69621 := .inl (by omega)
        show ∃ δ', sev _ (dL ns m l x3 x4 (some (.int (k : Int))) (some (.int z)) none) = _ ∧ _
        generalize hv : (z * 69621 + z / 65536 + 13 * (k : Int) + 5) % 2147483629 = v
        have hv1 : 0 ≤ v ∧ v < 2147483629 := by omega
        refine ⟨dL ns m (l ++ [v / 8 % 1000003]) x3 x4 (some (.int (k : Int))) (some (.int v)) none, ?_, _, _, _, _, _, rfl, by omega, by omega, hl.app (by omega) (by omega), by rw [List.length_append]; simp; omega⟩
        refine sq (δ1 := dL ns m l x3 x4 (some (.int (k : Int))) (some (.int v)) none) (by simp [dL, q_mul hzm, q_mul (m13 _), e4, e2, hv]) ?_
        exact sq (q_appI (l := l) (x := v / 8 % 1000003) rfl (by simp [dL, e5, e3]) (by omega)) rfl
      · obtain ⟨l, x3, x4, x5, z, rfl, hz, hz2, hl, hlen⟩ := hI
        have hlen : l.length ≤ 60 * i + 4 := hlen
        exact ⟨_, rfl, _, _, _, _, _, rfl, hl, by omega⟩
  · -- the rest
    obtain ⟨l, x3, x4, x5, x6, rfl, hl, hlen⟩ := hI
    have hlen : l.length ≤ 3780 := by
      rw [List.length_map, List.length_take] at hlen
      omega
    refine P_rng (W := fun o => ∃ l : List Int, o = .rt (iL l) ∧ l.length = m ∧ Dr l) (m : Int) rfl (by omega) (by omega)
      (fun k δ => ∃ l x3 x4 x5 x6 x7, δ = dL ns m l x3 x4 x5 x6 x7 ∧ Dr l ∧ k ≤ l.length ∧ l.length ≤ 3780 + k) ⟨l, _, _, _, _, _, rfl, hl, by omega, by omega⟩ (fun k δ hk hI => ?_) (fun δ' hI => ?_)
    · obtain ⟨l, x3, x4, x5, x6, x7, rfl, hl, hlk, hlen⟩ := hI
      have hkm : k < m := by omega
      show ∃ δ', sev _ (dL ns m l x3 x4 (some (.int (k : Int))) x6 x7) = _ ∧ _
      refine P_ife (W := fun o : Out => ∃ δ', o = .nx δ' ∧ ∃ l x3 x4 x5 x6 x7, δ' = dL ns m l x3 x4 x5 x6 x7 ∧ Dr l ∧ k + 1 ≤ l.length ∧ l.length ≤ 3780 + (k + 1)) (J := fun δ' => ∃ l x3 x4 x5 x6 x7, δ' = dL ns m l x3 x4 x5 x6 x7 ∧ Dr l ∧ k + 1 ≤ l.length ∧ l.length ≤ 3780 + (k + 1)) (bb := decide ((l.length : Int) < (m : Int))) (by simp [dL, len_iL]) (fun hb => ?_) (fun hb => ?_) (fun δ' h => ⟨δ', rfl, h⟩)
      · have hlm : l.length < m := by
          have := of_decide_eq_true hb
          omega
        refine P_sq (W := fun o : Out => ∃ δ', o = .nx δ' ∧ ∃ l x3 x4 x5 x6 x7, δ' = dL ns m l x3 x4 x5 x6 x7 ∧ Dr l ∧ k + 1 ≤ l.length ∧ l.length ≤ 3780 + (k + 1)) (δ1 := dL ns m l x3 x4 (some (.int (k : Int))) x6 (some (.int 0))) (by simp [dL]) ?_
        refine P_ife (W := fun o : Out => ∃ δ', o = .nx δ' ∧ ∃ l x3 x4 x5 x6 x7, δ' = dL ns m l x3 x4 x5 x6 x7 ∧ Dr l ∧ k + 1 ≤ l.length ∧ l.length ≤ 3780 + (k + 1)) (J := fun δ' => ∃ v : Int, δ' = dL ns m l x3 x4 (some (.int (k : Int))) x6 (some (.int v)) ∧ 0 ≤ v ∧ v < 1000003) (bb := decide ((0 : Int) < (l.length : Int))) (by simp [dL, len_iL]) (fun hb => ?_) (fun hb => ⟨_, rfl, 0, rfl, by decide, by decide⟩) (fun δ' hJ => ?_)
        · have hl0 : 0 < l.length := by
            have := of_decide_eq_true hb
            omega
          have hmod : k % l.length < l.length := Nat.mod_lt _ hl0
          have e1 : aOp .Mod (k : Int) (l.length : Int) = .ok (.int ((k % l.length : Nat) : Int)) := q_mod (by omega)
          have e2 : ixD (iL l) (.int ((k % l.length : Nat) : Int)) = .ok (.int l[k % l.length]) := q_ixN (by rw [List.getElem?_map, List.getElem?_eq_getElem hmod]; rfl)
          have := hl l[k % l.length] (List.getElem_mem hmod)
          refine ⟨dL ns m l x3 x4 (some (.int (k : Int))) x6 (some (.int l[k % l.length])), ?_, _, rfl, this.1, this.2⟩
          have e3 : blt1 .len (iL l) = .ok (.int (l.length : Int)) := len_iL l
          generalize iL l = L at e2 e3
          refine sq ?_ rfl
          show sev _ [some (iL ns), some (.int (m : Int)), some (iL l), x3, x4, some (.int (k : Int)), x6, some (.int 0)] = .nx [some (iL ns), some (.int (m : Int)), some (iL l), x3, x4, some (.int (k : Int)), x6, some (.int l[k % l.length])]
          have e2' : ixD (iL l) (.int ((k % l.length : Nat) : Int)) = .ok (.int l[k % l.length]) := q_ixN (by rw [List.getElem?_map, List.getElem?_eq_getElem hmod]; rfl)
          simp only [q_sasg, q_cI, q_ix, q_sl, q_s1, q_s0, q_ari, q_blt, q_cons, q_nil, q_ok, q_blt1, len_iL, q_ii, e1, e2', q_ci, if_true, q_lok, q_t1, List.set_cons_succ, List.set_cons_zero]
        · obtain ⟨v, rfl, hv1, hv2⟩ := hJ
          have m1 : mulOk v 16807 := .inl (by omega)
          have m31 : ∀ z : Int, mulOk 31 z := fun z => .inl (by decide)
          have e3 : ∀ z : Int, aOp .Mod z 1000003 = .ok (.int (z % 1000003)) := fun z => q_mod (by decide)
          refine ⟨dL ns m (l ++ [(v * 16807 + 31 * (l.length : Int) + 17) % 1000003]) x3 x4 (some (.int (k : Int))) x6 (some (.int v)), ?_, _, _, _, _, _, _, rfl, hl.app (by omega) (by omega), by rw [List.length_append]; simp; omega, by rw [List.length_append]; simp; omega⟩
          exact sq (q_appI (l := l) (x := (v * 16807 + 31 * (l.length : Int) + 17) % 1000003) rfl (by simp [dL, len_iL, q_mul m1, q_mul (m31 _), e3]) (by omega)) rfl
      · have : ¬ (l.length : Int) < (m : Int) := of_decide_eq_false hb
        exact ⟨_, rfl, _, _, _, _, _, _, rfl, hl, by omega, by omega⟩
    · obtain ⟨l, x3, x4, x5, x6, x7, rfl, hl, hlk, hlen⟩ := hI
      have hlk : m ≤ l.length := by simpa using hlk
      refine ⟨l.take m, ?_, by rw [List.length_take]; omega, fun x hx => hl x (List.mem_of_mem_take hx)⟩
      refine sqx ?_
      show sev (.ret (.cL (.slc (.sl 2) .nop (.prt (.sl 1))))) [some (iL ns), some (.int (m : Int)), some (.list (l.map fun i => PyData.int i)), x3, x4, x5, x6, x7] = _
      simp only [q_sret, q_cL, q_slc, q_sl, q_s1, q_s0, q_ok, q_nop, q_prt, q_intD, q_slcL, cut_to, ← List.map_take, immL_ints, if_true, q_lok]
      rfl
theorem dr_at {l : List Int} (h : Dr l) {k : Nat} (hk : k < l.length) : ∃ x : Int, ixD (iL l) (.int (k : Int)) = .ok (.int x) ∧ 0 ≤ x ∧ x < 1000003 :=
  ⟨l[k], q_ixN (by rw [List.getElem?_map, List.getElem?_eq_getElem hk]; rfl), h _ (List.getElem_mem hk)⟩
theorem Ld_of {a b : Int} (h1 : 0 < a) (h2 : a ≤ 1000) (h3 : 0 < b) (h4 : b ≤ 1000) : Ld (Rat.divInt a b) := by
  refine ⟨?_, ?_, ?_⟩
  · rw [Rat.divInt_eq_div, Rat.div_def]
    exact Rat.mul_pos (Rat.intCast_pos.mpr h1) (Rat.inv_pos.mpr (Rat.intCast_pos.mpr h3))
  · rw [Rat.num_divInt, Int.sign_eq_one_of_pos h3, Int.one_mul]
    exact Int.le_trans (Int.ediv_le_self _ (by omega)) h2
  · rw [Rat.den_divInt, if_neg (by omega)]
    exact Nat.le_trans (Nat.div_le_self _ _) (by omega)
theorem small_log {s : Int} (h : s.natAbs < 2 ^ 64) : s.natAbs.log2 < 9000 := Nat.lt_trans (log2_lt' h (by decide)) (by decide)
theorem f_ld {a b : Int} (h1 : 0 < a) (h2 : a ≤ 1000) (h3 : 0 < b) (h4 : b ≤ 1000) : ∃ q, F_law_fraction [.int a, .int b] = .ok (fD q) ∧ Ld q :=
  ⟨_, f_lfraction (by omega) (small_log (by omega)), Ld_of h1 h2 h3 h4⟩
theorem eq_pair (a b c d : Int) : eqD (.tuple [.int a, .int b]) (.tuple [.int c, .int d]) = .ok (decide (a = c ∧ b = d)) := by
  have sh : ∀ a b : Int, SeqAt.shaped (.tuple [.int a, .int b]) = true := fun a b => rfl
  unfold eqD
  rw [if_pos ⟨sh _ _, sh _ _⟩]
  show R.ok ((a == c) && ((b == d) && true)) = _
  congr 1
  rw [Bool.and_true, Bool.eq_iff_iff]
  simp
theorem Ld_nat {n : Nat} (h0 : 0 < n) (h : n ≤ 1000) : Ld (n : Rat) := ⟨cast_pos h0, by show (n : Int) ≤ 1000; omega, by show 1 ≤ 1000; decide⟩
theorem sq_no {c : E} {a t : S} {δ : Sl} {r : Out} (hc : ev c δ = .ok (.bool false)) (h : sev t δ = r) : sev (.seq (.ife c a .nil) t) δ = r := by
  refine sq (δ1 := δ) ?_ h
  rw [q_sife, hc]
  rfl
theorem nd_nat {a b : Nat} {q : Rat} (e : q = (a : Rat) / (b : Rat)) (h0 : 0 < b) : q.num.natAbs ≤ a ∧ q.den ≤ b := by
  have e : q = Rat.divInt (a : Int) (b : Int) := by rw [Rat.divInt_eq_div, Rat.intCast_natCast, Rat.intCast_natCast, e]
  subst e
  constructor
  · rw [Rat.num_divInt]
    refine Nat.le_trans (Int.natAbs_ediv_le_natAbs _ _) ?_
    rw [Int.natAbs_mul, Int.natAbs_sign_of_ne_zero (by omega), Nat.one_mul, Int.natAbs_natCast]
    exact Nat.le_refl _
  · rw [Rat.den_divInt, if_neg (by omega)]
    exact Nat.le_trans (Nat.div_le_self _ _) (by omega)
theorem f_powN {b n : Nat} (hb : b ≤ 1000) (hn : n ≤ 60) : F_law_power [.int (b : Int), .int (n : Int)] = .ok (.int ((b ^ n : Nat) : Int)) := by
  refine F_rt (s := T_law_power) (δ := [some (.int (b : Int)), some (.int (n : Int)), none, none]) rfl rfl ?_
  unfold T_law_power
  refine sq (δ1 := [some (.int (b : Int)), some (.int (n : Int)), some (.int 1), none]) rfl ?_
  refine sq_rng (n : Int) rfl (by omega) (by omega) (fun k δ => ∃ x, δ = [some (.int (b : Int)), some (.int (n : Int)), some (.int ((b ^ k : Nat) : Int)), x]) ⟨none, by rw [Nat.pow_zero]; rfl⟩ (fun k δ hk hI => ?_) (fun δ' hI => ?_)
  · obtain ⟨x, rfl⟩ := hI
    have m1 : mulOk ((b ^ k : Nat) : Int) (b : Int) := big_ok (by rw [Int.natAbs_natCast]; exact e20 (up20 (p10 hb (Nat.le_refl k) (by omega)) (by decide))) (by rw [Int.natAbs_natCast]; exact e20 (up20 (th10 hb) (by decide)))
    refine ⟨_, sq (δ1 := [some (.int (b : Int)), some (.int (n : Int)), some (.int ((b ^ (k + 1) : Nat) : Int)), some (.int (k : Int))]) ?_ rfl, _, rfl⟩
    rw [show ((b ^ (k + 1) : Nat) : Int) = ((b ^ k : Nat) : Int) * (b : Int) by rw [Nat.pow_succ, Int.natCast_mul]]
    simp only [List.set_cons_succ, List.set_cons_zero, q_sasg, q_ari, q_sl, q_s0, q_s1, q_ok, q_ii, q_mul m1, q_lok, q_t1]
  · obtain ⟨x, rfl⟩ := hI
    rfl
theorem f_ltimes {a b : Rat} (ha : Sm a) (hb : Sm b) : F_law_times [fD a, fD b] = .ok (fD (a * b)) := by
  refine F_rt (s := T_law_times) (δ := [some (fD a), some (fD b)]) rfl rfl ?_
  unfold T_law_times
  have m1 : mulOk a.num b.num := big_ok ha.1 hb.1
  have m2 : mulOk (a.den : Int) (b.den : Int) := big_ok (by simpa using ha.2) (by simpa using hb.2)
  have hd : (0 : Int) < (a.den : Int) * (b.den : Int) := Int.mul_pos (den_i a) (den_i b)
  have e := f_lfraction (p := a.num * b.num) (s := (a.den : Int) * (b.den : Int)) (by omega) (by
    rw [Int.natAbs_mul]
    exact big_log (by simpa using ha.2) (by simpa using hb.2))
  rw [show Rat.divInt (a.num * b.num) ((a.den : Int) * (b.den : Int)) = a * b by rw [Rat.mul_def', ← Rat.divInt_ofNat, Int.natCast_mul]] at e
  refine sqx ?_
  simp only [List.set_cons_succ, List.set_cons_zero, q_sasg, q_spar, q_sret, q_sretS, q_sife, q_snil, q_tn, q_tr, q_lst, q_tup, q_call, q_cons, q_nil, q_cI, q_ari, q_ix, q_sl, q_s0, q_s1, q_ki, q_kn, q_kb, q_ks, q_neg, q_negD, q_fi, q_ci, q_cb, q_cs, q_cn, if_true, q_ok, q_f0, q_f1, q_ii, q_add, q_sub, q_or, q_and, q_one, q_not, q_cmp, q_eq, q_ne, q_lt, q_le, q_gt, q_ge, q_is, q_isnot, q_isnN, q_isnI, q_isnL, q_isnT, q_notR, q_boolD, Bool.not_true, Bool.not_false, List.length_cons, List.length_nil, sz (show 0 + 1 ≤ 1000000 by decide), sz (show 0 + 1 + 1 ≤ 1000000 by decide), q_lok, q_t1, q_t2, q_t3, q_t4, q_blt, q_blt1, q_blt2, q_eqi, q_mul m1, q_mul m2, e]
theorem f_lplus {a b : Rat} (ha : Sm a) (hb : Sm b) : F_law_plus [fD a, fD b] = .ok (fD (a + b)) := by
  refine F_rt (s := T_law_plus) (δ := [some (fD a), some (fD b)]) rfl rfl ?_
  unfold T_law_plus
  have m1 : mulOk a.num (b.den : Int) := big_ok ha.1 (by simpa using hb.2)
  have m3 : mulOk b.num (a.den : Int) := big_ok hb.1 (by simpa using ha.2)
  have m2 : mulOk (a.den : Int) (b.den : Int) := big_ok (by simpa using ha.2) (by simpa using hb.2)
  have hd : (0 : Int) < (a.den : Int) * (b.den : Int) := Int.mul_pos (den_i a) (den_i b)
  have e := f_lfraction (p := a.num * (b.den : Int) + b.num * (a.den : Int)) (s := (a.den : Int) * (b.den : Int)) (by omega) (by
    rw [Int.natAbs_mul]
    exact big_log (by simpa using ha.2) (by simpa using hb.2))
  rw [show Rat.divInt (a.num * (b.den : Int) + b.num * (a.den : Int)) ((a.den : Int) * (b.den : Int)) = a + b by rw [Rat.add_def', ← Rat.divInt_ofNat, Int.natCast_mul]] at e
  refine sqx ?_
  simp only [List.set_cons_succ, List.set_cons_zero, q_sasg, q_spar, q_sret, q_sretS, q_sife, q_snil, q_tn, q_tr, q_lst, q_tup, q_call, q_cons, q_nil, q_cI, q_ari, q_ix, q_sl, q_s0, q_s1, q_ki, q_kn, q_kb, q_ks, q_neg, q_negD, q_fi, q_ci, q_cb, q_cs, q_cn, if_true, q_ok, q_f0, q_f1, q_ii, q_add, q_sub, q_or, q_and, q_one, q_not, q_cmp, q_eq, q_ne, q_lt, q_le, q_gt, q_ge, q_is, q_isnot, q_isnN, q_isnI, q_isnL, q_isnT, q_notR, q_boolD, Bool.not_true, Bool.not_false, List.length_cons, List.length_nil, sz (show 0 + 1 ≤ 1000000 by decide), sz (show 0 + 1 + 1 ≤ 1000000 by decide), q_lok, q_t1, q_t2, q_t3, q_t4, q_blt, q_blt1, q_blt2, q_eqi, q_mul m1, q_mul m2, q_mul m3, e]
def fL (f : Nat → Rat) (n : Nat) : D := .list ((List.range n).map fun k => fD (f k))
theorem fL_at {f : Nat → Rat} {n k : Nat} (h : k < n) : ixD (fL f n) (.int (k : Int)) = .ok (fD (f k)) :=
  q_ixN (by rw [List.getElem?_map, List.getElem?_range h]; rfl)
theorem fL_last {f : Nat → Rat} {k : Nat} : ixD (fL f (k + 1)) (.int (-1)) = .ok (fD (f k)) := by
  have : atI ((List.range (k + 1)).map fun k => fD (f k)) (-1) = some (fD (f k)) := by
    rw [List.range_succ, List.map_append]
    exact atI_last _ _
  exact q_ixL this
theorem q_appF {f : Nat → Rat} {j : Nat} {tf : Bool} {es : E} {δ : Sl} {n : Nat} (h1 : slotD δ j = .ok (fL f n)) (h2 : evl es δ = .ok [fD (f n)]) (h : n < 1000000) : sev (.mu .app tf (.sl j) es) δ = .nx (δ.set j (some (fL f (n + 1)))) := by
  rw [q_app, h1, q_lok]
  unfold fL
  rw [q_modL, q_ok, q_nox, q_lok, h2, q_lok, q_modL, q_mopA, if_pos (by rw [List.length_map, List.length_range]; exact szl h), q_ok, q_nox, q_lok, List.range_succ, List.map_append]
  rfl
theorem fL_eq (f : Nat → Rat) (n : Nat) : eqD (fL f n) (fL f n) = .ok true := eqD_self (shp_fDs _ _)
structure Sums (f F : Nat → Rat) (n : Nat) : Prop where
  z : F 0 = 0
  s : ∀ k, k < n → F (k + 1) = F k + f k
  a : ∀ k, k < n → Sm (f k)
  b : ∀ k, k ≤ n → Sm (F k)
theorem f_totalG {f F : Nat → Rat} {n : Nat} (h : Sums f F n) : Ftotal_of [fL f n] = .ok (fD (F n)) := by
  refine F_rt (s := Ttotal_of) (δ := [some (fL f n), none, none]) rfl rfl ?_
  unfold Ttotal_of
  refine sq (δ1 := [some (fL f n), some (fD (F 0)), none]) (by rw [h.z]; simp only [List.set_cons_succ, List.set_cons_zero, q_sasg, q_spar, q_sret, q_sretS, q_sife, q_snil, q_tn, q_tr, q_lst, q_tup, q_call, q_cons, q_nil, q_cI, q_ari, q_ix, q_sl, q_s0, q_s1, q_ki, q_kn, q_kb, q_ks, q_neg, q_negD, q_fi, q_ci, q_cb, q_cs, q_cn, if_true, q_ok, q_f0, q_f1, q_ii, q_add, q_sub, q_or, q_and, q_one, q_not, q_cmp, q_eq, q_ne, q_lt, q_le, q_gt, q_ge, q_is, q_isnot, q_isnN, q_isnI, q_isnL, q_isnT, q_notR, q_boolD, Bool.not_true, Bool.not_false, List.length_cons, List.length_nil, sz (show 0 + 1 ≤ 1000000 by decide), sz (show 0 + 1 + 1 ≤ 1000000 by decide), q_lok, q_t1, q_t2, q_t3, q_t4, q_blt, q_blt1, q_blt2, q_eqi]; rfl) ?_
  refine sq_for ((List.range n).map fun k => fD (f k)) rfl (by
    rw [immL_all fun d hd => by
      obtain ⟨i, _, rfl⟩ := List.mem_map.mp hd
      rfl]; rfl) (fun k δ => ∃ x, δ = [some (fL f n), some (fD (F k)), x]) ⟨_, rfl⟩ (fun k δ hk hI => ?_) (fun δ' hI => ?_)
  · obtain ⟨x, rfl⟩ := hI
    have hk' : k < n := by simpa using hk
    have e := f_plus (h.b k (by omega)) (h.a k hk')
    rw [← h.s k hk'] at e
    rw [List.getElem_map, List.getElem_range]
    refine ⟨_, _, rfl, sq (δ1 := [some (fL f n), some (fD (F (k + 1))), some (fD (f k))]) ?_ rfl, some (fD (f k)), rfl⟩
    simp only [List.set_cons_succ, List.set_cons_zero, q_sasg, q_spar, q_sret, q_sretS, q_sife, q_snil, q_tn, q_tr, q_lst, q_tup, q_call, q_cons, q_nil, q_cI, q_ari, q_ix, q_sl, q_s0, q_s1, q_ki, q_kn, q_kb, q_ks, q_neg, q_negD, q_fi, q_ci, q_cb, q_cs, q_cn, if_true, q_ok, q_f0, q_f1, q_ii, q_add, q_sub, q_or, q_and, q_one, q_not, q_cmp, q_eq, q_ne, q_lt, q_le, q_gt, q_ge, q_is, q_isnot, q_isnN, q_isnI, q_isnL, q_isnT, q_notR, q_boolD, Bool.not_true, Bool.not_false, List.length_cons, List.length_nil, sz (show 0 + 1 ≤ 1000000 by decide), sz (show 0 + 1 + 1 ≤ 1000000 by decide), q_lok, q_t1, q_t2, q_t3, q_t4, q_blt, q_blt1, q_blt2, q_eqi, e]
  · obtain ⟨x, rfl⟩ := hI
    rw [List.length_map, List.length_range]
    rfl
theorem f_ltotalG {f F : Nat → Rat} {n : Nat} (h : Sums f F n) : F_law_total [fL f n] = .ok (fD (F n)) := by
  refine F_rt (s := T_law_total) (δ := [some (fL f n), none, none]) rfl rfl ?_
  unfold T_law_total
  refine sq (δ1 := [some (fL f n), some (fD (F 0)), none]) (by rw [h.z]; simp only [List.set_cons_succ, List.set_cons_zero, q_sasg, q_spar, q_sret, q_sretS, q_sife, q_snil, q_tn, q_tr, q_lst, q_tup, q_call, q_cons, q_nil, q_cI, q_ari, q_ix, q_sl, q_s0, q_s1, q_ki, q_kn, q_kb, q_ks, q_neg, q_negD, q_fi, q_ci, q_cb, q_cs, q_cn, if_true, q_ok, q_f0, q_f1, q_ii, q_add, q_sub, q_or, q_and, q_one, q_not, q_cmp, q_eq, q_ne, q_lt, q_le, q_gt, q_ge, q_is, q_isnot, q_isnN, q_isnI, q_isnL, q_isnT, q_notR, q_boolD, Bool.not_true, Bool.not_false, List.length_cons, List.length_nil, sz (show 0 + 1 ≤ 1000000 by decide), sz (show 0 + 1 + 1 ≤ 1000000 by decide), q_lok, q_t1, q_t2, q_t3, q_t4, q_blt, q_blt1, q_blt2, q_eqi]; rfl) ?_
  refine sq_for ((List.range n).map fun k => fD (f k)) rfl (by
    rw [immL_all fun d hd => by
      obtain ⟨i, _, rfl⟩ := List.mem_map.mp hd
      rfl]; rfl) (fun k δ => ∃ x, δ = [some (fL f n), some (fD (F k)), x]) ⟨_, rfl⟩ (fun k δ hk hI => ?_) (fun δ' hI => ?_)
  · obtain ⟨x, rfl⟩ := hI
    have hk' : k < n := by simpa using hk
    have e := f_lplus (h.b k (by omega)) (h.a k hk')
    rw [← h.s k hk'] at e
    rw [List.getElem_map, List.getElem_range]
    refine ⟨_, _, rfl, sq (δ1 := [some (fL f n), some (fD (F (k + 1))), some (fD (f k))]) ?_ rfl, some (fD (f k)), rfl⟩
    simp only [List.set_cons_succ, List.set_cons_zero, q_sasg, q_spar, q_sret, q_sretS, q_sife, q_snil, q_tn, q_tr, q_lst, q_tup, q_call, q_cons, q_nil, q_cI, q_ari, q_ix, q_sl, q_s0, q_s1, q_ki, q_kn, q_kb, q_ks, q_neg, q_negD, q_fi, q_ci, q_cb, q_cs, q_cn, if_true, q_ok, q_f0, q_f1, q_ii, q_add, q_sub, q_or, q_and, q_one, q_not, q_cmp, q_eq, q_ne, q_lt, q_le, q_gt, q_ge, q_is, q_isnot, q_isnN, q_isnI, q_isnL, q_isnT, q_notR, q_boolD, Bool.not_true, Bool.not_false, List.length_cons, List.length_nil, sz (show 0 + 1 ≤ 1000000 by decide), sz (show 0 + 1 + 1 ≤ 1000000 by decide), q_lok, q_t1, q_t2, q_t3, q_t4, q_blt, q_blt1, q_blt2, q_eqi, e]
  · obtain ⟨x, rfl⟩ := hI
    rw [List.length_map, List.length_range]
    rfl
theorem f_sharedG {f F : Nat → Rat} {n : Nat} (h : Sums f F n) (h0 : 0 < F n) : Fshared_out [fL f n] = .ok (fL (fun k => f k / F n) n) := by
  have e := f_totalG h
  refine F_rt (s := Tshared_out) (δ := [some (fL f n), none, none]) rfl rfl ?_
  unfold Tshared_out
  refine sq (δ1 := [some (fL f n), some (fD (F n)), none]) (by simp only [List.set_cons_succ, List.set_cons_zero, q_sasg, q_spar, q_sret, q_sretS, q_sife, q_snil, q_tn, q_tr, q_lst, q_tup, q_call, q_cons, q_nil, q_cI, q_ari, q_ix, q_sl, q_s0, q_s1, q_ki, q_kn, q_kb, q_ks, q_neg, q_negD, q_fi, q_ci, q_cb, q_cs, q_cn, if_true, q_ok, q_f0, q_f1, q_ii, q_add, q_sub, q_or, q_and, q_one, q_not, q_cmp, q_eq, q_ne, q_lt, q_le, q_gt, q_ge, q_is, q_isnot, q_isnN, q_isnI, q_isnL, q_isnT, q_notR, q_boolD, Bool.not_true, Bool.not_false, List.length_cons, List.length_nil, sz (show 0 + 1 ≤ 1000000 by decide), sz (show 0 + 1 + 1 ≤ 1000000 by decide), q_lok, q_t1, q_t2, q_t3, q_t4, q_blt, q_blt1, q_blt2, q_eqi, e]) ?_
  refine sqx ?_
  rw [q_sret, ev_comp (List.range n) (fun k => fD (f k)) (fun k => fD (f k / F n)) rfl fun k hk => ?_]
  · rfl
  · have hk' : k < n := by simpa using hk
    have e := f_over (h.a k hk') (h.b n (Nat.le_refl _)) h0
    refine ⟨_, rfl, ?_⟩
    simp only [q_w1, q_w0, List.map_cons, List.map_nil, List.set_cons_succ, List.set_cons_zero, q_sasg, q_spar, q_sret, q_sretS, q_sife, q_snil, q_tn, q_tr, q_lst, q_tup, q_call, q_cons, q_nil, q_cI, q_ari, q_ix, q_sl, q_s0, q_s1, q_ki, q_kn, q_kb, q_ks, q_neg, q_negD, q_fi, q_ci, q_cb, q_cs, q_cn, if_true, q_ok, q_f0, q_f1, q_ii, q_add, q_sub, q_or, q_and, q_one, q_not, q_cmp, q_eq, q_ne, q_lt, q_le, q_gt, q_ge, q_is, q_isnot, q_isnN, q_isnI, q_isnL, q_isnT, q_notR, q_boolD, Bool.not_true, Bool.not_false, List.length_cons, List.length_nil, sz (show 0 + 1 ≤ 1000000 by decide), sz (show 0 + 1 + 1 ≤ 1000000 by decide), q_lok, q_t1, q_t2, q_t3, q_t4, q_blt, q_blt1, q_blt2, q_eqi, e]
structure Rp (q : Rat) (a b : Nat) : Prop where
  e : q = (a : Rat) / (b : Rat)
  p : 0 < b
theorem Rp.sm {q : Rat} {a b : Nat} (h : Rp q a b) (ha : a ≤ 2 ^ 2000) (hb : b ≤ 2 ^ 2000) : Sm q := Sm.nat h.e h.p (e20 ha) (e20 hb)
theorem Rp.mul {q r : Rat} {a b c d : Nat} (h : Rp q a b) (h2 : Rp r c d) : Rp (q * r) (a * c) (b * d) := by
  refine ⟨?_, Nat.mul_pos h.p h2.p⟩
  have h3 := cast_ne h.p
  have h4 := cast_ne h2.p
  rw [h.e, h2.e, cast_mul, cast_mul]
  grind
theorem Rp.nat (k : Nat) : Rp (k : Rat) k 1 := ⟨by show _ = (k : Rat) / 1; grind, by decide⟩
theorem Rp.ld {q : Rat} {a b : Nat} (h : Rp q a b) (h0 : 0 < a) (ha : a ≤ 1000) (hb : b ≤ 1000) : Ld q := by
  have h1 := nd_nat h.e h.p
  refine ⟨by rw [h.e]; exact div_pos' (cast_pos h0) (cast_pos h.p), by omega, by omega⟩
theorem Rp.frac {a b : Nat} (hb : 0 < b) (hb2 : b ≤ 1000) : F_law_fraction [.int (a : Int), .int (b : Int)] = .ok (fD ((a : Rat) / (b : Rat))) := by
  have e := f_lfraction (p := (a : Int)) (s := (b : Int)) (by omega) (small_log (by omega))
  rw [Rat.divInt_eq_div, Rat.intCast_natCast, Rat.intCast_natCast] at e
  exact e
theorem iw_log {a k : Nat} (h : a ≤ 2 ^ k) (hk : k < 8999) : ((a : Nat) : Int).natAbs.log2 < 9000 := by
  rw [Int.natAbs_natCast]
  exact Nat.lt_trans (log2_lt' (k := k + 1) (Nat.lt_of_le_of_lt h (Nat.pow_lt_pow_right (by decide) (by omega))) (by omega)) (by omega)
theorem sb {a k : Nat} (h : a ≤ 2 ^ k) (hk : k ≤ 2000) : ((a : Nat) : Int).natAbs < bigB := by rw [Int.natAbs_natCast]; exact e20 (up20 h hk)
theorem ev_rng1 {a : E} {δ : Sl} {n : Nat} (h1 : ev a δ = .ok (.int (n : Int))) (hn : n ≤ 1000000) : (ev (.rng1 a) δ >>= iterD) = .ok ((List.range n).map fun (i : Nat) => PyData.int (i : Int)) := by
  simp only [q_rng1, h1, q_ok, q_intD]
  rw [rngD_ok (by omega) (by omega) (by omega) (by omega) (by omega), show ((n : Int) - 0).toNat = n by omega]
  simp only [Int.zero_add]
  rfl
theorem blt_sumN (l : List Nat) : blt1 .sum (.list (l.map fun (i : Nat) => PyData.int (i : Int))) = .ok (.int (l.sum : Int)) := by
  have e := blt_sum (l.map fun (i : Nat) => (i : Int))
  rw [List.map_map] at e
  have e2 : (l.map fun (i : Nat) => (i : Int)).sum = (l.sum : Int) := by
    induction l with
    | nil => rfl
    | cons x l ih => rw [List.map_cons, List.sum_cons, List.sum_cons, ih (by rw [← List.map_map]; exact blt_sum _), Int.natCast_add]
  rw [e2] at e
  exact e
theorem Sm.neg {q : Rat} (h : Sm q) : Sm (-q) := ⟨by rw [Rat.neg_num, Int.natAbs_neg]; exact h.1, h.2⟩
theorem Rp.sm' {q : Rat} {a b i j : Nat} (h : Rp q a b) (ha : a ≤ 2 ^ i) (hb : b ≤ 2 ^ j) (hi : i ≤ 2000) (hj : j ≤ 2000) : Sm q := h.sm (up20 ha hi) (up20 hb hj)
theorem Rp.smN {k : Nat} (h : k ≤ 1000) : Sm (k : Rat) := (Rp.nat k).sm' (th10 h) (j := 1) (by decide) (by decide) (by decide)
theorem eq_fDs (z : Rat) : eqD (fD z) (fD z) = .ok true := by rw [eq_fD, decide_eq_true rfl]
theorem fD_neg1 : (PyData.tuple [.int (-1), .int 1]) = fD (-1) := rfl
theorem f_drawn {l : List Int} (h : Dr l) {k : Nat} (hk : k < l.length) (m : Nat) (hm : 0 < m) : ∃ x : Int, ixD (iL l) (.int (k : Int)) = .ok (.int x) ∧ ∃ z : Nat, x % (m : Int) = (z : Int) ∧ z < m := by
  obtain ⟨x, e, _, _⟩ := dr_at h hk
  have h1 : 0 ≤ x % (m : Int) := Int.emod_nonneg _ (by omega)
  have h2 : x % (m : Int) < (m : Int) := Int.emod_lt_of_pos _ (by omega)
  exact ⟨x, e, (x % (m : Int)).toNat, by omega, by omega⟩
section
variable {q : Rat} {p s : Nat} (L : LdP q p s)
include L
theorem sumsT {n : Nat} (hn : n ≤ 60) : Sums (tR q) (sR q) (n + 1) := ⟨rfl, fun _ _ => rfl, fun k hk => smT L (by omega), fun k hk => smS L (by omega)⟩
theorem Rp.ofL : Rp q p s := ⟨L.e, L.s0⟩
end
end VS
set_option Elab.async false
set_option linter.all false
set_option maxRecDepth 100000
namespace VS
open PySem PySem.Spec L2
open PyProof.Rows hiding St
/-! ### how long a fraction is -/
def Smk (i : Nat) (q : Rat) : Prop := q.num.natAbs ≤ 2 ^ i ∧ q.den ≤ 2 ^ i
theorem p2 {i j : Nat} (h : i ≤ j) : 2 ^ i ≤ 2 ^ j := Nat.pow_le_pow_right (by decide) h
theorem Smk.le {i j : Nat} {q : Rat} (h : Smk i q) (hij : i ≤ j) : Smk j q := ⟨Nat.le_trans h.1 (p2 hij), Nat.le_trans h.2 (p2 hij)⟩
theorem Smk.sm {i : Nat} {q : Rat} (h : Smk i q) (hi : i < 4000) : Sm q :=
  ⟨Nat.lt_of_le_of_lt h.1 (Nat.pow_lt_pow_right (by decide) hi), Nat.lt_of_le_of_lt h.2 (Nat.pow_lt_pow_right (by decide) hi)⟩
theorem Smk.of {i : Nat} {m d : Int} {q : Rat} (e : q = Rat.divInt m d) (h0 : d ≠ 0) (hm : m.natAbs ≤ 2 ^ i) (hd : d.natAbs ≤ 2 ^ i) : Smk i q := by
  subst e
  constructor
  · rw [Rat.num_divInt]
    refine Nat.le_trans (Int.natAbs_ediv_le_natAbs _ _) ?_
    rw [Int.natAbs_mul, Int.natAbs_sign_of_ne_zero h0, Nat.one_mul]
    exact hm
  · rw [Rat.den_divInt, if_neg h0]
    exact Nat.le_trans (Nat.div_le_self _ _) hd
theorem Smk.mul {i j : Nat} {a b : Rat} (ha : Smk i a) (hb : Smk j b) : Smk (i + j) (a * b) := by
  refine Smk.of (m := a.num * b.num) (d := (a.den : Int) * (b.den : Int)) (by rw [Rat.mul_def', ← Rat.divInt_ofNat, Int.natCast_mul]) ?_ ?_ ?_
  · have h1 := den_i a
    have h2 := den_i b
    have := Int.mul_pos h1 h2
    omega
  · rw [Int.natAbs_mul]; exact m20 ha.1 hb.1
  · rw [Int.natAbs_mul]; exact m20 (by simpa using ha.2) (by simpa using hb.2)
theorem Smk.add {i j : Nat} {a b : Rat} (ha : Smk i a) (hb : Smk j b) : Smk (i + j + 1) (a + b) := by
  refine Smk.of (m := a.num * (b.den : Int) + b.num * (a.den : Int)) (d := (a.den : Int) * (b.den : Int)) (by rw [Rat.add_def', ← Rat.divInt_ofNat, Int.natCast_mul]) ?_ ?_ ?_
  · have h1 := den_i a
    have h2 := den_i b
    have := Int.mul_pos h1 h2
    omega
  · refine Nat.le_trans (Int.natAbs_add_le _ _) ?_
    rw [Int.natAbs_mul, Int.natAbs_mul, Nat.pow_succ]
    have h1 : a.num.natAbs * (b.den : Int).natAbs ≤ 2 ^ (i + j) := m20 ha.1 (by simpa using hb.2)
    have h2 : b.num.natAbs * (a.den : Int).natAbs ≤ 2 ^ (i + j) := by rw [Nat.add_comm]; exact m20 hb.1 (by simpa using ha.2)
    omega
  · rw [Int.natAbs_mul]; exact Nat.le_trans (m20 (by simpa using ha.2) (by simpa using hb.2)) (p2 (by omega))
theorem Smk.neg {i : Nat} {a : Rat} (ha : Smk i a) : Smk i (-a) := ⟨by rw [Rat.neg_num, Int.natAbs_neg]; exact ha.1, ha.2⟩
theorem Smk.sub {i j : Nat} {a b : Rat} (ha : Smk i a) (hb : Smk j b) : Smk (i + j + 1) (a - b) := by
  rw [Rat.sub_eq_add_neg]; exact ha.add hb.neg
theorem num_pos {b : Rat} (h0 : 0 < b) : 0 < b.num := by
  have h1 : 0 ≤ b.num := Rat.num_nonneg.mpr (Rat.le_of_lt h0)
  have h2 : b.num ≠ 0 := fun e => Rat.ne_of_gt h0 (Rat.num_eq_zero.mp e)
  omega
theorem Smk.div {i j : Nat} {a b : Rat} (ha : Smk i a) (hb : Smk j b) (h0 : 0 < b) : Smk (i + j) (a / b) := by
  refine Smk.of (m := a.num * (b.den : Int)) (d := (a.den : Int) * b.num) (by rw [← Rat.divInt_mul_divInt, Rat.num_divInt_den, ← Rat.inv_def, Rat.div_def]) ?_ ?_ ?_
  · have := Int.mul_pos (den_i a) (num_pos h0)
    omega
  · rw [Int.natAbs_mul]; exact m20 ha.1 (by simpa using hb.2)
  · rw [Int.natAbs_mul]; exact m20 (by simpa using ha.2) hb.1
theorem Rp.smk {i : Nat} {q : Rat} {a b : Nat} (h : Rp q a b) (ha : a ≤ 2 ^ i) (hb : b ≤ 2 ^ i) : Smk i q :=
  Smk.of (m := (a : Int)) (d := (b : Int)) (by rw [Rat.divInt_eq_div, Rat.intCast_natCast, Rat.intCast_natCast, h.e]) (by have := h.p; omega) (by simpa using ha) (by simpa using hb)
theorem Smk.nat {k : Nat} (h : k ≤ 1000) : Smk 10 (k : Rat) := (Rp.nat k).smk (th10 h) (by decide)
theorem Smk.one : Smk 0 1 := ⟨by decide, by decide⟩
theorem Smk.zero : Smk 0 0 := ⟨by decide, by decide⟩
theorem f_lover {a b : Rat} (ha : Sm a) (hb : Sm b) (h0 : 0 < b) : F_law_over [fD a, fD b] = .ok (fD (a / b)) := by
  refine F_rt (s := T_law_over) (δ := [some (fD a), some (fD b)]) rfl rfl ?_
  unfold T_law_over
  have m1 : mulOk a.num (b.den : Int) := big_ok ha.1 (by simpa using hb.2)
  have m2 : mulOk (a.den : Int) b.num := big_ok (by simpa using ha.2) hb.1
  have hn := num_pos h0
  have hd : (0 : Int) < (a.den : Int) * b.num := Int.mul_pos (den_i a) hn
  have e := f_lfraction (p := a.num * (b.den : Int)) (s := (a.den : Int) * b.num) (by omega) (by
    rw [Int.natAbs_mul]
    exact big_log (by simpa using ha.2) hb.1)
  rw [show Rat.divInt (a.num * (b.den : Int)) ((a.den : Int) * b.num) = a / b by rw [← Rat.divInt_mul_divInt, Rat.num_divInt_den, ← Rat.inv_def, Rat.div_def]] at e
  refine sqx ?_
  simp only [List.set_cons_succ, List.set_cons_zero, q_sasg, q_spar, q_sret, q_sretS, q_sife, q_snil, q_tn, q_tr, q_lst, q_tup, q_call, q_cons, q_nil, q_cI, q_ari, q_ix, q_sl, q_s0, q_s1, q_ki, q_kn, q_kb, q_ks, q_neg, q_negD, q_fi, q_ci, q_cb, q_cs, q_cn, if_true, q_ok, q_f0, q_f1, q_ii, q_add, q_sub, q_or, q_and, q_one, q_not, q_cmp, q_eq, q_ne, q_lt, q_le, q_gt, q_ge, q_is, q_isnot, q_isnN, q_isnI, q_isnL, q_isnT, q_notR, q_boolD, Bool.not_true, Bool.not_false, List.length_cons, List.length_nil, sz (show 0 + 1 ≤ 1000000 by decide), sz (show 0 + 1 + 1 ≤ 1000000 by decide), q_lok, q_t1, q_t2, q_t3, q_t4, q_blt, q_blt1, q_blt2, q_eqi, q_mul m1, q_mul m2, e]
theorem fD_neg (q : Rat) : PyData.tuple [.int (-q.num), .int (q.den : Int)] = fD (-q) := by unfold fD; rw [Rat.neg_num, Rat.neg_den]
theorem eq_fD2 (a b : Rat) : eqD (.tuple [fD a, fD b]) (.tuple [fD a, fD b]) = .ok true := eqD_self (n := 2) (Shp.tuple fun d hd => by
  rcases List.mem_cons.mp hd with rfl | hd
  · exact shp_fD _
  · rw [List.mem_singleton.mp hd]; exact shp_fD _)
/-! ### bounds -/
theorem wN_le9 {p s n k : Nat} (hp : p ≤ 1000) (hs : s ≤ 1000) (hk : k ≤ n) (hn : n ≤ 60) : wN p s n k ≤ 2 ^ 900 := by
  unfold wN
  have h1 : p ^ k * s ^ (n - k) ≤ 2 ^ 600 := by
    calc p ^ k * s ^ (n - k) ≤ 1024 ^ k * 1024 ^ (n - k) := Nat.mul_le_mul (Nat.pow_le_pow_left (by omega) _) (Nat.pow_le_pow_left (by omega) _)
      _ = 1024 ^ n := by rw [← Nat.pow_add]; congr 1; omega
      _ ≤ 1024 ^ 60 := Nat.pow_le_pow_right (by decide) hn
      _ = 2 ^ 600 := by rw [show 1024 = 2 ^ 10 by decide, ← Nat.pow_mul]
  have h3 : fac n / fac k ≤ 2 ^ 300 := Nat.le_of_lt (Nat.lt_of_le_of_lt (Nat.div_le_self _ _) (fac_big hn))
  calc _ ≤ 2 ^ 600 * 2 ^ 300 := Nat.mul_le_mul h1 h3
    _ = 2 ^ 900 := by rw [← Nat.pow_add]
theorem wS_le9 {p s n : Nat} (hp : p ≤ 1000) (hs : s ≤ 1000) (hn : n ≤ 60) : ∀ j, j ≤ n + 1 → wS p s n j ≤ j * 2 ^ 900
  | 0, _ => by simp [wS]
  | j + 1, h => by
    rw [wS_succ]
    have := wS_le9 hp hs hn j (by omega)
    have := wN_le9 hp hs (show j ≤ n by omega) hn
    rw [Nat.add_mul]
    omega
theorem wS_b9 {p s n j : Nat} (hp : p ≤ 1000) (hs : s ≤ 1000) (hn : n ≤ 60) (hj : j ≤ n + 1) : wS p s n j ≤ 2 ^ 906 := by
  refine Nat.le_trans (wS_le9 hp hs hn j hj) ?_
  rw [show 2 ^ 906 = 2 ^ 6 * 2 ^ 900 by rw [← Nat.pow_add]]
  exact Nat.mul_le_mul (by omega) (Nat.le_refl _)
section
variable {q : Rat} {p s : Nat} (L : LdP q p s)
include L
theorem kQ : Smk 10 q := (Rp.ofL L).smk (th10 L.p1) (th10 L.s1)
theorem kT {k : Nat} (hk : k ≤ 60) : Smk 900 (tR q k) :=
  Rp.smk ⟨tR_eq L.s0 L.e k, Nat.mul_pos (Nat.pow_pos L.s0) (fac_pos k)⟩ (Nat.le_trans (p10 L.p1 (Nat.le_refl k) hk) (p2 (by decide))) (m20 (k := 600) (l := 300) (p10 L.s1 (Nat.le_refl k) hk) (Nat.le_of_lt (fac_big hk)))
theorem kS {j : Nat} (hj : j ≤ 61) : Smk 906 (sR q j) :=
  Rp.smk ⟨sR_w (n := 60) L.s0 L.e j hj, Nat.mul_pos (Nat.pow_pos L.s0) (fac_pos _)⟩ (wS_b9 L.p1 L.s1 (Nat.le_refl 60) hj)
    (Nat.le_trans (m20 (k := 600) (l := 300) (p10 L.s1 (Nat.le_refl 60) (Nat.le_refl 60)) (Nat.le_of_lt (fac_big (Nat.le_refl 60)))) (p2 (by decide)))
theorem kB {n : Nat} (hn : n ≤ 60) : Smk 906 (bR q n) :=
  Rp.smk ⟨bR_w L n, wS_pos L.p0 L.s0 (by omega)⟩ (Nat.le_trans (wN_le9 L.p1 L.s1 (Nat.le_refl n) hn) (p2 (by decide))) (wS_b9 L.p1 L.s1 hn (Nat.le_refl _))
theorem below_pos (n : Nat) : 0 < ((n + 1 : Nat) : Rat) + q * bR q n - q := by
  have h := bR_carried L.pos n
  have e : ((n + 1 : Nat) : Rat) = (n : Rat) + 1 := cast_add n 1
  rw [e]
  have : (0 : Rat) < 1 := by decide
  grind
theorem f_overflow {n : Nat} (hn : n ≤ 60) : Foverflow [.int (n : Int), fD q] = .ok (.tuple [fD (q * bR q n), fD (q * bR q n * (1 - q * bR q n + q / (((n + 1 : Nat) : Rat) + q * bR q n - q)))]) := by
  have e0 := f_lost_share L hn
  have kM := (kQ L).mul (kB L hn)
  have e1 := f_times ((kQ L).sm (by decide)) ((kB L hn).sm (by decide))
  have h0 := below_pos L n
  have kN := Smk.nat (show n + 1 ≤ 1000 by omega)
  have e2 := f_plus (kN.sm (by decide)) (kM.sm (by decide))
  have kA := kN.add kM
  have e3 := f_minus (kA.sm (by decide)) ((kQ L).sm (by decide))
  have kW := kA.sub (kQ L)
  have e4 := f_minus (Smk.one.sm (by decide)) (kM.sm (by decide))
  have e5 := f_over ((kQ L).sm (by decide)) (kW.sm (by decide)) h0
  have kO := (kQ L).div kW h0
  have kU := Smk.one.sub kM
  have e6 := f_plus (kU.sm (by decide)) (kO.sm (by decide))
  have e7 := f_times (kM.sm (by decide)) ((kU.add kO).sm (by decide))
  rw [← fD_one] at e4
  rw [← fD_nat, show ((n + 1 : Nat) : Int) = (n : Int) + 1 by omega] at e2
  generalize ((n + 1 : Nat) : Rat) = N1 at *
  refine F_rt (s := Toverflow) (δ := [some (.int (n : Int)), some (fD q), none, none]) rfl rfl ?_
  unfold Toverflow
  refine sq (δ1 := [some (.int (n : Int)), some (fD q), some (fD (q * bR q n)), none]) (by simp only [List.set_cons_succ, List.set_cons_zero, q_sasg, q_spar, q_sret, q_sretS, q_sife, q_snil, q_tn, q_tr, q_lst, q_tup, q_call, q_cons, q_nil, q_cI, q_ari, q_ix, q_sl, q_s0, q_s1, q_ki, q_kn, q_kb, q_ks, q_neg, q_negD, q_fi, q_ci, q_cb, q_cs, q_cn, if_true, q_ok, q_f0, q_f1, q_ii, q_add, q_sub, q_or, q_and, q_one, q_not, q_cmp, q_eq, q_ne, q_lt, q_le, q_gt, q_ge, q_is, q_isnot, q_isnN, q_isnI, q_isnL, q_isnT, q_notR, q_boolD, Bool.not_true, Bool.not_false, List.length_cons, List.length_nil, sz (show 0 + 1 ≤ 1000000 by decide), sz (show 0 + 1 + 1 ≤ 1000000 by decide), q_lok, q_t1, q_t2, q_t3, q_t4, q_blt, q_blt1, q_blt2, q_eqi, e0, e1]) ?_
  refine sq (δ1 := [some (.int (n : Int)), some (fD q), some (fD (q * bR q n)), some (fD (N1 + q * bR q n - q))]) (by simp only [List.set_cons_succ, List.set_cons_zero, q_sasg, q_spar, q_sret, q_sretS, q_sife, q_snil, q_tn, q_tr, q_lst, q_tup, q_call, q_cons, q_nil, q_cI, q_ari, q_ix, q_sl, q_s0, q_s1, q_ki, q_kn, q_kb, q_ks, q_neg, q_negD, q_fi, q_ci, q_cb, q_cs, q_cn, if_true, q_ok, q_f0, q_f1, q_ii, q_add, q_sub, q_or, q_and, q_one, q_not, q_cmp, q_eq, q_ne, q_lt, q_le, q_gt, q_ge, q_is, q_isnot, q_isnN, q_isnI, q_isnL, q_isnT, q_notR, q_boolD, Bool.not_true, Bool.not_false, List.length_cons, List.length_nil, sz (show 0 + 1 ≤ 1000000 by decide), sz (show 0 + 1 + 1 ≤ 1000000 by decide), q_lok, q_t1, q_t2, q_t3, q_t4, q_blt, q_blt1, q_blt2, q_eqi, e2, e3]) ?_
  refine sqx ?_
  simp only [List.set_cons_succ, List.set_cons_zero, q_sasg, q_spar, q_sret, q_sretS, q_sife, q_snil, q_tn, q_tr, q_lst, q_tup, q_call, q_cons, q_nil, q_cI, q_ari, q_ix, q_sl, q_s0, q_s1, q_ki, q_kn, q_kb, q_ks, q_neg, q_negD, q_fi, q_ci, q_cb, q_cs, q_cn, if_true, q_ok, q_f0, q_f1, q_ii, q_add, q_sub, q_or, q_and, q_one, q_not, q_cmp, q_eq, q_ne, q_lt, q_le, q_gt, q_ge, q_is, q_isnot, q_isnN, q_isnI, q_isnL, q_isnT, q_notR, q_boolD, Bool.not_true, Bool.not_false, List.length_cons, List.length_nil, sz (show 0 + 1 ≤ 1000000 by decide), sz (show 0 + 1 + 1 ≤ 1000000 by decide), q_lok, q_t1, q_t2, q_t3, q_t4, q_blt, q_blt1, q_blt2, q_eqi, e4, e5, e6, e7]
theorem f_right_overflow {n m : Nat} (hn : n + m ≤ 60) : F_law_right_overflow [.int (n : Int), .int (m : Int), fD q] = .ok (.bool true) := by
  have hn0 : n ≤ 60 := by omega
  have e0 := f_lost_share L hn0
  have e00 := f_lost_share L hn
  have eo := f_overflow L hn0
  have kM := (kQ L).mul (kB L hn0)
  have e1 := f_ltimes ((kQ L).sm (by decide)) ((kB L hn0).sm (by decide))
  have h0 := below_pos L n
  have kN := Smk.nat (show n + 1 ≤ 1000 by omega)
  have e2 := f_lplus (kN.sm (by decide)) (kM.sm (by decide))
  have kA := kN.add kM
  have e3 := f_lplus (kA.sm (by decide)) ((kQ L).neg.sm (by decide))
  rw [← Rat.sub_eq_add_neg] at e3
  have kW := kA.sub (kQ L)
  have e4 := f_ltimes (kM.sm (by decide)) (kM.sm (by decide))
  have kX := kM.mul kM
  have e5 := f_lplus (kM.sm (by decide)) (kX.neg.sm (by decide))
  have kY := kM.add kX.neg
  have e6 := f_ltimes (kM.sm (by decide)) ((kQ L).sm (by decide))
  have e7 := f_lover ((kM.mul (kQ L)).sm (by decide)) (kW.sm (by decide)) h0
  have kZ := (kM.mul (kQ L)).div kW h0
  have e8 := f_lplus (kY.sm (by decide)) (kZ.sm (by decide))
  have hb := bR_pos L.pos n
  have e9 := f_over ((kB L hn).sm (by decide)) ((kB L hn0).sm (by decide)) hb
  have e10 := f_ltimes (((kB L hn).div (kB L hn0) hb).sm (by decide)) ((kB L hn0).sm (by decide))
  rw [Rat.div_mul_cancel (Rat.ne_of_gt hb)] at e10
  have id1 : q * bR q n * (1 - q * bR q n + q / (((n + 1 : Nat) : Rat) + q * bR q n - q)) = q * bR q n + -(q * bR q n * (q * bR q n)) + q * bR q n * q / (((n + 1 : Nat) : Rat) + q * bR q n - q) := by
    generalize ((n + 1 : Nat) : Rat) + q * bR q n - q = W at *
    generalize q * bR q n = M at *
    rw [Rat.div_def, Rat.div_def]
    grind
  rw [id1] at eo
  rw [show ((n + m : Nat) : Int) = (n : Int) + (m : Int) by omega] at e00
  rw [← fD_nat, show ((n + 1 : Nat) : Int) = (n : Int) + 1 by omega] at e2
  generalize ((n + 1 : Nat) : Rat) = N1 at *
  have g1 := fD_neg q
  have g2 := fD_neg (q * bR q n * (q * bR q n))
  have z1 := eq_fD2 (q * bR q n) (q * bR q n + -(q * bR q n * (q * bR q n)) + q * bR q n * q / (N1 + q * bR q n - q))
  have z2 := eq_fDs (bR q (n + m))
  have e11 : Flost_behind [.int (n : Int), .int (m : Int), fD q] = .ok (fD (bR q (n + m) / bR q n)) := by
    refine F_rt (s := Tlost_behind) (δ := [some (.int (n : Int)), some (.int (m : Int)), some (fD q)]) rfl rfl ?_
    unfold Tlost_behind
    refine sqx ?_
    simp only [List.set_cons_succ, List.set_cons_zero, q_sasg, q_spar, q_sret, q_sretS, q_sife, q_snil, q_tn, q_tr, q_lst, q_tup, q_call, q_cons, q_nil, q_cI, q_ari, q_ix, q_sl, q_s0, q_s1, q_ki, q_kn, q_kb, q_ks, q_neg, q_negD, q_fi, q_ci, q_cb, q_cs, q_cn, if_true, q_ok, q_f0, q_f1, q_ii, q_add, q_sub, q_or, q_and, q_one, q_not, q_cmp, q_eq, q_ne, q_lt, q_le, q_gt, q_ge, q_is, q_isnot, q_isnN, q_isnI, q_isnL, q_isnT, q_notR, q_boolD, Bool.not_true, Bool.not_false, List.length_cons, List.length_nil, sz (show 0 + 1 ≤ 1000000 by decide), sz (show 0 + 1 + 1 ≤ 1000000 by decide), q_lok, q_t1, q_t2, q_t3, q_t4, q_blt, q_blt1, q_blt2, q_eqi, e0, e00, e9]
  generalize hM : q * bR q n = M at *
  generalize hX : M * M = X at *
  generalize hW : N1 + M - q = W at *
  generalize hR : M + -X + M * q / W = R at *
  refine F_rt (s := T_law_right_overflow) (δ := [some (.int (n : Int)), some (.int (m : Int)), some (fD q), none, none, none, none, none]) rfl rfl ?_
  unfold T_law_right_overflow
  refine sq (δ1 := [some (.int (n : Int)), some (.int (m : Int)), some (fD q), some (fD (bR q n)), none, none, none, none]) (by simp only [List.set_cons_succ, List.set_cons_zero, q_sasg, q_spar, q_sret, q_sretS, q_sife, q_snil, q_tn, q_tr, q_lst, q_tup, q_call, q_cons, q_nil, q_cI, q_ari, q_ix, q_sl, q_s0, q_s1, q_ki, q_kn, q_kb, q_ks, q_neg, q_negD, q_fi, q_ci, q_cb, q_cs, q_cn, if_true, q_ok, q_f0, q_f1, q_ii, q_add, q_sub, q_or, q_and, q_one, q_not, q_cmp, q_eq, q_ne, q_lt, q_le, q_gt, q_ge, q_is, q_isnot, q_isnN, q_isnI, q_isnL, q_isnT, q_notR, q_boolD, Bool.not_true, Bool.not_false, List.length_cons, List.length_nil, sz (show 0 + 1 ≤ 1000000 by decide), sz (show 0 + 1 + 1 ≤ 1000000 by decide), q_lok, q_t1, q_t2, q_t3, q_t4, q_blt, q_blt1, q_blt2, q_eqi, e0]) ?_
  refine sq (δ1 := [some (.int (n : Int)), some (.int (m : Int)), some (fD q), some (fD (bR q n)), some (fD M), none, none, none]) (by simp only [List.set_cons_succ, List.set_cons_zero, q_sasg, q_spar, q_sret, q_sretS, q_sife, q_snil, q_tn, q_tr, q_lst, q_tup, q_call, q_cons, q_nil, q_cI, q_ari, q_ix, q_sl, q_s0, q_s1, q_ki, q_kn, q_kb, q_ks, q_neg, q_negD, q_fi, q_ci, q_cb, q_cs, q_cn, if_true, q_ok, q_f0, q_f1, q_ii, q_add, q_sub, q_or, q_and, q_one, q_not, q_cmp, q_eq, q_ne, q_lt, q_le, q_gt, q_ge, q_is, q_isnot, q_isnN, q_isnI, q_isnL, q_isnT, q_notR, q_boolD, Bool.not_true, Bool.not_false, List.length_cons, List.length_nil, sz (show 0 + 1 ≤ 1000000 by decide), sz (show 0 + 1 + 1 ≤ 1000000 by decide), q_lok, q_t1, q_t2, q_t3, q_t4, q_blt, q_blt1, q_blt2, q_eqi, e1]) ?_
  refine sq (δ1 := [some (.int (n : Int)), some (.int (m : Int)), some (fD q), some (fD (bR q n)), some (fD M), some (fD W), none, none]) (by simp only [List.set_cons_succ, List.set_cons_zero, q_sasg, q_spar, q_sret, q_sretS, q_sife, q_snil, q_tn, q_tr, q_lst, q_tup, q_call, q_cons, q_nil, q_cI, q_ari, q_ix, q_sl, q_s0, q_s1, q_ki, q_kn, q_kb, q_ks, q_neg, q_negD, q_fi, q_ci, q_cb, q_cs, q_cn, if_true, q_ok, q_f0, q_f1, q_ii, q_add, q_sub, q_or, q_and, q_one, q_not, q_cmp, q_eq, q_ne, q_lt, q_le, q_gt, q_ge, q_is, q_isnot, q_isnN, q_isnI, q_isnL, q_isnT, q_notR, q_boolD, Bool.not_true, Bool.not_false, List.length_cons, List.length_nil, sz (show 0 + 1 ≤ 1000000 by decide), sz (show 0 + 1 + 1 ≤ 1000000 by decide), q_lok, q_t1, q_t2, q_t3, q_t4, q_blt, q_blt1, q_blt2, q_eqi, e2, g1, e3]) ?_
  refine sq (δ1 := [some (.int (n : Int)), some (.int (m : Int)), some (fD q), some (fD (bR q n)), some (fD M), some (fD W), some (fD X), none]) (by simp only [List.set_cons_succ, List.set_cons_zero, q_sasg, q_spar, q_sret, q_sretS, q_sife, q_snil, q_tn, q_tr, q_lst, q_tup, q_call, q_cons, q_nil, q_cI, q_ari, q_ix, q_sl, q_s0, q_s1, q_ki, q_kn, q_kb, q_ks, q_neg, q_negD, q_fi, q_ci, q_cb, q_cs, q_cn, if_true, q_ok, q_f0, q_f1, q_ii, q_add, q_sub, q_or, q_and, q_one, q_not, q_cmp, q_eq, q_ne, q_lt, q_le, q_gt, q_ge, q_is, q_isnot, q_isnN, q_isnI, q_isnL, q_isnT, q_notR, q_boolD, Bool.not_true, Bool.not_false, List.length_cons, List.length_nil, sz (show 0 + 1 ≤ 1000000 by decide), sz (show 0 + 1 + 1 ≤ 1000000 by decide), q_lok, q_t1, q_t2, q_t3, q_t4, q_blt, q_blt1, q_blt2, q_eqi, e4]) ?_
  refine sq (δ1 := [some (.int (n : Int)), some (.int (m : Int)), some (fD q), some (fD (bR q n)), some (fD M), some (fD W), some (fD X), some (fD R)]) (by simp only [List.set_cons_succ, List.set_cons_zero, q_sasg, q_spar, q_sret, q_sretS, q_sife, q_snil, q_tn, q_tr, q_lst, q_tup, q_call, q_cons, q_nil, q_cI, q_ari, q_ix, q_sl, q_s0, q_s1, q_ki, q_kn, q_kb, q_ks, q_neg, q_negD, q_fi, q_ci, q_cb, q_cs, q_cn, if_true, q_ok, q_f0, q_f1, q_ii, q_add, q_sub, q_or, q_and, q_one, q_not, q_cmp, q_eq, q_ne, q_lt, q_le, q_gt, q_ge, q_is, q_isnot, q_isnN, q_isnI, q_isnL, q_isnT, q_notR, q_boolD, Bool.not_true, Bool.not_false, List.length_cons, List.length_nil, sz (show 0 + 1 ≤ 1000000 by decide), sz (show 0 + 1 + 1 ≤ 1000000 by decide), q_lok, q_t1, q_t2, q_t3, q_t4, q_blt, q_blt1, q_blt2, q_eqi, g2, e5, e6, e7, e8]) ?_
  refine sq_no (by simp only [List.set_cons_succ, List.set_cons_zero, q_sasg, q_spar, q_sret, q_sretS, q_sife, q_snil, q_tn, q_tr, q_lst, q_tup, q_call, q_cons, q_nil, q_cI, q_ari, q_ix, q_sl, q_s0, q_s1, q_ki, q_kn, q_kb, q_ks, q_neg, q_negD, q_fi, q_ci, q_cb, q_cs, q_cn, if_true, q_ok, q_f0, q_f1, q_ii, q_add, q_sub, q_or, q_and, q_one, q_not, q_cmp, q_eq, q_ne, q_lt, q_le, q_gt, q_ge, q_is, q_isnot, q_isnN, q_isnI, q_isnL, q_isnT, q_notR, q_boolD, Bool.not_true, Bool.not_false, List.length_cons, List.length_nil, sz (show 0 + 1 ≤ 1000000 by decide), sz (show 0 + 1 + 1 ≤ 1000000 by decide), q_lok, q_t1, q_t2, q_t3, q_t4, q_blt, q_blt1, q_blt2, q_eqi, eo, z1]) ?_
  refine sqx ?_
  simp only [List.set_cons_succ, List.set_cons_zero, q_sasg, q_spar, q_sret, q_sretS, q_sife, q_snil, q_tn, q_tr, q_lst, q_tup, q_call, q_cons, q_nil, q_cI, q_ari, q_ix, q_sl, q_s0, q_s1, q_ki, q_kn, q_kb, q_ks, q_neg, q_negD, q_fi, q_ci, q_cb, q_cs, q_cn, if_true, q_ok, q_f0, q_f1, q_ii, q_add, q_sub, q_or, q_and, q_one, q_not, q_cmp, q_eq, q_ne, q_lt, q_le, q_gt, q_ge, q_is, q_isnot, q_isnN, q_isnI, q_isnL, q_isnT, q_notR, q_boolD, Bool.not_true, Bool.not_false, List.length_cons, List.length_nil, sz (show 0 + 1 ≤ 1000000 by decide), sz (show 0 + 1 + 1 ≤ 1000000 by decide), q_lok, q_t1, q_t2, q_t3, q_t4, q_blt, q_blt1, q_blt2, q_eqi, e11, e10, e00, z2]
end
end VS
set_option Elab.async false
set_option linter.all false
set_option maxRecDepth 100000
namespace VS
open PySem PySem.Spec L2
open PyProof.Rows hiding St
theorem cut_last {α : Type} (xs : List α) (x : α) : cutD (xs ++ [x]) none (some (-1)) = xs := by
  unfold cutD
  rw [HT.sIx_none, List.drop_zero, Nat.sub_zero]
  have : HT.sIx (xs ++ [x]).length (xs ++ [x]).length (some (-1)) = xs.length := by
    show (if (-1 : Int) < 0 then ((-1 : Int) + ((xs ++ [x]).length : Int)).toNat else min (-1 : Int).toNat (xs ++ [x]).length) = _
    rw [if_pos (by decide), List.length_append, List.length_singleton]
    omega
  rw [this, List.take_left]
theorem cut_from {α : Type} (xs : List α) {m : Nat} (h : m ≤ xs.length) : cutD xs (some (m : Int)) none = xs.drop m := by
  unfold cutD
  rw [HT.sIx_none, HT.sIx_nat, Nat.min_eq_left h, List.take_of_length_le (by rw [List.length_drop]; omega)]
theorem immL_fL (f : Nat → Rat) (l : List Nat) : immL (l.map fun k => fD (f k)) = true := immL_all fun d hd => by
  obtain ⟨i, _, rfl⟩ := List.mem_map.mp hd
  rfl
theorem ev_front {a : E} {δ : Sl} {f : Nat → Rat} {n : Nat} (h : ev a δ = .ok (fL f (n + 1))) : ev (.cL (.slc a .nop (.prt (.neg (.k (.int 1)))))) δ = .ok (fL f n) := by
  rw [q_cL, q_slc, h]
  simp only [q_ok, q_nop, q_prt, q_neg, q_ki, q_negD, q_intD]
  unfold fL
  rw [List.range_succ, List.map_append]
  show ((slcD (.list (((List.range n).map fun k => fD (f k)) ++ [fD (f n)])) none (some (-1))) >>= _) = _
  rw [q_slcL, cut_last, q_ok]
  show (if immL ((List.range n).map fun k => fD (f k)) = true then R.ok _ else _) = _
  rw [if_pos (immL_fL f _)]
theorem pow_parts {q : Rat} (h : Ld q) {c : Nat} (hc : c ≤ 60) : ∃ A B F : Int, F_law_power [.int q.num, .int (c : Int)] = .ok (.int A) ∧ F_law_power [.int (q.den : Int), .int (c : Int)] = .ok (.int B) ∧ F_law_factorial [.int (c : Int)] = .ok (.int F) ∧ mulOk B F ∧ F_law_fraction [.int A, .int (B * F)] = .ok (fD (tR q c)) := by
  obtain ⟨p, s, L, hp, hs⟩ := h.p
  have f2 := f_factorial hc
  have p1 := f_powN (b := p) (n := c) L.p1 hc
  have p2 := f_powN (b := s) (n := c) L.s1 hc
  have c3 : s ^ c ≤ 2 ^ 600 := p10 L.s1 (Nat.le_refl c) hc
  have c4 := Nat.le_of_lt (fac_big hc)
  have m1 : mulOk ((s ^ c : Nat) : Int) (fac c : Int) := big_ok (sb c3 (by decide)) (sb c4 (by decide))
  have hd : 0 < s ^ c * fac c := Nat.mul_pos (Nat.pow_pos L.s0) (fac_pos c)
  have e := f_lfraction (p := ((p ^ c : Nat) : Int)) (s := ((s ^ c * fac c : Nat) : Int)) (by omega) (iw_log (k := 900) (m20 (k := 600) (l := 300) c3 c4) (by decide))
  rw [Rat.divInt_eq_div, Rat.intCast_natCast, Rat.intCast_natCast, ← tR_eq L.s0 L.e c, Int.natCast_mul] at e
  exact ⟨_, _, _, by rw [hp]; exact p1, by rw [hs]; exact p2, f2, m1, e⟩
/-- products -/
def pr (f : Nat → Rat) : Nat → Rat
  | 0 => 1
  | k + 1 => pr f k * f k
def iN (l : List Nat) : D := .list (l.map fun (c : Nat) => PyData.int (c : Int))
def qL (l : List Rat) : D := .list (l.map fD)
theorem iN_at {l : List Nat} {k : Nat} (h : k < l.length) : ixD (iN l) (.int (k : Int)) = .ok (.int ((l[k] : Nat) : Int)) :=
  q_ixN (by rw [List.getElem?_map, List.getElem?_eq_getElem h]; rfl)
theorem qL_at {l : List Rat} {k : Nat} (h : k < l.length) : ixD (qL l) (.int (k : Int)) = .ok (fD l[k]) :=
  q_ixN (by rw [List.getElem?_map, List.getElem?_eq_getElem h]; rfl)
def wt (cs : List Nat) (qs : List Rat) : Nat → Rat := pr fun k => tR (qs.getD k 0) (cs.getD k 0)
theorem getD_in {α : Type} {l : List α} {k : Nat} (d : α) (h : k < l.length) : l.getD k d = l[k] := by
  rw [List.getD_eq_getElem?_getD, List.getElem?_eq_getElem h]; rfl
theorem f_sweightG {cs : List Nat} {qs : List Rat} (hl : cs.length = qs.length) (h4 : cs.length ≤ 4) (hc : ∀ c ∈ cs, c ≤ 60) (hq : ∀ q ∈ qs, Ld q) :
    F_law_standing_weight [iN cs, qL qs] = .ok (fD (wt cs qs cs.length)) := by
  have kw : ∀ k, k ≤ cs.length → Smk (900 * k) (wt cs qs k) := by
    intro k
    induction k with
    | zero => intro _; exact Smk.one
    | succ k ih =>
      intro hk
      rw [Nat.mul_succ]
      refine (ih (by omega)).mul ?_
      have h1 : k < qs.length := by omega
      have h2 : k < cs.length := by omega
      show Smk 900 (tR (qs.getD k 0) (cs.getD k 0))
      rw [getD_in _ h1, getD_in _ h2]
      obtain ⟨p, s, L, _⟩ := (hq _ (List.getElem_mem h1)).p
      exact kT L (hc _ (List.getElem_mem h2))
  refine F_rt (s := T_law_standing_weight) (δ := [some (iN cs), some (qL qs), none, none, none]) rfl rfl ?_
  unfold T_law_standing_weight
  refine sq (δ1 := [some (iN cs), some (qL qs), some (fD (wt cs qs 0)), none, none]) (by simp only [List.set_cons_succ, List.set_cons_zero, q_sasg, q_spar, q_sret, q_sretS, q_sife, q_snil, q_tn, q_tr, q_lst, q_tup, q_call, q_cons, q_nil, q_cI, q_ari, q_ix, q_sl, q_s0, q_s1, q_ki, q_kn, q_kb, q_ks, q_neg, q_negD, q_fi, q_ci, q_cb, q_cs, q_cn, if_true, q_ok, q_f0, q_f1, q_ii, q_add, q_sub, q_or, q_and, q_one, q_not, q_cmp, q_eq, q_ne, q_lt, q_le, q_gt, q_ge, q_is, q_isnot, q_isnN, q_isnI, q_isnL, q_isnT, q_notR, q_boolD, Bool.not_true, Bool.not_false, List.length_cons, List.length_nil, sz (show 0 + 1 ≤ 1000000 by decide), sz (show 0 + 1 + 1 ≤ 1000000 by decide), q_lok, q_t1, q_t2, q_t3, q_t4, q_blt, q_blt1, q_blt2, q_eqi]; rfl) ?_
  have e0 : ev (.blt .len (.cons (.sl 0) .nil)) [some (iN cs), some (qL qs), some (fD (wt cs qs 0)), none, none] = .ok (.int (cs.length : Int)) := by
    simp only [List.set_cons_succ, List.set_cons_zero, q_sasg, q_spar, q_sret, q_sretS, q_sife, q_snil, q_tn, q_tr, q_lst, q_tup, q_call, q_cons, q_nil, q_cI, q_ari, q_ix, q_sl, q_s0, q_s1, q_ki, q_kn, q_kb, q_ks, q_neg, q_negD, q_fi, q_ci, q_cb, q_cs, q_cn, if_true, q_ok, q_f0, q_f1, q_ii, q_add, q_sub, q_or, q_and, q_one, q_not, q_cmp, q_eq, q_ne, q_lt, q_le, q_gt, q_ge, q_is, q_isnot, q_isnN, q_isnI, q_isnL, q_isnT, q_notR, q_boolD, Bool.not_true, Bool.not_false, List.length_cons, List.length_nil, sz (show 0 + 1 ≤ 1000000 by decide), sz (show 0 + 1 + 1 ≤ 1000000 by decide), q_lok, q_t1, q_t2, q_t3, q_t4, q_blt, q_blt1, q_blt2, q_eqi]
    unfold iN
    rw [q_lenL, List.length_map]
  refine sq_rng (cs.length : Int) e0 (by omega) (by omega) (fun k δ => ∃ x y, δ = [some (iN cs), some (qL qs), some (fD (wt cs qs k)), x, y]) ⟨_, _, rfl⟩ (fun k δ hk hI => ?_) (fun δ' hI => ?_)
  · obtain ⟨x, y, rfl⟩ := hI
    have h2 : k < cs.length := by omega
    have h1 : k < qs.length := by omega
    have i1 := qL_at h1
    have i2 := iN_at h2
    have k1 := kw k (by omega)
    have hw : wt cs qs (k + 1) = wt cs qs k * tR qs[k] cs[k] := by
      show wt cs qs k * tR (qs.getD k 0) (cs.getD k 0) = _
      rw [getD_in _ h1, getD_in _ h2]
    have hq1 := hq _ (List.getElem_mem h1)
    have hc1 := hc _ (List.getElem_mem h2)
    rw [hw]
    generalize qs[k] = q at *
    generalize cs[k] = c at *
    obtain ⟨A, B, F, z1, z2, z3, z4, z5⟩ := pow_parts hq1 hc1
    obtain ⟨p, s, L, _⟩ := hq1.p
    have e2 := f_ltimes (k1.sm (by omega)) ((kT L hc1).sm (by decide))
    refine ⟨[some (iN cs), some (qL qs), some (fD (wt cs qs k * tR q c)), some (.int (k : Int)), some (fD (tR q c))], sq (δ1 := [some (iN cs), some (qL qs), some (fD (wt cs qs k)), some (.int (k : Int)), some (fD (tR q c))]) ?_ (sq ?_ rfl), _, _, rfl⟩
    · simp only [List.set_cons_succ, List.set_cons_zero, q_sasg, q_spar, q_sret, q_sretS, q_sife, q_snil, q_tn, q_tr, q_lst, q_tup, q_call, q_cons, q_nil, q_cI, q_ari, q_ix, q_sl, q_s0, q_s1, q_ki, q_kn, q_kb, q_ks, q_neg, q_negD, q_fi, q_ci, q_cb, q_cs, q_cn, if_true, q_ok, q_f0, q_f1, q_ii, q_add, q_sub, q_or, q_and, q_one, q_not, q_cmp, q_eq, q_ne, q_lt, q_le, q_gt, q_ge, q_is, q_isnot, q_isnN, q_isnI, q_isnL, q_isnT, q_notR, q_boolD, Bool.not_true, Bool.not_false, List.length_cons, List.length_nil, sz (show 0 + 1 ≤ 1000000 by decide), sz (show 0 + 1 + 1 ≤ 1000000 by decide), q_lok, q_t1, q_t2, q_t3, q_t4, q_blt, q_blt1, q_blt2, q_eqi, i1, i2, z1, z2, z3, q_mul z4, z5]
    · simp only [List.set_cons_succ, List.set_cons_zero, q_sasg, q_spar, q_sret, q_sretS, q_sife, q_snil, q_tn, q_tr, q_lst, q_tup, q_call, q_cons, q_nil, q_cI, q_ari, q_ix, q_sl, q_s0, q_s1, q_ki, q_kn, q_kb, q_ks, q_neg, q_negD, q_fi, q_ci, q_cb, q_cs, q_cn, if_true, q_ok, q_f0, q_f1, q_ii, q_add, q_sub, q_or, q_and, q_one, q_not, q_cmp, q_eq, q_ne, q_lt, q_le, q_gt, q_ge, q_is, q_isnot, q_isnN, q_isnI, q_isnL, q_isnT, q_notR, q_boolD, Bool.not_true, Bool.not_false, List.length_cons, List.length_nil, sz (show 0 + 1 ≤ 1000000 by decide), sz (show 0 + 1 + 1 ≤ 1000000 by decide), q_lok, q_t1, q_t2, q_t3, q_t4, q_blt, q_blt1, q_blt2, q_eqi, e2]
  · obtain ⟨x, y, rfl⟩ := hI
    rfl
theorem f_sweight {q : Rat} (h : Ld q) {k : Nat} (hk : k ≤ 60) : F_law_standing_weight [.list [.int (k : Int)], .list [fD q]] = .ok (fD (tR q k)) := by
  have e := f_sweightG (cs := [k]) (qs := [q]) rfl (by show 1 ≤ 4; decide) (fun c hc => by rw [List.mem_singleton.mp hc]; exact hk) (fun x hx => by rw [List.mem_singleton.mp hx]; exact h)
  have : wt [k] [q] [k].length = tR q k := Rat.one_mul _
  rw [this] at e
  exact e
/-- the weights, waiting calls and all -/
def eR (q : Rat) (n k : Nat) : Rat := if k ≤ n then tR q k else tR q n * (q / (n : Rat)) ^ (k - n)
theorem eR_low {q : Rat} {n k : Nat} (h : k ≤ n) : eR q n k = tR q k := if_pos h
theorem eR_next {q : Rat} {n k : Nat} (h : n ≤ k) : eR q n k * (q / (n : Rat)) = eR q n (k + 1) := by
  unfold eR
  rw [if_neg (show ¬ k + 1 ≤ n by omega), show k + 1 - n = (k - n) + 1 by omega, Rat.pow_succ]
  by_cases e : k = n
  · subst e
    rw [if_pos (Nat.le_refl _), Nat.sub_self, Rat.pow_zero, Rat.one_mul]
  · rw [if_neg (by omega), Rat.mul_assoc]
theorem kPow {x : Rat} (h : Smk 16 x) : ∀ k, Smk (16 * k) (x ^ k)
  | 0 => by rw [Rat.pow_zero]; exact Smk.one
  | k + 1 => by rw [Rat.pow_succ, Nat.mul_succ]; exact (kPow h k).mul h
def wW (q : Rat) (n : Nat) : Rat := sR q n + tR q n * ((n : Rat) / ((n : Rat) - q))
section
variable {q : Rat} {p s : Nat} (L : LdP q p s) {n : Nat} (hn : n ≤ 60) (h1 : 1 ≤ n) (hq : q < (n : Rat))
include L hn h1
theorem n6 : n ≤ 2 ^ 6 := by have : (2 : Nat) ^ 6 = 64 := rfl; omega
theorem kN6 : Smk 6 (n : Rat) := (Rp.nat n).smk (n6 L hn h1) (by decide)
theorem kStep : Smk 16 (q / (n : Rat)) := ((kQ L).div (kN6 L hn h1) (cast_pos (by omega)))
theorem kE {k : Nat} (hk : k ≤ n + 40) : Smk 1540 (eR q n k) := by
  by_cases h : k ≤ n
  · rw [eR_low h]; exact (kT L (by omega)).le (by decide)
  · unfold eR
    rw [if_neg h]
    exact ((kT L hn).mul (kPow (kStep L hn h1) (k - n))).le (by omega)
theorem f_waiting_weights {j : Nat} (hj : j ≤ 40) : Fwaiting_weights [.int (n : Int), fD q, .int (j : Int)] = .ok (fL (eR q n) (n + 1 + j)) := by
  have e1 : Fweights_of [.int (n : Int), fD q] = .ok (fL (tR q) (n + 1)) := f_weights L hn
  have e2 : fL (tR q) (n + 1) = fL (eR q n) (n + 1) := by
    have e : ((List.range (n + 1)).map fun k => fD (tR q k)) = (List.range (n + 1)).map fun k => fD (eR q n k) := List.map_congr_left fun k hk => by
      rw [eR_low (by have := List.mem_range.mp hk; omega)]
    unfold fL
    rw [e]
  rw [e2] at e1
  have e3 := f_over ((kQ L).sm (by decide)) ((kN6 L hn h1).sm (by decide)) (cast_pos (by omega))
  rw [← fD_nat] at e3
  refine F_rt (s := Twaiting_weights) (δ := [some (.int (n : Int)), some (fD q), some (.int (j : Int)), none, none, none]) rfl rfl ?_
  unfold Twaiting_weights
  refine sq (δ1 := [some (.int (n : Int)), some (fD q), some (.int (j : Int)), some (fL (eR q n) (n + 1)), none, none]) (by simp only [List.set_cons_succ, List.set_cons_zero, q_sasg, q_spar, q_sret, q_sretS, q_sife, q_snil, q_tn, q_tr, q_lst, q_tup, q_call, q_cons, q_nil, q_cI, q_ari, q_ix, q_sl, q_s0, q_s1, q_ki, q_kn, q_kb, q_ks, q_neg, q_negD, q_fi, q_ci, q_cb, q_cs, q_cn, if_true, q_ok, q_f0, q_f1, q_ii, q_add, q_sub, q_or, q_and, q_one, q_not, q_cmp, q_eq, q_ne, q_lt, q_le, q_gt, q_ge, q_is, q_isnot, q_isnN, q_isnI, q_isnL, q_isnT, q_notR, q_boolD, Bool.not_true, Bool.not_false, List.length_cons, List.length_nil, sz (show 0 + 1 ≤ 1000000 by decide), sz (show 0 + 1 + 1 ≤ 1000000 by decide), q_lok, q_t1, q_t2, q_t3, q_t4, q_blt, q_blt1, q_blt2, q_eqi, e1]) ?_
  refine sq (δ1 := [some (.int (n : Int)), some (fD q), some (.int (j : Int)), some (fL (eR q n) (n + 1)), some (fD (q / (n : Rat))), none]) (by simp only [List.set_cons_succ, List.set_cons_zero, q_sasg, q_spar, q_sret, q_sretS, q_sife, q_snil, q_tn, q_tr, q_lst, q_tup, q_call, q_cons, q_nil, q_cI, q_ari, q_ix, q_sl, q_s0, q_s1, q_ki, q_kn, q_kb, q_ks, q_neg, q_negD, q_fi, q_ci, q_cb, q_cs, q_cn, if_true, q_ok, q_f0, q_f1, q_ii, q_add, q_sub, q_or, q_and, q_one, q_not, q_cmp, q_eq, q_ne, q_lt, q_le, q_gt, q_ge, q_is, q_isnot, q_isnN, q_isnI, q_isnL, q_isnT, q_notR, q_boolD, Bool.not_true, Bool.not_false, List.length_cons, List.length_nil, sz (show 0 + 1 ≤ 1000000 by decide), sz (show 0 + 1 + 1 ≤ 1000000 by decide), q_lok, q_t1, q_t2, q_t3, q_t4, q_blt, q_blt1, q_blt2, q_eqi, e3]) ?_
  refine sq_rng (j : Int) rfl (by omega) (by omega) (fun k δ => ∃ x, δ = [some (.int (n : Int)), some (fD q), some (.int (j : Int)), some (fL (eR q n) (n + 1 + k)), some (fD (q / (n : Rat))), x]) ⟨_, rfl⟩ (fun k δ hk hI => ?_) (fun δ' hI => ?_)
  · obtain ⟨x, rfl⟩ := hI
    have hk' : k < j := by omega
    have el := fL_last (f := eR q n) (k := n + k)
    rw [show n + k + 1 = n + 1 + k by omega] at el
    have e4 := f_times ((kE L hn h1 (show n + k ≤ n + 40 by omega)).sm (by decide)) ((kStep L hn h1).sm (by decide))
    rw [eR_next (show n ≤ n + k by omega), show n + k + 1 = n + 1 + k by omega] at e4
    refine ⟨[some (.int (n : Int)), some (fD q), some (.int (j : Int)), some (fL (eR q n) (n + 1 + (k + 1))), some (fD (q / (n : Rat))), some (.int (k : Int))], sq (by
      rw [q_appF (f := eR q n) (n := n + 1 + k) rfl (by simp only [List.set_cons_succ, List.set_cons_zero, q_sasg, q_spar, q_sret, q_sretS, q_sife, q_snil, q_tn, q_tr, q_lst, q_tup, q_call, q_cons, q_nil, q_cI, q_ari, q_ix, q_sl, q_s0, q_s1, q_ki, q_kn, q_kb, q_ks, q_neg, q_negD, q_fi, q_ci, q_cb, q_cs, q_cn, if_true, q_ok, q_f0, q_f1, q_ii, q_add, q_sub, q_or, q_and, q_one, q_not, q_cmp, q_eq, q_ne, q_lt, q_le, q_gt, q_ge, q_is, q_isnot, q_isnN, q_isnI, q_isnL, q_isnT, q_notR, q_boolD, Bool.not_true, Bool.not_false, List.length_cons, List.length_nil, sz (show 0 + 1 ≤ 1000000 by decide), sz (show 0 + 1 + 1 ≤ 1000000 by decide), q_lok, q_t1, q_t2, q_t3, q_t4, q_blt, q_blt1, q_blt2, q_eqi, el, e4]) (by omega)]
      rfl) rfl, _, rfl⟩
  · obtain ⟨x, rfl⟩ := hI
    rfl
include hq
theorem spare : 0 < (n : Rat) - q := by grind
theorem kR : Smk 17 ((n : Rat) - q) := ((kN6 L hn h1).sub (kQ L))
theorem kTail : Smk 23 ((n : Rat) / ((n : Rat) - q)) := (kN6 L hn h1).div (kR L hn h1 hq) (spare L hn h1 hq)
theorem kW : Smk 1830 (wW q n) := (kS L (show n ≤ 61 by omega)).add ((kT L hn).mul (kTail L hn h1 hq))
theorem W_pos : 0 < wW q n := by
  have h2 : 0 < tR q n * ((n : Rat) / ((n : Rat) - q)) := Rat.mul_pos (tR_pos L.pos n) (div_pos' (cast_pos (by omega)) (spare L hn h1 hq))
  have h3 : 0 < sR q n := by
    obtain ⟨m, rfl⟩ : ∃ m, n = m + 1 := ⟨n - 1, by omega⟩
    exact sR_pos L.pos m
  unfold wW
  grind
theorem f_spare : Fspare_of [.int (n : Int), fD q] = .ok (fD ((n : Rat) - q)) := by
  have e := f_minus ((kN6 L hn h1).sm (by decide)) ((kQ L).sm (by decide))
  rw [← fD_nat] at e
  refine F_rt (s := Tspare_of) (δ := [some (.int (n : Int)), some (fD q)]) rfl rfl ?_
  unfold Tspare_of
  refine sqx ?_
  simp only [List.set_cons_succ, List.set_cons_zero, q_sasg, q_spar, q_sret, q_sretS, q_sife, q_snil, q_tn, q_tr, q_lst, q_tup, q_call, q_cons, q_nil, q_cI, q_ari, q_ix, q_sl, q_s0, q_s1, q_ki, q_kn, q_kb, q_ks, q_neg, q_negD, q_fi, q_ci, q_cb, q_cs, q_cn, if_true, q_ok, q_f0, q_f1, q_ii, q_add, q_sub, q_or, q_and, q_one, q_not, q_cmp, q_eq, q_ne, q_lt, q_le, q_gt, q_ge, q_is, q_isnot, q_isnN, q_isnI, q_isnL, q_isnT, q_notR, q_boolD, Bool.not_true, Bool.not_false, List.length_cons, List.length_nil, sz (show 0 + 1 ≤ 1000000 by decide), sz (show 0 + 1 + 1 ≤ 1000000 by decide), q_lok, q_t1, q_t2, q_t3, q_t4, q_blt, q_blt1, q_blt2, q_eqi, e]
theorem sumsT' : Sums (tR q) (sR q) n := ⟨rfl, fun _ _ => rfl, fun k hk => (kT L (by omega)).sm (by decide), fun k hk => (kS L (by omega)).sm (by decide)⟩
theorem f_whole : Fwhole_weight [.int (n : Int), fD q] = .ok (fD (wW q n)) := by
  have e1 : Fweights_of [.int (n : Int), fD q] = .ok (fL (tR q) (n + 1)) := f_weights L hn
  have e2 := f_spare L hn h1 hq
  have e3 := f_over ((kN6 L hn h1).sm (by decide)) ((kR L hn h1 hq).sm (by decide)) (spare L hn h1 hq)
  have e4 := f_times ((kT L hn).sm (by decide)) ((kTail L hn h1 hq).sm (by decide))
  have e5 := f_totalG (sumsT' L hn h1 hq)
  have e6 := f_plus ((kS L (show n ≤ 61 by omega)).sm (by decide)) (((kT L hn).mul (kTail L hn h1 hq)).sm (by decide))
  have el := fL_last (f := tR q) (k := n)
  rw [← fD_nat] at e3
  refine F_rt (s := Twhole_weight) (δ := [some (.int (n : Int)), some (fD q), none, none]) rfl rfl ?_
  unfold Twhole_weight
  refine sq (δ1 := [some (.int (n : Int)), some (fD q), some (fL (tR q) (n + 1)), none]) (by simp only [List.set_cons_succ, List.set_cons_zero, q_sasg, q_spar, q_sret, q_sretS, q_sife, q_snil, q_tn, q_tr, q_lst, q_tup, q_call, q_cons, q_nil, q_cI, q_ari, q_ix, q_sl, q_s0, q_s1, q_ki, q_kn, q_kb, q_ks, q_neg, q_negD, q_fi, q_ci, q_cb, q_cs, q_cn, if_true, q_ok, q_f0, q_f1, q_ii, q_add, q_sub, q_or, q_and, q_one, q_not, q_cmp, q_eq, q_ne, q_lt, q_le, q_gt, q_ge, q_is, q_isnot, q_isnN, q_isnI, q_isnL, q_isnT, q_notR, q_boolD, Bool.not_true, Bool.not_false, List.length_cons, List.length_nil, sz (show 0 + 1 ≤ 1000000 by decide), sz (show 0 + 1 + 1 ≤ 1000000 by decide), q_lok, q_t1, q_t2, q_t3, q_t4, q_blt, q_blt1, q_blt2, q_eqi, e1]) ?_
  refine sq (δ1 := [some (.int (n : Int)), some (fD q), some (fL (tR q) (n + 1)), some (fD (tR q n * ((n : Rat) / ((n : Rat) - q))))]) (by simp only [List.set_cons_succ, List.set_cons_zero, q_sasg, q_spar, q_sret, q_sretS, q_sife, q_snil, q_tn, q_tr, q_lst, q_tup, q_call, q_cons, q_nil, q_cI, q_ari, q_ix, q_sl, q_s0, q_s1, q_ki, q_kn, q_kb, q_ks, q_neg, q_negD, q_fi, q_ci, q_cb, q_cs, q_cn, if_true, q_ok, q_f0, q_f1, q_ii, q_add, q_sub, q_or, q_and, q_one, q_not, q_cmp, q_eq, q_ne, q_lt, q_le, q_gt, q_ge, q_is, q_isnot, q_isnN, q_isnI, q_isnL, q_isnT, q_notR, q_boolD, Bool.not_true, Bool.not_false, List.length_cons, List.length_nil, sz (show 0 + 1 ≤ 1000000 by decide), sz (show 0 + 1 + 1 ≤ 1000000 by decide), q_lok, q_t1, q_t2, q_t3, q_t4, q_blt, q_blt1, q_blt2, q_eqi, el, e2, e3, e4]) ?_
  refine sqx ?_
  have ef : ev (.cL (.slc (.sl 2) .nop (.prt (.neg (.k (.int 1)))))) [some (.int (n : Int)), some (fD q), some (fL (tR q) (n + 1)), some (fD (tR q n * ((n : Rat) / ((n : Rat) - q))))] = .ok (fL (tR q) n) := ev_front rfl
  rw [q_sret, q_call, q_cons, q_call, q_cons, ef]
  simp only [List.set_cons_succ, List.set_cons_zero, q_sasg, q_spar, q_sret, q_sretS, q_sife, q_snil, q_tn, q_tr, q_lst, q_tup, q_call, q_cons, q_nil, q_cI, q_ari, q_ix, q_sl, q_s0, q_s1, q_ki, q_kn, q_kb, q_ks, q_neg, q_negD, q_fi, q_ci, q_cb, q_cs, q_cn, if_true, q_ok, q_f0, q_f1, q_ii, q_add, q_sub, q_or, q_and, q_one, q_not, q_cmp, q_eq, q_ne, q_lt, q_le, q_gt, q_ge, q_is, q_isnot, q_isnN, q_isnI, q_isnL, q_isnT, q_notR, q_boolD, Bool.not_true, Bool.not_false, List.length_cons, List.length_nil, sz (show 0 + 1 ≤ 1000000 by decide), sz (show 0 + 1 + 1 ≤ 1000000 by decide), q_lok, q_t1, q_t2, q_t3, q_t4, q_blt, q_blt1, q_blt2, q_eqi, e5, e6]
  rfl
theorem f_waiting_shares {j : Nat} (hj : j ≤ 40) : Fwaiting_shares [.int (n : Int), fD q, .int (j : Int)] = .ok (fL (fun k => eR q n k / wW q n) (n + 1 + j)) := by
  have e1 := f_whole L hn h1 hq
  have e2 := f_waiting_weights L hn h1 hj
  refine F_rt (s := Twaiting_shares) (δ := [some (.int (n : Int)), some (fD q), some (.int (j : Int)), none, none]) rfl rfl ?_
  unfold Twaiting_shares
  refine sq (δ1 := [some (.int (n : Int)), some (fD q), some (.int (j : Int)), some (fD (wW q n)), none]) (by simp only [List.set_cons_succ, List.set_cons_zero, q_sasg, q_spar, q_sret, q_sretS, q_sife, q_snil, q_tn, q_tr, q_lst, q_tup, q_call, q_cons, q_nil, q_cI, q_ari, q_ix, q_sl, q_s0, q_s1, q_ki, q_kn, q_kb, q_ks, q_neg, q_negD, q_fi, q_ci, q_cb, q_cs, q_cn, if_true, q_ok, q_f0, q_f1, q_ii, q_add, q_sub, q_or, q_and, q_one, q_not, q_cmp, q_eq, q_ne, q_lt, q_le, q_gt, q_ge, q_is, q_isnot, q_isnN, q_isnI, q_isnL, q_isnT, q_notR, q_boolD, Bool.not_true, Bool.not_false, List.length_cons, List.length_nil, sz (show 0 + 1 ≤ 1000000 by decide), sz (show 0 + 1 + 1 ≤ 1000000 by decide), q_lok, q_t1, q_t2, q_t3, q_t4, q_blt, q_blt1, q_blt2, q_eqi, e1]) ?_
  refine sqx ?_
  rw [q_sret, ev_comp (List.range (n + 1 + j)) (fun k => fD (eR q n k)) (fun k => fD (eR q n k / wW q n)) (by simp only [List.set_cons_succ, List.set_cons_zero, q_sasg, q_spar, q_sret, q_sretS, q_sife, q_snil, q_tn, q_tr, q_lst, q_tup, q_call, q_cons, q_nil, q_cI, q_ari, q_ix, q_sl, q_s0, q_s1, q_ki, q_kn, q_kb, q_ks, q_neg, q_negD, q_fi, q_ci, q_cb, q_cs, q_cn, if_true, q_ok, q_f0, q_f1, q_ii, q_add, q_sub, q_or, q_and, q_one, q_not, q_cmp, q_eq, q_ne, q_lt, q_le, q_gt, q_ge, q_is, q_isnot, q_isnN, q_isnI, q_isnL, q_isnT, q_notR, q_boolD, Bool.not_true, Bool.not_false, List.length_cons, List.length_nil, sz (show 0 + 1 ≤ 1000000 by decide), sz (show 0 + 1 + 1 ≤ 1000000 by decide), q_lok, q_t1, q_t2, q_t3, q_t4, q_blt, q_blt1, q_blt2, q_eqi, e2]; rfl) fun k hk => ?_]
  · rfl
  · have hk' : k < n + 1 + j := by simpa using hk
    have e := f_over ((kE L hn h1 (show k ≤ n + 40 by omega)).sm (by decide)) ((kW L hn h1 hq).sm (by decide)) (W_pos L hn h1 hq)
    refine ⟨_, rfl, ?_⟩
    simp only [q_w1, q_w0, List.map_cons, List.map_nil, List.set_cons_succ, List.set_cons_zero, q_sasg, q_spar, q_sret, q_sretS, q_sife, q_snil, q_tn, q_tr, q_lst, q_tup, q_call, q_cons, q_nil, q_cI, q_ari, q_ix, q_sl, q_s0, q_s1, q_ki, q_kn, q_kb, q_ks, q_neg, q_negD, q_fi, q_ci, q_cb, q_cs, q_cn, if_true, q_ok, q_f0, q_f1, q_ii, q_add, q_sub, q_or, q_and, q_one, q_not, q_cmp, q_eq, q_ne, q_lt, q_le, q_gt, q_ge, q_is, q_isnot, q_isnN, q_isnI, q_isnL, q_isnT, q_notR, q_boolD, Bool.not_true, Bool.not_false, List.length_cons, List.length_nil, sz (show 0 + 1 ≤ 1000000 by decide), sz (show 0 + 1 + 1 ≤ 1000000 by decide), q_lok, q_t1, q_t2, q_t3, q_t4, q_blt, q_blt1, q_blt2, q_eqi, e]
/-- the share of the calls that wait -/
def wShare (q : Rat) (n : Nat) : Rat := (n : Rat) * bR q n / ((n : Rat) - q * (1 - bR q n))
theorem wShare_den : 0 < (n : Rat) - q * (1 - bR q n) := by
  have h := spare L hn h1 hq
  have h2 := Rat.mul_pos L.pos (bR_pos L.pos n)
  grind
theorem wShare_eq : wShare q n = tR q n * ((n : Rat) / ((n : Rat) - q)) / wW q n := by
  unfold wShare wW
  have hd := wShare_den L hn h1 hq
  have hS := sR_pos L.pos n
  have hr := spare L hn h1 hq
  have hw := W_pos L hn h1 hq
  unfold wW at hw
  have e : bR q n = tR q n / sR q (n + 1) := bR_eq L.pos n
  have e2 : sR q (n + 1) = sR q n + tR q n := rfl
  rw [e] at hd ⊢
  rw [e2] at hS hd ⊢
  generalize sR q n = S at *
  generalize tR q n = t at *
  generalize (n : Rat) = N at *
  have n1 := Rat.ne_of_gt hS
  have n2 := Rat.ne_of_gt hr
  have n3 := Rat.ne_of_gt hw
  have n4 := Rat.ne_of_gt hd
  have a1 : N - q * (1 - t / (S + t)) = (S * (N - q) + t * N) / (S + t) := by grind
  have a2 : S + t * (N / (N - q)) = (S * (N - q) + t * N) / (N - q) := by grind
  rw [a1] at n4 ⊢
  rw [a2] at n3 ⊢
  generalize hX : S * (N - q) + t * N = X at *
  have n5 : X ≠ 0 := fun z => n3 (by rw [z]; grind)
  grind
theorem f_wait_share : Fwait_share [.int (n : Int), fD q] = .ok (fD (wShare q n)) := by
  have e0 := f_lost_share L hn
  have kb := kB L hn
  have e1 := f_times ((kN6 L hn h1).sm (by decide)) (kb.sm (by decide))
  have e2 := f_minus (Smk.one.sm (by decide)) (kb.sm (by decide))
  have k1 := Smk.one.sub kb
  have e3 := f_times ((kQ L).sm (by decide)) (k1.sm (by decide))
  have k2 := (kQ L).mul k1
  have e4 := f_minus ((kN6 L hn h1).sm (by decide)) (k2.sm (by decide))
  have k3 := (kN6 L hn h1).sub k2
  have e5 := f_over (((kN6 L hn h1).mul kb).sm (by decide)) (k3.sm (by decide)) (wShare_den L hn h1 hq)
  rw [← fD_nat] at e1 e4
  rw [← fD_one] at e2
  refine F_rt (s := Twait_share) (δ := [some (.int (n : Int)), some (fD q), none, none]) rfl rfl ?_
  unfold Twait_share
  refine sq (δ1 := [some (.int (n : Int)), some (fD q), some (fD (bR q n)), none]) (by simp only [List.set_cons_succ, List.set_cons_zero, q_sasg, q_spar, q_sret, q_sretS, q_sife, q_snil, q_tn, q_tr, q_lst, q_tup, q_call, q_cons, q_nil, q_cI, q_ari, q_ix, q_sl, q_s0, q_s1, q_ki, q_kn, q_kb, q_ks, q_neg, q_negD, q_fi, q_ci, q_cb, q_cs, q_cn, if_true, q_ok, q_f0, q_f1, q_ii, q_add, q_sub, q_or, q_and, q_one, q_not, q_cmp, q_eq, q_ne, q_lt, q_le, q_gt, q_ge, q_is, q_isnot, q_isnN, q_isnI, q_isnL, q_isnT, q_notR, q_boolD, Bool.not_true, Bool.not_false, List.length_cons, List.length_nil, sz (show 0 + 1 ≤ 1000000 by decide), sz (show 0 + 1 + 1 ≤ 1000000 by decide), q_lok, q_t1, q_t2, q_t3, q_t4, q_blt, q_blt1, q_blt2, q_eqi, e0]) ?_
  refine sq (δ1 := [some (.int (n : Int)), some (fD q), some (fD (bR q n)), some (fD ((n : Rat) * bR q n))]) (by simp only [List.set_cons_succ, List.set_cons_zero, q_sasg, q_spar, q_sret, q_sretS, q_sife, q_snil, q_tn, q_tr, q_lst, q_tup, q_call, q_cons, q_nil, q_cI, q_ari, q_ix, q_sl, q_s0, q_s1, q_ki, q_kn, q_kb, q_ks, q_neg, q_negD, q_fi, q_ci, q_cb, q_cs, q_cn, if_true, q_ok, q_f0, q_f1, q_ii, q_add, q_sub, q_or, q_and, q_one, q_not, q_cmp, q_eq, q_ne, q_lt, q_le, q_gt, q_ge, q_is, q_isnot, q_isnN, q_isnI, q_isnL, q_isnT, q_notR, q_boolD, Bool.not_true, Bool.not_false, List.length_cons, List.length_nil, sz (show 0 + 1 ≤ 1000000 by decide), sz (show 0 + 1 + 1 ≤ 1000000 by decide), q_lok, q_t1, q_t2, q_t3, q_t4, q_blt, q_blt1, q_blt2, q_eqi, e1]) ?_
  refine sqx ?_
  simp only [List.set_cons_succ, List.set_cons_zero, q_sasg, q_spar, q_sret, q_sretS, q_sife, q_snil, q_tn, q_tr, q_lst, q_tup, q_call, q_cons, q_nil, q_cI, q_ari, q_ix, q_sl, q_s0, q_s1, q_ki, q_kn, q_kb, q_ks, q_neg, q_negD, q_fi, q_ci, q_cb, q_cs, q_cn, if_true, q_ok, q_f0, q_f1, q_ii, q_add, q_sub, q_or, q_and, q_one, q_not, q_cmp, q_eq, q_ne, q_lt, q_le, q_gt, q_ge, q_is, q_isnot, q_isnN, q_isnI, q_isnL, q_isnT, q_notR, q_boolD, Bool.not_true, Bool.not_false, List.length_cons, List.length_nil, sz (show 0 + 1 ≤ 1000000 by decide), sz (show 0 + 1 + 1 ≤ 1000000 by decide), q_lok, q_t1, q_t2, q_t3, q_t4, q_blt, q_blt1, q_blt2, q_eqi, e2, e3, e4, e5]
  rfl
theorem kShare : Smk 1836 (wShare q n) := by
  have kb := kB L hn
  exact (((kN6 L hn h1).mul kb).div ((kN6 L hn h1).sub ((kQ L).mul (Smk.one.sub kb))) (wShare_den L hn h1 hq)).le (by decide)
theorem f_mean_waiting : Fmean_waiting [.int (n : Int), fD q] = .ok (fD (wShare q n * (q / ((n : Rat) - q)))) := by
  have e1 := f_wait_share L hn h1 hq
  have e2 := f_spare L hn h1 hq
  have e3 := f_over ((kQ L).sm (by decide)) ((kR L hn h1 hq).sm (by decide)) (spare L hn h1 hq)
  have e4 := f_times ((kShare L hn h1 hq).sm (by decide)) (((kQ L).div (kR L hn h1 hq) (spare L hn h1 hq)).sm (by decide))
  refine F_rt (s := Tmean_waiting) (δ := [some (.int (n : Int)), some (fD q)]) rfl rfl ?_
  unfold Tmean_waiting
  refine sqx ?_
  simp only [List.set_cons_succ, List.set_cons_zero, q_sasg, q_spar, q_sret, q_sretS, q_sife, q_snil, q_tn, q_tr, q_lst, q_tup, q_call, q_cons, q_nil, q_cI, q_ari, q_ix, q_sl, q_s0, q_s1, q_ki, q_kn, q_kb, q_ks, q_neg, q_negD, q_fi, q_ci, q_cb, q_cs, q_cn, if_true, q_ok, q_f0, q_f1, q_ii, q_add, q_sub, q_or, q_and, q_one, q_not, q_cmp, q_eq, q_ne, q_lt, q_le, q_gt, q_ge, q_is, q_isnot, q_isnN, q_isnI, q_isnL, q_isnT, q_notR, q_boolD, Bool.not_true, Bool.not_false, List.length_cons, List.length_nil, sz (show 0 + 1 ≤ 1000000 by decide), sz (show 0 + 1 + 1 ≤ 1000000 by decide), q_lok, q_t1, q_t2, q_t3, q_t4, q_blt, q_blt1, q_blt2, q_eqi, e1, e2, e3, e4]
end
end VS
set_option Elab.async false
set_option linter.all false
set_option maxRecDepth 100000
namespace VS
open PySem PySem.Spec L2
open PyProof.Rows hiding St
theorem fL_ext {f g : Nat → Rat} {n : Nat} (h : ∀ k, k < n → f k = g k) : fL f n = fL g n := by
  have e : ((List.range n).map fun k => fD (f k)) = (List.range n).map fun k => fD (g k) := List.map_congr_left fun k hk => by
    rw [h k (List.mem_range.mp hk)]
  unfold fL
  rw [e]
theorem q_appEnd {f : Nat → Rat} {j : Nat} {tf : Bool} {es : E} {δ : Sl} {n : Nat} {d : D} (h1 : slotD δ j = .ok (fL f n)) (h2 : evl es δ = .ok [d]) (h : n < 1000000) : ∃ d', sev (.mu .app tf (.sl j) es) δ = .nx (δ.set j (some d')) := by
  refine ⟨.list (((List.range n).map fun k => fD (f k)) ++ [d]), ?_⟩
  rw [q_app, h1, q_lok]
  unfold fL
  rw [q_modL, q_ok, q_nox, q_lok, h2, q_lok, q_modL, q_mopA, if_pos (by rw [List.length_map, List.length_range]; exact szl h), q_ok, q_nox, q_lok]
theorem fL_len {f : Nat → Rat} {n : Nat} : blt1 .len (fL f n) = .ok (.int (n : Int)) := by
  unfold fL
  rw [q_lenL, List.length_map, List.length_range]
theorem waits_id {t W q N : Rat} (hN : N ≠ 0) (hW : W ≠ 0) (hr : N - q ≠ 0) : t * (N / (N - q)) / W * (q / (N - q)) = t / W * (q / N) / ((1 + -(q / N)) * (1 + -(q / N))) := by
  have e : 1 + -(q / N) = (N - q) / N := by grind
  rw [e]
  generalize hR : N - q = R at *
  have e2 : R / N * (R / N) = (R * R) / (N * N) := by grind
  rw [e2]
  have n1 : R * R ≠ 0 := by grind
  have n2 : N * N ≠ 0 := by grind
  grind
theorem f_right_waits {q : Rat} (h : Ld q) {n : Nat} (hn : n ≤ 60) (h1 : 1 ≤ n) (hq : q < (n : Rat)) {j : Nat} (hj : j ≤ 40) : F_law_right_waits [.int (n : Int), fD q, .int (j : Int)] = .ok (.bool true) := by
  obtain ⟨p, s, L, _⟩ := h.p
  have hsp := spare L hn h1 hq
  have hW := W_pos L hn h1 hq
  have hN := cast_pos (show 0 < n by omega)
  have kn := kN6 L hn h1
  have kt := kT L hn
  have k1 := kn.add (kQ L).neg
  have a1 := f_lplus (kn.sm (by decide)) ((kQ L).neg.sm (by decide))
  rw [← Rat.sub_eq_add_neg] at a1
  have a2 := f_lover (kn.sm (by decide)) ((kR L hn h1 hq).sm (by decide)) hsp
  have ktl := kTail L hn h1 hq
  have a3 := f_ltotalG (sumsT' L hn h1 hq)
  have a4 := f_ltimes (kt.sm (by decide)) (ktl.sm (by decide))
  have a5 := f_lplus ((kS L (show n ≤ 61 by omega)).sm (by decide)) ((kt.mul ktl).sm (by decide))
  have a5 : F_law_plus [fD (sR q n), fD (tR q n * ((n : Rat) / ((n : Rat) - q)))] = .ok (fD (wW q n)) := a5
  have kw := kW L hn h1 hq
  have a6 := f_lover ((kQ L).sm (by decide)) (kn.sm (by decide)) hN
  have a7 := f_waiting_shares L hn h1 hq hj
  have a8 := f_lover ((kt.mul ktl).sm (by decide)) (kw.sm (by decide)) hW
  rw [← wShare_eq L hn h1 hq] at a8
  have a9 := f_wait_share L hn h1 hq
  have kst := kStep L hn h1
  have a10 := f_lplus (Smk.one.sm (by decide)) (kst.neg.sm (by decide))
  have kre := Smk.one.add kst.neg
  have a11 := f_lover (kt.sm (by decide)) (kw.sm (by decide)) hW
  have a12 := f_ltimes ((kt.div kw hW).sm (by decide)) (kst.sm (by decide))
  have a13 := f_ltimes (kre.sm (by decide)) (kre.sm (by decide))
  have hrest : 0 < 1 + -(q / (n : Rat)) := by
    have e : 1 + -(q / (n : Rat)) = ((n : Rat) - q) / (n : Rat) := by
      have := Rat.ne_of_gt hN
      grind
    rw [e]
    exact div_pos' hsp hN
  have a14 := f_lover (((kt.div kw hW).mul kst).sm (by decide)) ((kre.mul kre).sm (by decide)) (Rat.mul_pos hrest hrest)
  have a15 := f_mean_waiting L hn h1 hq
  rw [wShare_eq L hn h1 hq, waits_id (Rat.ne_of_gt hN) (Rat.ne_of_gt hW) (Rat.ne_of_gt hsp)] at a15
  rw [← fD_nat] at a1 a2 a6
  rw [← fD_one] at a10
  have g1 := fD_neg q
  have g2 := fD_neg (q / (n : Rat))
  have hat : ixD (fL (tR q) (n + 1)) (.int (n : Int)) = .ok (fD (tR q n)) := fL_at (by omega)
  have z1 := fL_eq (fun k => eR q n k / wW q n) (n + 1 + j)
  have z2 := eq_fDs (wShare q n)
  have z3 := eq_fDs (tR q n / wW q n * (q / (n : Rat)) / ((1 + -(q / (n : Rat))) * (1 + -(q / (n : Rat)))))
  have kwt : ∀ k, k ≤ n → F_law_standing_weight [.list [.int (k : Int)], .list [fD q]] = .ok (fD (tR q k)) := fun k hk => f_sweight h (by omega)
  generalize hFi : tR q n / wW q n * (q / (n : Rat)) / ((1 + -(q / (n : Rat))) * (1 + -(q / (n : Rat)))) = Fi at *
  generalize hRe : 1 + -(q / (n : Rat)) = Re at *
  generalize hTl : (n : Rat) / ((n : Rat) - q) = Tl at *
  refine F_rt (s := T_law_right_waits) (δ := [some (.int (n : Int)), some (fD q), some (.int (j : Int)), none, none, none, none, none, none, none, none, none, none, none]) rfl rfl ?_
  unfold T_law_right_waits
  refine sq (δ1 := [some (.int (n : Int)), some (fD q), some (.int (j : Int)), some (fL (tR q) (n + 1)), none, none, none, none, none, none, none, none, none, none]) (by
    rw [q_sasg, ev_comp (List.range (n + 1)) (fun k => PyData.int (k : Int)) (fun k => fD (tR q k)) (ev_rng1 rfl (by omega)) fun k hk => ?_]
    · rfl
    · have hk' : k < n + 1 := by simpa using hk
      have e := kwt k (by omega)
      refine ⟨_, rfl, ?_⟩
      simp only [q_w1, q_w0, List.map_cons, List.map_nil, List.set_cons_succ, List.set_cons_zero, q_sasg, q_spar, q_sret, q_sretS, q_sife, q_snil, q_tn, q_tr, q_lst, q_tup, q_call, q_cons, q_nil, q_cI, q_ari, q_ix, q_sl, q_s0, q_s1, q_ki, q_kn, q_kb, q_ks, q_neg, q_negD, q_fi, q_ci, q_cb, q_cs, q_cn, if_true, q_ok, q_f0, q_f1, q_ii, q_add, q_sub, q_or, q_and, q_one, q_not, q_cmp, q_eq, q_ne, q_lt, q_le, q_gt, q_ge, q_is, q_isnot, q_isnN, q_isnI, q_isnL, q_isnT, q_notR, q_boolD, Bool.not_true, Bool.not_false, List.length_cons, List.length_nil, sz (show 0 + 1 ≤ 1000000 by decide), sz (show 0 + 1 + 1 ≤ 1000000 by decide), q_lok, q_t1, q_t2, q_t3, q_t4, q_blt, q_blt1, q_blt2, q_eqi, e]) ?_
  refine sq (δ1 := [some (.int (n : Int)), some (fD q), some (.int (j : Int)), some (fL (tR q) (n + 1)), some (fD Tl), none, none, none, none, none, none, none, none, none]) (by simp only [List.set_cons_succ, List.set_cons_zero, q_sasg, q_spar, q_sret, q_sretS, q_sife, q_snil, q_tn, q_tr, q_lst, q_tup, q_call, q_cons, q_nil, q_cI, q_ari, q_ix, q_sl, q_s0, q_s1, q_ki, q_kn, q_kb, q_ks, q_neg, q_negD, q_fi, q_ci, q_cb, q_cs, q_cn, if_true, q_ok, q_f0, q_f1, q_ii, q_add, q_sub, q_or, q_and, q_one, q_not, q_cmp, q_eq, q_ne, q_lt, q_le, q_gt, q_ge, q_is, q_isnot, q_isnN, q_isnI, q_isnL, q_isnT, q_notR, q_boolD, Bool.not_true, Bool.not_false, List.length_cons, List.length_nil, sz (show 0 + 1 ≤ 1000000 by decide), sz (show 0 + 1 + 1 ≤ 1000000 by decide), q_lok, q_t1, q_t2, q_t3, q_t4, q_blt, q_blt1, q_blt2, q_eqi, g1, a1, a2]) ?_
  refine sq (δ1 := [some (.int (n : Int)), some (fD q), some (.int (j : Int)), some (fL (tR q) (n + 1)), some (fD Tl), some (fD (wW q n)), none, none, none, none, none, none, none, none]) (by
    have ef : ev (.cL (.slc (.sl 3) .nop (.prt (.neg (.k (.int 1)))))) [some (.int (n : Int)), some (fD q), some (.int (j : Int)), some (fL (tR q) (n + 1)), some (fD Tl), none, none, none, none, none, none, none, none, none] = .ok (fL (tR q) n) := ev_front rfl
    rw [q_sasg, q_call, q_cons, q_call, q_cons, ef]
    simp only [List.set_cons_succ, List.set_cons_zero, q_sasg, q_spar, q_sret, q_sretS, q_sife, q_snil, q_tn, q_tr, q_lst, q_tup, q_call, q_cons, q_nil, q_cI, q_ari, q_ix, q_sl, q_s0, q_s1, q_ki, q_kn, q_kb, q_ks, q_neg, q_negD, q_fi, q_ci, q_cb, q_cs, q_cn, if_true, q_ok, q_f0, q_f1, q_ii, q_add, q_sub, q_or, q_and, q_one, q_not, q_cmp, q_eq, q_ne, q_lt, q_le, q_gt, q_ge, q_is, q_isnot, q_isnN, q_isnI, q_isnL, q_isnT, q_notR, q_boolD, Bool.not_true, Bool.not_false, List.length_cons, List.length_nil, sz (show 0 + 1 ≤ 1000000 by decide), sz (show 0 + 1 + 1 ≤ 1000000 by decide), q_lok, q_t1, q_t2, q_t3, q_t4, q_blt, q_blt1, q_blt2, q_eqi, a3, hat, a4, a5]) ?_
  refine sq (δ1 := [some (.int (n : Int)), some (fD q), some (.int (j : Int)), some (fL (tR q) (n + 1)), some (fD Tl), some (fD (wW q n)), some (fL (fun k => eR q n k / wW q n) (n + 1)), none, none, none, none, none, none, none]) (by
    rw [q_sasg, ev_comp (List.range (n + 1)) (fun k => fD (tR q k)) (fun k => fD (eR q n k / wW q n)) rfl fun k hk => ?_]
    · rfl
    · have hk' : k < n + 1 := by simpa using hk
      have e := f_lover ((kT L (show k ≤ 60 by omega)).sm (by decide)) (kw.sm (by decide)) hW
      rw [eR_low (show k ≤ n by omega)]
      refine ⟨_, rfl, ?_⟩
      simp only [q_w1, q_w0, List.map_cons, List.map_nil, List.set_cons_succ, List.set_cons_zero, q_sasg, q_spar, q_sret, q_sretS, q_sife, q_snil, q_tn, q_tr, q_lst, q_tup, q_call, q_cons, q_nil, q_cI, q_ari, q_ix, q_sl, q_s0, q_s1, q_ki, q_kn, q_kb, q_ks, q_neg, q_negD, q_fi, q_ci, q_cb, q_cs, q_cn, if_true, q_ok, q_f0, q_f1, q_ii, q_add, q_sub, q_or, q_and, q_one, q_not, q_cmp, q_eq, q_ne, q_lt, q_le, q_gt, q_ge, q_is, q_isnot, q_isnN, q_isnI, q_isnL, q_isnT, q_notR, q_boolD, Bool.not_true, Bool.not_false, List.length_cons, List.length_nil, sz (show 0 + 1 ≤ 1000000 by decide), sz (show 0 + 1 + 1 ≤ 1000000 by decide), q_lok, q_t1, q_t2, q_t3, q_t4, q_blt, q_blt1, q_blt2, q_eqi, e]) ?_
  refine sq_rng (j : Int) rfl (by omega) (by omega) (fun k δ => ∃ x, δ = [some (.int (n : Int)), some (fD q), some (.int (j : Int)), some (fL (tR q) (n + 1)), some (fD Tl), some (fD (wW q n)), some (fL (fun k => eR q n k / wW q n) (n + 1 + k)), x, none, none, none, none, none, none]) ⟨_, rfl⟩ (fun k δ hk hI => ?_) (fun δ' hI => ?_)
  · obtain ⟨x, rfl⟩ := hI
    have hk' : k < j := by omega
    have el := fL_at (f := fun k => eR q n k / wW q n) (show n + k < n + 1 + k by omega)
    have en := fL_len (f := fun k => eR q n k / wW q n) (n := n + 1 + k)
    have i1 : ((n + 1 + k : Nat) : Int) - 1 = ((n + k : Nat) : Int) := by omega
    have e4 := f_ltimes (((kE L hn h1 (show n + k ≤ n + 40 by omega)).div kw hW).sm (by decide)) (kst.sm (by decide))
    have i2 : eR q n (n + k) / wW q n * (q / (n : Rat)) = eR q n (n + 1 + k) / wW q n := by
      rw [show n + 1 + k = n + k + 1 by omega, ← eR_next (show n ≤ n + k by omega), Rat.div_def, Rat.div_def (eR q n (n + k) * _)]
      grind
    rw [i2] at e4
    refine ⟨[some (.int (n : Int)), some (fD q), some (.int (j : Int)), some (fL (tR q) (n + 1)), some (fD Tl), some (fD (wW q n)), some (fL (fun k => eR q n k / wW q n) (n + 1 + (k + 1))), some (.int (k : Int)), none, none, none, none, none, none], sq (by
      rw [q_appF (f := fun k => eR q n k / wW q n) (n := n + 1 + k) rfl (by simp only [List.set_cons_succ, List.set_cons_zero, q_sasg, q_spar, q_sret, q_sretS, q_sife, q_snil, q_tn, q_tr, q_lst, q_tup, q_call, q_cons, q_nil, q_cI, q_ari, q_ix, q_sl, q_s0, q_s1, q_ki, q_kn, q_kb, q_ks, q_neg, q_negD, q_fi, q_ci, q_cb, q_cs, q_cn, if_true, q_ok, q_f0, q_f1, q_ii, q_add, q_sub, q_or, q_and, q_one, q_not, q_cmp, q_eq, q_ne, q_lt, q_le, q_gt, q_ge, q_is, q_isnot, q_isnN, q_isnI, q_isnL, q_isnT, q_notR, q_boolD, Bool.not_true, Bool.not_false, List.length_cons, List.length_nil, sz (show 0 + 1 ≤ 1000000 by decide), sz (show 0 + 1 + 1 ≤ 1000000 by decide), q_lok, q_t1, q_t2, q_t3, q_t4, q_blt, q_blt1, q_blt2, q_eqi, en, i1, el, a6, e4]) (by omega)]
      rfl) rfl, _, rfl⟩
  obtain ⟨x, rfl⟩ := hI
  rw [Int.toNat_natCast]
  generalize hZ : fL (fun k => eR q n k / wW q n) (n + 1 + j) = Z at *
  refine sq (δ1 := [some (.int (n : Int)), some (fD q), some (.int (j : Int)), some (fL (tR q) (n + 1)), some (fD Tl), some (fD (wW q n)), some Z, x, some Z, none, none, none, none, none]) (by simp only [List.set_cons_succ, List.set_cons_zero, q_sasg, q_spar, q_sret, q_sretS, q_sife, q_snil, q_tn, q_tr, q_lst, q_tup, q_call, q_cons, q_nil, q_cI, q_ari, q_ix, q_sl, q_s0, q_s1, q_ki, q_kn, q_kb, q_ks, q_neg, q_negD, q_fi, q_ci, q_cb, q_cs, q_cn, if_true, q_ok, q_f0, q_f1, q_ii, q_add, q_sub, q_or, q_and, q_one, q_not, q_cmp, q_eq, q_ne, q_lt, q_le, q_gt, q_ge, q_is, q_isnot, q_isnN, q_isnI, q_isnL, q_isnT, q_notR, q_boolD, Bool.not_true, Bool.not_false, List.length_cons, List.length_nil, sz (show 0 + 1 ≤ 1000000 by decide), sz (show 0 + 1 + 1 ≤ 1000000 by decide), q_lok, q_t1, q_t2, q_t3, q_t4, q_blt, q_blt1, q_blt2, q_eqi, a7]) ?_
  refine sq_no (by simp only [List.set_cons_succ, List.set_cons_zero, q_sasg, q_spar, q_sret, q_sretS, q_sife, q_snil, q_tn, q_tr, q_lst, q_tup, q_call, q_cons, q_nil, q_cI, q_ari, q_ix, q_sl, q_s0, q_s1, q_ki, q_kn, q_kb, q_ks, q_neg, q_negD, q_fi, q_ci, q_cb, q_cs, q_cn, if_true, q_ok, q_f0, q_f1, q_ii, q_add, q_sub, q_or, q_and, q_one, q_not, q_cmp, q_eq, q_ne, q_lt, q_le, q_gt, q_ge, q_is, q_isnot, q_isnN, q_isnI, q_isnL, q_isnT, q_notR, q_boolD, Bool.not_true, Bool.not_false, List.length_cons, List.length_nil, sz (show 0 + 1 ≤ 1000000 by decide), sz (show 0 + 1 + 1 ≤ 1000000 by decide), q_lok, q_t1, q_t2, q_t3, q_t4, q_blt, q_blt1, q_blt2, q_eqi, z1]) ?_
  refine sq (δ1 := [some (.int (n : Int)), some (fD q), some (.int (j : Int)), some (fL (tR q) (n + 1)), some (fD Tl), some (fD (wW q n)), some Z, x, some Z, some (fD (wShare q n)), none, none, none, none]) (by simp only [List.set_cons_succ, List.set_cons_zero, q_sasg, q_spar, q_sret, q_sretS, q_sife, q_snil, q_tn, q_tr, q_lst, q_tup, q_call, q_cons, q_nil, q_cI, q_ari, q_ix, q_sl, q_s0, q_s1, q_ki, q_kn, q_kb, q_ks, q_neg, q_negD, q_fi, q_ci, q_cb, q_cs, q_cn, if_true, q_ok, q_f0, q_f1, q_ii, q_add, q_sub, q_or, q_and, q_one, q_not, q_cmp, q_eq, q_ne, q_lt, q_le, q_gt, q_ge, q_is, q_isnot, q_isnN, q_isnI, q_isnL, q_isnT, q_notR, q_boolD, Bool.not_true, Bool.not_false, List.length_cons, List.length_nil, sz (show 0 + 1 ≤ 1000000 by decide), sz (show 0 + 1 + 1 ≤ 1000000 by decide), q_lok, q_t1, q_t2, q_t3, q_t4, q_blt, q_blt1, q_blt2, q_eqi, hat, a4, a8]) ?_
  refine sq_no (by simp only [List.set_cons_succ, List.set_cons_zero, q_sasg, q_spar, q_sret, q_sretS, q_sife, q_snil, q_tn, q_tr, q_lst, q_tup, q_call, q_cons, q_nil, q_cI, q_ari, q_ix, q_sl, q_s0, q_s1, q_ki, q_kn, q_kb, q_ks, q_neg, q_negD, q_fi, q_ci, q_cb, q_cs, q_cn, if_true, q_ok, q_f0, q_f1, q_ii, q_add, q_sub, q_or, q_and, q_one, q_not, q_cmp, q_eq, q_ne, q_lt, q_le, q_gt, q_ge, q_is, q_isnot, q_isnN, q_isnI, q_isnL, q_isnT, q_notR, q_boolD, Bool.not_true, Bool.not_false, List.length_cons, List.length_nil, sz (show 0 + 1 ≤ 1000000 by decide), sz (show 0 + 1 + 1 ≤ 1000000 by decide), q_lok, q_t1, q_t2, q_t3, q_t4, q_blt, q_blt1, q_blt2, q_eqi, a9, z2]) ?_
  refine sq (δ1 := [some (.int (n : Int)), some (fD q), some (.int (j : Int)), some (fL (tR q) (n + 1)), some (fD Tl), some (fD (wW q n)), some Z, x, some Z, some (fD (wShare q n)), some (fD (q / (n : Rat))), none, none, none]) (by simp only [List.set_cons_succ, List.set_cons_zero, q_sasg, q_spar, q_sret, q_sretS, q_sife, q_snil, q_tn, q_tr, q_lst, q_tup, q_call, q_cons, q_nil, q_cI, q_ari, q_ix, q_sl, q_s0, q_s1, q_ki, q_kn, q_kb, q_ks, q_neg, q_negD, q_fi, q_ci, q_cb, q_cs, q_cn, if_true, q_ok, q_f0, q_f1, q_ii, q_add, q_sub, q_or, q_and, q_one, q_not, q_cmp, q_eq, q_ne, q_lt, q_le, q_gt, q_ge, q_is, q_isnot, q_isnN, q_isnI, q_isnL, q_isnT, q_notR, q_boolD, Bool.not_true, Bool.not_false, List.length_cons, List.length_nil, sz (show 0 + 1 ≤ 1000000 by decide), sz (show 0 + 1 + 1 ≤ 1000000 by decide), q_lok, q_t1, q_t2, q_t3, q_t4, q_blt, q_blt1, q_blt2, q_eqi, a6]) ?_
  refine sq (δ1 := [some (.int (n : Int)), some (fD q), some (.int (j : Int)), some (fL (tR q) (n + 1)), some (fD Tl), some (fD (wW q n)), some Z, x, some Z, some (fD (wShare q n)), some (fD (q / (n : Rat))), some (fD Re), none, none]) (by simp only [List.set_cons_succ, List.set_cons_zero, q_sasg, q_spar, q_sret, q_sretS, q_sife, q_snil, q_tn, q_tr, q_lst, q_tup, q_call, q_cons, q_nil, q_cI, q_ari, q_ix, q_sl, q_s0, q_s1, q_ki, q_kn, q_kb, q_ks, q_neg, q_negD, q_fi, q_ci, q_cb, q_cs, q_cn, if_true, q_ok, q_f0, q_f1, q_ii, q_add, q_sub, q_or, q_and, q_one, q_not, q_cmp, q_eq, q_ne, q_lt, q_le, q_gt, q_ge, q_is, q_isnot, q_isnN, q_isnI, q_isnL, q_isnT, q_notR, q_boolD, Bool.not_true, Bool.not_false, List.length_cons, List.length_nil, sz (show 0 + 1 ≤ 1000000 by decide), sz (show 0 + 1 + 1 ≤ 1000000 by decide), q_lok, q_t1, q_t2, q_t3, q_t4, q_blt, q_blt1, q_blt2, q_eqi, g2, a10]) ?_
  refine sq (δ1 := [some (.int (n : Int)), some (fD q), some (.int (j : Int)), some (fL (tR q) (n + 1)), some (fD Tl), some (fD (wW q n)), some Z, x, some Z, some (fD (wShare q n)), some (fD (q / (n : Rat))), some (fD Re), some (fD Fi), none]) (by simp only [List.set_cons_succ, List.set_cons_zero, q_sasg, q_spar, q_sret, q_sretS, q_sife, q_snil, q_tn, q_tr, q_lst, q_tup, q_call, q_cons, q_nil, q_cI, q_ari, q_ix, q_sl, q_s0, q_s1, q_ki, q_kn, q_kb, q_ks, q_neg, q_negD, q_fi, q_ci, q_cb, q_cs, q_cn, if_true, q_ok, q_f0, q_f1, q_ii, q_add, q_sub, q_or, q_and, q_one, q_not, q_cmp, q_eq, q_ne, q_lt, q_le, q_gt, q_ge, q_is, q_isnot, q_isnN, q_isnI, q_isnL, q_isnT, q_notR, q_boolD, Bool.not_true, Bool.not_false, List.length_cons, List.length_nil, sz (show 0 + 1 ≤ 1000000 by decide), sz (show 0 + 1 + 1 ≤ 1000000 by decide), q_lok, q_t1, q_t2, q_t3, q_t4, q_blt, q_blt1, q_blt2, q_eqi, hat, a11, a12, a13, a14]) ?_
  obtain ⟨d', ed'⟩ := q_appEnd (j := 8) (tf := false) (es := .cons (.tup (.cons (.k (.int 0)) (.cons (.k (.int 1)) .nil))) .nil) (δ := [some (.int (n : Int)), some (fD q), some (.int (j : Int)), some (fL (tR q) (n + 1)), some (fD Tl), some (fD (wW q n)), some Z, x, some Z, some (fD (wShare q n)), some (fD (q / (n : Rat))), some (fD Re), some (fD Fi), none]) (f := fun k => eR q n k / wW q n) (n := n + 1 + j) (d := .tuple [.int 0, .int 1]) (by rw [hZ]; rfl) (by simp only [List.set_cons_succ, List.set_cons_zero, q_sasg, q_spar, q_sret, q_sretS, q_sife, q_snil, q_tn, q_tr, q_lst, q_tup, q_call, q_cons, q_nil, q_cI, q_ari, q_ix, q_sl, q_s0, q_s1, q_ki, q_kn, q_kb, q_ks, q_neg, q_negD, q_fi, q_ci, q_cb, q_cs, q_cn, if_true, q_ok, q_f0, q_f1, q_ii, q_add, q_sub, q_or, q_and, q_one, q_not, q_cmp, q_eq, q_ne, q_lt, q_le, q_gt, q_ge, q_is, q_isnot, q_isnN, q_isnI, q_isnL, q_isnT, q_notR, q_boolD, Bool.not_true, Bool.not_false, List.length_cons, List.length_nil, sz (show 0 + 1 ≤ 1000000 by decide), sz (show 0 + 1 + 1 ≤ 1000000 by decide), q_lok, q_t1, q_t2, q_t3, q_t4, q_blt, q_blt1, q_blt2, q_eqi]) (by omega)
  refine sq ed' (sqx ?_)
  simp only [List.set_cons_succ, List.set_cons_zero, q_sasg, q_spar, q_sret, q_sretS, q_sife, q_snil, q_tn, q_tr, q_lst, q_tup, q_call, q_cons, q_nil, q_cI, q_ari, q_ix, q_sl, q_s0, q_s1, q_ki, q_kn, q_kb, q_ks, q_neg, q_negD, q_fi, q_ci, q_cb, q_cs, q_cn, if_true, q_ok, q_f0, q_f1, q_ii, q_add, q_sub, q_or, q_and, q_one, q_not, q_cmp, q_eq, q_ne, q_lt, q_le, q_gt, q_ge, q_is, q_isnot, q_isnN, q_isnI, q_isnL, q_isnT, q_notR, q_boolD, Bool.not_true, Bool.not_false, List.length_cons, List.length_nil, sz (show 0 + 1 ≤ 1000000 by decide), sz (show 0 + 1 + 1 ≤ 1000000 by decide), q_lok, q_t1, q_t2, q_t3, q_t4, q_blt, q_blt1, q_blt2, q_eqi, a15, z3, a7, z1]
end VS
set_option Elab.async false
set_option linter.all false
set_option maxRecDepth 100000
namespace VS
def Cd (D A : Nat) (x : Rat) : Prop := ∃ a : Nat, a ≤ A ∧ x = (a : Rat) / (D : Rat)
theorem Cd.le {D A B : Nat} {x : Rat} (h : Cd D A x) (hab : A ≤ B) : Cd D B x := by
  obtain ⟨a, h1, h2⟩ := h
  exact ⟨a, Nat.le_trans h1 hab, h2⟩
theorem Cd.zero (D : Nat) : Cd D 0 0 := ⟨0, Nat.le_refl _, by show (0 : Rat) = 0 / _; rw [Rat.div_def]; grind⟩
theorem Cd.add {D A B : Nat} {x y : Rat} (h : Cd D A x) (h2 : Cd D B y) : Cd D (A + B) (x + y) := by
  obtain ⟨a, h1, rfl⟩ := h
  obtain ⟨b, h3, rfl⟩ := h2
  exact ⟨a + b, Nat.add_le_add h1 h3, by rw [cast_add, Rat.div_def, Rat.div_def, Rat.div_def, Rat.add_mul]⟩
theorem Cd.mul {D E A B : Nat} {x y : Rat} (hD : 0 < D) (hE : 0 < E) (h : Cd D A x) (h2 : Cd E B y) : Cd (D * E) (A * B) (x * y) := by
  obtain ⟨a, h1, rfl⟩ := h
  obtain ⟨b, h3, rfl⟩ := h2
  refine ⟨a * b, Nat.mul_le_mul h1 h3, ?_⟩
  have := cast_ne hD
  have := cast_ne hE
  rw [cast_mul, cast_mul]
  grind
theorem Cd.nat {D A : Nat} {x : Rat} (k : Nat) (h : Cd D A x) : Cd D (k * A) ((k : Rat) * x) := by
  obtain ⟨a, h1, rfl⟩ := h
  exact ⟨k * a, Nat.mul_le_mul (Nat.le_refl _) h1, by rw [cast_mul, Rat.div_def, Rat.div_def, Rat.mul_assoc]⟩
theorem Cd.smk {D A i : Nat} {x : Rat} (hD : 0 < D) (h : Cd D A x) (hA : A ≤ 2 ^ i) (hDi : D ≤ 2 ^ i) : Smk i x := by
  obtain ⟨a, h1, e⟩ := h
  exact Rp.smk ⟨e, hD⟩ (Nat.le_trans h1 hA) hDi
theorem Cd.nn {D A : Nat} {x : Rat} (h : Cd D A x) : 0 ≤ x := by
  obtain ⟨a, _, rfl⟩ := h
  by_cases e : D = 0
  · subst e
    rw [show ((0 : Nat) : Rat) = 0 from rfl, Rat.div_def, Rat.inv_zero, Rat.mul_zero]
    exact Rat.le_refl
  · rw [Rat.div_def]
    exact Rat.mul_nonneg (Rat.natCast_nonneg) (Rat.le_of_lt (Rat.inv_pos.mpr (cast_pos (by omega))))
theorem Cd.su {D A : Nat} {f : Nat → Rat} : ∀ {n : Nat}, (∀ k, k < n → Cd D A (f k)) → Cd D (n * A) (su f n)
  | 0, _ => by rw [Nat.zero_mul]; exact Cd.zero D
  | n + 1, h => by rw [Nat.add_mul, Nat.one_mul]; exact (Cd.su fun k hk => h k (by omega)).add (h n (by omega))
theorem Cd.lsum {α : Type} {D A : Nat} {f : α → Rat} : ∀ {l : List α}, (∀ x ∈ l, Cd D A (f x)) → Cd D (l.length * A) (lsum f l)
  | [], _ => by rw [List.length_nil, Nat.zero_mul]; exact Cd.zero D
  | x :: l, h => by
    rw [lsum_cons, List.length_cons, Nat.add_mul, Nat.one_mul, Nat.add_comm]
    exact (h x List.mem_cons_self).add (Cd.lsum fun y hy => h y (List.mem_cons_of_mem _ hy))
theorem Cd.up {D A : Nat} {x : Rat} (hD : 0 < D) {m : Nat} (hm : 0 < m) (h : Cd D A x) : Cd (D * m) (A * m) x := by
  obtain ⟨a, h1, e⟩ := h
  refine ⟨a * m, Nat.mul_le_mul h1 (Nat.le_refl _), ?_⟩
  have := cast_ne hD
  have := cast_ne hm
  rw [e, cast_mul, cast_mul]
  grind
theorem su_nn {f : Nat → Rat} : ∀ {n : Nat}, (∀ k, k < n → 0 ≤ f k) → 0 ≤ su f n
  | 0, _ => Rat.le_refl
  | n + 1, h => Rat.add_nonneg (su_nn fun k hk => h k (by omega)) (h n (by omega))
theorem su_mv (w : Nat) (f : Nat → Rat) : ∀ m, su (mv w f) m = su f (m - w)
  | 0 => by rw [Nat.zero_sub]; rfl
  | m + 1 => by
    show su (mv w f) m + mv w f m = _
    rw [su_mv w f m]
    unfold mv
    by_cases h : w ≤ m
    · rw [if_pos h, show m + 1 - w = (m - w) + 1 by omega]; rfl
    · rw [if_neg h, show m + 1 - w = 0 by omega, show m - w = 0 by omega, Rat.add_zero]
theorem su_split (f : Nat → Rat) (m : Nat) : ∀ n, su f (m + n) = su f m + su (fun k => f (m + k)) n
  | 0 => (Rat.add_zero _).symm
  | n + 1 => by
    show su f (m + n) + f (m + n) = su f m + (su (fun k => f (m + k)) n + f (m + n))
    rw [su_split f m n, Rat.add_assoc]
theorem cvl_0 (l : List (Nat × Rat)) : cvl l 0 = 1 := by
  induction l using rev_ind with
  | h0 => rfl
  | h1 l x ih =>
    rw [cvl_app]
    unfold cw
    rw [Nat.zero_div]
    show 0 + mv (0 * x.1) (cvl l) 0 * 1 = 1
    unfold mv
    rw [if_pos (by omega), Nat.zero_sub, ih]
    decide +kernel
/-- what is asked of the kinds -/
structure Ks (l : List (Nat × Rat)) : Prop where
  w : ∀ x ∈ l, 0 < x.1 ∧ x.1 ≤ 100
  q : ∀ x ∈ l, Ld x.2
  n : l.length ≤ 5
theorem fac28 {n : Nat} (h : n ≤ 28) : fac n ≤ 2 ^ 98 := Nat.le_trans (fac_mono h) (by decide)
theorem p28 {p k n : Nat} (hp : p ≤ 1000) (h : k ≤ n) (hn : n ≤ 28) : p ^ k ≤ 2 ^ 280 := by
  calc p ^ k ≤ 1024 ^ k := Nat.pow_le_pow_left (by omega) _
    _ ≤ 1024 ^ 28 := Nat.pow_le_pow_right (by decide) (by omega)
    _ = 2 ^ 280 := by rw [show 1024 = 2 ^ 10 by decide, ← Nat.pow_mul]
theorem wN28 {p s n k : Nat} (hp : p ≤ 1000) (hs : s ≤ 1000) (hk : k ≤ n) (hn : n ≤ 28) : wN p s n k ≤ 2 ^ 378 := by
  unfold wN
  have h1 : p ^ k * s ^ (n - k) ≤ 2 ^ 280 := by
    calc p ^ k * s ^ (n - k) ≤ 1024 ^ k * 1024 ^ (n - k) := Nat.mul_le_mul (Nat.pow_le_pow_left (by omega) _) (Nat.pow_le_pow_left (by omega) _)
      _ = 1024 ^ n := by rw [← Nat.pow_add]; congr 1; omega
      _ ≤ 1024 ^ 28 := Nat.pow_le_pow_right (by decide) hn
      _ = 2 ^ 280 := by rw [show 1024 = 2 ^ 10 by decide, ← Nat.pow_mul]
  calc _ ≤ 2 ^ 280 * 2 ^ 98 := Nat.mul_le_mul h1 (Nat.le_trans (Nat.div_le_self _ _) (fac28 hn))
    _ = 2 ^ 378 := by rw [← Nat.pow_add]
theorem tR_cd {q : Rat} (h : Ld q) {N : Nat} (hN : N ≤ 28) : ∃ D, 0 < D ∧ D ≤ 2 ^ 378 ∧ ∀ k, k ≤ N → Cd D (2 ^ 378) (tR q k) := by
  obtain ⟨p, s, L, _⟩ := h.p
  refine ⟨s ^ N * fac N, Nat.mul_pos (Nat.pow_pos L.s0) (fac_pos N), m20 (k := 280) (l := 98) (p28 L.s1 (Nat.le_refl N) hN) (fac28 hN), fun k hk => ⟨wN p s N k, wN28 L.p1 L.s1 hk hN, tR_w L.s0 L.e hk⟩⟩
structure SdOk (N : Nat) (l : List (Nat × Rat)) (s : Sd) : Prop where
  len : s.c.length = l.length
  le : ∀ c ∈ s.c, c ≤ N
theorem sds_ok {N : Nat} (l : List (Nat × Rat)) : ∀ s ∈ sds N l, SdOk N l s := by
  induction l using rev_ind with
  | h0 => intro s hs; rw [List.mem_singleton.mp hs]; exact ⟨rfl, nofun⟩
  | h1 l x ih =>
    intro s hs
    rw [sds_app] at hs
    obtain ⟨s', h1, h2⟩ := List.mem_flatMap.mp hs
    obtain ⟨j, h3, rfl⟩ := List.mem_map.mp h2
    have h4 := ih s' h1
    refine ⟨?_, fun c hc => ?_⟩
    · show (s'.c ++ [j]).length = _
      rw [List.length_append, List.length_append, h4.len]; rfl
    · rcases List.mem_append.mp hc with hc | hc
      · exact h4.le c hc
      · rw [List.mem_singleton.mp hc]
        have := List.mem_range.mp h3
        have := Nat.div_le_self N x.1
        omega
theorem sds_len {N : Nat} (hN : N ≤ 28) (l : List (Nat × Rat)) : (sds N l).length ≤ 2 ^ (5 * l.length) := by
  induction l using rev_ind with
  | h0 => exact Nat.le_refl _
  | h1 l x ih =>
    rw [sds_app, List.length_append, show 5 * (l.length + [x].length) = 5 * l.length + 5 from rfl]
    unfold sdStep
    have key : ∀ m : List Sd, (m.flatMap fun s => (List.range (N / x.1 + 1)).map fun j => (⟨s.c ++ [j], s.u + j * x.1, s.x * tR x.2 j⟩ : Sd)).length = m.length * (N / x.1 + 1) := fun m => by
      induction m with
      | nil => rw [List.flatMap_nil, List.length_nil, Nat.zero_mul]
      | cons a m ih => rw [List.flatMap_cons, List.length_append, ih, List.length_map, List.length_range, List.length_cons, Nat.add_mul, Nat.one_mul, Nat.add_comm]
    rw [key]
    refine m20 ih ?_
    have := Nat.div_le_self N x.1
    have : 2 ^ 5 = 32 := rfl
    omega
theorem sds_cd {N : Nat} (hN : N ≤ 28) (l : List (Nat × Rat)) (hq : ∀ x ∈ l, Ld x.2) : ∃ D, 0 < D ∧ D ≤ 2 ^ (378 * l.length) ∧ ∀ s ∈ sds N l, Cd D (2 ^ (378 * l.length)) s.x := by
  induction l using rev_ind with
  | h0 => exact ⟨1, by decide, Nat.le_refl _, fun s hs => by rw [List.mem_singleton.mp hs]; exact ⟨1, Nat.le_refl _, by decide +kernel⟩⟩
  | h1 l x ih =>
    obtain ⟨D, d1, d2, d3⟩ := ih fun y hy => hq y (by simp [hy])
    obtain ⟨E, f1, f2, f3⟩ := tR_cd (hq x (by simp)) hN
    rw [List.length_append, show 378 * (l.length + [x].length) = 378 * l.length + 378 from rfl]
    refine ⟨D * E, Nat.mul_pos d1 f1, m20 d2 f2, fun s hs => ?_⟩
    rw [sds_app] at hs
    obtain ⟨s', h1, h2⟩ := List.mem_flatMap.mp hs
    obtain ⟨j, h3, rfl⟩ := List.mem_map.mp h2
    have := List.mem_range.mp h3
    have := Nat.div_le_self N x.1
    have := (d3 s' h1).mul d1 f1 (f3 j (by omega))
    rwa [← Nat.pow_add] at this
/-- the weights have one denominator -/
structure Cds (N : Nat) (l : List (Nat × Rat)) (D : Nat) : Prop where
  d0 : 0 < D
  d1 : D ≤ 2 ^ 1890
  s : ∀ s ∈ sds N l, Cd D (2 ^ 1890) s.x
  n : (sds N l).length ≤ 2 ^ 25
  f : ∀ u, u ≤ N → Cd D (2 ^ 1915) (cvl l u)
theorem at0_cd {D A u : Nat} {s : Sd} (h : Cd D A s.x) : Cd D A (at0 u s) := by
  unfold at0
  split
  · exact h
  · exact (Cd.zero D).le (Nat.zero_le _)
theorem cds_of {N : Nat} (hN : N ≤ 28) {l : List (Nat × Rat)} (h : Ks l) : ∃ D, Cds N l D := by
  obtain ⟨D, d0, d1, d2⟩ := sds_cd hN l h.q
  have h5 := h.n
  have e1 : 378 * l.length ≤ 1890 := by omega
  have d2' : ∀ s ∈ sds N l, Cd D (2 ^ 1890) s.x := fun s hs => (d2 s hs).le (p2 e1)
  have n1 : (sds N l).length ≤ 2 ^ 25 := Nat.le_trans (sds_len hN l) (p2 (by omega))
  refine ⟨D, d0, Nat.le_trans d1 (p2 e1), d2', n1, fun u hu => ?_⟩
  rw [← sds_sum l (fun x hx => (h.w x hx).1) u hu]
  refine (Cd.lsum fun s hs => at0_cd (d2' s hs)).le ?_
  exact m20 (k := 25) (l := 1890) n1 (Nat.le_refl _)
/-- the loads have one denominator -/
theorem loads_cd (l : List (Nat × Rat)) (hq : ∀ x ∈ l, Ld x.2) : ∃ S, 0 < S ∧ S ≤ 2 ^ (10 * l.length) ∧ ∀ x ∈ l, Cd S (2 ^ (10 * l.length)) x.2 := by
  induction l with
  | nil => exact ⟨1, by decide, Nat.le_refl _, nofun⟩
  | cons x l ih =>
    obtain ⟨S, s0, s1, s2⟩ := ih fun y hy => hq y (List.mem_cons_of_mem _ hy)
    obtain ⟨p, s, L, _⟩ := (hq x List.mem_cons_self).p
    rw [List.length_cons, show 10 * (l.length + 1) = 10 * l.length + 10 from rfl]
    refine ⟨S * s, Nat.mul_pos s0 L.s0, m20 s1 (th10 L.s1), fun y hy => ?_⟩
    rcases List.mem_cons.mp hy with rfl | hy
    · have : Cd s p y.2 := ⟨p, Nat.le_refl _, L.e⟩
      have := this.up L.s0 s0
      rw [Nat.mul_comm s S] at this
      refine this.le ?_
      rw [Nat.mul_comm]
      exact m20 s1 (th10 L.p1)
    · refine ((s2 y hy).up s0 L.s0).le (m20 (Nat.le_refl _) (th10 L.s1))
section
variable {N : Nat} (hN : N ≤ 28) {l : List (Nat × Rat)} (h : Ks l) {D : Nat} (C : Cds N l D)
include hN h C
def tW (N : Nat) (l : List (Nat × Rat)) : Rat := su (cvl l) (N + 1)
theorem tW_cd : Cd D (2 ^ 1920) (tW N l) := (Cd.su fun k hk => C.f k (by omega)).le (by
  exact m20 (k := 5) (l := 1915) (by have : 2 ^ 5 = 32 := rfl; omega) (Nat.le_refl _))
theorem tW_pos : 0 < tW N l := by
  unfold tW
  rw [su_first]
  have h1 : 0 ≤ su (fun k => cvl l (k + 1)) N := su_nn fun k hk => (C.f (k + 1) (by omega)).nn
  rw [cvl_0]
  have : (0 : Rat) < 1 := by decide
  grind
/-- the shares have one denominator -/
theorem shares_cd : ∃ T, 0 < T ∧ T ≤ 2 ^ 1920 ∧ ∀ u, u ≤ N → Cd T (2 ^ 1915) (cvl l u / tW N l) := by
  obtain ⟨T, t1, t2⟩ := tW_cd hN h C
  have hp := tW_pos hN h C
  have d0 := cast_pos C.d0
  have T0 : 0 < T := Nat.pos_of_ne_zero fun e => by
    rw [t2, e] at hp
    have : ((0 : Nat) : Rat) / (D : Rat) = 0 := by rw [Rat.div_def]; exact Rat.zero_mul _
    rw [this] at hp
    exact absurd hp (by decide)
  refine ⟨T, T0, t1, fun u hu => ?_⟩
  obtain ⟨a, a1, a2⟩ := C.f u hu
  refine ⟨a, a1, ?_⟩
  have n1 := Rat.ne_of_gt d0
  have n2 := cast_ne T0
  rw [a2, t2]
  grind
/-- the share of the standings at which a kind is lost -/
def lo (N : Nat) (l : List (Nat × Rat)) (w : Nat) : Rat := su (fun k => cvl l (N + 1 - w + k) / tW N l) (N + 1 - (N + 1 - w))
theorem lo_eq (w : Nat) : 1 - lo N l w = su (mv w (fun u => cvl l u / tW N l)) (N + 1) := by
  have hp := Rat.ne_of_gt (tW_pos hN h C)
  unfold lo
  rw [su_mv]
  have e := su_split (fun u => cvl l u / tW N l) (N + 1 - w) (N + 1 - (N + 1 - w))
  rw [show N + 1 - w + (N + 1 - (N + 1 - w)) = N + 1 by omega] at e
  have e2 : su (fun u => cvl l u / tW N l) (N + 1) = 1 := by
    rw [su_congr (g := fun u => (tW N l)⁻¹ * cvl l u) fun k _ => by rw [Rat.div_def, Rat.mul_comm], su_mul]
    show (tW N l)⁻¹ * tW N l = 1
    exact Rat.inv_mul_cancel _ hp
  rw [e2] at e
  grind
/-- the mean of the lines in use -/
theorem mean_eq : su (fun u => (u : Rat) * (cvl l u / tW N l)) (N + 1) = lsum (fun x => ((x.1 : Rat) * x.2) * (1 - lo N l x.1)) l := by
  have R := rq_cvl l fun x hx => (h.w x hx).1
  have e1 : ∀ u : Nat, (u : Rat) * (cvl l u / tW N l) = lsum (fun x => ((x.1 : Rat) * x.2) * mv x.1 (fun u => cvl l u / tW N l) u) l := fun u => by
    rw [Rat.div_def, ← Rat.mul_assoc, R u, Rat.mul_comm, ← lsum_mul]
    refine lsum_congr fun x _ => ?_
    unfold mv
    split
    · show _ = (x.1 : Rat) * x.2 * (cvl l (u - x.1) / tW N l)
      rw [Rat.div_def]; grind
    · grind
  rw [su_congr fun u _ => e1 u, su_lsum (fun (x : Nat × Rat) u => ((x.1 : Rat) * x.2) * mv x.1 (fun u => cvl l u / tW N l) u)]
  refine lsum_congr fun x _ => ?_
  rw [su_mul, lo_eq hN h C]
end
end VS
set_option Elab.async false
set_option linter.all false
set_option maxRecDepth 100000
namespace VS
open PySem PySem.Spec L2
open PyProof.Rows hiding St
theorem ev_compF {β : Type} {own : List (Str × Nat)} {tg : Tg} {it cnd elt : E} {δ : Sl} (l : List β) (f g : β → D) (c : β → Bool) (h1 : (ev it δ >>= iterD) = .ok (l.map f))
    (h : ∀ b ∈ l, ∃ δ', setTg tg (f b) (wipeD δ (own.map (·.2))) = .ok δ' ∧ evc cnd δ' = .ok (c b) ∧ (c b = true → ev elt δ' = .ok (g b))) : ev (.comp own tg it cnd elt) δ = .ok (.list ((l.filter c).map g)) := by
  show (ev it δ >>= iterD >>= fun xs => nox (compL (fun x => setTg tg x (wipeD δ (own.map (·.2))) >>= fun δ' => evc cnd δ' >>= fun c => match c with
        | true => ev elt δ' >>= fun y => .ok (some y)
        | false => .ok none) xs) >>= fun ys => R.ok (PyData.list ys)) = _
  rw [h1]
  have key : ∀ l : List β, (∀ b ∈ l, ∃ δ', setTg tg (f b) (wipeD δ (own.map (·.2))) = .ok δ' ∧ evc cnd δ' = .ok (c b) ∧ (c b = true → ev elt δ' = .ok (g b))) → compL (fun x => setTg tg x (wipeD δ (own.map (·.2))) >>= fun δ' => evc cnd δ' >>= fun c => match c with
        | true => ev elt δ' >>= fun y => .ok (some y)
        | false => .ok none) (l.map f) = .ok ((l.filter c).map g) := by
    intro l
    induction l with
    | nil => intro _; rfl
    | cons b l ih =>
      intro h
      obtain ⟨δ', e1, e2, e3⟩ := h b List.mem_cons_self
      have ih := ih fun c hc => h c (List.mem_cons_of_mem _ hc)
      cases hb : c b with
      | true =>
        rw [List.filter_cons_of_pos hb]
        refine compL_cons (o := some (g b)) ?_ ih
        simp only [e1, q_ok, e2, hb, e3 hb]
      | false =>
        rw [List.filter_cons_of_neg (by rw [hb]; decide)]
        refine compL_cons (o := none) ?_ ih
        simp only [e1, q_ok, e2, hb]
  simp only [q_ok, key l h, q_nox]
theorem q_appG {j : Nat} {tf : Bool} {es : E} {δ : Sl} {l : List D} {d : D} (h1 : slotD δ j = .ok (.list l)) (h2 : evl es δ = .ok [d]) (h : l.length < 1000000) : sev (.mu .app tf (.sl j) es) δ = .nx (δ.set j (some (.list (l ++ [d])))) := by
  rw [q_app, h1, q_lok, q_modL, q_ok, q_nox, q_lok, h2, q_lok, q_modL, q_mopA, if_pos (szl h), q_ok, q_nox, q_lok]
theorem drop_fL (f : Nat → Rat) {n m : Nat} : ((List.range n).map fun k => fD (f k)).drop m = (List.range (n - m)).map fun k => fD (f (m + k)) := by
  refine List.ext_getElem (by rw [List.length_drop, List.length_map, List.length_map, List.length_range, List.length_range]) fun k h1 h2 => ?_
  rw [List.getElem_drop, List.getElem_map, List.getElem_map, List.getElem_range, List.getElem_range]
theorem cut_fL (f : Nat → Rat) {n m : Nat} (h : m ≤ n) : slcD (fL f n) (some (m : Int)) none = .ok (fL (fun k => f (m + k)) (n - m)) := by
  unfold fL
  rw [q_slcL, cut_from _ (by rw [List.length_map, List.length_range]; exact h), drop_fL]
theorem range_tail (N w : Nat) : (List.range (N + 1)).filter (fun (u : Nat) => decide ((N : Int) - (u : Int) < (w : Int))) = (List.range (N + 1 - (N + 1 - w))).map fun k => N + 1 - w + k := by
  have e : List.range (N + 1) = List.range (N + 1 - w) ++ (List.range (N + 1 - (N + 1 - w))).map fun k => N + 1 - w + k := by
    rw [← List.range_add, show N + 1 - w + (N + 1 - (N + 1 - w)) = N + 1 by omega]
  have e1 : (List.range (N + 1 - w)).filter (fun (u : Nat) => decide ((N : Int) - (u : Int) < (w : Int))) = [] := List.filter_eq_nil_iff.mpr fun u hu => by
    have := List.mem_range.mp hu
    rw [decide_eq_false (by omega)]
    decide
  have e2 : ((List.range (N + 1 - (N + 1 - w))).map fun k => N + 1 - w + k).filter (fun (u : Nat) => decide ((N : Int) - (u : Int) < (w : Int))) = (List.range (N + 1 - (N + 1 - w))).map fun k => N + 1 - w + k := List.filter_eq_self.mpr fun u hu => by
    obtain ⟨k, hk, rfl⟩ := List.mem_map.mp hu
    have := List.mem_range.mp hk
    exact decide_eq_true (by omega)
  calc _ = (List.range (N + 1 - w) ++ (List.range (N + 1 - (N + 1 - w))).map fun k => N + 1 - w + k).filter (fun (u : Nat) => decide ((N : Int) - (u : Int) < (w : Int))) := by rw [← e]
    _ = _ := by rw [List.filter_append, e1, e2, List.nil_append]
def kd1 (x : Nat × Rat) : D := .tuple [.int (x.1 : Int), fD x.2]
def kD (l : List (Nat × Rat)) : D := .list (l.map kd1)
theorem kD_at {l : List (Nat × Rat)} {k : Nat} (h : k < l.length) : ixD (kD l) (.int (k : Int)) = .ok (kd1 l[k]) :=
  q_ixN (by rw [List.getElem?_map, List.getElem?_eq_getElem h]; rfl)
theorem immL_kD (l : List (Nat × Rat)) : immL (l.map kd1) = true := immL_all fun d hd => by
  obtain ⟨i, _, rfl⟩ := List.mem_map.mp hd
  rfl
theorem shp_kD (l : List (Nat × Rat)) : Shp 3 (kD l) := Shp.list fun d hd => by
  obtain ⟨x, _, rfl⟩ := List.mem_map.mp hd
  refine Shp.tuple (n := 1) fun d hd => ?_
  rcases List.mem_cons.mp hd with rfl | hd
  · exact .int _ _
  · rw [List.mem_singleton.mp hd]; exact shp_fD _
def gT (f : Nat → Rat) (u : Nat) (x : Nat × Rat) : Rat := ((x.1 : Rat) * x.2) * mv x.1 f u
theorem take_lsum {α : Type} (g : α → Rat) (l : List α) {k : Nat} (h : k < l.length) : lsum g (l.take (k + 1)) = lsum g (l.take k) + g l[k] := by
  rw [← List.take_append_getElem h, lsum_app]
theorem qd_imm (x : Nat × Rat) : imm (kd1 x) = true := rfl
section
variable {N : Nat} (hN : N ≤ 28) {l : List (Nat × Rat)} (h : Ks l) {D : Nat} (C : Cds N l D)
include hN h C
theorem kF {u : Nat} (hu : u ≤ N) : Smk 1915 (cvl l u) := (C.f u hu).smk C.d0 (Nat.le_refl _) (Nat.le_trans C.d1 (p2 (by decide)))
theorem part_k {T A : Nat} (hT : 0 < T) (hT2 : T ≤ 2 ^ 1920) (hA : A ≤ 2 ^ 1920) {g : Nat × Rat → Rat} (hg : ∀ x ∈ l, Cd T A (g x)) (k : Nat) : Smk 1990 (lsum (fun x => ((x.1 : Rat) * x.2) * g x) (l.take k)) := by
  obtain ⟨S, s0, s1, s2⟩ := loads_cd l h.q
  have h5 := h.n
  have s1 : S ≤ 2 ^ 50 := Nat.le_trans s1 (p2 (by omega))
  have c1 : ∀ x ∈ l.take k, Cd (S * T) ((100 * 2 ^ 50) * A) (((x.1 : Rat) * x.2) * g x) := fun x hx => by
    have hx := List.mem_of_mem_take hx
    have : Cd S (100 * 2 ^ 50) ((x.1 : Rat) * x.2) := (((s2 x hx).le (p2 (by omega : 10 * l.length ≤ 50))).nat x.1).le (Nat.mul_le_mul (h.w x hx).2 (Nat.le_refl _))
    exact this.mul s0 hT (hg x hx)
  refine (Cd.lsum c1).smk (Nat.mul_pos s0 hT) ?_ (Nat.le_trans (m20 s1 hT2) (p2 (by decide)))
  have e1 : (l.take k).length ≤ 2 ^ 3 := by
    rw [List.length_take]
    have : 2 ^ 3 = 8 := rfl
    omega
  have e2 : 100 * 2 ^ 50 ≤ 2 ^ 57 := by decide
  exact Nat.le_trans (m20 (k := 3) (l := 1977) e1 (m20 (k := 57) (l := 1920) e2 hA)) (p2 (by decide))
theorem mv_cd {u w : Nat} (hu : u ≤ N) : Cd D (2 ^ 1915) (mv w (cvl l) u) := by
  unfold mv
  split
  · exact C.f _ (by omega)
  · exact (Cd.zero D).le (Nat.zero_le _)
theorem f_weight_of {u m : Nat} (h0 : 1 ≤ u) (hu : u ≤ N) (hm : u ≤ m) : Fweight_of [fL (cvl l) m, kD l, .int (u : Int)] = .ok (fD (cvl l u)) := by
  have hP := part_k hN h C C.d0 (Nat.le_trans C.d1 (p2 (by decide))) (A := 2 ^ 1915) (p2 (by decide)) (g := fun x => mv x.1 (cvl l) u) (fun x hx => mv_cd hN h C hu)
  have R := rq_cvl l (fun x hx => (h.w x hx).1) u
  refine F_rt (s := Tweight_of) (δ := [some (fL (cvl l) m), some (kD l), some (.int (u : Int)), none, none, none]) rfl rfl ?_
  unfold Tweight_of
  refine sq (δ1 := [some (fL (cvl l) m), some (kD l), some (.int (u : Int)), some (fD (lsum (gT (cvl l) u) (l.take 0))), none, none]) (by simp only [List.set_cons_succ, List.set_cons_zero, q_sasg, q_spar, q_sret, q_sretS, q_sife, q_snil, q_tn, q_tr, q_lst, q_tup, q_call, q_cons, q_nil, q_cI, q_ari, q_ix, q_sl, q_s0, q_s1, q_ki, q_kn, q_kb, q_ks, q_neg, q_negD, q_fi, q_ci, q_cb, q_cs, q_cn, if_true, q_ok, q_f0, q_f1, q_ii, q_add, q_sub, q_or, q_and, q_one, q_not, q_cmp, q_eq, q_ne, q_lt, q_le, q_gt, q_ge, q_is, q_isnot, q_isnN, q_isnI, q_isnL, q_isnT, q_notR, q_boolD, Bool.not_true, Bool.not_false, List.length_cons, List.length_nil, sz (show 0 + 1 ≤ 1000000 by decide), sz (show 0 + 1 + 1 ≤ 1000000 by decide), q_lok, q_t1, q_t2, q_t3, q_t4, q_blt, q_blt1, q_blt2, q_eqi]; rfl) ?_
  refine sq_for (l.map kd1) rfl (by rw [immL_kD]; rfl) (fun k δ => ∃ x4 x5, δ = [some (fL (cvl l) m), some (kD l), some (.int (u : Int)), some (fD (lsum (gT (cvl l) u) (l.take k))), x4, x5]) ⟨_, _, rfl⟩ (fun k δ hk hI => ?_) (fun δ' hI => ?_)
  · obtain ⟨x4, x5, rfl⟩ := hI
    have hk' : k < l.length := by simpa using hk
    have hx := List.getElem_mem hk'
    rw [List.getElem_map]
    have hPk : Smk 1990 (lsum (gT (cvl l) u) (l.take k)) := hP k
    have hT := take_lsum (gT (cvl l) u) l hk'
    have hw := h.w _ hx
    have hq := h.q _ hx
    generalize l[k] = x at *
    obtain ⟨w, q⟩ := x
    obtain ⟨p, s, L, _⟩ := hq.p
    refine ⟨[some (fL (cvl l) m), some (kD l), some (.int (u : Int)), some (fD (lsum (gT (cvl l) u) (l.take k))), some (.int (w : Int)), some (fD q)], [some (fL (cvl l) m), some (kD l), some (.int (u : Int)), some (fD (lsum (gT (cvl l) u) (l.take (k + 1)))), some (.int (w : Int)), some (fD q)], rfl, sq ?_ rfl, _, _, rfl⟩
    rw [hT]
    have e0 : gT (cvl l) u (w, q) = (w : Rat) * q * mv w (cvl l) u := rfl
    rw [e0]
    generalize lsum (gT (cvl l) u) (l.take k) = Z at *
    unfold mv
    by_cases hwu : w ≤ u
    · rw [if_pos hwu]
      have kw := Smk.nat (show w ≤ 1000 by have := hw.2; show w ≤ 1000; have : w ≤ 100 := this; omega)
      have t1 := f_times (kw.sm (by decide)) ((kQ L).sm (by decide))
      have kf := kF hN h C (show u - w ≤ N by omega)
      have t2 := f_times ((kw.mul (kQ L)).sm (by decide)) (kf.sm (by decide))
      have t3 := f_plus (hPk.sm (by decide)) (((kw.mul (kQ L)).mul kf).sm (by decide))
      have el := fL_at (f := cvl l) (n := m) (k := u - w) (by have : 0 < w := hw.1; omega)
      rw [show ((u - w : Nat) : Int) = (u : Int) - (w : Int) by omega] at el
      rw [← fD_nat] at t1
      rw [q_sife]
      simp only [List.set_cons_succ, List.set_cons_zero, q_sasg, q_spar, q_sret, q_sretS, q_sife, q_snil, q_tn, q_tr, q_lst, q_tup, q_call, q_cons, q_nil, q_cI, q_ari, q_ix, q_sl, q_s0, q_s1, q_ki, q_kn, q_kb, q_ks, q_neg, q_negD, q_fi, q_ci, q_cb, q_cs, q_cn, if_true, q_ok, q_f0, q_f1, q_ii, q_add, q_sub, q_or, q_and, q_one, q_not, q_cmp, q_eq, q_ne, q_lt, q_le, q_gt, q_ge, q_is, q_isnot, q_isnN, q_isnI, q_isnL, q_isnT, q_notR, q_boolD, Bool.not_true, Bool.not_false, List.length_cons, List.length_nil, sz (show 0 + 1 ≤ 1000000 by decide), sz (show 0 + 1 + 1 ≤ 1000000 by decide), q_lok, q_t1, q_t2, q_t3, q_t4, q_blt, q_blt1, q_blt2, q_eqi, show decide ((w : Int) ≤ (u : Int)) = true from decide_eq_true (by omega), q_sseq, t1, el, t2, t3]
    · rw [if_neg hwu, Rat.mul_zero, Rat.add_zero]
      rw [q_sife]
      simp only [List.set_cons_succ, List.set_cons_zero, q_sasg, q_spar, q_sret, q_sretS, q_sife, q_snil, q_tn, q_tr, q_lst, q_tup, q_call, q_cons, q_nil, q_cI, q_ari, q_ix, q_sl, q_s0, q_s1, q_ki, q_kn, q_kb, q_ks, q_neg, q_negD, q_fi, q_ci, q_cb, q_cs, q_cn, if_true, q_ok, q_f0, q_f1, q_ii, q_add, q_sub, q_or, q_and, q_one, q_not, q_cmp, q_eq, q_ne, q_lt, q_le, q_gt, q_ge, q_is, q_isnot, q_isnN, q_isnI, q_isnL, q_isnT, q_notR, q_boolD, Bool.not_true, Bool.not_false, List.length_cons, List.length_nil, sz (show 0 + 1 ≤ 1000000 by decide), sz (show 0 + 1 + 1 ≤ 1000000 by decide), q_lok, q_t1, q_t2, q_t3, q_t4, q_blt, q_blt1, q_blt2, q_eqi, show decide ((w : Int) ≤ (u : Int)) = false from decide_eq_false (by omega)]
  · obtain ⟨x4, x5, rfl⟩ := hI
    have ht : l.take (l.map kd1).length = l := by rw [List.length_map, List.take_length]
    rw [ht]
    have hPk : Smk 1990 (lsum (gT (cvl l) u) (l.take l.length)) := hP _
    rw [List.take_length] at hPk
    have R : (u : Rat) * cvl l u = lsum (gT (cvl l) u) l := R
    have hu0 := cast_pos (show 0 < u by omega)
    have e := f_over (hPk.sm (by decide)) ((Smk.nat (show u ≤ 1000 by omega)).sm (by decide)) hu0
    rw [← R] at e ⊢
    have i1 : (u : Rat) * cvl l u / (u : Rat) = cvl l u := by
      have := Rat.ne_of_gt hu0
      grind
    rw [i1, ← fD_nat] at e
    refine sqx ?_
    simp only [List.set_cons_succ, List.set_cons_zero, q_sasg, q_spar, q_sret, q_sretS, q_sife, q_snil, q_tn, q_tr, q_lst, q_tup, q_call, q_cons, q_nil, q_cI, q_ari, q_ix, q_sl, q_s0, q_s1, q_ki, q_kn, q_kb, q_ks, q_neg, q_negD, q_fi, q_ci, q_cb, q_cs, q_cn, if_true, q_ok, q_f0, q_f1, q_ii, q_add, q_sub, q_or, q_and, q_one, q_not, q_cmp, q_eq, q_ne, q_lt, q_le, q_gt, q_ge, q_is, q_isnot, q_isnN, q_isnI, q_isnL, q_isnT, q_notR, q_boolD, Bool.not_true, Bool.not_false, List.length_cons, List.length_nil, sz (show 0 + 1 ≤ 1000000 by decide), sz (show 0 + 1 + 1 ≤ 1000000 by decide), q_lok, q_t1, q_t2, q_t3, q_t4, q_blt, q_blt1, q_blt2, q_eqi, e]
theorem f_use_weights : Fuse_weights [.int (N : Int), kD l] = .ok (fL (cvl l) (N + 1)) := by
  refine F_rt (s := Tuse_weights) (δ := [some (.int (N : Int)), some (kD l), none, none]) rfl rfl ?_
  unfold Tuse_weights
  refine sq (δ1 := [some (.int (N : Int)), some (kD l), some (fL (cvl l) 1), none]) (by
    have : fL (cvl l) 1 = .list [fD (cvl l 0)] := rfl
    rw [this, cvl_0]
    simp only [List.set_cons_succ, List.set_cons_zero, q_sasg, q_spar, q_sret, q_sretS, q_sife, q_snil, q_tn, q_tr, q_lst, q_tup, q_call, q_cons, q_nil, q_cI, q_ari, q_ix, q_sl, q_s0, q_s1, q_ki, q_kn, q_kb, q_ks, q_neg, q_negD, q_fi, q_ci, q_cb, q_cs, q_cn, if_true, q_ok, q_f0, q_f1, q_ii, q_add, q_sub, q_or, q_and, q_one, q_not, q_cmp, q_eq, q_ne, q_lt, q_le, q_gt, q_ge, q_is, q_isnot, q_isnN, q_isnI, q_isnL, q_isnT, q_notR, q_boolD, Bool.not_true, Bool.not_false, List.length_cons, List.length_nil, sz (show 0 + 1 ≤ 1000000 by decide), sz (show 0 + 1 + 1 ≤ 1000000 by decide), q_lok, q_t1, q_t2, q_t3, q_t4, q_blt, q_blt1, q_blt2, q_eqi]
    rfl) ?_
  refine sq_rng2 1 ((N : Int) + 1) rfl rfl (by omega) (by omega) (by omega) (by omega) (fun k δ => ∃ x, δ = [some (.int (N : Int)), some (kD l), some (fL (cvl l) (k + 1)), x]) ⟨_, rfl⟩ (fun k δ hk hI => ?_) (fun δ' hI => ?_)
  · obtain ⟨x, rfl⟩ := hI
    have e := f_weight_of hN h C (u := k + 1) (m := k + 1) (by omega) (by omega) (Nat.le_refl _)
    rw [show ((k + 1 : Nat) : Int) = 1 + (k : Int) by omega] at e
    refine ⟨[some (.int (N : Int)), some (kD l), some (fL (cvl l) (k + 2)), some (.int (1 + (k : Int)))], sq (by
      rw [q_appF (f := cvl l) (n := k + 1) rfl (by simp only [List.set_cons_succ, List.set_cons_zero, q_sasg, q_spar, q_sret, q_sretS, q_sife, q_snil, q_tn, q_tr, q_lst, q_tup, q_call, q_cons, q_nil, q_cI, q_ari, q_ix, q_sl, q_s0, q_s1, q_ki, q_kn, q_kb, q_ks, q_neg, q_negD, q_fi, q_ci, q_cb, q_cs, q_cn, if_true, q_ok, q_f0, q_f1, q_ii, q_add, q_sub, q_or, q_and, q_one, q_not, q_cmp, q_eq, q_ne, q_lt, q_le, q_gt, q_ge, q_is, q_isnot, q_isnN, q_isnI, q_isnL, q_isnT, q_notR, q_boolD, Bool.not_true, Bool.not_false, List.length_cons, List.length_nil, sz (show 0 + 1 ≤ 1000000 by decide), sz (show 0 + 1 + 1 ≤ 1000000 by decide), q_lok, q_t1, q_t2, q_t3, q_t4, q_blt, q_blt1, q_blt2, q_eqi, e]) (by omega)]
      rfl) rfl, _, rfl⟩
  · obtain ⟨x, rfl⟩ := hI
    rw [show ((N : Int) + 1 - 1).toNat = N by omega]
    rfl
theorem sumsC : Sums (cvl l) (su (cvl l)) (N + 1) := ⟨rfl, fun _ _ => rfl, fun k hk => (kF hN h C (by omega)).sm (by decide), fun k hk => by
  have c1 : Cd D (2 ^ 1920) (su (cvl l) k) := (Cd.su fun j hj => C.f j (by omega)).le (m20 (k := 5) (l := 1915) (by have : 2 ^ 5 = 32 := rfl; omega) (Nat.le_refl _))
  exact (c1.smk C.d0 (Nat.le_refl _) (Nat.le_trans C.d1 (p2 (by decide)))).sm (by decide)⟩
def shr (N : Nat) (l : List (Nat × Rat)) (u : Nat) : Rat := cvl l u / tW N l
theorem f_use_shares : Fuse_shares [.int (N : Int), kD l] = .ok (fL (shr N l) (N + 1)) := by
  have e1 := f_use_weights hN h C
  have e2 := f_sharedG (sumsC hN h C) (tW_pos hN h C)
  have e2 : Fshared_out [fL (cvl l) (N + 1)] = .ok (fL (shr N l) (N + 1)) := e2
  refine F_rt (s := Tuse_shares) (δ := [some (.int (N : Int)), some (kD l)]) rfl rfl ?_
  unfold Tuse_shares
  refine sqx ?_
  simp only [List.set_cons_succ, List.set_cons_zero, q_sasg, q_spar, q_sret, q_sretS, q_sife, q_snil, q_tn, q_tr, q_lst, q_tup, q_call, q_cons, q_nil, q_cI, q_ari, q_ix, q_sl, q_s0, q_s1, q_ki, q_kn, q_kb, q_ks, q_neg, q_negD, q_fi, q_ci, q_cb, q_cs, q_cn, if_true, q_ok, q_f0, q_f1, q_ii, q_add, q_sub, q_or, q_and, q_one, q_not, q_cmp, q_eq, q_ne, q_lt, q_le, q_gt, q_ge, q_is, q_isnot, q_isnN, q_isnI, q_isnL, q_isnT, q_notR, q_boolD, Bool.not_true, Bool.not_false, List.length_cons, List.length_nil, sz (show 0 + 1 ≤ 1000000 by decide), sz (show 0 + 1 + 1 ≤ 1000000 by decide), q_lok, q_t1, q_t2, q_t3, q_t4, q_blt, q_blt1, q_blt2, q_eqi, e1, e2]
theorem sumsLo (w : Nat) : Sums (fun k => shr N l (N + 1 - w + k)) (su fun k => shr N l (N + 1 - w + k)) (N + 1 - (N + 1 - w)) := by
  obtain ⟨T, t0, t1, t2⟩ := shares_cd hN h C
  refine ⟨rfl, fun _ _ => rfl, fun k hk => ?_, fun k hk => ?_⟩
  · exact ((t2 _ (by omega)).smk t0 (Nat.le_trans (Nat.le_refl _) (p2 (show 1915 ≤ 1920 by decide))) t1).sm (by decide)
  · have c1 : Cd T (2 ^ 1920) (su (fun k => shr N l (N + 1 - w + k)) k) := (Cd.su fun j hj => t2 _ (by omega)).le (m20 (k := 5) (l := 1915) (by have : 2 ^ 5 = 32 := rfl; omega) (Nat.le_refl _))
    exact (c1.smk t0 (Nat.le_refl _) t1).sm (by decide)
theorem lo_su (w : Nat) : su (fun k => shr N l (N + 1 - w + k)) (N + 1 - (N + 1 - w)) = lo N l w := rfl
def loL (N : Nat) (l : List (Nat × Rat)) (k : Nat) : List PyData := (l.take k).map fun x => fD (lo N l x.1)
theorem loL_next {k : Nat} (hk : k < l.length) : loL N l (k + 1) = loL N l k ++ [fD (lo N l l[k].1)] := by
  unfold loL
  rw [← List.take_append_getElem hk, List.map_append]
  rfl
theorem first_int (w : Nat) : (if (N : Int) - (w : Int) + 1 > 0 then (N : Int) - (w : Int) + 1 else 0) = ((N + 1 - w : Nat) : Int) := by
  split <;> omega
theorem f_wide_lost : Fwide_lost [.int (N : Int), kD l] = .ok (.list (loL N l l.length)) := by
  have e1 := f_use_shares hN h C
  refine F_rt (s := Twide_lost) (δ := [some (.int (N : Int)), some (kD l), none, none, none, none, none]) rfl rfl ?_
  unfold Twide_lost
  refine sq (δ1 := [some (.int (N : Int)), some (kD l), some (fL (shr N l) (N + 1)), none, none, none, none]) (by simp only [List.set_cons_succ, List.set_cons_zero, q_sasg, q_spar, q_sret, q_sretS, q_sife, q_snil, q_tn, q_tr, q_lst, q_tup, q_call, q_cons, q_nil, q_cI, q_ari, q_ix, q_sl, q_s0, q_s1, q_ki, q_kn, q_kb, q_ks, q_neg, q_negD, q_fi, q_ci, q_cb, q_cs, q_cn, if_true, q_ok, q_f0, q_f1, q_ii, q_add, q_sub, q_or, q_and, q_one, q_not, q_cmp, q_eq, q_ne, q_lt, q_le, q_gt, q_ge, q_is, q_isnot, q_isnN, q_isnI, q_isnL, q_isnT, q_notR, q_boolD, Bool.not_true, Bool.not_false, List.length_cons, List.length_nil, sz (show 0 + 1 ≤ 1000000 by decide), sz (show 0 + 1 + 1 ≤ 1000000 by decide), q_lok, q_t1, q_t2, q_t3, q_t4, q_blt, q_blt1, q_blt2, q_eqi, e1]) ?_
  refine sq (δ1 := [some (.int (N : Int)), some (kD l), some (fL (shr N l) (N + 1)), some (.list (loL N l 0)), none, none, none]) (by simp [sz]; rfl) ?_
  refine sq_for (l.map kd1) rfl (by rw [immL_kD]; rfl) (fun k δ => ∃ x4 x5 x6, δ = [some (.int (N : Int)), some (kD l), some (fL (shr N l) (N + 1)), some (.list (loL N l k)), x4, x5, x6]) ⟨_, _, _, rfl⟩ (fun k δ hk hI => ?_) (fun δ' hI => ?_)
  · obtain ⟨x4, x5, x6, rfl⟩ := hI
    have hk' : k < l.length := by simpa using hk
    rw [List.getElem_map]
    have hn := loL_next hN h C hk'
    generalize l[k] = x at *
    obtain ⟨w, q⟩ := x
    have e2 := f_totalG (sumsLo hN h C w)
    rw [lo_su hN h C] at e2
    have e3 := cut_fL (shr N l) (n := N + 1) (m := N + 1 - w) (by omega)
    have e4 : ev (.cL (.slc (.sl 2) (.prt (.sl 6)) .nop)) [some (.int (N : Int)), some (kD l), some (fL (shr N l) (N + 1)), some (.list (loL N l k)), some (.int (w : Int)), some (fD q), some (.int ((N + 1 - w : Nat) : Int))] = .ok (fL (fun k => shr N l (N + 1 - w + k)) (N + 1 - (N + 1 - w))) := by
      rw [q_cL, q_slc]
      simp only [List.set_cons_succ, List.set_cons_zero, q_sasg, q_spar, q_sret, q_sretS, q_sife, q_snil, q_tn, q_tr, q_lst, q_tup, q_call, q_cons, q_nil, q_cI, q_ari, q_ix, q_sl, q_s0, q_s1, q_ki, q_kn, q_kb, q_ks, q_neg, q_negD, q_fi, q_ci, q_cb, q_cs, q_cn, if_true, q_ok, q_f0, q_f1, q_ii, q_add, q_sub, q_or, q_and, q_one, q_not, q_cmp, q_eq, q_ne, q_lt, q_le, q_gt, q_ge, q_is, q_isnot, q_isnN, q_isnI, q_isnL, q_isnT, q_notR, q_boolD, Bool.not_true, Bool.not_false, List.length_cons, List.length_nil, sz (show 0 + 1 ≤ 1000000 by decide), sz (show 0 + 1 + 1 ≤ 1000000 by decide), q_lok, q_t1, q_t2, q_t3, q_t4, q_blt, q_blt1, q_blt2, q_eqi, q_prt, q_intD, q_nop, e3]
      show (if immL ((List.range (N + 1 - (N + 1 - w))).map fun k => fD (shr N l (N + 1 - w + k))) = true then R.ok _ else _) = _
      rw [if_pos (immL_fL _ _)]
      rfl
    refine ⟨[some (.int (N : Int)), some (kD l), some (fL (shr N l) (N + 1)), some (.list (loL N l k)), some (.int (w : Int)), some (fD q), x6], [some (.int (N : Int)), some (kD l), some (fL (shr N l) (N + 1)), some (.list (loL N l (k + 1))), some (.int (w : Int)), some (fD q), some (.int ((N + 1 - w : Nat) : Int))], rfl, sq (δ1 := [some (.int (N : Int)), some (kD l), some (fL (shr N l) (N + 1)), some (.list (loL N l k)), some (.int (w : Int)), some (fD q), some (.int ((N + 1 - w : Nat) : Int))]) ?_ (sq ?_ rfl), _, _, _, rfl⟩
    · have e5 : blt2 .max (.int 0) (.int ((N : Int) - (w : Int) + 1)) = .ok (.int ((N + 1 - w : Nat) : Int)) := by
        show R.ok (PyData.int (if (N : Int) - (w : Int) + 1 > 0 then (N : Int) - (w : Int) + 1 else 0)) = _
        rw [first_int hN h C]
      simp only [List.set_cons_succ, List.set_cons_zero, q_sasg, q_spar, q_sret, q_sretS, q_sife, q_snil, q_tn, q_tr, q_lst, q_tup, q_call, q_cons, q_nil, q_cI, q_ari, q_ix, q_sl, q_s0, q_s1, q_ki, q_kn, q_kb, q_ks, q_neg, q_negD, q_fi, q_ci, q_cb, q_cs, q_cn, if_true, q_ok, q_f0, q_f1, q_ii, q_add, q_sub, q_or, q_and, q_one, q_not, q_cmp, q_eq, q_ne, q_lt, q_le, q_gt, q_ge, q_is, q_isnot, q_isnN, q_isnI, q_isnL, q_isnT, q_notR, q_boolD, Bool.not_true, Bool.not_false, List.length_cons, List.length_nil, sz (show 0 + 1 ≤ 1000000 by decide), sz (show 0 + 1 + 1 ≤ 1000000 by decide), q_lok, q_t1, q_t2, q_t3, q_t4, q_blt, q_blt1, q_blt2, q_eqi, e5]
    · rw [q_appG (l := loL N l k) (d := fD (lo N l w)) rfl (by rw [q_cons, q_call, q_cons, e4]; simp only [List.set_cons_succ, List.set_cons_zero, q_sasg, q_spar, q_sret, q_sretS, q_sife, q_snil, q_tn, q_tr, q_lst, q_tup, q_call, q_cons, q_nil, q_cI, q_ari, q_ix, q_sl, q_s0, q_s1, q_ki, q_kn, q_kb, q_ks, q_neg, q_negD, q_fi, q_ci, q_cb, q_cs, q_cn, if_true, q_ok, q_f0, q_f1, q_ii, q_add, q_sub, q_or, q_and, q_one, q_not, q_cmp, q_eq, q_ne, q_lt, q_le, q_gt, q_ge, q_is, q_isnot, q_isnN, q_isnI, q_isnL, q_isnT, q_notR, q_boolD, Bool.not_true, Bool.not_false, List.length_cons, List.length_nil, sz (show 0 + 1 ≤ 1000000 by decide), sz (show 0 + 1 + 1 ≤ 1000000 by decide), q_lok, q_t1, q_t2, q_t3, q_t4, q_blt, q_blt1, q_blt2, q_eqi, e2]) (by
        unfold loL
        rw [List.length_map, List.length_take]
        have := h.n
        omega), hn]
      rfl
  · obtain ⟨x4, x5, x6, rfl⟩ := hI
    rw [List.length_map]
    rfl
theorem one_lo_cd : ∃ T, 0 < T ∧ T ≤ 2 ^ 1920 ∧ ∀ w, Cd T (2 ^ 1920) (1 - lo N l w) := by
  obtain ⟨T, t0, t1, t2⟩ := shares_cd hN h C
  refine ⟨T, t0, t1, fun w => ?_⟩
  rw [lo_eq hN h C]
  refine (Cd.su (A := 2 ^ 1915) fun k hk => ?_).le (m20 (k := 5) (l := 1915) (by have : 2 ^ 5 = 32 := rfl; omega) (Nat.le_refl _))
  unfold mv
  split
  · exact t2 _ (by omega)
  · exact (Cd.zero T).le (Nat.zero_le _)
def gM (N : Nat) (l : List (Nat × Rat)) (x : Nat × Rat) : Rat := ((x.1 : Rat) * x.2) * (1 - lo N l x.1)
theorem f_mean_use : Fmean_use [.int (N : Int), kD l] = .ok (fD (lsum (gM N l) l)) := by
  have e1 := f_wide_lost hN h C
  obtain ⟨T, t0, t1, t2⟩ := one_lo_cd hN h C
  have hP := part_k hN h C t0 t1 (A := 2 ^ 1920) (Nat.le_refl _) (g := fun x => 1 - lo N l x.1) (fun x _ => t2 x.1)
  obtain ⟨T', v0, v1, v2⟩ := shares_cd hN h C
  have kl : ∀ w, Smk 1920 (lo N l w) := fun w => by
    have c1 : Cd T' (2 ^ 1920) (lo N l w) := (Cd.su fun j hj => v2 _ (by omega)).le (m20 (k := 5) (l := 1915) (by have : 2 ^ 5 = 32 := rfl; omega) (Nat.le_refl _))
    exact c1.smk v0 (Nat.le_refl _) v1
  have hll : (loL N l l.length).length = l.length := by unfold loL; rw [List.length_map, List.take_length]
  refine F_rt (s := Tmean_use) (δ := [some (.int (N : Int)), some (kD l), none, none, none, none, none, none]) rfl rfl ?_
  unfold Tmean_use
  refine sq (δ1 := [some (.int (N : Int)), some (kD l), some (.list (loL N l l.length)), none, none, none, none, none]) (by simp only [List.set_cons_succ, List.set_cons_zero, q_sasg, q_spar, q_sret, q_sretS, q_sife, q_snil, q_tn, q_tr, q_lst, q_tup, q_call, q_cons, q_nil, q_cI, q_ari, q_ix, q_sl, q_s0, q_s1, q_ki, q_kn, q_kb, q_ks, q_neg, q_negD, q_fi, q_ci, q_cb, q_cs, q_cn, if_true, q_ok, q_f0, q_f1, q_ii, q_add, q_sub, q_or, q_and, q_one, q_not, q_cmp, q_eq, q_ne, q_lt, q_le, q_gt, q_ge, q_is, q_isnot, q_isnN, q_isnI, q_isnL, q_isnT, q_notR, q_boolD, Bool.not_true, Bool.not_false, List.length_cons, List.length_nil, sz (show 0 + 1 ≤ 1000000 by decide), sz (show 0 + 1 + 1 ≤ 1000000 by decide), q_lok, q_t1, q_t2, q_t3, q_t4, q_blt, q_blt1, q_blt2, q_eqi, e1]) ?_
  refine sq (δ1 := [some (.int (N : Int)), some (kD l), some (.list (loL N l l.length)), some (fD (lsum (gM N l) (l.take 0))), none, none, none, none]) (by simp only [List.set_cons_succ, List.set_cons_zero, q_sasg, q_spar, q_sret, q_sretS, q_sife, q_snil, q_tn, q_tr, q_lst, q_tup, q_call, q_cons, q_nil, q_cI, q_ari, q_ix, q_sl, q_s0, q_s1, q_ki, q_kn, q_kb, q_ks, q_neg, q_negD, q_fi, q_ci, q_cb, q_cs, q_cn, if_true, q_ok, q_f0, q_f1, q_ii, q_add, q_sub, q_or, q_and, q_one, q_not, q_cmp, q_eq, q_ne, q_lt, q_le, q_gt, q_ge, q_is, q_isnot, q_isnN, q_isnI, q_isnL, q_isnT, q_notR, q_boolD, Bool.not_true, Bool.not_false, List.length_cons, List.length_nil, sz (show 0 + 1 ≤ 1000000 by decide), sz (show 0 + 1 + 1 ≤ 1000000 by decide), q_lok, q_t1, q_t2, q_t3, q_t4, q_blt, q_blt1, q_blt2, q_eqi]; rfl) ?_
  have el : ev (.blt .len (.cons (.sl 1) .nil)) [some (.int (N : Int)), some (kD l), some (.list (loL N l l.length)), some (fD (lsum (gM N l) (l.take 0))), none, none, none, none] = .ok (.int (l.length : Int)) := by
    simp only [List.set_cons_succ, List.set_cons_zero, q_sasg, q_spar, q_sret, q_sretS, q_sife, q_snil, q_tn, q_tr, q_lst, q_tup, q_call, q_cons, q_nil, q_cI, q_ari, q_ix, q_sl, q_s0, q_s1, q_ki, q_kn, q_kb, q_ks, q_neg, q_negD, q_fi, q_ci, q_cb, q_cs, q_cn, if_true, q_ok, q_f0, q_f1, q_ii, q_add, q_sub, q_or, q_and, q_one, q_not, q_cmp, q_eq, q_ne, q_lt, q_le, q_gt, q_ge, q_is, q_isnot, q_isnN, q_isnI, q_isnL, q_isnT, q_notR, q_boolD, Bool.not_true, Bool.not_false, List.length_cons, List.length_nil, sz (show 0 + 1 ≤ 1000000 by decide), sz (show 0 + 1 + 1 ≤ 1000000 by decide), q_lok, q_t1, q_t2, q_t3, q_t4, q_blt, q_blt1, q_blt2, q_eqi]
    unfold kD
    rw [q_lenL, List.length_map]
  refine sq_rng (l.length : Int) el (by have := h.n; omega) (by omega) (fun k δ => ∃ x4 x5 x6 x7, δ = [some (.int (N : Int)), some (kD l), some (.list (loL N l l.length)), some (fD (lsum (gM N l) (l.take k))), x4, x5, x6, x7]) ⟨_, _, _, _, rfl⟩ (fun k δ hk hI => ?_) (fun δ' hI => ?_)
  · obtain ⟨x4, x5, x6, x7, rfl⟩ := hI
    have hk' : k < l.length := by omega
    have hx := List.getElem_mem hk'
    have i1 := kD_at hk'
    have i2 : ixD (.list (loL N l l.length)) (.int (k : Int)) = .ok (fD (lo N l l[k].1)) := q_ixN (by
      unfold loL
      rw [List.take_length, List.getElem?_map, List.getElem?_eq_getElem hk']; rfl)
    have hPk : Smk 1990 (lsum (gM N l) (l.take k)) := hP k
    have hT := take_lsum (gM N l) l hk'
    have hw := h.w _ hx
    have hq := h.q _ hx
    generalize l[k] = x at *
    obtain ⟨w, q⟩ := x
    obtain ⟨p, s, L, _⟩ := hq.p
    rw [hT]
    have e0 : gM N l (w, q) = (w : Rat) * q * (1 - lo N l w) := rfl
    rw [e0]
    generalize lsum (gM N l) (l.take k) = Z at *
    have kw := Smk.nat (show w ≤ 1000 by have : w ≤ 100 := hw.2; omega)
    have s1 := f_minus (Smk.one.sm (by decide)) ((kl w).sm (by decide))
    have ko : Smk 1920 (1 - lo N l w) := (t2 w).smk t0 (Nat.le_refl _) t1
    have s2 := f_times (kw.sm (by decide)) ((kQ L).sm (by decide))
    have s3 := f_times ((kw.mul (kQ L)).sm (by decide)) (ko.sm (by decide))
    have s4 := f_plus (hPk.sm (by decide)) (((kw.mul (kQ L)).mul ko).sm (by decide))
    rw [← fD_one] at s1
    rw [← fD_nat] at s2
    have i2 : ixD (.list (loL N l l.length)) (.int (k : Int)) = .ok (fD (lo N l w)) := i2
    have i1 : ixD (kD l) (.int (k : Int)) = .ok (.tuple [.int (w : Int), fD q]) := i1
    generalize hLL : PyData.list (loL N l l.length) = LL at *
    have im : imm (.tuple [.int (w : Int), fD q]) = true := rfl
    refine ⟨[some (.int (N : Int)), some (kD l), some LL, some (fD (Z + (w : Rat) * q * (1 - lo N l w))), some (.int (k : Int)), some (.int (w : Int)), some (fD q), some (fD (1 - lo N l w))], sq (δ1 := [some (.int (N : Int)), some (kD l), some LL, some (fD Z), some (.int (k : Int)), some (.int (w : Int)), some (fD q), x7]) ?_ (sq (δ1 := [some (.int (N : Int)), some (kD l), some LL, some (fD Z), some (.int (k : Int)), some (.int (w : Int)), some (fD q), some (fD (1 - lo N l w))]) ?_ (sq ?_ rfl)), _, _, _, _, rfl⟩
    · rw [q_sasg, q_cI, q_ix]
      simp only [List.set_cons_succ, List.set_cons_zero, q_sl, q_s0, q_s1, q_ok, i1, im, if_true, q_lok, q_t2, q_t3, q_t4]
    · simp only [List.set_cons_succ, List.set_cons_zero, q_sasg, q_spar, q_sret, q_sretS, q_sife, q_snil, q_tn, q_tr, q_lst, q_tup, q_call, q_cons, q_nil, q_cI, q_ari, q_ix, q_sl, q_s0, q_s1, q_ki, q_kn, q_kb, q_ks, q_neg, q_negD, q_fi, q_ci, q_cb, q_cs, q_cn, if_true, q_ok, q_f0, q_f1, q_ii, q_add, q_sub, q_or, q_and, q_one, q_not, q_cmp, q_eq, q_ne, q_lt, q_le, q_gt, q_ge, q_is, q_isnot, q_isnN, q_isnI, q_isnL, q_isnT, q_notR, q_boolD, Bool.not_true, Bool.not_false, List.length_cons, List.length_nil, sz (show 0 + 1 ≤ 1000000 by decide), sz (show 0 + 1 + 1 ≤ 1000000 by decide), q_lok, q_t1, q_t2, q_t3, q_t4, q_blt, q_blt1, q_blt2, q_eqi, i2, s1]
    · simp only [List.set_cons_succ, List.set_cons_zero, q_sasg, q_spar, q_sret, q_sretS, q_sife, q_snil, q_tn, q_tr, q_lst, q_tup, q_call, q_cons, q_nil, q_cI, q_ari, q_ix, q_sl, q_s0, q_s1, q_ki, q_kn, q_kb, q_ks, q_neg, q_negD, q_fi, q_ci, q_cb, q_cs, q_cn, if_true, q_ok, q_f0, q_f1, q_ii, q_add, q_sub, q_or, q_and, q_one, q_not, q_cmp, q_eq, q_ne, q_lt, q_le, q_gt, q_ge, q_is, q_isnot, q_isnN, q_isnI, q_isnL, q_isnT, q_notR, q_boolD, Bool.not_true, Bool.not_false, List.length_cons, List.length_nil, sz (show 0 + 1 ≤ 1000000 by decide), sz (show 0 + 1 + 1 ≤ 1000000 by decide), q_lok, q_t1, q_t2, q_t3, q_t4, q_blt, q_blt1, q_blt2, q_eqi, s2, s3, s4]
  · obtain ⟨x4, x5, x6, x7, rfl⟩ := hI
    rw [Int.toNat_natCast, List.take_length]
    rfl
end
end VS
set_option Elab.async false
set_option linter.all false
set_option maxRecDepth 100000
namespace VS
open PySem PySem.Spec L2
open PyProof.Rows hiding St
theorem shp_loL (N : Nat) (l : List (Nat × Rat)) (k : Nat) : Shp 2 (.list (loL N l k)) := Shp.list fun d hd => by
  obtain ⟨x, _, rfl⟩ := List.mem_map.mp hd
  exact shp_fD _
section
variable {N : Nat} (hN : N ≤ 28) {l : List (Nat × Rat)} (h : Ks l) {D : Nat} (C : Cds N l D)
include hN h C
theorem f_right_use : F_law_right_use [.int (N : Int), kD l, fL (cvl l) (N + 1)] = .ok (.bool true) := by
  have a1 := f_ltotalG (sumsC hN h C)
  have a1 : F_law_total [fL (cvl l) (N + 1)] = .ok (fD (tW N l)) := a1
  have kW : Smk 1920 (tW N l) := (tW_cd hN h C).smk C.d0 (Nat.le_refl _) (Nat.le_trans C.d1 (p2 (by decide)))
  have hW := tW_pos hN h C
  have a2 := f_use_shares hN h C
  have a3 := f_wide_lost hN h C
  have a4 := f_mean_use hN h C
  have hm := mean_eq hN h C
  obtain ⟨T, t0, t1, t2⟩ := shares_cd hN h C
  have ks : ∀ u, u ≤ N → Smk 1920 (shr N l u) := fun u hu => (t2 u hu).smk t0 (p2 (by decide)) t1
  have a5 := f_ltotalG (f := fun u => (u : Rat) * shr N l u) (F := su fun u => (u : Rat) * shr N l u) (n := N + 1) ⟨rfl, fun _ _ => rfl, fun k hk => ((Smk.nat (show k ≤ 1000 by omega)).mul (ks k (by omega))).sm (by decide), fun k hk => by
    have c1 : Cd T (2 ^ 1930) (su (fun u => (u : Rat) * shr N l u) k) := (Cd.su (A := 2 ^ 5 * 2 ^ 1915) fun j hj => ((t2 j (by omega)).nat j).le (Nat.mul_le_mul (by have : 2 ^ 5 = 32 := rfl; omega) (Nat.le_refl _))).le (by
      rw [← Nat.pow_add]
      exact m20 (k := 10) (l := 1920) (th10 (by omega)) (Nat.le_refl _))
    exact (c1.smk t0 (Nat.le_refl _) (Nat.le_trans t1 (p2 (by decide)))).sm (by decide)⟩
  have hm : su (fun u => (u : Rat) * shr N l u) (N + 1) = lsum (gM N l) l := hm
  rw [hm] at a5
  have z1 := fL_eq (shr N l) (N + 1)
  have z2 : eqD (kD l) (kD l) = .ok true := eqD_self (shp_kD l)
  have z3 : eqD (.list (loL N l l.length)) (.list (loL N l l.length)) = .ok true := eqD_self (shp_loL _ _ _)
  have z4 := eq_fDs (lsum (gM N l) l)
  have hat : ∀ u, u < N + 1 → ixD (fL (shr N l) (N + 1)) (.int (u : Int)) = .ok (fD (shr N l u)) := fun u hu => fL_at hu
  refine F_rt (s := T_law_right_use) (δ := [some (.int (N : Int)), some (kD l), some (fL (cvl l) (N + 1)), none, none, none, none, none, none, none, none, none]) rfl rfl ?_
  unfold T_law_right_use
  refine sq (δ1 := [some (.int (N : Int)), some (kD l), some (fL (cvl l) (N + 1)), some (fD (tW N l)), none, none, none, none, none, none, none, none]) (by simp only [List.set_cons_succ, List.set_cons_zero, q_sasg, q_spar, q_sret, q_sretS, q_sife, q_snil, q_tn, q_tr, q_lst, q_tup, q_call, q_cons, q_nil, q_cI, q_ari, q_ix, q_sl, q_s0, q_s1, q_ki, q_kn, q_kb, q_ks, q_neg, q_negD, q_fi, q_ci, q_cb, q_cs, q_cn, if_true, q_ok, q_f0, q_f1, q_ii, q_add, q_sub, q_or, q_and, q_one, q_not, q_cmp, q_eq, q_ne, q_lt, q_le, q_gt, q_ge, q_is, q_isnot, q_isnN, q_isnI, q_isnL, q_isnT, q_notR, q_boolD, Bool.not_true, Bool.not_false, List.length_cons, List.length_nil, sz (show 0 + 1 ≤ 1000000 by decide), sz (show 0 + 1 + 1 ≤ 1000000 by decide), q_lok, q_t1, q_t2, q_t3, q_t4, q_blt, q_blt1, q_blt2, q_eqi, a1]) ?_
  refine sq (δ1 := [some (.int (N : Int)), some (kD l), some (fL (cvl l) (N + 1)), some (fD (tW N l)), some (fL (shr N l) (N + 1)), none, none, none, none, none, none, none]) (by
    rw [q_sasg, ev_comp (List.range (N + 1)) (fun k => fD (cvl l k)) (fun k => fD (shr N l k)) rfl fun k hk => ?_]
    · rfl
    · have hk' : k < N + 1 := by simpa using hk
      have e := f_lover ((kF hN h C (show k ≤ N by omega)).sm (by decide)) (kW.sm (by decide)) hW
      have e : F_law_over [fD (cvl l k), fD (tW N l)] = .ok (fD (shr N l k)) := e
      refine ⟨_, rfl, ?_⟩
      simp only [q_w1, q_w0, List.map_cons, List.map_nil, List.set_cons_succ, List.set_cons_zero, q_sasg, q_spar, q_sret, q_sretS, q_sife, q_snil, q_tn, q_tr, q_lst, q_tup, q_call, q_cons, q_nil, q_cI, q_ari, q_ix, q_sl, q_s0, q_s1, q_ki, q_kn, q_kb, q_ks, q_neg, q_negD, q_fi, q_ci, q_cb, q_cs, q_cn, if_true, q_ok, q_f0, q_f1, q_ii, q_add, q_sub, q_or, q_and, q_one, q_not, q_cmp, q_eq, q_ne, q_lt, q_le, q_gt, q_ge, q_is, q_isnot, q_isnN, q_isnI, q_isnL, q_isnT, q_notR, q_boolD, Bool.not_true, Bool.not_false, List.length_cons, List.length_nil, sz (show 0 + 1 ≤ 1000000 by decide), sz (show 0 + 1 + 1 ≤ 1000000 by decide), q_lok, q_t1, q_t2, q_t3, q_t4, q_blt, q_blt1, q_blt2, q_eqi, e]) ?_
  refine sq (δ1 := [some (.int (N : Int)), some (kD l), some (fL (cvl l) (N + 1)), some (fD (tW N l)), some (fL (shr N l) (N + 1)), some (kD l), none, none, none, none, none, none]) (by
    have e : blt1 .list (kD l) = .ok (kD l) := rfl
    rw [q_sasg, q_cL]
    simp only [List.set_cons_succ, List.set_cons_zero, q_sasg, q_spar, q_sret, q_sretS, q_sife, q_snil, q_tn, q_tr, q_lst, q_tup, q_call, q_cons, q_nil, q_cI, q_ari, q_ix, q_sl, q_s0, q_s1, q_ki, q_kn, q_kb, q_ks, q_neg, q_negD, q_fi, q_ci, q_cb, q_cs, q_cn, if_true, q_ok, q_f0, q_f1, q_ii, q_add, q_sub, q_or, q_and, q_one, q_not, q_cmp, q_eq, q_ne, q_lt, q_le, q_gt, q_ge, q_is, q_isnot, q_isnN, q_isnI, q_isnL, q_isnT, q_notR, q_boolD, Bool.not_true, Bool.not_false, List.length_cons, List.length_nil, sz (show 0 + 1 ≤ 1000000 by decide), sz (show 0 + 1 + 1 ≤ 1000000 by decide), q_lok, q_t1, q_t2, q_t3, q_t4, q_blt, q_blt1, q_blt2, q_eqi, e]
    show lft _ (if immL (l.map kd1) = true then R.ok (kD l) else _) _ = _
    rw [if_pos (immL_kD l)]
    rfl) ?_
  refine sq_no (by simp only [List.set_cons_succ, List.set_cons_zero, q_sasg, q_spar, q_sret, q_sretS, q_sife, q_snil, q_tn, q_tr, q_lst, q_tup, q_call, q_cons, q_nil, q_cI, q_ari, q_ix, q_sl, q_s0, q_s1, q_ki, q_kn, q_kb, q_ks, q_neg, q_negD, q_fi, q_ci, q_cb, q_cs, q_cn, if_true, q_ok, q_f0, q_f1, q_ii, q_add, q_sub, q_or, q_and, q_one, q_not, q_cmp, q_eq, q_ne, q_lt, q_le, q_gt, q_ge, q_is, q_isnot, q_isnN, q_isnI, q_isnL, q_isnT, q_notR, q_boolD, Bool.not_true, Bool.not_false, List.length_cons, List.length_nil, sz (show 0 + 1 ≤ 1000000 by decide), sz (show 0 + 1 + 1 ≤ 1000000 by decide), q_lok, q_t1, q_t2, q_t3, q_t4, q_blt, q_blt1, q_blt2, q_eqi, a2, z1, z2]) ?_
  refine sq (δ1 := [some (.int (N : Int)), some (kD l), some (fL (cvl l) (N + 1)), some (fD (tW N l)), some (fL (shr N l) (N + 1)), some (kD l), some (.list (loL N l l.length)), none, none, none, none, none]) (by
    rw [q_sasg, ev_comp l kd1 (fun x => fD (lo N l x.1)) rfl fun x hx => ?_]
    · unfold loL
      rw [List.take_length]
      rfl
    · obtain ⟨w, q⟩ := x
      refine ⟨[some (.int (N : Int)), some (kD l), some (fL (cvl l) (N + 1)), some (fD (tW N l)), some (fL (shr N l) (N + 1)), some (kD l), none, none, none, some (.int (w : Int)), some (fD q), none], rfl, ?_⟩
      have e1 := f_ltotalG (sumsLo hN h C w)
      rw [lo_su hN h C] at e1
      have e2 : ev (.comp [("used", 11)] (.one 11) (.rng1 (.ari .Add (.sl 0) (.k (.int 1)))) (.prt (.cmp .Lt (.ari .Sub (.sl 0) (.sl 11)) (.sl 9))) (.cI (.ix (.sl 4) (.sl 11)))) [some (.int (N : Int)), some (kD l), some (fL (cvl l) (N + 1)), some (fD (tW N l)), some (fL (shr N l) (N + 1)), some (kD l), none, none, none, some (.int (w : Int)), some (fD q), none] = .ok (fL (fun k => shr N l (N + 1 - w + k)) (N + 1 - (N + 1 - w))) := by
        rw [ev_compF (List.range (N + 1)) (fun k => PyData.int (k : Int)) (fun k => fD (shr N l k)) (fun u => decide ((N : Int) - (u : Int) < (w : Int))) (ev_rng1 rfl (by omega)) fun u hu => ?_]
        · rw [range_tail, List.map_map]
          rfl
        · have hu' : u < N + 1 := by simpa using hu
          have e := hat u hu'
          refine ⟨_, rfl, ?_, fun _ => ?_⟩
          · simp only [q_w1, q_w0, List.map_cons, List.map_nil, q_cprt, List.set_cons_succ, List.set_cons_zero, q_sasg, q_spar, q_sret, q_sretS, q_sife, q_snil, q_tn, q_tr, q_lst, q_tup, q_call, q_cons, q_nil, q_cI, q_ari, q_ix, q_sl, q_s0, q_s1, q_ki, q_kn, q_kb, q_ks, q_neg, q_negD, q_fi, q_ci, q_cb, q_cs, q_cn, if_true, q_ok, q_f0, q_f1, q_ii, q_add, q_sub, q_or, q_and, q_one, q_not, q_cmp, q_eq, q_ne, q_lt, q_le, q_gt, q_ge, q_is, q_isnot, q_isnN, q_isnI, q_isnL, q_isnT, q_notR, q_boolD, Bool.not_true, Bool.not_false, List.length_cons, List.length_nil, sz (show 0 + 1 ≤ 1000000 by decide), sz (show 0 + 1 + 1 ≤ 1000000 by decide), q_lok, q_t1, q_t2, q_t3, q_t4, q_blt, q_blt1, q_blt2, q_eqi]
          · simp only [q_w1, q_w0, List.map_cons, List.map_nil, List.set_cons_succ, List.set_cons_zero, q_sasg, q_spar, q_sret, q_sretS, q_sife, q_snil, q_tn, q_tr, q_lst, q_tup, q_call, q_cons, q_nil, q_cI, q_ari, q_ix, q_sl, q_s0, q_s1, q_ki, q_kn, q_kb, q_ks, q_neg, q_negD, q_fi, q_ci, q_cb, q_cs, q_cn, if_true, q_ok, q_f0, q_f1, q_ii, q_add, q_sub, q_or, q_and, q_one, q_not, q_cmp, q_eq, q_ne, q_lt, q_le, q_gt, q_ge, q_is, q_isnot, q_isnN, q_isnI, q_isnL, q_isnT, q_notR, q_boolD, Bool.not_true, Bool.not_false, List.length_cons, List.length_nil, sz (show 0 + 1 ≤ 1000000 by decide), sz (show 0 + 1 + 1 ≤ 1000000 by decide), q_lok, q_t1, q_t2, q_t3, q_t4, q_blt, q_blt1, q_blt2, q_eqi, e]
      rw [q_call, q_cons, e2]
      simp only [List.set_cons_succ, List.set_cons_zero, q_sasg, q_spar, q_sret, q_sretS, q_sife, q_snil, q_tn, q_tr, q_lst, q_tup, q_call, q_cons, q_nil, q_cI, q_ari, q_ix, q_sl, q_s0, q_s1, q_ki, q_kn, q_kb, q_ks, q_neg, q_negD, q_fi, q_ci, q_cb, q_cs, q_cn, if_true, q_ok, q_f0, q_f1, q_ii, q_add, q_sub, q_or, q_and, q_one, q_not, q_cmp, q_eq, q_ne, q_lt, q_le, q_gt, q_ge, q_is, q_isnot, q_isnN, q_isnI, q_isnL, q_isnT, q_notR, q_boolD, Bool.not_true, Bool.not_false, List.length_cons, List.length_nil, sz (show 0 + 1 ≤ 1000000 by decide), sz (show 0 + 1 + 1 ≤ 1000000 by decide), q_lok, q_t1, q_t2, q_t3, q_t4, q_blt, q_blt1, q_blt2, q_eqi, e1]) ?_
  refine sq (δ1 := [some (.int (N : Int)), some (kD l), some (fL (cvl l) (N + 1)), some (fD (tW N l)), some (fL (shr N l) (N + 1)), some (kD l), some (.list (loL N l l.length)), some (fD (lsum (gM N l) l)), none, none, none, none]) (by
    rw [q_sasg, q_call, q_cons, ev_comp (List.range (N + 1)) (fun k => PyData.int (k : Int)) (fun k => fD ((k : Rat) * shr N l k)) (ev_rng1 rfl (by omega)) fun k hk => ?_]
    · show lft _ (F_law_total [fL (fun u => (u : Rat) * shr N l u) (N + 1)]) _ = _
      rw [a5]
      rfl
    · have hk' : k < N + 1 := by simpa using hk
      have e := hat k hk'
      have e3 := f_ltimes ((Smk.nat (show k ≤ 1000 by omega)).sm (by decide)) ((ks k (by omega)).sm (by decide))
      rw [← fD_nat] at e3
      refine ⟨_, rfl, ?_⟩
      simp only [q_w1, q_w0, List.map_cons, List.map_nil, List.set_cons_succ, List.set_cons_zero, q_sasg, q_spar, q_sret, q_sretS, q_sife, q_snil, q_tn, q_tr, q_lst, q_tup, q_call, q_cons, q_nil, q_cI, q_ari, q_ix, q_sl, q_s0, q_s1, q_ki, q_kn, q_kb, q_ks, q_neg, q_negD, q_fi, q_ci, q_cb, q_cs, q_cn, if_true, q_ok, q_f0, q_f1, q_ii, q_add, q_sub, q_or, q_and, q_one, q_not, q_cmp, q_eq, q_ne, q_lt, q_le, q_gt, q_ge, q_is, q_isnot, q_isnN, q_isnI, q_isnL, q_isnT, q_notR, q_boolD, Bool.not_true, Bool.not_false, List.length_cons, List.length_nil, sz (show 0 + 1 ≤ 1000000 by decide), sz (show 0 + 1 + 1 ≤ 1000000 by decide), q_lok, q_t1, q_t2, q_t3, q_t4, q_blt, q_blt1, q_blt2, q_eqi, e, e3]) ?_
  refine sqx ?_
  simp only [List.set_cons_succ, List.set_cons_zero, q_sasg, q_spar, q_sret, q_sretS, q_sife, q_snil, q_tn, q_tr, q_lst, q_tup, q_call, q_cons, q_nil, q_cI, q_ari, q_ix, q_sl, q_s0, q_s1, q_ki, q_kn, q_kb, q_ks, q_neg, q_negD, q_fi, q_ci, q_cb, q_cs, q_cn, if_true, q_ok, q_f0, q_f1, q_ii, q_add, q_sub, q_or, q_and, q_one, q_not, q_cmp, q_eq, q_ne, q_lt, q_le, q_gt, q_ge, q_is, q_isnot, q_isnN, q_isnI, q_isnL, q_isnT, q_notR, q_boolD, Bool.not_true, Bool.not_false, List.length_cons, List.length_nil, sz (show 0 + 1 ≤ 1000000 by decide), sz (show 0 + 1 + 1 ≤ 1000000 by decide), q_lok, q_t1, q_t2, q_t3, q_t4, q_blt, q_blt1, q_blt2, q_eqi, a3, a4, z3, z4]
end
/-! ### the standings -/
def dotN (c w : List Nat) : Nat := ((List.range c.length).map fun k => c.getD k 0 * w.getD k 0).sum
theorem getD_left {α : Type} {l m : List α} {k : Nat} {d : α} (h : k < l.length) : (l ++ m).getD k d = l.getD k d := by
  rw [List.getD_eq_getElem?_getD, List.getD_eq_getElem?_getD, List.getElem?_append_left h]
theorem getD_last {α : Type} {l : List α} {x d : α} : (l ++ [x]).getD l.length d = x := by
  rw [List.getD_eq_getElem?_getD, List.getElem?_append_right (Nat.le_refl _), Nat.sub_self]; rfl
theorem dotN_app {c w : List Nat} (e : c.length = w.length) (x y : Nat) : dotN (c ++ [x]) (w ++ [y]) = dotN c w + x * y := by
  unfold dotN
  rw [List.length_append, List.length_singleton, List.range_succ, List.map_append, List.sum_append]
  congr 1
  · congr 1
    refine List.map_congr_left fun k hk => ?_
    have hk := List.mem_range.mp hk
    rw [getD_left hk, getD_left (by omega)]
  · simp only [List.map_cons, List.map_nil, List.sum_cons, List.sum_nil, Nat.add_zero]
    rw [getD_last, e, getD_last]
theorem wt_congr {c c' : List Nat} {qs qs' : List Rat} : ∀ n, (∀ k, k < n → c.getD k 0 = c'.getD k 0 ∧ qs.getD k 0 = qs'.getD k 0) → wt c qs n = wt c' qs' n
  | 0, _ => rfl
  | n + 1, h => by
    show wt c qs n * tR (qs.getD n 0) (c.getD n 0) = wt c' qs' n * tR (qs'.getD n 0) (c'.getD n 0)
    rw [wt_congr n fun k hk => h k (by omega), (h n (by omega)).1, (h n (by omega)).2]
structure SdV (l : List (Nat × Rat)) (s : Sd) : Prop where
  u : dotN s.c (l.map (·.1)) = s.u
  x : wt s.c (l.map (·.2)) s.c.length = s.x
theorem sds_v {N : Nat} (l : List (Nat × Rat)) : ∀ s ∈ sds N l, SdV l s := by
  induction l using rev_ind with
  | h0 => intro s hs; rw [List.mem_singleton.mp hs]; exact ⟨rfl, rfl⟩
  | h1 l x ih =>
    intro s hs
    rw [sds_app] at hs
    obtain ⟨s', h1, h2⟩ := List.mem_flatMap.mp hs
    obtain ⟨j, h3, rfl⟩ := List.mem_map.mp h2
    have h4 := ih s' h1
    have h5 := (sds_ok l s' h1).len
    refine ⟨?_, ?_⟩
    · show dotN (s'.c ++ [j]) ((l ++ [x]).map (·.1)) = s'.u + j * x.1
      rw [List.map_append, ← h4.u]
      exact dotN_app (by rw [List.length_map]; exact h5) j x.1
    · show wt (s'.c ++ [j]) ((l ++ [x]).map (·.2)) (s'.c ++ [j]).length = s'.x * tR x.2 j
      rw [List.length_append, List.length_singleton]
      show wt (s'.c ++ [j]) ((l ++ [x]).map (·.2)) s'.c.length * tR (((l ++ [x]).map (·.2)).getD s'.c.length 0) ((s'.c ++ [j]).getD s'.c.length 0) = _
      have e : ((l ++ [x]).map (·.2)).getD s'.c.length 0 = x.2 := by
        rw [List.map_append, h5, show l.length = (l.map (·.2)).length by rw [List.length_map]]
        exact getD_last
      rw [getD_last, e, ← h4.x]
      congr 1
      refine wt_congr _ fun k hk => ⟨getD_left hk, ?_⟩
      rw [List.map_append, getD_left (by rw [List.length_map]; omega)]
def sL (m : List Sd) : D := .list (m.map fun s => iN s.c)
theorem iN_imm (l : List Nat) : immL (l.map fun (c : Nat) => PyData.int (c : Int)) = true := immL_all fun d hd => by
  obtain ⟨i, _, rfl⟩ := List.mem_map.mp hd
  rfl
theorem iN_snoc (c : List Nat) (j : Nat) (h : c.length ≤ 1000) : catD (iN c) (.list [.int (j : Int)]) = .ok (iN (c ++ [j])) := by
  unfold iN
  show (if _ then _ else _) = _
  rw [if_pos (sz (by rw [List.length_map]; show c.length + 1 ≤ _; omega)), List.map_append]
  rfl
/-- the lines that some calls need -/
theorem ev_dot {c w : List Nat} (e : c.length = w.length) (h4 : c.length ≤ 5) (hc : ∀ x ∈ c, x ≤ 100) (hw : ∀ x ∈ w, x ≤ 100) {own : List (Str × Nat)} {j : Nat} {elt : E} {δ : Sl} {a : E} (hl : ev a δ = .ok (.int (c.length : Int)))
    (he : ∀ k, k < c.length → ∃ δ', setTg (.one j) (.int (k : Int)) (wipeD δ (own.map (·.2))) = .ok δ' ∧ ev elt δ' = aOp .Mult (.ofNat (c.getD k 0)) (.ofNat (w.getD k 0))) :
    ev (.blt .sum (.cons (.comp own (.one j) (.rng1 a) .nop elt) .nil)) δ = .ok (.int (dotN c w : Int)) := by
  rw [q_blt, q_cons, ev_comp (List.range c.length) (fun k => PyData.int (k : Int)) (fun k => PyData.int ((c.getD k 0 * w.getD k 0 : Nat) : Int)) (ev_rng1 hl (by omega)) fun k hk => ?_]
  · have e := blt_sumN ((List.range c.length).map fun k => c.getD k 0 * w.getD k 0)
    rw [List.map_map] at e
    simp only [List.set_cons_succ, List.set_cons_zero, q_sasg, q_spar, q_sret, q_sretS, q_sife, q_snil, q_tn, q_tr, q_lst, q_tup, q_call, q_cons, q_nil, q_cI, q_ari, q_ix, q_sl, q_s0, q_s1, q_ki, q_kn, q_kb, q_ks, q_neg, q_negD, q_fi, q_ci, q_cb, q_cs, q_cn, if_true, q_ok, q_f0, q_f1, q_ii, q_add, q_sub, q_or, q_and, q_one, q_not, q_cmp, q_eq, q_ne, q_lt, q_le, q_gt, q_ge, q_is, q_isnot, q_isnN, q_isnI, q_isnL, q_isnT, q_notR, q_boolD, Bool.not_true, Bool.not_false, List.length_cons, List.length_nil, sz (show 0 + 1 ≤ 1000000 by decide), sz (show 0 + 1 + 1 ≤ 1000000 by decide), q_lok, q_t1, q_t2, q_t3, q_t4, q_blt, q_blt1, q_blt2, q_eqi]
    exact e
  · have hk' : k < c.length := by simpa using hk
    obtain ⟨δ', e1, e2⟩ := he k hk'
    refine ⟨δ', e1, ?_⟩
    rw [e2]
    have hc1 : c.getD k 0 ≤ 100 := by rw [getD_in _ hk']; exact hc _ (List.getElem_mem hk')
    have hm : mulOk (Int.ofNat (c.getD k 0)) (Int.ofNat (w.getD k 0)) := .inl (by
      show (c.getD k 0) < 2 ^ 64
      have : (100 : Nat) < 2 ^ 64 := by decide
      omega)
    rw [q_mul hm]
    rfl
theorem f_standings {N : Nat} (hN : N ≤ 28) {l : List (Nat × Rat)} (h : Ks l) (h3 : l.length ≤ 3) : F_law_standings [.int (N : Int), kD l] = .ok (sL ((sds N l).filter fun s => decide ((s.u : Int) ≤ (N : Int)))) := by
  have hlen : ∀ k, (sds N (l.take k)).length ≤ 32768 := fun k => Nat.le_trans (sds_len hN _) (by
    rw [List.length_take]
    exact p2 (j := 15) (by omega))
  refine F_rt (s := T_law_standings) (δ := [some (.int (N : Int)), some (kD l), none, none, none, none, none, none, none]) rfl rfl ?_
  unfold T_law_standings
  refine sq (δ1 := [some (.int (N : Int)), some (kD l), some (sL (sds N (l.take 0))), none, none, none, none, none, none]) (by simp [sz]; rfl) ?_
  refine sq_for (l.map kd1) rfl (by rw [immL_kD]; rfl) (fun k δ => ∃ x3 x4 x5 x6, δ = [some (.int (N : Int)), some (kD l), some (sL (sds N (l.take k))), x3, x4, x5, x6, none, none]) ⟨_, _, _, _, rfl⟩ (fun k δ hk hI => ?_) (fun δ' hI => ?_)
  · obtain ⟨x3, x4, x5, x6, rfl⟩ := hI
    have hk' : k < l.length := by simpa using hk
    have hx := List.getElem_mem hk'
    rw [List.getElem_map]
    have hs : sds N (l.take (k + 1)) = sdStep N (sds N (l.take k)) l[k] := by rw [← List.take_append_getElem hk', sds_app]
    have hl1 := hlen (k + 1)
    have hl0 := hlen k
    rw [hs] at hl1 ⊢
    have hw := h.w _ hx
    have hok : ∀ s ∈ sds N (l.take k), s.c.length ≤ 5 := fun s hs => by
      rw [(sds_ok _ s hs).len, List.length_take]
      omega
    generalize l[k] = x at *
    generalize sds N (l.take k) = M at *
    obtain ⟨w, q⟩ := x
    have hw0 : 0 < w := hw.1
    refine ⟨[some (.int (N : Int)), some (kD l), some (sL M), some (.int (w : Int)), some (fD q), x5, x6, none, none], ?_⟩
    have key : ∃ y5 y6, sev (.seq (.asg (.one 5) (.lst .nil))
        (.seq (.forE (.one 6) (.sl 2) false [some (.S, true), some (.S, true), some (.S, false), some (.F, false), some (.F, false), some ((.L .S), false), some (.S, false), some (.F, false), some (.F, false)]
        (.seq (.asg (.one 5) (.cat (.sl 5) (.comp [("k", 8)] (.one 8) (.rng1 (.ari .Add (.ari .FloorDiv (.sl 0) (.sl 3)) (.k (.int 1)))) .nop (.cL (.cat (.sl 6) (.lst (.cons (.cI (.sl 8)) .nil)))))))
        .nil))
        (.seq (.asg (.one 2) (.sl 5))
        .nil))) [some (.int (N : Int)), some (kD l), some (sL M), some (.int (w : Int)), some (fD q), x5, x6, none, none] = .nx [some (.int (N : Int)), some (kD l), some (sL (sdStep N M (w, q))), some (.int (w : Int)), some (fD q), y5, y6, none, none] := by
      refine P_sq (W := fun o => ∃ y5 y6, o = .nx [some (.int (N : Int)), some (kD l), some (sL (sdStep N M (w, q))), some (.int (w : Int)), some (fD q), y5, y6, none, none]) (δ1 := [some (.int (N : Int)), some (kD l), some (sL M), some (.int (w : Int)), some (fD q), some (sL (sdStep N (M.take 0) (w, q))), x6, none, none]) (by simp [sz]; rfl) ?_
      refine P_for (W := fun o => ∃ y5 y6, o = .nx [some (.int (N : Int)), some (kD l), some (sL (sdStep N M (w, q))), some (.int (w : Int)), some (fD q), y5, y6, none, none]) (im := false) (M.map fun s => iN s.c) rfl rfl (fun m δ => ∃ y6, δ = [some (.int (N : Int)), some (kD l), some (sL M), some (.int (w : Int)), some (fD q), some (sL (sdStep N (M.take m) (w, q))), y6, none, none]) ⟨_, rfl⟩ (fun m δ hm hI => ?_) (fun δ' hI => ?_)
      · obtain ⟨y6, rfl⟩ := hI
        have hm' : m < M.length := by simpa using hm
        rw [List.getElem_map]
        have e1 : sdStep N (M.take (m + 1)) (w, q) = sdStep N (M.take m) (w, q) ++ (List.range (N / w + 1)).map fun j => (⟨M[m].c ++ [j], M[m].u + j * w, M[m].x * tR q j⟩ : Sd) := by
          rw [← List.take_append_getElem hm']
          unfold sdStep
          rw [List.flatMap_append, List.flatMap_cons, List.flatMap_nil, List.append_nil]
        have e2 : (sdStep N (M.take m) (w, q)).length + (N / w + 1) ≤ 1000000 := by
          have e3 : ∀ m : List Sd, (sdStep N m (w, q)).length = m.length * (N / w + 1) := fun m => by
            unfold sdStep
            induction m with
            | nil => rw [List.flatMap_nil, List.length_nil, Nat.zero_mul]
            | cons a m ih => rw [List.flatMap_cons, List.length_append, ih, List.length_map, List.length_range, List.length_cons, Nat.add_mul, Nat.one_mul, Nat.add_comm]
          rw [e3, List.length_take]
          have h1 : min m M.length ≤ M.length := Nat.min_le_right _ _
          have h2 := Nat.mul_le_mul_right (N / w + 1) h1
          rw [e3] at hl1
          have := Nat.div_le_self N w
          omega
        rw [e1]
        have hc := hok _ (List.getElem_mem hm')
        generalize M[m] = s at *
        have dv : aOp .FloorDiv (N : Int) (w : Int) = .ok (.int ((N / w : Nat) : Int)) := by
          have : (100 : Nat) < 2 ^ 64 := by decide
          rw [q_div (by omega) (small_log (by have : w ≤ 100 := hw.2; omega))]
          rfl
        have i1 : ((N / w : Nat) : Int) + 1 = ((N / w + 1 : Nat) : Int) := by omega
        refine ⟨[some (.int (N : Int)), some (kD l), some (sL M), some (.int (w : Int)), some (fD q), some (sL (sdStep N (M.take m) (w, q))), some (iN s.c), none, none], _, rfl, sq (δ1 := [some (.int (N : Int)), some (kD l), some (sL M), some (.int (w : Int)), some (fD q), some (sL (sdStep N (M.take m) (w, q) ++ (List.range (N / w + 1)).map fun j => (⟨s.c ++ [j], s.u + j * w, s.x * tR q j⟩ : Sd))), some (iN s.c), none, none]) ?_ rfl, _, rfl⟩
        rw [q_sasg, q_cat, ev_comp (List.range (N / w + 1)) (fun k => PyData.int (k : Int)) (fun j => iN (s.c ++ [j])) (ev_rng1 (n := N / w + 1) (by simp only [List.set_cons_succ, List.set_cons_zero, q_sasg, q_spar, q_sret, q_sretS, q_sife, q_snil, q_tn, q_tr, q_lst, q_tup, q_call, q_cons, q_nil, q_cI, q_ari, q_ix, q_sl, q_s0, q_s1, q_ki, q_kn, q_kb, q_ks, q_neg, q_negD, q_fi, q_ci, q_cb, q_cs, q_cn, if_true, q_ok, q_f0, q_f1, q_ii, q_add, q_sub, q_or, q_and, q_one, q_not, q_cmp, q_eq, q_ne, q_lt, q_le, q_gt, q_ge, q_is, q_isnot, q_isnN, q_isnI, q_isnL, q_isnT, q_notR, q_boolD, Bool.not_true, Bool.not_false, List.length_cons, List.length_nil, sz (show 0 + 1 ≤ 1000000 by decide), sz (show 0 + 1 + 1 ≤ 1000000 by decide), q_lok, q_t1, q_t2, q_t3, q_t4, q_blt, q_blt1, q_blt2, q_eqi, dv, i1]) (by have := Nat.div_le_self N w; omega)) fun j hj => ?_]
        · simp only [List.set_cons_succ, List.set_cons_zero, q_sasg, q_spar, q_sret, q_sretS, q_sife, q_snil, q_tn, q_tr, q_lst, q_tup, q_call, q_cons, q_nil, q_cI, q_ari, q_ix, q_sl, q_s0, q_s1, q_ki, q_kn, q_kb, q_ks, q_neg, q_negD, q_fi, q_ci, q_cb, q_cs, q_cn, if_true, q_ok, q_f0, q_f1, q_ii, q_add, q_sub, q_or, q_and, q_one, q_not, q_cmp, q_eq, q_ne, q_lt, q_le, q_gt, q_ge, q_is, q_isnot, q_isnN, q_isnI, q_isnL, q_isnT, q_notR, q_boolD, Bool.not_true, Bool.not_false, List.length_cons, List.length_nil, sz (show 0 + 1 ≤ 1000000 by decide), sz (show 0 + 1 + 1 ≤ 1000000 by decide), q_lok, q_t1, q_t2, q_t3, q_t4, q_blt, q_blt1, q_blt2, q_eqi]
          have e4 : catD (sL (sdStep N (M.take m) (w, q))) (.list ((List.range (N / w + 1)).map fun j => iN (s.c ++ [j]))) = .ok (sL (sdStep N (M.take m) (w, q) ++ (List.range (N / w + 1)).map fun j => (⟨s.c ++ [j], s.u + j * w, s.x * tR q j⟩ : Sd))) := by
            unfold sL
            show (if _ then _ else _) = _
            rw [if_pos (sz (by rw [List.length_map, List.length_map, List.length_range]; exact e2)), List.map_append, List.map_map]
            rfl
          rw [e4]
          rfl
        · refine ⟨_, rfl, ?_⟩
          have e5 := iN_snoc s.c j (by omega)
          rw [q_cL, q_cat]
          simp only [q_w1, q_w0, List.map_cons, List.map_nil, List.set_cons_succ, List.set_cons_zero, q_sasg, q_spar, q_sret, q_sretS, q_sife, q_snil, q_tn, q_tr, q_lst, q_tup, q_call, q_cons, q_nil, q_cI, q_ari, q_ix, q_sl, q_s0, q_s1, q_ki, q_kn, q_kb, q_ks, q_neg, q_negD, q_fi, q_ci, q_cb, q_cs, q_cn, if_true, q_ok, q_f0, q_f1, q_ii, q_add, q_sub, q_or, q_and, q_one, q_not, q_cmp, q_eq, q_ne, q_lt, q_le, q_gt, q_ge, q_is, q_isnot, q_isnN, q_isnI, q_isnL, q_isnT, q_notR, q_boolD, Bool.not_true, Bool.not_false, List.length_cons, List.length_nil, sz (show 0 + 1 ≤ 1000000 by decide), sz (show 0 + 1 + 1 ≤ 1000000 by decide), q_lok, q_t1, q_t2, q_t3, q_t4, q_blt, q_blt1, q_blt2, q_eqi, e5]
          show (if immL ((s.c ++ [j]).map fun (c : Nat) => PyData.int (c : Int)) = true then R.ok _ else _) = _
          rw [if_pos (iN_imm _)]
          rfl
      · obtain ⟨y6, rfl⟩ := hI
        have : M.take (M.map fun s => iN s.c).length = M := by rw [List.length_map, List.take_length]
        rw [this]
        exact ⟨_, _, rfl⟩
    obtain ⟨y5, y6, e⟩ := key
    exact ⟨_, rfl, e, _, _, _, _, rfl⟩
  obtain ⟨x3, x4, x5, x6, rfl⟩ := hI
  rw [List.length_map, List.take_length]
  refine sq (δ1 := [some (.int (N : Int)), some (kD l), some (sL (sds N l)), x3, x4, x5, x6, some (iN (l.map (·.1))), none]) (by
    rw [q_sasg, ev_comp l kd1 (fun x => PyData.int (x.1 : Int)) rfl fun x hx => ⟨_, rfl, ?_⟩]
    · unfold iN
      rw [List.map_map]
      rfl
    · simp only [q_w1, q_w0, List.map_cons, List.map_nil, List.set_cons_succ, List.set_cons_zero, q_sasg, q_spar, q_sret, q_sretS, q_sife, q_snil, q_tn, q_tr, q_lst, q_tup, q_call, q_cons, q_nil, q_cI, q_ari, q_ix, q_sl, q_s0, q_s1, q_ki, q_kn, q_kb, q_ks, q_neg, q_negD, q_fi, q_ci, q_cb, q_cs, q_cn, if_true, q_ok, q_f0, q_f1, q_ii, q_add, q_sub, q_or, q_and, q_one, q_not, q_cmp, q_eq, q_ne, q_lt, q_le, q_gt, q_ge, q_is, q_isnot, q_isnN, q_isnI, q_isnL, q_isnT, q_notR, q_boolD, Bool.not_true, Bool.not_false, List.length_cons, List.length_nil, sz (show 0 + 1 ≤ 1000000 by decide), sz (show 0 + 1 + 1 ≤ 1000000 by decide), q_lok, q_t1, q_t2, q_t3, q_t4, q_blt, q_blt1, q_blt2, q_eqi]) ?_
  refine sqx ?_
  rw [q_sret, ev_compF (sds N l) (fun s => iN s.c) (fun s => iN s.c) (fun s => decide ((s.u : Int) ≤ (N : Int))) rfl fun s hs => ?_]
  · rfl
  · have h1 := sds_ok l s hs
    have h2 := sds_v l s hs
    refine ⟨[some (.int (N : Int)), some (kD l), some (sL (sds N l)), x3, x4, x5, some (iN s.c), some (iN (l.map (·.1))), none], rfl, ?_, fun _ => rfl⟩
    have ed := ev_dot (c := s.c) (w := l.map (·.1)) (by rw [List.length_map]; exact h1.len) (by rw [h1.len]; exact h.n) (fun x hx => by have := h1.le x hx; omega) (fun x hx => by
        obtain ⟨y, hy, rfl⟩ := List.mem_map.mp hx
        exact (h.w y hy).2) (own := [("k", 8)]) (j := 8) (elt := .ari .Mult (.ix (.sl 6) (.sl 8)) (.ix (.sl 7) (.sl 8))) (δ := [some (.int (N : Int)), some (kD l), some (sL (sds N l)), x3, x4, x5, some (iN s.c), some (iN (l.map (·.1))), none]) (a := .blt .len (.cons (.sl 6) .nil)) (by
        simp only [List.set_cons_succ, List.set_cons_zero, q_sasg, q_spar, q_sret, q_sretS, q_sife, q_snil, q_tn, q_tr, q_lst, q_tup, q_call, q_cons, q_nil, q_cI, q_ari, q_ix, q_sl, q_s0, q_s1, q_ki, q_kn, q_kb, q_ks, q_neg, q_negD, q_fi, q_ci, q_cb, q_cs, q_cn, if_true, q_ok, q_f0, q_f1, q_ii, q_add, q_sub, q_or, q_and, q_one, q_not, q_cmp, q_eq, q_ne, q_lt, q_le, q_gt, q_ge, q_is, q_isnot, q_isnN, q_isnI, q_isnL, q_isnT, q_notR, q_boolD, Bool.not_true, Bool.not_false, List.length_cons, List.length_nil, sz (show 0 + 1 ≤ 1000000 by decide), sz (show 0 + 1 + 1 ≤ 1000000 by decide), q_lok, q_t1, q_t2, q_t3, q_t4, q_blt, q_blt1, q_blt2, q_eqi]
        unfold iN
        rw [q_lenL, List.length_map]) (fun k hk => by
        refine ⟨_, rfl, ?_⟩
        have i1 := iN_at hk
        have hk2 : k < (l.map (·.1)).length := by rw [List.length_map, ← h1.len]; exact hk
        have i2 := iN_at hk2
        rw [getD_in _ hk, getD_in _ hk2]
        simp only [q_w1, q_w0, List.map_cons, List.map_nil, List.set_cons_succ, List.set_cons_zero, q_ari, q_ix, q_sl, q_s0, q_s1, q_ok, i1, i2, q_ii]
        rfl)
    rw [h2.u] at ed
    rw [q_cprt, q_cmp, ed]
    simp only [List.set_cons_succ, List.set_cons_zero, q_sasg, q_spar, q_sret, q_sretS, q_sife, q_snil, q_tn, q_tr, q_lst, q_tup, q_call, q_cons, q_nil, q_cI, q_ari, q_ix, q_sl, q_s0, q_s1, q_ki, q_kn, q_kb, q_ks, q_neg, q_negD, q_fi, q_ci, q_cb, q_cs, q_cn, if_true, q_ok, q_f0, q_f1, q_ii, q_add, q_sub, q_or, q_and, q_one, q_not, q_cmp, q_eq, q_ne, q_lt, q_le, q_gt, q_ge, q_is, q_isnot, q_isnN, q_isnI, q_isnL, q_isnT, q_notR, q_boolD, Bool.not_true, Bool.not_false, List.length_cons, List.length_nil, sz (show 0 + 1 ≤ 1000000 by decide), sz (show 0 + 1 + 1 ≤ 1000000 by decide), q_lok, q_t1, q_t2, q_t3, q_t4, q_blt, q_blt1, q_blt2, q_eqi]
end VS
set_option Elab.async false
set_option linter.all false
set_option maxRecDepth 100000
namespace VS
open PySem PySem.Spec L2
open PyProof.Rows hiding St
theorem qL_comp {l : List (Nat × Rat)} {own : List (Str × Nat)} {a b : Nat} {δ : Sl} {e : E} (h1 : (ev e δ >>= iterD) = .ok (l.map kd1)) (h : ∀ x ∈ l, ∃ δ', setTg (.tup [a, b]) (kd1 x) (wipeD δ (own.map (·.2))) = .ok δ' ∧ slotD δ' b = .ok (fD x.2)) :
    ev (.comp own (.tup [a, b]) e .nop (.cI (.sl b))) δ = .ok (qL (l.map (·.2))) := by
  rw [ev_comp l kd1 (fun x => fD x.2) h1 fun x hx => ?_]
  · unfold qL
    rw [List.map_map]
    rfl
  · obtain ⟨δ', e1, e2⟩ := h x hx
    refine ⟨δ', e1, ?_⟩
    rw [q_cI, q_sl, e2]
    rfl
theorem fL_set {f : Nat → Rat} {n k : Nat} {v : Rat} (h : k < n) : ((List.range n).map fun u => fD (f u)).set k (fD v) = (List.range n).map fun u => fD (if k = u then v else f u) := by
  refine List.ext_getElem (by rw [List.length_set, List.length_map, List.length_map]) fun i h1 h2 => ?_
  rw [List.getElem_set, List.getElem_map, List.getElem_map, List.getElem_range]
  split <;> rfl
theorem q_setF {f : Nat → Rat} {n k : Nat} {v : Rat} {tf : Bool} {j : Nat} {i e : E} {δ : Sl} (h : k < n) (h1 : slotD δ j = .ok (fL f n)) (h2 : ev i δ = .ok (.int (k : Int))) (h3 : ev e δ = .ok (fD v)) :
    sev (.setI tf (.sl j) i e) δ = .nx (δ.set j (some (fL (fun u => if k = u then v else f u) n))) := by
  show (lft δ (ev e δ) fun y => lft δ (nox (pthD (.sl j) δ)) fun ks => lft δ (nox (ev i δ)) fun k => lft δ (slotD δ j) fun d => lft δ (nox (modG tf (setD k y) ks d)) fun d' => .nx (δ.set j (some d'))) = _
  rw [h3, q_lok]
  show (lft δ (nox (R.ok ([] : List D))) fun ks => lft δ (nox (ev i δ)) fun k => lft δ (slotD δ j) fun d => lft δ (nox (modG tf (setD k (fD v)) ks d)) fun d' => .nx (δ.set j (some d'))) = _
  rw [q_nox, q_lok, h2, q_nox, q_lok, h1, q_lok]
  unfold fL
  rw [q_modL]
  have e : setD (.int (k : Int)) (fD v) ((List.range n).map fun u => fD (f u)) = .ok ((List.range n).map fun u => fD (if k = u then v else f u)) := by
    have : stepD ((List.range n).map fun u => fD (f u)) (.int (k : Int)) = some k := by
      show ixN _ _ = _
      unfold ixN
      rw [List.length_map, List.length_range, if_pos (by omega), if_pos (by omega), Int.toNat_natCast]
    show (match stepD ((List.range n).map fun u => fD (f u)) (.int (k : Int)) with
      | some j => R.ok (((List.range n).map fun u => fD (f u)).set j (fD v))
      | none => .no) = _
    rw [this, ← fL_set h]
  rw [e]
  rfl
theorem f_right_wide {N : Nat} (hN : N ≤ 8) {l : List (Nat × Rat)} (h : Ks l) (h3 : l.length ≤ 3) : F_law_right_wide [.int (N : Int), kD l] = .ok (.bool true) := by
  have hN28 : N ≤ 28 := by omega
  obtain ⟨D, C⟩ := cds_of hN28 h
  have e1 := f_standings hN28 h h3
  have e2 := f_right_use hN28 h C
  generalize hst : (sds N l).filter (fun s => decide ((s.u : Int) ≤ (N : Int))) = st at e1
  have hst1 : ∀ s ∈ st, s ∈ sds N l ∧ s.u ≤ N := fun s hs => by
    rw [← hst] at hs
    obtain ⟨a, b⟩ := List.mem_filter.mp hs
    have := of_decide_eq_true b
    exact ⟨a, by omega⟩
  have hstl : st.length ≤ 2 ^ 25 := Nat.le_trans (by rw [← hst]; exact List.length_filter_le _ _) C.n
  have hsum : ∀ u, u ≤ N → lsum (at0 u) st = cvl l u := fun u hu => by
    rw [← sds_sum l (fun x hx => (h.w x hx).1) u hu, ← hst]
    have : ∀ m : List Sd, lsum (at0 u) (m.filter fun s => decide ((s.u : Int) ≤ (N : Int))) = lsum (at0 u) m := fun m => by
      induction m with
      | nil => rfl
      | cons s m ih =>
        rw [lsum_cons, ← ih]
        by_cases hs : (s.u : Int) ≤ (N : Int)
        · rw [List.filter_cons_of_pos (by rw [decide_eq_true hs]), lsum_cons]
        · rw [List.filter_cons_of_neg (by rw [decide_eq_false hs]; decide)]
          have : at0 u s = 0 := by unfold at0; rw [if_neg (by omega)]
          rw [this, Rat.zero_add]
    exact this _
  have kp : ∀ u m, Smk 1920 (lsum (at0 u) (st.take m)) := fun u m => by
    have c1 : Cd D (2 ^ 1915) (lsum (at0 u) (st.take m)) := (Cd.lsum (A := 2 ^ 1890) fun s hs => at0_cd (C.s s (hst1 s (List.mem_of_mem_take hs)).1)).le (m20 (k := 25) (l := 1890) (by
      rw [List.length_take]
      exact Nat.le_trans (Nat.min_le_right _ _) hstl) (Nat.le_refl _))
    exact c1.smk C.d0 (p2 (by decide)) (Nat.le_trans C.d1 (p2 (by decide)))
  refine F_rt (s := T_law_right_wide) (δ := [some (.int (N : Int)), some (kD l), none, none, none, none, none, none]) rfl rfl ?_
  unfold T_law_right_wide
  refine sq (δ1 := [some (.int (N : Int)), some (kD l), some (fL (fun u => lsum (at0 u) (st.take 0)) (N + 1)), none, none, none, none, none]) (by
    rw [q_sasg, ev_comp (List.range (N + 1)) (fun k => PyData.int (k : Int)) (fun _ => fD 0) (ev_rng1 rfl (by omega)) fun k hk => ⟨_, rfl, by simp only [List.set_cons_succ, List.set_cons_zero, q_sasg, q_spar, q_sret, q_sretS, q_sife, q_snil, q_tn, q_tr, q_lst, q_tup, q_call, q_cons, q_nil, q_cI, q_ari, q_ix, q_sl, q_s0, q_s1, q_ki, q_kn, q_kb, q_ks, q_neg, q_negD, q_fi, q_ci, q_cb, q_cs, q_cn, if_true, q_ok, q_f0, q_f1, q_ii, q_add, q_sub, q_or, q_and, q_one, q_not, q_cmp, q_eq, q_ne, q_lt, q_le, q_gt, q_ge, q_is, q_isnot, q_isnN, q_isnI, q_isnL, q_isnT, q_notR, q_boolD, Bool.not_true, Bool.not_false, List.length_cons, List.length_nil, sz (show 0 + 1 ≤ 1000000 by decide), sz (show 0 + 1 + 1 ≤ 1000000 by decide), q_lok, q_t1, q_t2, q_t3, q_t4, q_blt, q_blt1, q_blt2, q_eqi]; rfl⟩]
    rfl) ?_
  refine sq_for (im := false) (st.map fun s => iN s.c) (by
    simp only [List.set_cons_succ, List.set_cons_zero, q_sasg, q_spar, q_sret, q_sretS, q_sife, q_snil, q_tn, q_tr, q_lst, q_tup, q_call, q_cons, q_nil, q_cI, q_ari, q_ix, q_sl, q_s0, q_s1, q_ki, q_kn, q_kb, q_ks, q_neg, q_negD, q_fi, q_ci, q_cb, q_cs, q_cn, if_true, q_ok, q_f0, q_f1, q_ii, q_add, q_sub, q_or, q_and, q_one, q_not, q_cmp, q_eq, q_ne, q_lt, q_le, q_gt, q_ge, q_is, q_isnot, q_isnN, q_isnI, q_isnL, q_isnT, q_notR, q_boolD, Bool.not_true, Bool.not_false, List.length_cons, List.length_nil, sz (show 0 + 1 ≤ 1000000 by decide), sz (show 0 + 1 + 1 ≤ 1000000 by decide), q_lok, q_t1, q_t2, q_t3, q_t4, q_blt, q_blt1, q_blt2, q_eqi, e1]
    rfl) rfl (fun m δ => ∃ x3 x4, δ = [some (.int (N : Int)), some (kD l), some (fL (fun u => lsum (at0 u) (st.take m)) (N + 1)), x3, x4, none, none, none]) ⟨_, _, rfl⟩ (fun m δ hm hI => ?_) (fun δ' hI => ?_)
  · obtain ⟨x3, x4, rfl⟩ := hI
    have hm' : m < st.length := by simpa using hm
    rw [List.getElem_map]
    obtain ⟨hs, hu⟩ := hst1 _ (List.getElem_mem hm')
    have hT : ∀ u, lsum (at0 u) (st.take (m + 1)) = lsum (at0 u) (st.take m) + at0 u st[m] := fun u => take_lsum _ _ hm'
    have kpm := fun u => kp u m
    generalize st[m] = s at *
    have hW : fL (fun u => lsum (at0 u) (st.take (m + 1))) (N + 1) = fL (fun u => if s.u = u then lsum (at0 s.u) (st.take m) + s.x else lsum (at0 u) (st.take m)) (N + 1) := fL_ext fun u hu => by
      rw [hT]
      unfold at0
      by_cases e : s.u = u
      · subst e
        rw [if_pos rfl, if_pos rfl]
      · rw [if_neg e, if_neg e, Rat.add_zero]
    rw [hW]
    generalize hP : (fun u => lsum (at0 u) (st.take m)) = P at *
    have hP1 : ∀ u, lsum (at0 u) (st.take m) = P u := fun u => by rw [← hP]
    have kpm : ∀ u, Smk 1920 (P u) := fun u => by rw [← hP]; exact kpm u
    simp only [hP1]
    have v1 := sds_ok l s hs
    have v2 := sds_v l s hs
    have ed := ev_dot (c := s.c) (w := l.map (·.1)) (by rw [List.length_map]; exact v1.len) (by rw [v1.len]; exact h.n) (fun x hx => by have := v1.le x hx; omega) (fun x hx => by
        obtain ⟨y, hy, rfl⟩ := List.mem_map.mp hx
        exact (h.w y hy).2) (own := [("k", 5)]) (j := 5) (elt := .ari .Mult (.ix (.sl 3) (.sl 5)) (.ix (.ix (.sl 1) (.sl 5)) (.k (.int 0)))) (δ := [some (.int (N : Int)), some (kD l), some (fL P (N + 1)), some (iN s.c), x4, none, none, none]) (a := .blt .len (.cons (.sl 3) .nil)) (by
        simp only [List.set_cons_succ, List.set_cons_zero, q_sasg, q_spar, q_sret, q_sretS, q_sife, q_snil, q_tn, q_tr, q_lst, q_tup, q_call, q_cons, q_nil, q_cI, q_ari, q_ix, q_sl, q_s0, q_s1, q_ki, q_kn, q_kb, q_ks, q_neg, q_negD, q_fi, q_ci, q_cb, q_cs, q_cn, if_true, q_ok, q_f0, q_f1, q_ii, q_add, q_sub, q_or, q_and, q_one, q_not, q_cmp, q_eq, q_ne, q_lt, q_le, q_gt, q_ge, q_is, q_isnot, q_isnN, q_isnI, q_isnL, q_isnT, q_notR, q_boolD, Bool.not_true, Bool.not_false, List.length_cons, List.length_nil, sz (show 0 + 1 ≤ 1000000 by decide), sz (show 0 + 1 + 1 ≤ 1000000 by decide), q_lok, q_t1, q_t2, q_t3, q_t4, q_blt, q_blt1, q_blt2, q_eqi]
        unfold iN
        rw [q_lenL, List.length_map]) (fun k hk => by
        refine ⟨_, rfl, ?_⟩
        have i1 := iN_at hk
        have hk3 : k < l.length := by rw [← v1.len]; exact hk
        have hk2 : k < (l.map (·.1)).length := by rw [List.length_map]; exact hk3
        have i2 := kD_at hk3
        have i3 : ixD (kd1 l[k]) (.int 0) = .ok (.int (l[k].1 : Int)) := rfl
        rw [getD_in _ hk, getD_in _ hk2, List.getElem_map]
        simp only [q_w1, q_w0, List.map_cons, List.map_nil, List.set_cons_succ, List.set_cons_zero, q_ari, q_ix, q_sl, q_s0, q_s1, q_ki, q_ok, i1, i2, i3, q_ii]
        rfl)
    rw [v2.u] at ed
    have hlq : s.c.length = (l.map (·.2)).length := by rw [List.length_map]; exact v1.len
    have ew := f_sweightG (cs := s.c) (qs := l.map (·.2)) hlq (by rw [v1.len]; omega) (fun c hc => by have := v1.le c hc; omega) (fun x hx => by
      obtain ⟨y, hy, rfl⟩ := List.mem_map.mp hx
      exact h.q y hy)
    rw [v2.x] at ew
    have kx : Smk 1890 s.x := (C.s s hs).smk C.d0 (Nat.le_refl _) C.d1
    have ea := f_lplus ((kpm s.u).sm (by decide)) (kx.sm (by decide))
    have el := fL_at (f := P) (n := N + 1) (k := s.u) (by omega)
    refine ⟨[some (.int (N : Int)), some (kD l), some (fL P (N + 1)), some (iN s.c), x4, none, none, none], [some (.int (N : Int)), some (kD l), some (fL (fun u => if s.u = u then P s.u + s.x else P u) (N + 1)), some (iN s.c), some (.int (s.u : Int)), none, none, none], rfl, sq (δ1 := [some (.int (N : Int)), some (kD l), some (fL P (N + 1)), some (iN s.c), some (.int (s.u : Int)), none, none, none]) ?_ (sq ?_ rfl), _, _, rfl⟩
    · rw [q_sasg, ed]
      rfl
    · rw [q_setF (f := P) (n := N + 1) (k := s.u) (v := P s.u + s.x) (by omega) rfl rfl]
      · rfl
      · have eq : ev (.comp [("width", 6), ("load", 7)] (.tup [6, 7]) (.sl 1) .nop (.cI (.sl 7))) [some (.int (N : Int)), some (kD l), some (fL P (N + 1)), some (iN s.c), some (.int (s.u : Int)), none, none, none] = .ok (qL (l.map (·.2))) := qL_comp rfl fun x hx => ⟨_, rfl, rfl⟩
        rw [q_call, q_cons, q_cons, q_call, q_cons, q_cons, eq]
        simp only [List.set_cons_succ, List.set_cons_zero, q_sasg, q_spar, q_sret, q_sretS, q_sife, q_snil, q_tn, q_tr, q_lst, q_tup, q_call, q_cons, q_nil, q_cI, q_ari, q_ix, q_sl, q_s0, q_s1, q_ki, q_kn, q_kb, q_ks, q_neg, q_negD, q_fi, q_ci, q_cb, q_cs, q_cn, if_true, q_ok, q_f0, q_f1, q_ii, q_add, q_sub, q_or, q_and, q_one, q_not, q_cmp, q_eq, q_ne, q_lt, q_le, q_gt, q_ge, q_is, q_isnot, q_isnN, q_isnI, q_isnL, q_isnT, q_notR, q_boolD, Bool.not_true, Bool.not_false, List.length_cons, List.length_nil, sz (show 0 + 1 ≤ 1000000 by decide), sz (show 0 + 1 + 1 ≤ 1000000 by decide), q_lok, q_t1, q_t2, q_t3, q_t4, q_blt, q_blt1, q_blt2, q_eqi, el, ew, ea]
  · obtain ⟨x3, x4, rfl⟩ := hI
    rw [List.length_map, List.take_length]
    have : fL (fun u => lsum (at0 u) st) (N + 1) = fL (cvl l) (N + 1) := fL_ext fun u hu => hsum u (by omega)
    rw [this]
    refine sqx ?_
    simp only [List.set_cons_succ, List.set_cons_zero, q_sasg, q_spar, q_sret, q_sretS, q_sife, q_snil, q_tn, q_tr, q_lst, q_tup, q_call, q_cons, q_nil, q_cI, q_ari, q_ix, q_sl, q_s0, q_s1, q_ki, q_kn, q_kb, q_ks, q_neg, q_negD, q_fi, q_ci, q_cb, q_cs, q_cn, if_true, q_ok, q_f0, q_f1, q_ii, q_add, q_sub, q_or, q_and, q_one, q_not, q_cmp, q_eq, q_ne, q_lt, q_le, q_gt, q_ge, q_is, q_isnot, q_isnN, q_isnI, q_isnL, q_isnT, q_notR, q_boolD, Bool.not_true, Bool.not_false, List.length_cons, List.length_nil, sz (show 0 + 1 ≤ 1000000 by decide), sz (show 0 + 1 + 1 ≤ 1000000 by decide), q_lok, q_t1, q_t2, q_t3, q_t4, q_blt, q_blt1, q_blt2, q_eqi, e2]
theorem q_repL (xs : List D) (k : Int) : repD (.list xs) (.int k) = if -(2 ^ 63) ≤ k ∧ k < 2 ^ 63 ∧ xs.length * k.toNat ≤ sizeLine then .ok (.list (List.replicate k.toNat xs).flatten) else .no := (rfl)
theorem q_catL (xs ys : List D) : catD (.list xs) (.list ys) = if xs.length + ys.length ≤ sizeLine then .ok (.list (xs ++ ys)) else .no := (rfl)
theorem e0_list (N : Nat) (hN : N ≤ 1000) {a : E} {δ : Sl} (ha : ev a δ = .ok (.int (N : Int))) : ev (.cat (.lst (.cons (.tup (.cons (.k (.int 1)) (.cons (.k (.int 1)) .nil))) .nil)) (.rep (.lst (.cons (.tup (.cons (.k (.int 0)) (.cons (.k (.int 1)) .nil))) .nil)) a)) δ = .ok (fL e0 (N + 1)) := by
  have h1 : repD (.list [.tuple [.int 0, .int 1]]) (.int (N : Int)) = .ok (.list (List.replicate N (.tuple [.int 0, .int 1]))) := by
    have hc : -(2 ^ 63) ≤ (N : Int) ∧ (N : Int) < 2 ^ 63 ∧ [PyData.tuple [.int 0, .int 1]].length * (N : Int).toNat ≤ sizeLine := ⟨by omega, by omega, by rw [Int.toNat_natCast, List.length_singleton, Nat.one_mul]; exact sz (by omega)⟩
    rw [q_repL, if_pos hc, Int.toNat_natCast]
    have : ∀ n, (List.replicate n [PyData.tuple [.int 0, .int 1]]).flatten = List.replicate n (PyData.tuple [.int 0, .int 1]) := fun n => by
      induction n with
      | zero => rfl
      | succ n ih => rw [List.replicate_succ, List.flatten_cons, ih, List.replicate_succ]; rfl
    rw [this]
  have h2 : catD (.list [.tuple [.int 1, .int 1]]) (.list (List.replicate N (.tuple [.int 0, .int 1]))) = .ok (fL e0 (N + 1)) := by
    have hc : [PyData.tuple [.int 1, .int 1]].length + (List.replicate N (PyData.tuple [.int 0, .int 1])).length ≤ sizeLine := by
      rw [List.length_replicate, List.length_singleton]
      exact sz (by omega)
    have hl : [PyData.tuple [.int 1, .int 1]] ++ List.replicate N (.tuple [.int 0, .int 1]) = (List.range (N + 1)).map fun k => fD (e0 k) := ?hl
    · rw [q_catL, if_pos hc, hl]
      rfl
    refine List.ext_getElem (by rw [List.length_append, List.length_replicate, List.length_map, List.length_range, Nat.add_comm]; rfl) fun i h1 h2 => ?_
    rw [List.getElem_map, List.getElem_range]
    cases i with
    | zero => rfl
    | succ i =>
      rw [List.getElem_append_right (by show 1 ≤ i + 1; omega), List.getElem_replicate]
      unfold e0
      rw [if_neg (by omega)]
      rfl
  rw [q_cat, q_rep, ha]
  simp only [List.set_cons_succ, List.set_cons_zero, q_sasg, q_spar, q_sret, q_sretS, q_sife, q_snil, q_tn, q_tr, q_lst, q_tup, q_call, q_cons, q_nil, q_cI, q_ari, q_ix, q_sl, q_s0, q_s1, q_ki, q_kn, q_kb, q_ks, q_neg, q_negD, q_fi, q_ci, q_cb, q_cs, q_cn, if_true, q_ok, q_f0, q_f1, q_ii, q_add, q_sub, q_or, q_and, q_one, q_not, q_cmp, q_eq, q_ne, q_lt, q_le, q_gt, q_ge, q_is, q_isnot, q_isnN, q_isnI, q_isnL, q_isnT, q_notR, q_boolD, Bool.not_true, Bool.not_false, List.length_cons, List.length_nil, sz (show 0 + 1 ≤ 1000000 by decide), sz (show 0 + 1 + 1 ≤ 1000000 by decide), q_lok, q_t1, q_t2, q_t3, q_t4, q_blt, q_blt1, q_blt2, q_eqi, h1, h2]
theorem Ks.take {l : List (Nat × Rat)} (h : Ks l) (k : Nat) : Ks (l.take k) := ⟨fun x hx => h.w x (List.mem_of_mem_take hx), fun x hx => h.q x (List.mem_of_mem_take hx), by
  rw [List.length_take]
  have := h.n
  omega⟩
theorem f_right_great {N : Nat} (hN : N ≤ 28) {l : List (Nat × Rat)} (h : Ks l) : F_law_right_great [.int (N : Int), kD l] = .ok (.bool true) := by
  obtain ⟨D, C⟩ := cds_of hN h
  have e2 := f_right_use hN h C
  refine F_rt (s := T_law_right_great) (δ := [some (.int (N : Int)), some (kD l), none, none, none, none, none, none]) rfl rfl ?_
  unfold T_law_right_great
  refine sq (δ1 := [some (.int (N : Int)), some (kD l), some (fL (cvl (l.take 0)) (N + 1)), none, none, none, none, none]) (by
    rw [q_sasg, q_cL, e0_list N (by omega) rfl]
    show lft _ (if immL ((List.range (N + 1)).map fun k => fD (e0 k)) = true then R.ok (fL e0 (N + 1)) else _) _ = _
    rw [if_pos (immL_fL _ _)]
    rfl) ?_
  refine sq_for (l.map kd1) rfl (by rw [immL_kD]; rfl) (fun k δ => ∃ x3 x4 x5 x6, δ = [some (.int (N : Int)), some (kD l), some (fL (cvl (l.take k)) (N + 1)), x3, x4, x5, x6, none]) ⟨_, _, _, _, rfl⟩ (fun k δ hk hI => ?_) (fun δ' hI => ?_)
  · obtain ⟨x3, x4, x5, x6, rfl⟩ := hI
    have hk' : k < l.length := by simpa using hk
    have hx := List.getElem_mem hk'
    rw [List.getElem_map]
    have hs : cvl (l.take (k + 1)) = cw l[k].1 l[k].2 (cvl (l.take k)) := by rw [← List.take_append_getElem hk', cvl_app]
    rw [hs]
    have hw := h.w _ hx
    have hq := h.q _ hx
    obtain ⟨D', C'⟩ := cds_of hN (h.take k)
    have hfC : ∀ u, u ≤ N → Cd D' (2 ^ 1915) (cvl (l.take k) u) := C'.f
    generalize l[k] = x at *
    generalize cvl (l.take k) = f at *
    obtain ⟨w, q⟩ := x
    have hw0 : 0 < w := hw.1
    have hw1 : w ≤ 100 := hw.2
    have hq : Ld q := hq
    obtain ⟨E, t0, t1, t2⟩ := tR_cd hq hN
    obtain ⟨p, s, L, _⟩ := hq.p
    refine ⟨[some (.int (N : Int)), some (kD l), some (fL f (N + 1)), some (.int (w : Int)), some (fD q), x5, x6, none], ?_⟩
    have key : ∃ y5 y6, sev (.seq (.asg (.one 5) (.lst .nil))
        (.seq (.forE (.one 6) (.rng1 (.ari .Add (.sl 0) (.k (.int 1)))) true [some (.S, true), some (.S, true), some (.S, false), some (.F, false), some (.F, false), some (.F, false), some (.F, false), some (.F, false)]
        (.seq (.mu .app false (.sl 5) (.cons (.call "_law_total" F_law_total .F (.cons (.comp [("k", 7)] (.one 7) (.rng1 (.ari .Add (.ari .FloorDiv (.sl 6) (.sl 3)) (.k (.int 1)))) .nop (.call "_law_times" F_law_times .F (.cons (.cI (.ix (.sl 2) (.ari .Sub (.sl 6) (.ari .Mult (.sl 7) (.sl 3))))) (.cons (.call "_law_standing_weight" F_law_standing_weight .F (.cons (.lst (.cons (.cI (.sl 7)) .nil)) (.cons (.lst (.cons (.cI (.sl 4)) .nil)) .nil))) .nil)))) .nil)) .nil))
        .nil))
        (.seq (.asg (.one 2) (.sl 5))
        .nil))) [some (.int (N : Int)), some (kD l), some (fL f (N + 1)), some (.int (w : Int)), some (fD q), x5, x6, none] = .nx [some (.int (N : Int)), some (kD l), some (fL (cw w q f) (N + 1)), some (.int (w : Int)), some (fD q), y5, y6, none] := by
      refine P_sq (W := fun o => ∃ y5 y6, o = .nx [some (.int (N : Int)), some (kD l), some (fL (cw w q f) (N + 1)), some (.int (w : Int)), some (fD q), y5, y6, none]) (δ1 := [some (.int (N : Int)), some (kD l), some (fL f (N + 1)), some (.int (w : Int)), some (fD q), some (fL (cw w q f) 0), x6, none]) (by simp [sz]; rfl) ?_
      refine P_rng (W := fun o => ∃ y5 y6, o = .nx [some (.int (N : Int)), some (kD l), some (fL (cw w q f) (N + 1)), some (.int (w : Int)), some (fD q), y5, y6, none]) ((N : Int) + 1) rfl (by omega) (by omega) (fun u δ => ∃ y6, δ = [some (.int (N : Int)), some (kD l), some (fL f (N + 1)), some (.int (w : Int)), some (fD q), some (fL (cw w q f) u), y6, none]) ⟨_, rfl⟩ (fun u δ hu hI => ?_) (fun δ' hI => ?_)
      · obtain ⟨y6, rfl⟩ := hI
        have hu' : u ≤ N := by omega
        have dle := Nat.div_le_self u w
        have c1 : ∀ j, j < u / w + 1 → Cd (D' * E) (2 ^ 2293) (mv (j * w) f u * tR q j) := fun j hj => by
          have : Cd D' (2 ^ 1915) (mv (j * w) f u) := by
            unfold mv
            split
            · exact hfC _ (by omega)
            · exact (Cd.zero D').le (Nat.zero_le _)
          have := this.mul C'.d0 t0 (t2 j (by omega))
          rwa [← Nat.pow_add] at this
        have dE : D' * E ≤ 2 ^ 2300 := Nat.le_trans (m20 C'.d1 t1) (p2 (by decide))
        have dE0 := Nat.mul_pos C'.d0 t0
        have T := f_ltotalG (f := fun j => mv (j * w) f u * tR q j) (F := su fun j => mv (j * w) f u * tR q j) (n := u / w + 1) ⟨rfl, fun _ _ => rfl, fun j hj => ((c1 j hj).smk dE0 (p2 (show 2293 ≤ 2300 by decide)) dE).sm (by decide), fun j hj => by
          have c2 : Cd (D' * E) (2 ^ 2300) (su (fun j => mv (j * w) f u * tR q j) j) := (Cd.su fun i hi => c1 i (by omega)).le (Nat.le_trans (m20 (k := 5) (l := 2293) (by have : 2 ^ 5 = 32 := rfl; omega) (Nat.le_refl _)) (p2 (by decide)))
          exact (c2.smk dE0 (Nat.le_refl _) dE).sm (by decide)⟩
        have T : F_law_total [fL (fun j => mv (j * w) f u * tR q j) (u / w + 1)] = .ok (fD (cw w q f u)) := T
        have dv : aOp .FloorDiv (u : Int) (w : Int) = .ok (.int ((u / w : Nat) : Int)) := by
          rw [q_div (by omega) (small_log (by have : (100 : Nat) < 2 ^ 64 := by decide
                                              omega))]
          rfl
        have i1 : ((u / w : Nat) : Int) + 1 = ((u / w + 1 : Nat) : Int) := by omega
        refine ⟨[some (.int (N : Int)), some (kD l), some (fL f (N + 1)), some (.int (w : Int)), some (fD q), some (fL (cw w q f) (u + 1)), some (.int (u : Int)), none], sq ?_ rfl, _, rfl⟩
        rw [q_appF (f := cw w q f) (n := u) rfl (by
          rw [q_cons, q_call, q_cons, ev_comp (List.range (u / w + 1)) (fun k => PyData.int (k : Int)) (fun j => fD (mv (j * w) f u * tR q j)) (ev_rng1 (n := u / w + 1) (by simp only [List.set_cons_succ, List.set_cons_zero, q_sasg, q_spar, q_sret, q_sretS, q_sife, q_snil, q_tn, q_tr, q_lst, q_tup, q_call, q_cons, q_nil, q_cI, q_ari, q_ix, q_sl, q_s0, q_s1, q_ki, q_kn, q_kb, q_ks, q_neg, q_negD, q_fi, q_ci, q_cb, q_cs, q_cn, if_true, q_ok, q_f0, q_f1, q_ii, q_add, q_sub, q_or, q_and, q_one, q_not, q_cmp, q_eq, q_ne, q_lt, q_le, q_gt, q_ge, q_is, q_isnot, q_isnN, q_isnI, q_isnL, q_isnT, q_notR, q_boolD, Bool.not_true, Bool.not_false, List.length_cons, List.length_nil, sz (show 0 + 1 ≤ 1000000 by decide), sz (show 0 + 1 + 1 ≤ 1000000 by decide), q_lok, q_t1, q_t2, q_t3, q_t4, q_blt, q_blt1, q_blt2, q_eqi, dv, i1]) (by omega)) fun j hj => ?_]
          · simp only [List.set_cons_succ, List.set_cons_zero, q_sasg, q_spar, q_sret, q_sretS, q_sife, q_snil, q_tn, q_tr, q_lst, q_tup, q_call, q_cons, q_nil, q_cI, q_ari, q_ix, q_sl, q_s0, q_s1, q_ki, q_kn, q_kb, q_ks, q_neg, q_negD, q_fi, q_ci, q_cb, q_cs, q_cn, if_true, q_ok, q_f0, q_f1, q_ii, q_add, q_sub, q_or, q_and, q_one, q_not, q_cmp, q_eq, q_ne, q_lt, q_le, q_gt, q_ge, q_is, q_isnot, q_isnN, q_isnI, q_isnL, q_isnT, q_notR, q_boolD, Bool.not_true, Bool.not_false, List.length_cons, List.length_nil, sz (show 0 + 1 ≤ 1000000 by decide), sz (show 0 + 1 + 1 ≤ 1000000 by decide), q_lok, q_t1, q_t2, q_t3, q_t4, q_blt, q_blt1, q_blt2, q_eqi]
            rw [show F_law_total [PyData.list ((List.range (u / w + 1)).map fun j => fD (mv (j * w) f u * tR q j))] = .ok (fD (cw w q f u)) from T]
            rfl
          · have hj' : j < u / w + 1 := by simpa using hj
            have hjw : j * w ≤ u := by
              have := Nat.mul_le_mul_right w (show j ≤ u / w by omega)
              exact Nat.le_trans this (Nat.div_mul_le_self u w)
            have hmv : mv (j * w) f u = f (u - j * w) := by unfold mv; rw [if_pos hjw]
            have el := fL_at (f := f) (n := N + 1) (k := u - j * w) (by omega)
            have mo : mulOk (j : Int) (w : Int) := .inl (by
              rw [Int.natAbs_natCast]
              have : (100 : Nat) < 2 ^ 64 := by decide
              omega)
            have i2 : (u : Int) - (j : Int) * (w : Int) = ((u - j * w : Nat) : Int) := by rw [Int.natCast_sub hjw, Int.natCast_mul]
            have ew := f_sweight hq (k := j) (by omega)
            have e3 := f_ltimes (((hfC (u - j * w) (by omega)).smk C'.d0 (Nat.le_refl _) (Nat.le_trans C'.d1 (p2 (by decide)))).sm (by decide)) ((kT L (k := j) (by omega)).sm (by decide))
            rw [hmv]
            refine ⟨_, rfl, ?_⟩
            simp only [q_w1, q_w0, List.map_cons, List.map_nil, List.set_cons_succ, List.set_cons_zero, q_sasg, q_spar, q_sret, q_sretS, q_sife, q_snil, q_tn, q_tr, q_lst, q_tup, q_call, q_cons, q_nil, q_cI, q_ari, q_ix, q_sl, q_s0, q_s1, q_ki, q_kn, q_kb, q_ks, q_neg, q_negD, q_fi, q_ci, q_cb, q_cs, q_cn, if_true, q_ok, q_f0, q_f1, q_ii, q_add, q_sub, q_or, q_and, q_one, q_not, q_cmp, q_eq, q_ne, q_lt, q_le, q_gt, q_ge, q_is, q_isnot, q_isnN, q_isnI, q_isnL, q_isnT, q_notR, q_boolD, Bool.not_true, Bool.not_false, List.length_cons, List.length_nil, sz (show 0 + 1 ≤ 1000000 by decide), sz (show 0 + 1 + 1 ≤ 1000000 by decide), q_lok, q_t1, q_t2, q_t3, q_t4, q_blt, q_blt1, q_blt2, q_eqi, q_mul mo, i2, el, ew, e3]) (by omega)]
        rfl
      · obtain ⟨y6, rfl⟩ := hI
        rw [show ((N : Int) + 1).toNat = N + 1 by omega]
        exact ⟨_, _, rfl⟩
    obtain ⟨y5, y6, e⟩ := key
    exact ⟨_, rfl, e, _, _, _, _, rfl⟩
  obtain ⟨x3, x4, x5, x6, rfl⟩ := hI
  rw [List.length_map, List.take_length]
  refine sqx ?_
  simp only [List.set_cons_succ, List.set_cons_zero, q_sasg, q_spar, q_sret, q_sretS, q_sife, q_snil, q_tn, q_tr, q_lst, q_tup, q_call, q_cons, q_nil, q_cI, q_ari, q_ix, q_sl, q_s0, q_s1, q_ki, q_kn, q_kb, q_ks, q_neg, q_negD, q_fi, q_ci, q_cb, q_cs, q_cn, if_true, q_ok, q_f0, q_f1, q_ii, q_add, q_sub, q_or, q_and, q_one, q_not, q_cmp, q_eq, q_ne, q_lt, q_le, q_gt, q_ge, q_is, q_isnot, q_isnN, q_isnI, q_isnL, q_isnT, q_notR, q_boolD, Bool.not_true, Bool.not_false, List.length_cons, List.length_nil, sz (show 0 + 1 ≤ 1000000 by decide), sz (show 0 + 1 + 1 ≤ 1000000 by decide), q_lok, q_t1, q_t2, q_t3, q_t4, q_blt, q_blt1, q_blt2, q_eqi, e2]
end VS
set_option Elab.async false
set_option linter.all false
set_option maxRecDepth 100000
namespace VS
open PySem PySem.Spec L2
open PyProof.Rows hiding St
/-- a draw, and what is left of it -/
def dv (l : List Int) (i : Nat) : Int := l.getD i 0
def zz (l : List Int) (i m : Nat) : Nat := (dv l i % (m : Int)).toNat
theorem dv_at {l : List Int} {i : Nat} (h : i < l.length) : ixD (iL l) (.int (i : Int)) = .ok (.int (dv l i)) := by
  unfold dv
  rw [getD_in _ h]
  exact q_ixN (by rw [List.getElem?_map, List.getElem?_eq_getElem h]; rfl)
theorem zz_mod (l : List Int) (i : Nat) {m : Nat} (hm : 0 < m) : aOp .Mod (dv l i) (m : Int) = .ok (.int (zz l i m : Int)) := by
  have h1 : 0 ≤ dv l i % (m : Int) := Int.emod_nonneg _ (by omega)
  rw [q_mod (by omega)]
  unfold zz
  rw [Int.toNat_of_nonneg h1]
theorem zz_lt (l : List Int) (i : Nat) {m : Nat} (hm : 0 < m) : zz l i m < m := by
  have h1 : 0 ≤ dv l i % (m : Int) := Int.emod_nonneg _ (by omega)
  have h2 : dv l i % (m : Int) < (m : Int) := Int.emod_lt_of_pos _ (by omega)
  unfold zz
  omega
def qf (a b : Nat) : Rat := ((1 + a : Nat) : Rat) / ((1 + b : Nat) : Rat)
theorem f_qf {a b : Nat} (hb : b < 1000) : F_law_fraction [.int (1 + (a : Int)), .int (1 + (b : Int))] = .ok (fD (qf a b)) := by
  have e := Rp.frac (a := 1 + a) (b := 1 + b) (by omega) (by omega)
  rw [show ((1 + a : Nat) : Int) = 1 + (a : Int) by omega, show ((1 + b : Nat) : Int) = 1 + (b : Int) by omega] at e
  exact e
theorem ld_qf {a b : Nat} (ha : a < 1000) (hb : b < 1000) : Ld (qf a b) := Rp.ld ⟨rfl, by omega⟩ (by omega) (by omega) (by omega)
def kf (l : List Int) (i m j n o r k : Nat) : Nat × Rat := (1 + zz l (i + k) m, qf (zz l (j + k) n) (zz l (o + k) r))
theorem ks_of (l : List Int) {i m j n o r c : Nat} (hm : 0 < m) (hm2 : m ≤ 100) (hn : 0 < n) (hn2 : n ≤ 1000) (hr : 0 < r) (hr2 : r ≤ 1000) (hc : c ≤ 5) : Ks ((List.range c).map (kf l i m j n o r)) := by
  refine ⟨fun x hx => ?_, fun x hx => ?_, by rw [List.length_map, List.length_range]; exact hc⟩
  · obtain ⟨k, _, rfl⟩ := List.mem_map.mp hx
    have := zz_lt l (i + k) hm
    show 0 < 1 + zz l (i + k) m ∧ 1 + zz l (i + k) m ≤ 100
    omega
  · obtain ⟨k, _, rfl⟩ := List.mem_map.mp hx
    have := zz_lt l (j + k) hn
    have := zz_lt l (o + k) hr
    exact ld_qf (by omega) (by omega)
theorem su_e0 (N : Nat) : su e0 (N + 1) = 1 := by
  rw [su_first, su_zero (f := fun k => e0 (k + 1)) fun k _ => if_neg (by omega)]
  decide +kernel
theorem f_use_none {N : Nat} (hN : N ≤ 28) : Fuse_shares [.int (N : Int), .list []] = .ok (fL e0 (N + 1)) := by
  have h : Ks [] := ⟨nofun, nofun, by decide⟩
  obtain ⟨D, C⟩ := cds_of hN h
  have e := f_use_shares hN h C
  have : fL (shr N []) (N + 1) = fL e0 (N + 1) := fL_ext fun k _ => by
    show e0 k / su e0 (N + 1) = e0 k
    rw [su_e0]
    grind
  rw [this] at e
  exact e
theorem f_lost_wide : Fwide_lost [.int 2, .list [.tuple [.int 3, .tuple [.int 1, .int 1]]]] = .ok (.list [.tuple [.int 1, .int 1]]) := by
  have h : Ks [(3, 1)] := ⟨fun x hx => by rw [List.mem_singleton.mp hx]; decide, fun x hx => by rw [List.mem_singleton.mp hx]; exact ⟨by decide, by decide, by decide⟩, by decide⟩
  obtain ⟨D, C⟩ := cds_of (N := 2) (by decide) h
  have e := f_wide_lost (N := 2) (by decide) h C
  have e2 := lo_eq (N := 2) (by decide) h C 3
  rw [su_mv] at e2
  have e3 : su (fun u => cvl [(3, (1 : Rat))] u / tW 2 [(3, 1)]) (2 + 1 - 3) = 0 := rfl
  rw [e3] at e2
  have e4 : lo 2 [(3, 1)] 3 = 1 := by grind
  have e5 : loL 2 [(3, (1 : Rat))] [(3, (1 : Rat))].length = [fD (lo 2 [(3, 1)] 3)] := rfl
  rw [e5, e4] at e
  exact e
theorem hlaw79 (ns : List Int) (hns : ns.length ≤ 63) : Flaw [.list (ns.map fun i => PyData.int i)] = .ok (.bool true) := by
  obtain ⟨l, ed, hl, hd⟩ := f_draws ns hns 40 (by decide)
  have ed : F_law_draws [iL ns, .int 40] = .ok (iL l) := ed
  have hat : ∀ i : Nat, i < 40 → ixD (iL l) (.int (i : Int)) = .ok (.int (dv l i)) := fun i h => dv_at (by omega)
  have a0 : ixD (iL l) (.int 0) = .ok (.int (dv l 0)) := hat 0 (by decide)
  have a1 : ixD (iL l) (.int 1) = .ok (.int (dv l 1)) := hat 1 (by decide)
  have a2 : ixD (iL l) (.int 2) = .ok (.int (dv l 2)) := hat 2 (by decide)
  have a3 : ixD (iL l) (.int 3) = .ok (.int (dv l 3)) := hat 3 (by decide)
  have a4 : ixD (iL l) (.int 4) = .ok (.int (dv l 4)) := hat 4 (by decide)
  have a5 : ixD (iL l) (.int 5) = .ok (.int (dv l 5)) := hat 5 (by decide)
  have a6 : ixD (iL l) (.int 6) = .ok (.int (dv l 6)) := hat 6 (by decide)
  have a7 : ixD (iL l) (.int 7) = .ok (.int (dv l 7)) := hat 7 (by decide)
  have a20 : ixD (iL l) (.int 20) = .ok (.int (dv l 20)) := hat 20 (by decide)
  have a21 : ixD (iL l) (.int 21) = .ok (.int (dv l 21)) := hat 21 (by decide)
  have a22 : ixD (iL l) (.int 22) = .ok (.int (dv l 22)) := hat 22 (by decide)
  have a23 : ixD (iL l) (.int 23) = .ok (.int (dv l 23)) := hat 23 (by decide)
  have a24 : ixD (iL l) (.int 24) = .ok (.int (dv l 24)) := hat 24 (by decide)
  have a25 : ixD (iL l) (.int 25) = .ok (.int (dv l 25)) := hat 25 (by decide)
  have a26 : ixD (iL l) (.int 26) = .ok (.int (dv l 26)) := hat 26 (by decide)
  have a27 : ixD (iL l) (.int 27) = .ok (.int (dv l 27)) := hat 27 (by decide)
  have a28 : ixD (iL l) (.int 28) = .ok (.int (dv l 28)) := hat 28 (by decide)
  have a29 : ixD (iL l) (.int 29) = .ok (.int (dv l 29)) := hat 29 (by decide)
  have a35 : ixD (iL l) (.int 35) = .ok (.int (dv l 35)) := hat 35 (by decide)
  have zm : ∀ (i m : Nat), 0 < m → aOp .Mod (dv l i) (m : Int) = .ok (.int (zz l i m : Int)) := fun i m h => zz_mod l i h
  have zl : ∀ (i m : Nat), 0 < m → zz l i m < m := fun i m h => zz_lt l i h
  have m2 : ∀ i, aOp .Mod (dv l i) 2 = .ok (.int (zz l i 2 : Int)) := fun i => zm i 2 (by decide)
  have m3 : ∀ i, aOp .Mod (dv l i) 3 = .ok (.int (zz l i 3 : Int)) := fun i => zm i 3 (by decide)
  have m4 : ∀ i, aOp .Mod (dv l i) 4 = .ok (.int (zz l i 4 : Int)) := fun i => zm i 4 (by decide)
  have m5 : ∀ i, aOp .Mod (dv l i) 5 = .ok (.int (zz l i 5 : Int)) := fun i => zm i 5 (by decide)
  have m6 : ∀ i, aOp .Mod (dv l i) 6 = .ok (.int (zz l i 6 : Int)) := fun i => zm i 6 (by decide)
  have m7 : ∀ i, aOp .Mod (dv l i) 7 = .ok (.int (zz l i 7 : Int)) := fun i => zm i 7 (by decide)
  have m8 : ∀ i, aOp .Mod (dv l i) 8 = .ok (.int (zz l i 8 : Int)) := fun i => zm i 8 (by decide)
  have m9 : ∀ i, aOp .Mod (dv l i) 9 = .ok (.int (zz l i 9 : Int)) := fun i => zm i 9 (by decide)
  have m10 : ∀ i, aOp .Mod (dv l i) 10 = .ok (.int (zz l i 10 : Int)) := fun i => zm i 10 (by decide)
  have m12 : ∀ i, aOp .Mod (dv l i) 12 = .ok (.int (zz l i 12 : Int)) := fun i => zm i 12 (by decide)
  have m16 : ∀ i, aOp .Mod (dv l i) 16 = .ok (.int (zz l i 16 : Int)) := fun i => zm i 16 (by decide)
  have m20 : ∀ i, aOp .Mod (dv l i) 20 = .ok (.int (zz l i 20 : Int)) := fun i => zm i 20 (by decide)
  have m31 : ∀ i, aOp .Mod (dv l i) 31 = .ok (.int (zz l i 31 : Int)) := fun i => zm i 31 (by decide)
  have m32 : ∀ i, aOp .Mod (dv l i) 32 = .ok (.int (zz l i 32 : Int)) := fun i => zm i 32 (by decide)
  generalize hM : iL l = M at *
  refine F_rt (s := Tlaw) (δ := [some (iL ns), none, none, none, none, none, none, none, none]) rfl rfl ?_
  unfold Tlaw
  refine sq (δ1 := [some (iL ns), some M, none, none, none, none, none, none, none]) (by simp only [List.set_cons_succ, List.set_cons_zero, q_sasg, q_spar, q_sret, q_sretS, q_sife, q_snil, q_tn, q_tr, q_lst, q_tup, q_call, q_cons, q_nil, q_cI, q_ari, q_ix, q_sl, q_s0, q_s1, q_ki, q_kn, q_kb, q_ks, q_neg, q_negD, q_fi, q_ci, q_cb, q_cs, q_cn, if_true, q_ok, q_f0, q_f1, q_ii, q_add, q_sub, q_or, q_and, q_one, q_not, q_cmp, q_eq, q_ne, q_lt, q_le, q_gt, q_ge, q_is, q_isnot, q_isnN, q_isnI, q_isnL, q_isnT, q_notR, q_boolD, Bool.not_true, Bool.not_false, List.length_cons, List.length_nil, sz (show 0 ≤ 1000000 by decide), sz (show 0 + 1 ≤ 1000000 by decide), sz (show 0 + 1 + 1 ≤ 1000000 by decide), q_lok, q_t1, q_t2, q_t3, q_t4, q_blt, q_blt1, q_blt2, q_eqi, ed]) ?_
  refine sq (δ1 := [some (iL ns), some M, some (.int ((1 + zz l 0 8 : Nat) : Int)), none, none, none, none, none, none]) (by
    rw [show ((1 + zz l 0 8 : Nat) : Int) = 1 + (zz l 0 8 : Int) by omega]
    simp only [List.set_cons_succ, List.set_cons_zero, q_sasg, q_spar, q_sret, q_sretS, q_sife, q_snil, q_tn, q_tr, q_lst, q_tup, q_call, q_cons, q_nil, q_cI, q_ari, q_ix, q_sl, q_s0, q_s1, q_ki, q_kn, q_kb, q_ks, q_neg, q_negD, q_fi, q_ci, q_cb, q_cs, q_cn, if_true, q_ok, q_f0, q_f1, q_ii, q_add, q_sub, q_or, q_and, q_one, q_not, q_cmp, q_eq, q_ne, q_lt, q_le, q_gt, q_ge, q_is, q_isnot, q_isnN, q_isnI, q_isnL, q_isnT, q_notR, q_boolD, Bool.not_true, Bool.not_false, List.length_cons, List.length_nil, sz (show 0 ≤ 1000000 by decide), sz (show 0 + 1 ≤ 1000000 by decide), sz (show 0 + 1 + 1 ≤ 1000000 by decide), q_lok, q_t1, q_t2, q_t3, q_t4, q_blt, q_blt1, q_blt2, q_eqi, a0, m8]) ?_
  refine P_ife (W := fun o => o = .rt (.bool true)) (J := fun δ' => ∃ n : Nat, 1 ≤ n ∧ n ≤ 40 ∧ δ' = [some (iL ns), some M, some (.int (n : Int)), none, none, none, none, none, none]) (bb := decide ((zz l 1 16 : Int) = 5)) (by simp only [List.set_cons_succ, List.set_cons_zero, q_sasg, q_spar, q_sret, q_sretS, q_sife, q_snil, q_tn, q_tr, q_lst, q_tup, q_call, q_cons, q_nil, q_cI, q_ari, q_ix, q_sl, q_s0, q_s1, q_ki, q_kn, q_kb, q_ks, q_neg, q_negD, q_fi, q_ci, q_cb, q_cs, q_cn, if_true, q_ok, q_f0, q_f1, q_ii, q_add, q_sub, q_or, q_and, q_one, q_not, q_cmp, q_eq, q_ne, q_lt, q_le, q_gt, q_ge, q_is, q_isnot, q_isnN, q_isnI, q_isnL, q_isnT, q_notR, q_boolD, Bool.not_true, Bool.not_false, List.length_cons, List.length_nil, sz (show 0 ≤ 1000000 by decide), sz (show 0 + 1 ≤ 1000000 by decide), sz (show 0 + 1 + 1 ≤ 1000000 by decide), q_lok, q_t1, q_t2, q_t3, q_t4, q_blt, q_blt1, q_blt2, q_eqi, a1, m16]) (fun _ => ⟨_, sq (δ1 := [some (iL ns), some M, some (.int ((10 + zz l 2 31 : Nat) : Int)), none, none, none, none, none, none]) (by
    rw [show ((10 + zz l 2 31 : Nat) : Int) = 10 + (zz l 2 31 : Int) by omega]
    simp only [List.set_cons_succ, List.set_cons_zero, q_sasg, q_spar, q_sret, q_sretS, q_sife, q_snil, q_tn, q_tr, q_lst, q_tup, q_call, q_cons, q_nil, q_cI, q_ari, q_ix, q_sl, q_s0, q_s1, q_ki, q_kn, q_kb, q_ks, q_neg, q_negD, q_fi, q_ci, q_cb, q_cs, q_cn, if_true, q_ok, q_f0, q_f1, q_ii, q_add, q_sub, q_or, q_and, q_one, q_not, q_cmp, q_eq, q_ne, q_lt, q_le, q_gt, q_ge, q_is, q_isnot, q_isnN, q_isnI, q_isnL, q_isnT, q_notR, q_boolD, Bool.not_true, Bool.not_false, List.length_cons, List.length_nil, sz (show 0 ≤ 1000000 by decide), sz (show 0 + 1 ≤ 1000000 by decide), sz (show 0 + 1 + 1 ≤ 1000000 by decide), q_lok, q_t1, q_t2, q_t3, q_t4, q_blt, q_blt1, q_blt2, q_eqi, a2, m31]) rfl, 10 + zz l 2 31, by omega, by have := zl 2 31 (by decide); omega, rfl⟩) (fun _ => ⟨_, rfl, 1 + zz l 0 8, by omega, by have := zl 0 8 (by decide); omega, rfl⟩) (fun δ' hJ => ?_)
  obtain ⟨n, n1, n40, rfl⟩ := hJ
  show sev _ _ = _
  obtain ⟨W, hW⟩ : ∃ W, W = 1 + zz l 3 12 := ⟨_, rfl⟩
  have W1 : 1 ≤ W := by omega
  have W12 : W ≤ 12 := by have := zl 3 12 (by decide); omega
  refine sq (δ1 := [some (iL ns), some M, some (.int (n : Int)), some (.int (W : Int)), none, none, none, none, none]) (by
    rw [hW, show ((1 + zz l 3 12 : Nat) : Int) = 1 + (zz l 3 12 : Int) by omega]
    simp only [List.set_cons_succ, List.set_cons_zero, q_sasg, q_spar, q_sret, q_sretS, q_sife, q_snil, q_tn, q_tr, q_lst, q_tup, q_call, q_cons, q_nil, q_cI, q_ari, q_ix, q_sl, q_s0, q_s1, q_ki, q_kn, q_kb, q_ks, q_neg, q_negD, q_fi, q_ci, q_cb, q_cs, q_cn, if_true, q_ok, q_f0, q_f1, q_ii, q_add, q_sub, q_or, q_and, q_one, q_not, q_cmp, q_eq, q_ne, q_lt, q_le, q_gt, q_ge, q_is, q_isnot, q_isnN, q_isnI, q_isnL, q_isnT, q_notR, q_boolD, Bool.not_true, Bool.not_false, List.length_cons, List.length_nil, sz (show 0 ≤ 1000000 by decide), sz (show 0 + 1 ≤ 1000000 by decide), sz (show 0 + 1 + 1 ≤ 1000000 by decide), q_lok, q_t1, q_t2, q_t3, q_t4, q_blt, q_blt1, q_blt2, q_eqi, a3, m12]) ?_
  have nW : n * W ≤ 480 := Nat.mul_le_mul n40 W12
  have nW0 : 0 < n * W := Nat.mul_pos n1 W1
  have mo : mulOk (n : Int) (W : Int) := .inl (by
    rw [Int.natAbs_natCast]
    have : (100 : Nat) < 2 ^ 64 := by decide
    omega)
  have zq := zm 4 (n * W) nW0
  rw [Int.natCast_mul] at zq
  have zq1 := zl 4 (n * W) nW0
  generalize zz l 4 (n * W) = z4 at *
  have eq := Rp.frac (a := 1 + z4) (b := W) (by omega) (by omega)
  rw [show ((1 + z4 : Nat) : Int) = 1 + (z4 : Int) by omega] at eq
  have hq0 : Ld (((1 + z4 : Nat) : Rat) / (W : Rat)) := Rp.ld ⟨rfl, by omega⟩ (by omega) (by omega) (by omega)
  generalize ((1 + z4 : Nat) : Rat) / (W : Rat) = q0 at *
  refine sq (δ1 := [some (iL ns), some M, some (.int (n : Int)), some (.int (W : Int)), some (fD q0), none, none, none, none]) (by simp only [List.set_cons_succ, List.set_cons_zero, q_sasg, q_spar, q_sret, q_sretS, q_sife, q_snil, q_tn, q_tr, q_lst, q_tup, q_call, q_cons, q_nil, q_cI, q_ari, q_ix, q_sl, q_s0, q_s1, q_ki, q_kn, q_kb, q_ks, q_neg, q_negD, q_fi, q_ci, q_cb, q_cs, q_cn, if_true, q_ok, q_f0, q_f1, q_ii, q_add, q_sub, q_or, q_and, q_one, q_not, q_cmp, q_eq, q_ne, q_lt, q_le, q_gt, q_ge, q_is, q_isnot, q_isnN, q_isnI, q_isnL, q_isnT, q_notR, q_boolD, Bool.not_true, Bool.not_false, List.length_cons, List.length_nil, sz (show 0 ≤ 1000000 by decide), sz (show 0 + 1 ≤ 1000000 by decide), sz (show 0 + 1 + 1 ≤ 1000000 by decide), q_lok, q_t1, q_t2, q_t3, q_t4, q_blt, q_blt1, q_blt2, q_eqi, a4, q_mul mo, zq, eq]) ?_
  have mo2 : mulOk (n : Int) (q0.den : Int) := .inl (by
    rw [Int.natAbs_natCast]
    have : (100 : Nat) < 2 ^ 64 := by decide
    omega)
  have i2 : (n : Int) * (W : Int) * 2 - 1 = ((n * W * 2 - 1 : Nat) : Int) := by
    rw [Int.natCast_sub (by omega), Int.natCast_mul, Int.natCast_mul]
    rfl
  have i3 : (W : Int) * 2 = ((W * 2 : Nat) : Int) := by rw [Int.natCast_mul]; rfl
  have mo3 : mulOk ((n : Int) * (W : Int)) 2 := .inr (.inl (by decide))
  have mo4 : mulOk (W : Int) 2 := .inr (.inl (by decide))
  have eq2 := Rp.frac (a := n * W * 2 - 1) (b := W * 2) (by omega) (by omega)
  have hq2 : Ld (((n * W * 2 - 1 : Nat) : Rat) / ((W * 2 : Nat) : Rat)) := Rp.ld ⟨rfl, by omega⟩ (by omega) (by omega) (by omega)
  have hlt2 : ((n * W * 2 - 1 : Nat) : Rat) / ((W * 2 : Nat) : Rat) < (n : Rat) := by
    rw [Rat.div_lt_iff (cast_pos (by omega)), ← cast_mul]
    refine Rat.natCast_lt_natCast.mpr ?_
    rw [← Nat.mul_assoc]
    omega
  refine P_ife (W := fun o => o = .rt (.bool true)) (J := fun δ' => ∃ q : Rat, Ld q ∧ q < (n : Rat) ∧ δ' = [some (iL ns), some M, some (.int (n : Int)), some (.int (W : Int)), some (fD q), none, none, none, none]) (bb := decide ((n : Int) * (q0.den : Int) ≤ q0.num)) (by simp only [List.set_cons_succ, List.set_cons_zero, q_sasg, q_spar, q_sret, q_sretS, q_sife, q_snil, q_tn, q_tr, q_lst, q_tup, q_call, q_cons, q_nil, q_cI, q_ari, q_ix, q_sl, q_s0, q_s1, q_ki, q_kn, q_kb, q_ks, q_neg, q_negD, q_fi, q_ci, q_cb, q_cs, q_cn, if_true, q_ok, q_f0, q_f1, q_ii, q_add, q_sub, q_or, q_and, q_one, q_not, q_cmp, q_eq, q_ne, q_lt, q_le, q_gt, q_ge, q_is, q_isnot, q_isnN, q_isnI, q_isnL, q_isnT, q_notR, q_boolD, Bool.not_true, Bool.not_false, List.length_cons, List.length_nil, sz (show 0 ≤ 1000000 by decide), sz (show 0 + 1 ≤ 1000000 by decide), sz (show 0 + 1 + 1 ≤ 1000000 by decide), q_lok, q_t1, q_t2, q_t3, q_t4, q_blt, q_blt1, q_blt2, q_eqi, q_mul mo2]) (fun _ => ⟨_, sq (δ1 := [some (iL ns), some M, some (.int (n : Int)), some (.int (W : Int)), some (fD (((n * W * 2 - 1 : Nat) : Rat) / ((W * 2 : Nat) : Rat))), none, none, none, none]) (by
    simp only [List.set_cons_succ, List.set_cons_zero, q_sasg, q_spar, q_sret, q_sretS, q_sife, q_snil, q_tn, q_tr, q_lst, q_tup, q_call, q_cons, q_nil, q_cI, q_ari, q_ix, q_sl, q_s0, q_s1, q_ki, q_kn, q_kb, q_ks, q_neg, q_negD, q_fi, q_ci, q_cb, q_cs, q_cn, if_true, q_ok, q_f0, q_f1, q_ii, q_add, q_sub, q_or, q_and, q_one, q_not, q_cmp, q_eq, q_ne, q_lt, q_le, q_gt, q_ge, q_is, q_isnot, q_isnN, q_isnI, q_isnL, q_isnT, q_notR, q_boolD, Bool.not_true, Bool.not_false, List.length_cons, List.length_nil, sz (show 0 ≤ 1000000 by decide), sz (show 0 + 1 ≤ 1000000 by decide), sz (show 0 + 1 + 1 ≤ 1000000 by decide), q_lok, q_t1, q_t2, q_t3, q_t4, q_blt, q_blt1, q_blt2, q_eqi, q_mul mo, q_mul mo3, q_mul mo4, i2, i3, eq2]) rfl, _, hq2, hlt2, rfl⟩) (fun hb => ⟨_, rfl, q0, hq0, by
      have hb := of_decide_eq_false hb
      rw [Rat.lt_iff]
      show q0.num * 1 < (n : Int) * (q0.den : Int)
      rw [Int.mul_one]
      omega, rfl⟩) (fun δ' hJ => ?_)
  obtain ⟨q, hq, hqn, rfl⟩ := hJ
  show sev _ _ = _
  have w1 := f_right_waits hq (n := n) (by omega) n1 hqn (j := zz l 5 6) (by have := zl 5 6 (by decide); omega)
  refine sq_no (by simp only [List.set_cons_succ, List.set_cons_zero, q_sasg, q_spar, q_sret, q_sretS, q_sife, q_snil, q_tn, q_tr, q_lst, q_tup, q_call, q_cons, q_nil, q_cI, q_ari, q_ix, q_sl, q_s0, q_s1, q_ki, q_kn, q_kb, q_ks, q_neg, q_negD, q_fi, q_ci, q_cb, q_cs, q_cn, if_true, q_ok, q_f0, q_f1, q_ii, q_add, q_sub, q_or, q_and, q_one, q_not, q_cmp, q_eq, q_ne, q_lt, q_le, q_gt, q_ge, q_is, q_isnot, q_isnN, q_isnI, q_isnL, q_isnT, q_notR, q_boolD, Bool.not_true, Bool.not_false, List.length_cons, List.length_nil, sz (show 0 ≤ 1000000 by decide), sz (show 0 + 1 ≤ 1000000 by decide), sz (show 0 + 1 + 1 ≤ 1000000 by decide), q_lok, q_t1, q_t2, q_t3, q_t4, q_blt, q_blt1, q_blt2, q_eqi, a5, m6, w1]) ?_
  obtain ⟨few, hf⟩ : ∃ f, f = zz l 6 9 := ⟨_, rfl⟩
  have f8 : few ≤ 8 := by have := zl 6 9 (by decide); omega
  refine sq (δ1 := [some (iL ns), some M, some (.int (n : Int)), some (.int (W : Int)), some (fD q), some (.int (few : Int)), none, none, none]) (by rw [hf]; simp only [List.set_cons_succ, List.set_cons_zero, q_sasg, q_spar, q_sret, q_sretS, q_sife, q_snil, q_tn, q_tr, q_lst, q_tup, q_call, q_cons, q_nil, q_cI, q_ari, q_ix, q_sl, q_s0, q_s1, q_ki, q_kn, q_kb, q_ks, q_neg, q_negD, q_fi, q_ci, q_cb, q_cs, q_cn, if_true, q_ok, q_f0, q_f1, q_ii, q_add, q_sub, q_or, q_and, q_one, q_not, q_cmp, q_eq, q_ne, q_lt, q_le, q_gt, q_ge, q_is, q_isnot, q_isnN, q_isnI, q_isnL, q_isnT, q_notR, q_boolD, Bool.not_true, Bool.not_false, List.length_cons, List.length_nil, sz (show 0 ≤ 1000000 by decide), sz (show 0 + 1 ≤ 1000000 by decide), sz (show 0 + 1 + 1 ≤ 1000000 by decide), q_lok, q_t1, q_t2, q_t3, q_t4, q_blt, q_blt1, q_blt2, q_eqi, a6, m9]) ?_
  refine sq (δ1 := [some (iL ns), some M, some (.int (n : Int)), some (.int (W : Int)), some (fD q), some (.int (few : Int)), some (kD ((List.range 0).map (kf l 8 4 12 9 16 6))), none, none]) (by simp [sz]; rfl) ?_
  have z73 : zz l 7 4 ≤ 3 := by have := zl 7 4 (by decide); omega
  have m47 := m4 7
  generalize zz l 7 4 = c7 at *
  refine sq_rng (c7 : Int) (by simp only [List.set_cons_succ, List.set_cons_zero, q_sasg, q_spar, q_sret, q_sretS, q_sife, q_snil, q_tn, q_tr, q_lst, q_tup, q_call, q_cons, q_nil, q_cI, q_ari, q_ix, q_sl, q_s0, q_s1, q_ki, q_kn, q_kb, q_ks, q_neg, q_negD, q_fi, q_ci, q_cb, q_cs, q_cn, if_true, q_ok, q_f0, q_f1, q_ii, q_add, q_sub, q_or, q_and, q_one, q_not, q_cmp, q_eq, q_ne, q_lt, q_le, q_gt, q_ge, q_is, q_isnot, q_isnN, q_isnI, q_isnL, q_isnT, q_notR, q_boolD, Bool.not_true, Bool.not_false, List.length_cons, List.length_nil, sz (show 0 ≤ 1000000 by decide), sz (show 0 + 1 ≤ 1000000 by decide), sz (show 0 + 1 + 1 ≤ 1000000 by decide), q_lok, q_t1, q_t2, q_t3, q_t4, q_blt, q_blt1, q_blt2, q_eqi, a7, m47]) (by omega) (by omega) (fun k δ => ∃ x, δ = [some (iL ns), some M, some (.int (n : Int)), some (.int (W : Int)), some (fD q), some (.int (few : Int)), some (kD ((List.range k).map (kf l 8 4 12 9 16 6))), x, none]) ⟨_, rfl⟩ (fun k δ hk hI => ?_) (fun δ' hI => ?_)
  · obtain ⟨x, rfl⟩ := hI
    have b1 := hat (8 + k) (by omega)
    have b2 := hat (12 + k) (by omega)
    have b3 := hat (16 + k) (by omega)
    rw [show ((8 + k : Nat) : Int) = 8 + (k : Int) by omega] at b1
    rw [show ((12 + k : Nat) : Int) = 12 + (k : Int) by omega] at b2
    rw [show ((16 + k : Nat) : Int) = 16 + (k : Int) by omega] at b3
    have ef := f_qf (a := zz l (12 + k) 9) (b := zz l (16 + k) 6) (by have := zl (16 + k) 6 (by decide); omega)
    refine ⟨[some (iL ns), some M, some (.int (n : Int)), some (.int (W : Int)), some (fD q), some (.int (few : Int)), some (kD ((List.range (k + 1)).map (kf l 8 4 12 9 16 6))), some (.int (k : Int)), none], sq ?_ rfl, _, rfl⟩
    rw [q_appG (l := ((List.range k).map (kf l 8 4 12 9 16 6)).map kd1) (d := kd1 (kf l 8 4 12 9 16 6 k)) rfl (by
      simp only [List.set_cons_succ, List.set_cons_zero, q_sasg, q_spar, q_sret, q_sretS, q_sife, q_snil, q_tn, q_tr, q_lst, q_tup, q_call, q_cons, q_nil, q_cI, q_ari, q_ix, q_sl, q_s0, q_s1, q_ki, q_kn, q_kb, q_ks, q_neg, q_negD, q_fi, q_ci, q_cb, q_cs, q_cn, if_true, q_ok, q_f0, q_f1, q_ii, q_add, q_sub, q_or, q_and, q_one, q_not, q_cmp, q_eq, q_ne, q_lt, q_le, q_gt, q_ge, q_is, q_isnot, q_isnN, q_isnI, q_isnL, q_isnT, q_notR, q_boolD, Bool.not_true, Bool.not_false, List.length_cons, List.length_nil, sz (show 0 ≤ 1000000 by decide), sz (show 0 + 1 ≤ 1000000 by decide), sz (show 0 + 1 + 1 ≤ 1000000 by decide), q_lok, q_t1, q_t2, q_t3, q_t4, q_blt, q_blt1, q_blt2, q_eqi, b1, b2, b3, m4, m9, m6, ef]
      rw [show 1 + (zz l (8 + k) 4 : Int) = ((1 + zz l (8 + k) 4 : Nat) : Int) by omega]
      rfl) (by rw [List.length_map, List.length_map, List.length_range]; omega), List.range_succ, List.map_append]
    unfold kD
    rw [List.map_append]
    rfl
  obtain ⟨x, rfl⟩ := hI
  rw [Int.toNat_natCast]
  have K1 : Ks ((List.range c7).map (kf l 8 4 12 9 16 6)) := ks_of l (by decide) (by decide) (by decide) (by decide) (by decide) (by decide) (by omega)
  have g1 := f_right_wide f8 K1 (by rw [List.length_map, List.length_range]; exact z73)
  have K2 : Ks [(1, q)] := ⟨fun x hx => by rw [List.mem_singleton.mp hx]; exact ⟨by show 0 < 1; decide, by show 1 ≤ 100; decide⟩, fun x hx => by rw [List.mem_singleton.mp hx]; exact hq, by show 1 ≤ 5; decide⟩
  have g2 := f_right_wide f8 K2 (by show 1 ≤ 3; decide)
  have g2 : F_law_right_wide [.int (few : Int), .list [.tuple [.int 1, fD q]]] = .ok (.bool true) := g2
  have g3 := f_use_none (N := few) (by omega)
  have z3 := fL_eq e0 (few + 1)
  have z4 : eqD (.list [.tuple [.int 1, .int 1]]) (.list [.tuple [.int 1, .int 1]]) = .ok true := fL_eq (fun _ => 1) 1
  have ge := e0_list few (by omega) (a := .sl 5) (δ := [some (iL ns), some M, some (.int (n : Int)), some (.int (W : Int)), some (fD q), some (.int (few : Int)), some (kD ((List.range c7).map (kf l 8 4 12 9 16 6))), x, none]) rfl
  generalize kD ((List.range c7).map (kf l 8 4 12 9 16 6)) = KD at *
  refine sq_no (by simp only [List.set_cons_succ, List.set_cons_zero, q_sasg, q_spar, q_sret, q_sretS, q_sife, q_snil, q_tn, q_tr, q_lst, q_tup, q_call, q_cons, q_nil, q_cI, q_ari, q_ix, q_sl, q_s0, q_s1, q_ki, q_kn, q_kb, q_ks, q_neg, q_negD, q_fi, q_ci, q_cb, q_cs, q_cn, if_true, q_ok, q_f0, q_f1, q_ii, q_add, q_sub, q_or, q_and, q_one, q_not, q_cmp, q_eq, q_ne, q_lt, q_le, q_gt, q_ge, q_is, q_isnot, q_isnN, q_isnI, q_isnL, q_isnT, q_notR, q_boolD, Bool.not_true, Bool.not_false, List.length_cons, List.length_nil, sz (show 0 ≤ 1000000 by decide), sz (show 0 + 1 ≤ 1000000 by decide), sz (show 0 + 1 + 1 ≤ 1000000 by decide), q_lok, q_t1, q_t2, q_t3, q_t4, q_blt, q_blt1, q_blt2, q_eqi, g1, g2]) ?_
  refine sq_no (by
    rw [q_or, q_cmp, ge]
    simp only [List.set_cons_succ, List.set_cons_zero, q_sasg, q_spar, q_sret, q_sretS, q_sife, q_snil, q_tn, q_tr, q_lst, q_tup, q_call, q_cons, q_nil, q_cI, q_ari, q_ix, q_sl, q_s0, q_s1, q_ki, q_kn, q_kb, q_ks, q_neg, q_negD, q_fi, q_ci, q_cb, q_cs, q_cn, if_true, q_ok, q_f0, q_f1, q_ii, q_add, q_sub, q_or, q_and, q_one, q_not, q_cmp, q_eq, q_ne, q_lt, q_le, q_gt, q_ge, q_is, q_isnot, q_isnN, q_isnI, q_isnL, q_isnT, q_notR, q_boolD, Bool.not_true, Bool.not_false, List.length_cons, List.length_nil, sz (show 0 ≤ 1000000 by decide), sz (show 0 + 1 ≤ 1000000 by decide), sz (show 0 + 1 + 1 ≤ 1000000 by decide), q_lok, q_t1, q_t2, q_t3, q_t4, q_blt, q_blt1, q_blt2, q_eqi, g3, z3, f_lost_wide, z4]) ?_
  have hc29 : zz l 29 2 ≤ 1 := by have := zl 29 2 (by decide); omega
  have K3 : Ks ((List.range (4 + zz l 29 2)).map (kf l 25 10 30 5 33 3)) := ks_of l (by decide) (by decide) (by decide) (by decide) (by decide) (by decide) (by omega)
  have g5 := f_right_great (N := 9 + zz l 35 20) (by have := zl 35 20 (by decide); omega) K3
  rw [show ((9 + zz l 35 20 : Nat) : Int) = 9 + (zz l 35 20 : Int) by omega] at g5
  refine P_ife (W := fun o => o = .rt (.bool true)) (J := fun δ' => ∃ y, δ' = [some (iL ns), some M, some (.int (n : Int)), some (.int (W : Int)), some (fD q), some (.int (few : Int)), some KD, x, y]) (bb := decide ((zz l 24 32 : Int) = 5)) (by simp only [List.set_cons_succ, List.set_cons_zero, q_sasg, q_spar, q_sret, q_sretS, q_sife, q_snil, q_tn, q_tr, q_lst, q_tup, q_call, q_cons, q_nil, q_cI, q_ari, q_ix, q_sl, q_s0, q_s1, q_ki, q_kn, q_kb, q_ks, q_neg, q_negD, q_fi, q_ci, q_cb, q_cs, q_cn, if_true, q_ok, q_f0, q_f1, q_ii, q_add, q_sub, q_or, q_and, q_one, q_not, q_cmp, q_eq, q_ne, q_lt, q_le, q_gt, q_ge, q_is, q_isnot, q_isnN, q_isnI, q_isnL, q_isnT, q_notR, q_boolD, Bool.not_true, Bool.not_false, List.length_cons, List.length_nil, sz (show 0 ≤ 1000000 by decide), sz (show 0 + 1 ≤ 1000000 by decide), sz (show 0 + 1 + 1 ≤ 1000000 by decide), q_lok, q_t1, q_t2, q_t3, q_t4, q_blt, q_blt1, q_blt2, q_eqi, a24, m32]) (fun _ => ⟨_, sq (δ1 := [some (iL ns), some M, some (.int (n : Int)), some (.int (W : Int)), some (fD q), some (.int (few : Int)), some KD, x, some (kD ((List.range (4 + zz l 29 2)).map (kf l 25 10 30 5 33 3)))]) (by
    rw [q_sasg, ev_comp (List.range (4 + zz l 29 2)) (fun k => PyData.int (k : Int)) (fun k => kd1 (kf l 25 10 30 5 33 3 k)) (ev_rng1 (n := 4 + zz l 29 2) (by
      rw [show ((4 + zz l 29 2 : Nat) : Int) = 4 + (zz l 29 2 : Int) by omega]
      simp only [List.set_cons_succ, List.set_cons_zero, q_sasg, q_spar, q_sret, q_sretS, q_sife, q_snil, q_tn, q_tr, q_lst, q_tup, q_call, q_cons, q_nil, q_cI, q_ari, q_ix, q_sl, q_s0, q_s1, q_ki, q_kn, q_kb, q_ks, q_neg, q_negD, q_fi, q_ci, q_cb, q_cs, q_cn, if_true, q_ok, q_f0, q_f1, q_ii, q_add, q_sub, q_or, q_and, q_one, q_not, q_cmp, q_eq, q_ne, q_lt, q_le, q_gt, q_ge, q_is, q_isnot, q_isnN, q_isnI, q_isnL, q_isnT, q_notR, q_boolD, Bool.not_true, Bool.not_false, List.length_cons, List.length_nil, sz (show 0 ≤ 1000000 by decide), sz (show 0 + 1 ≤ 1000000 by decide), sz (show 0 + 1 + 1 ≤ 1000000 by decide), q_lok, q_t1, q_t2, q_t3, q_t4, q_blt, q_blt1, q_blt2, q_eqi, a29, m2]) (by omega)) fun k hk => ?_]
    · unfold kD
      rw [List.map_map]
      rfl
    · have hk' : k < 4 + zz l 29 2 := by simpa using hk
      have b1 := hat (25 + k) (by omega)
      have b2 := hat (30 + k) (by omega)
      have b3 := hat (33 + k) (by omega)
      rw [show ((25 + k : Nat) : Int) = 25 + (k : Int) by omega] at b1
      rw [show ((30 + k : Nat) : Int) = 30 + (k : Int) by omega] at b2
      rw [show ((33 + k : Nat) : Int) = 33 + (k : Int) by omega] at b3
      have ef := f_qf (a := zz l (30 + k) 5) (b := zz l (33 + k) 3) (by have := zl (33 + k) 3 (by decide); omega)
      refine ⟨_, rfl, ?_⟩
      simp only [q_w1, q_w0, List.map_cons, List.map_nil, List.set_cons_succ, List.set_cons_zero, q_sasg, q_spar, q_sret, q_sretS, q_sife, q_snil, q_tn, q_tr, q_lst, q_tup, q_call, q_cons, q_nil, q_cI, q_ari, q_ix, q_sl, q_s0, q_s1, q_ki, q_kn, q_kb, q_ks, q_neg, q_negD, q_fi, q_ci, q_cb, q_cs, q_cn, if_true, q_ok, q_f0, q_f1, q_ii, q_add, q_sub, q_or, q_and, q_one, q_not, q_cmp, q_eq, q_ne, q_lt, q_le, q_gt, q_ge, q_is, q_isnot, q_isnN, q_isnI, q_isnL, q_isnT, q_notR, q_boolD, Bool.not_true, Bool.not_false, List.length_cons, List.length_nil, sz (show 0 ≤ 1000000 by decide), sz (show 0 + 1 ≤ 1000000 by decide), sz (show 0 + 1 + 1 ≤ 1000000 by decide), q_lok, q_t1, q_t2, q_t3, q_t4, q_blt, q_blt1, q_blt2, q_eqi, b1, b2, b3, m10, m5, m3, ef]
      rw [show 1 + (zz l (25 + k) 10 : Int) = ((1 + zz l (25 + k) 10 : Nat) : Int) by omega]
      rfl) (sq_no (by simp only [List.set_cons_succ, List.set_cons_zero, q_sasg, q_spar, q_sret, q_sretS, q_sife, q_snil, q_tn, q_tr, q_lst, q_tup, q_call, q_cons, q_nil, q_cI, q_ari, q_ix, q_sl, q_s0, q_s1, q_ki, q_kn, q_kb, q_ks, q_neg, q_negD, q_fi, q_ci, q_cb, q_cs, q_cn, if_true, q_ok, q_f0, q_f1, q_ii, q_add, q_sub, q_or, q_and, q_one, q_not, q_cmp, q_eq, q_ne, q_lt, q_le, q_gt, q_ge, q_is, q_isnot, q_isnN, q_isnI, q_isnL, q_isnT, q_notR, q_boolD, Bool.not_true, Bool.not_false, List.length_cons, List.length_nil, sz (show 0 ≤ 1000000 by decide), sz (show 0 + 1 ≤ 1000000 by decide), sz (show 0 + 1 + 1 ≤ 1000000 by decide), q_lok, q_t1, q_t2, q_t3, q_t4, q_blt, q_blt1, q_blt2, q_eqi, a35, m20, g5]) rfl), _, rfl⟩) (fun _ => ⟨_, rfl, _, rfl⟩) (fun δ' hJ => ?_)
  obtain ⟨y, rfl⟩ := hJ
  show sev _ _ = _
  obtain ⟨p, s, L, _⟩ := hq.p
  have hq41 : q < ((41 + zz l 25 20 : Nat) : Rat) := by
    have : (n : Rat) ≤ ((41 + zz l 25 20 : Nat) : Rat) := Rat.natCast_le_natCast.mpr (by omega)
    grind
  have g6 := f_right_waits hq (n := 41 + zz l 25 20) (by have := zl 25 20 (by decide); omega) (by omega) hq41 (j := 40 - zz l 26 5) (by omega)
  have l26 := zl 26 5 (by decide)
  rw [show ((41 + zz l 25 20 : Nat) : Int) = 41 + (zz l 25 20 : Int) by omega, show ((40 - zz l 26 5 : Nat) : Int) = 40 - (zz l 26 5 : Int) by omega] at g6
  have g7 := f_right_overflow L (n := 20 + zz l 27 31) (m := zz l 28 10) (by have := zl 27 31 (by decide); have := zl 28 10 (by decide); omega)
  rw [show ((20 + zz l 27 31 : Nat) : Int) = 20 + (zz l 27 31 : Int) by omega] at g7
  refine P_ife (W := fun o => o = .rt (.bool true)) (J := fun δ' => δ' = [some (iL ns), some M, some (.int (n : Int)), some (.int (W : Int)), some (fD q), some (.int (few : Int)), some KD, x, y]) (bb := decide ((zz l 24 32 : Int) = 6)) (by simp only [List.set_cons_succ, List.set_cons_zero, q_sasg, q_spar, q_sret, q_sretS, q_sife, q_snil, q_tn, q_tr, q_lst, q_tup, q_call, q_cons, q_nil, q_cI, q_ari, q_ix, q_sl, q_s0, q_s1, q_ki, q_kn, q_kb, q_ks, q_neg, q_negD, q_fi, q_ci, q_cb, q_cs, q_cn, if_true, q_ok, q_f0, q_f1, q_ii, q_add, q_sub, q_or, q_and, q_one, q_not, q_cmp, q_eq, q_ne, q_lt, q_le, q_gt, q_ge, q_is, q_isnot, q_isnN, q_isnI, q_isnL, q_isnT, q_notR, q_boolD, Bool.not_true, Bool.not_false, List.length_cons, List.length_nil, sz (show 0 ≤ 1000000 by decide), sz (show 0 + 1 ≤ 1000000 by decide), sz (show 0 + 1 + 1 ≤ 1000000 by decide), q_lok, q_t1, q_t2, q_t3, q_t4, q_blt, q_blt1, q_blt2, q_eqi, a24, m32]) (fun _ => ⟨_, sq_no (by simp only [List.set_cons_succ, List.set_cons_zero, q_sasg, q_spar, q_sret, q_sretS, q_sife, q_snil, q_tn, q_tr, q_lst, q_tup, q_call, q_cons, q_nil, q_cI, q_ari, q_ix, q_sl, q_s0, q_s1, q_ki, q_kn, q_kb, q_ks, q_neg, q_negD, q_fi, q_ci, q_cb, q_cs, q_cn, if_true, q_ok, q_f0, q_f1, q_ii, q_add, q_sub, q_or, q_and, q_one, q_not, q_cmp, q_eq, q_ne, q_lt, q_le, q_gt, q_ge, q_is, q_isnot, q_isnN, q_isnI, q_isnL, q_isnT, q_notR, q_boolD, Bool.not_true, Bool.not_false, List.length_cons, List.length_nil, sz (show 0 ≤ 1000000 by decide), sz (show 0 + 1 ≤ 1000000 by decide), sz (show 0 + 1 + 1 ≤ 1000000 by decide), q_lok, q_t1, q_t2, q_t3, q_t4, q_blt, q_blt1, q_blt2, q_eqi, a25, a26, a27, a28, m20, m5, m31, m10, g6, g7]) rfl, rfl⟩) (fun _ => ⟨_, rfl, rfl⟩) (fun δ' hJ => ?_)
  subst hJ
  show sev _ _ = _
  have ef := f_qf (a := zz l 22 12) (b := zz l 23 6) (by have := zl 23 6 (by decide); omega)
  obtain ⟨p', s', L', _⟩ := (ld_qf (a := zz l 22 12) (b := zz l 23 6) (by have := zl 22 12 (by decide); omega) (by have := zl 23 6 (by decide); omega)).p
  have g8 := f_right_overflow L' (n := zz l 20 7) (m := zz l 21 5) (by have := zl 20 7 (by decide); have := zl 21 5 (by decide); omega)
  refine sqx ?_
  simp only [List.set_cons_succ, List.set_cons_zero, q_sasg, q_spar, q_sret, q_sretS, q_sife, q_snil, q_tn, q_tr, q_lst, q_tup, q_call, q_cons, q_nil, q_cI, q_ari, q_ix, q_sl, q_s0, q_s1, q_ki, q_kn, q_kb, q_ks, q_neg, q_negD, q_fi, q_ci, q_cb, q_cs, q_cn, if_true, q_ok, q_f0, q_f1, q_ii, q_add, q_sub, q_or, q_and, q_one, q_not, q_cmp, q_eq, q_ne, q_lt, q_le, q_gt, q_ge, q_is, q_isnot, q_isnN, q_isnI, q_isnL, q_isnT, q_notR, q_boolD, Bool.not_true, Bool.not_false, List.length_cons, List.length_nil, sz (show 0 ≤ 1000000 by decide), sz (show 0 + 1 ≤ 1000000 by decide), sz (show 0 + 1 + 1 ≤ 1000000 by decide), q_lok, q_t1, q_t2, q_t3, q_t4, q_blt, q_blt1, q_blt2, q_eqi, a20, a21, a22, a23, m7, m5, m12, m6, ef, g8]
end VS
theorem PySem.Challenge.cw_switchways_k79_waiting_and_wide_calls_holds : PySem.Challenge.rw_switchways_k79_waiting_and_wide_calls.Holds :=
  PySem.Challenge.head_switchways_k79_waiting_and_wide_calls VS.hlaw79
