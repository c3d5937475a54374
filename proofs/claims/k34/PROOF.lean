import PyProof.Rows.All
import Wide.All
import OpenK.AllK
import Wide.FinOn
import HandS.ForMost
import HandS.ForExc
import HandS.Lambda
import HandS.ExcOwn
import HandS.CallSlots
import HandS.Wide
import HandS.SortInts
import HandS.Style
import HandS.SortKw
import HandS.Conv
import HandS.IsInst
import HandS.ExcInit
import HandS.ExcField
import HandS.HotCalls
import KE.KExcIs
import HandS.ExcIs
import HandS.EndTab
import PySem.Challenge.RW_withinmoves_k34_numbers_of_nights
set_option Elab.async false
set_option linter.all false
set_option maxRecDepth 100000
set_option maxHeartbeats 2000000
namespace MV
open PySem PySem.Spec PyProof.Rows L2

/-- the kinds of containers -/
inductive Kd where
  | lst | tup
  | ins (c : Nat) (ns : List Str)
  | dic (ks : List Key)
  deriving DecidableEq
/-- data trees; the flag of a node tells: nobody else holds it -/
inductive D where
  | non | bl (b : Bool) | int (i : Int) | str (x : Str)
  | scr (ns : List Int)
  | exn (c : Nat) (ns : List Str) (fs : List D)
  | nd (o : Bool) (k : Kd) (xs : List D)
instance : Inhabited D := ⟨.non⟩
abbrev L (xs : List D) : D := .nd false .lst xs
abbrev T (xs : List D) : D := .nd false .tup xs
abbrev OL (xs : List D) : D := .nd true .lst xs
abbrev OT (xs : List D) : D := .nd true .tup xs
/-- what a statement about data leans on: the written part, the classes' places -/
structure Gm where
  K : PySem.W.Frag
  C : Nat → Addr
  T : List (Addr × Str)
  /-- the exception that is held: its place, its class, its dict -/
  E : Addr → Nat → Addr → Prop

mutual
/-- given away: nobody may change it any more -/
def fz : D → D
  | .nd _ k xs => .nd false k (fzL xs)
  | d => d
def fzL : List D → List D
  | [] => []
  | d :: ds => fz d :: fzL ds
end
mutual
/-- all its nodes are its own -/
def cl : D → Bool
  | .nd o _ xs => o && clL xs
  | .scr _ => false
  | .exn _ _ _ => false
  | _ => true
def clL : List D → Bool
  | [] => true
  | d :: ds => cl d && clL ds
end
theorem fzL_map : ∀ xs : List D, fzL xs = xs.map fz
  | [] => rfl
  | d :: ds => by rw [fzL, List.map_cons, fzL_map ds]
theorem fzL_length (xs : List D) : (fzL xs).length = xs.length := by rw [fzL_map, List.length_map]

def Is (Γ : Gm) (k : Kd) (vs : List V) (ho : HO) : Prop :=
  match k with
  | .lst => ho = .lst vs
  | .tup => ho = .tup vs
  | .ins c ns => ns.length = vs.length ∧ ∃ dx, ho = .ins (Γ.C c) dx (ns.zip vs)
  | .dic ks => ks.length = vs.length ∧ ho = .dK (ks.zip vs)

/-- no table of code objects -/
def nt (o : HO) : Prop := ∀ ps, o ≠ .tbl ps
theorem Is.nt {Γ : Gm} {k : Kd} {vs : List V} {ho : HO} (h : Is Γ k vs ho) : nt ho := fun ps z => by
  subst z
  cases k with
  | lst => exact nomatch (show HO.tbl ps = HO.lst vs from h)
  | tup => exact nomatch (show HO.tbl ps = HO.tup vs from h)
  | ins c ns => obtain ⟨_, _, e⟩ := h; cases e
  | dic ks => obtain ⟨_, e⟩ := h; cases e
mutual
def Own (Γ : Gm) : D → Hp → Hp → V → List Addr → Prop
  | .non, _, _, v, F => v = .non ∧ F = []
  | .bl b, _, _, v, F => v = .bl b ∧ F = []
  | .int i, _, _, v, F => v = .int i ∧ F = []
  | .str x, _, _, v, F => v = .str x ∧ F = []
  | .scr ns, Z, _, v, F => F = [] ∧ ∃ a, v = .ref a ∧ SqL Γ.K Z a (ns.map V.int)
  | .exn c ns fs, Z, _, v, F => F = [] ∧ ∃ a dd vs, v = .ref a ∧ Γ.E a c dd ∧ ns.length = vs.length ∧ Z dd = some (.xd (ns.zip vs)) ∧ OwnL Γ fs Z Z vs []
  | .nd true k xs, Z, H, v, F => ∃ a vs ho F', v = .ref a ∧ H a = some ho ∧ Is Γ k vs ho ∧ OwnL Γ xs Z H vs F' ∧ F.Perm (a :: F')
  | .nd false k xs, Z, _, v, F => F = [] ∧ ∃ a vs ho, v = .ref a ∧ Z a = some ho ∧ Is Γ k vs ho ∧ OwnL Γ xs Z Z vs []
def OwnL (Γ : Gm) : List D → Hp → Hp → List V → List Addr → Prop
  | [], _, _, vs, F => vs = [] ∧ F = []
  | d :: ds, Z, H, vs, F => ∃ v r F1 F2, vs = v :: r ∧ Own Γ d Z H v F1 ∧ OwnL Γ ds Z H r F2 ∧ F.Perm (F1 ++ F2)
end
/-- read only -/
abbrev Rp (Γ : Gm) (d : D) (Z : Hp) (v : V) : Prop := Own Γ d Z Z v []
abbrev RpL (Γ : Gm) (ds : List D) (Z : Hp) (vs : List V) : Prop := OwnL Γ ds Z Z vs []

/-- nothing is lost but what tables say -/
def ExN (H H' : Hp) : Prop := ∀ a o, nt o → H a = some o → H' a = some o
def Ex (H H' : Hp) : Prop := ∀ a o, H a = some o → H' a = some o
theorem Ex.refl (H : Hp) : Ex H H := fun _ _ h => h
theorem Ex.trans {H H1 H2 : Hp} (a : Ex H H1) (b : Ex H1 H2) : Ex H H2 := fun c o h => b c o (a c o h)
theorem Ex.n {H H' : Hp} (e : Ex H H') : ExN H H' := fun a o _ h => e a o h
theorem Ex.none {H H1 : Hp} (e : Ex H H1) {a : Addr} (h : H1 a = Option.none) : H a = Option.none := by
  cases q : H a with
  | none => rfl
  | some o => rw [e a o q] at h; cases h
theorem Ex.new {H : Hp} {p : Addr} {o : HO} (h : H p = Option.none) : Ex H (upd H p o) := fun b u e => by
  rw [upd_ne (ne_of_none e h)]; exact e
theorem Ex.sql {K : PySem.W.Frag} {H H' : Hp} {a : Addr} {xs : List V} (e : Ex H H') (h : SqL K H a xs) : SqL K H' a xs := by
  rcases h with (h | ⟨o, h⟩) | h
  · exact .inl (.inl (e _ _ h))
  · exact .inl (.inr ⟨o, e _ _ h⟩)
  · exact .inr h

theorem perm_nil_eq {F : List Addr} (h : F.Perm []) : F = [] := List.Perm.eq_nil h

section
variable {Γ : Gm}
mutual
theorem Own.perm : ∀ {d : D} {Z H : Hp} {v : V} {F F' : List Addr}, Own Γ d Z H v F → F'.Perm F → Own Γ d Z H v F'
  | .non, _, _, _, _, _, ⟨h, e⟩, p => ⟨h, by subst e; exact perm_nil_eq p⟩
  | .bl _, _, _, _, _, _, ⟨h, e⟩, p => ⟨h, by subst e; exact perm_nil_eq p⟩
  | .int _, _, _, _, _, _, ⟨h, e⟩, p => ⟨h, by subst e; exact perm_nil_eq p⟩
  | .str _, _, _, _, _, _, ⟨h, e⟩, p => ⟨h, by subst e; exact perm_nil_eq p⟩
  | .scr _, _, _, _, _, _, ⟨e, h⟩, p => ⟨by subst e; exact perm_nil_eq p, h⟩
  | .exn _ _ _, _, _, _, _, _, ⟨e, h⟩, p => ⟨by subst e; exact perm_nil_eq p, h⟩
  | .nd true _ _, _, _, _, _, _, ⟨a, vs, ho, F', e1, e2, e3, e4, e5⟩, p => ⟨a, vs, ho, F', e1, e2, e3, e4, p.trans e5⟩
  | .nd false _ _, _, _, _, _, _, ⟨e, h⟩, p => ⟨by subst e; exact perm_nil_eq p, h⟩
end
theorem OwnL.perm : ∀ {ds : List D} {Z H : Hp} {vs : List V} {F F' : List Addr}, OwnL Γ ds Z H vs F → F'.Perm F → OwnL Γ ds Z H vs F'
  | [], _, _, _, _, _, ⟨h, e⟩, p => ⟨h, by subst e; exact perm_nil_eq p⟩
  | _ :: _, _, _, _, _, _, ⟨v, r, F1, F2, e1, e2, e3, e4⟩, p => ⟨v, r, F1, F2, e1, e2, e3, p.trans e4⟩

mutual
theorem Own.mono : ∀ {d : D} {Z Z' H H' : Hp} {v : V} {F : List Addr}, Own Γ d Z H v F → Ex Z Z' → (∀ a ∈ F, ∀ o, nt o → H a = some o → H' a = some o) → Own Γ d Z' H' v F
  | .non, _, _, _, _, _, _, h, _, _ => h
  | .bl _, _, _, _, _, _, _, h, _, _ => h
  | .int _, _, _, _, _, _, _, h, _, _ => h
  | .str _, _, _, _, _, _, _, h, _, _ => h
  | .scr _, _, _, _, _, _, _, ⟨e, a, e1, h⟩, z, _ => ⟨e, a, e1, z.sql h⟩
  | .exn _ _ fs, _, _, _, _, _, _, ⟨e, a, dd, vs, e1, e2, e3, e4, e5⟩, z, _ => ⟨e, a, dd, vs, e1, e2, e3, z _ _ e4, OwnL.mono e5 z (fun b hb => absurd hb (by simp))⟩
  | .nd true k xs, Z, Z', H, H', v, F, ⟨a, vs, ho, F', e1, e2, e3, e4, e5⟩, z, k' =>
    ⟨a, vs, ho, F', e1, k' a (e5.mem_iff.mpr List.mem_cons_self) ho e3.nt e2, e3, OwnL.mono e4 z (fun b hb o hn ho => k' b (e5.mem_iff.mpr (List.mem_cons_of_mem _ hb)) o hn ho), e5⟩
  | .nd false k xs, Z, Z', H, H', v, F, ⟨e, a, vs, ho, e1, e2, e3, e4⟩, z, _ =>
    ⟨e, a, vs, ho, e1, z a ho e2, e3, OwnL.mono e4 z (fun b hb => absurd hb (by simp))⟩
theorem OwnL.mono : ∀ {ds : List D} {Z Z' H H' : Hp} {vs : List V} {F : List Addr}, OwnL Γ ds Z H vs F → Ex Z Z' → (∀ a ∈ F, ∀ o, nt o → H a = some o → H' a = some o) → OwnL Γ ds Z' H' vs F
  | [], _, _, _, _, _, _, h, _, _ => h
  | d :: ds, _, _, _, _, _, _, ⟨v, r, F1, F2, e1, e2, e3, e4⟩, z, k =>
    ⟨v, r, F1, F2, e1, Own.mono e2 z (fun a ha => k a (e4.mem_iff.mpr (List.mem_append_left _ ha))), OwnL.mono e3 z (fun a ha => k a (e4.mem_iff.mpr (List.mem_append_right _ ha))), e4⟩
end
mutual
theorem Own.dom : ∀ {d : D} {Z H : Hp} {v : V} {F : List Addr}, Own Γ d Z H v F → ∀ a ∈ F, ∃ o, H a = some o
  | .non, _, _, _, _, ⟨_, e⟩, a, ha => by subst e; cases ha
  | .bl _, _, _, _, _, ⟨_, e⟩, a, ha => by subst e; cases ha
  | .int _, _, _, _, _, ⟨_, e⟩, a, ha => by subst e; cases ha
  | .str _, _, _, _, _, ⟨_, e⟩, a, ha => by subst e; cases ha
  | .scr _, _, _, _, _, ⟨e, _⟩, a, ha => by subst e; cases ha
  | .exn _ _ _, _, _, _, _, ⟨e, _⟩, a, ha => by subst e; cases ha
  | .nd true k xs, Z, H, v, F, ⟨b, vs, ho, F', e1, e2, e3, e4, e5⟩, a, ha => by
    rcases List.mem_cons.mp (e5.mem_iff.mp ha) with rfl | h
    · exact ⟨ho, e2⟩
    · exact OwnL.dom e4 a h
  | .nd false _ _, _, _, _, _, ⟨e, _⟩, a, ha => by subst e; cases ha
theorem OwnL.dom : ∀ {ds : List D} {Z H : Hp} {vs : List V} {F : List Addr}, OwnL Γ ds Z H vs F → ∀ a ∈ F, ∃ o, H a = some o
  | [], _, _, _, _, ⟨_, e⟩, a, ha => by subst e; cases ha
  | d :: ds, _, _, _, _, ⟨v, r, F1, F2, e1, e2, e3, e4⟩, a, ha => by
    rcases List.mem_append.mp (e4.mem_iff.mp ha) with h | h
    · exact Own.dom e2 a h
    · exact OwnL.dom e3 a h
end
mutual
theorem Own.fz : ∀ {d : D} {Z Z' H : Hp} {v : V} {F : List Addr}, Own Γ d Z H v F → Ex Z Z' → (∀ a ∈ F, ∀ o, H a = some o → Z' a = some o) → ∀ H', Own Γ (fz d) Z' H' v []
  | .non, _, _, _, _, _, ⟨h, _⟩, _, _, _ => ⟨h, rfl⟩
  | .bl _, _, _, _, _, _, ⟨h, _⟩, _, _, _ => ⟨h, rfl⟩
  | .int _, _, _, _, _, _, ⟨h, _⟩, _, _, _ => ⟨h, rfl⟩
  | .str _, _, _, _, _, _, ⟨h, _⟩, _, _, _ => ⟨h, rfl⟩
  | .scr _, _, _, _, _, _, ⟨_, a, e1, h⟩, z, _, _ => ⟨rfl, a, e1, z.sql h⟩
  | .exn _ _ fs, _, _, _, _, _, ⟨_, a, dd, vs, e1, e2, e3, e4, e5⟩, z, _, _ => ⟨rfl, a, dd, vs, e1, e2, e3, z _ _ e4, OwnL.mono e5 z (fun b hb => absurd hb (by simp))⟩
  | .nd true k xs, Z, Z', H, v, F, ⟨a, vs, ho, F', e1, e2, e3, e4, e5⟩, z, k', _ =>
    ⟨rfl, a, vs, ho, e1, k' a (e5.mem_iff.mpr List.mem_cons_self) ho e2, e3, OwnL.fz e4 z (fun b hb o ho => k' b (e5.mem_iff.mpr (List.mem_cons_of_mem _ hb)) o ho) _⟩
  | .nd false k xs, Z, Z', H, v, F, ⟨e, a, vs, ho, e1, e2, e3, e4⟩, z, _, _ =>
    ⟨rfl, a, vs, ho, e1, z a ho e2, e3, OwnL.fz e4 z (fun b hb => absurd hb (by simp)) _⟩
theorem OwnL.fz : ∀ {ds : List D} {Z Z' H : Hp} {vs : List V} {F : List Addr}, OwnL Γ ds Z H vs F → Ex Z Z' → (∀ a ∈ F, ∀ o, H a = some o → Z' a = some o) → ∀ H', OwnL Γ (fzL ds) Z' H' vs []
  | [], _, _, _, _, _, ⟨h, _⟩, _, _, _ => ⟨h, rfl⟩
  | d :: ds, _, _, _, _, _, ⟨v, r, F1, F2, e1, e2, e3, e4⟩, z, k, _ =>
    ⟨v, r, [], [], e1, Own.fz e2 z (fun a ha => k a (e4.mem_iff.mpr (List.mem_append_left _ ha))) _, OwnL.fz e3 z (fun a ha => k a (e4.mem_iff.mpr (List.mem_append_right _ ha))) _, .nil⟩
end
mutual
theorem Own.cl : ∀ {d : D} {Z Z' H : Hp} {v : V} {F : List Addr}, cl d = true → Own Γ d Z H v F → Own Γ d Z' H v F
  | .non, _, _, _, _, _, _, h => h
  | .bl _, _, _, _, _, _, _, h => h
  | .int _, _, _, _, _, _, _, h => h
  | .str _, _, _, _, _, _, _, h => h
  | .scr _, _, _, _, _, _, c, _ => by cases c
  | .exn _ _ _, _, _, _, _, _, c, _ => by cases c
  | .nd true k xs, Z, Z', H, v, F, c, ⟨a, vs, ho, F', e1, e2, e3, e4, e5⟩ => ⟨a, vs, ho, F', e1, e2, e3, OwnL.cl (by simpa [MV.cl] using c) e4, e5⟩
  | .nd false k xs, _, _, _, _, _, c, _ => by simp [MV.cl] at c
theorem OwnL.cl : ∀ {ds : List D} {Z Z' H : Hp} {vs : List V} {F : List Addr}, clL ds = true → OwnL Γ ds Z H vs F → OwnL Γ ds Z' H vs F
  | [], _, _, _, _, _, _, h => h
  | d :: ds, _, _, _, _, _, c, ⟨v, r, F1, F2, e1, e2, e3, e4⟩ => by
    have c' : MV.cl d = true ∧ clL ds = true := by simpa [clL] using c
    exact ⟨v, r, F1, F2, e1, Own.cl c'.1 e2, OwnL.cl c'.2 e3, e4⟩
end
end
end MV

namespace MV
open PySem PySem.Spec PyProof.Rows L2
abbrev St := L2.St
abbrev Env := List (Option D)
section
variable {Γ : Gm}
def OwnE (Γ : Gm) : List (Option D) → Hp → Hp → St → List Addr → Prop
  | [], _, _, σ, F => σ = [] ∧ F = []
  | none :: e, Z, H, σ, F => ∃ x r, σ = x :: r ∧ OwnE Γ e Z H r F
  | some d :: e, Z, H, σ, F => ∃ v r F1 F2, σ = some v :: r ∧ Own Γ d Z H v F1 ∧ OwnE Γ e Z H r F2 ∧ F.Perm (F1 ++ F2)
theorem OwnE.perm : ∀ {e : Env} {Z H : Hp} {σ : St} {F F' : List Addr}, OwnE Γ e Z H σ F → F'.Perm F → OwnE Γ e Z H σ F'
  | [], _, _, _, _, _, ⟨h, e⟩, p => ⟨h, by subst e; exact perm_nil_eq p⟩
  | none :: _, _, _, _, _, _, ⟨x, r, e1, e2⟩, p => ⟨x, r, e1, e2.perm p⟩
  | some _ :: _, _, _, _, _, _, ⟨v, r, F1, F2, e1, e2, e3, e4⟩, p => ⟨v, r, F1, F2, e1, e2, e3, p.trans e4⟩
theorem OwnE.mono : ∀ {e : Env} {Z Z' H H' : Hp} {σ : St} {F : List Addr}, OwnE Γ e Z H σ F → Ex Z Z' → (∀ a ∈ F, ∀ o, nt o → H a = some o → H' a = some o) → OwnE Γ e Z' H' σ F
  | [], _, _, _, _, _, _, h, _, _ => h
  | none :: _, _, _, _, _, _, _, ⟨x, r, e1, e2⟩, z, k => ⟨x, r, e1, e2.mono z k⟩
  | some _ :: _, _, _, _, _, _, _, ⟨v, r, F1, F2, e1, e2, e3, e4⟩, z, k =>
    ⟨v, r, F1, F2, e1, e2.mono z (fun a ha => k a (e4.mem_iff.mpr (List.mem_append_left _ ha))), e3.mono z (fun a ha => k a (e4.mem_iff.mpr (List.mem_append_right _ ha))), e4⟩
theorem OwnE.dom : ∀ {e : Env} {Z H : Hp} {σ : St} {F : List Addr}, OwnE Γ e Z H σ F → ∀ a ∈ F, ∃ o, H a = some o
  | [], _, _, _, _, ⟨_, e⟩, a, ha => by subst e; cases ha
  | none :: _, _, _, _, _, ⟨x, r, e1, e2⟩, a, ha => e2.dom a ha
  | some _ :: _, _, _, _, _, ⟨v, r, F1, F2, e1, e2, e3, e4⟩, a, ha => by
    rcases List.mem_append.mp (e4.mem_iff.mp ha) with h | h
    · exact e2.dom a h
    · exact e3.dom a h
theorem OwnE.len : ∀ {e : Env} {Z H : Hp} {σ : St} {F : List Addr}, OwnE Γ e Z H σ F → σ.length = e.length
  | [], _, _, _, _, ⟨h, _⟩ => by rw [h]; rfl
  | none :: _, _, _, _, _, ⟨x, r, e1, e2⟩ => by rw [e1, List.length_cons, List.length_cons, e2.len]
  | some _ :: _, _, _, _, _, ⟨v, r, F1, F2, e1, e2, e3, e4⟩ => by rw [e1, List.length_cons, List.length_cons, e3.len]
/-- what stands in a slot, or nothing told -/
def OwnO (Γ : Gm) (x : Option D) (Z H : Hp) (y : Option V) (F : List Addr) : Prop :=
  match x with
  | none => F = []
  | some d => ∃ v, y = some v ∧ Own Γ d Z H v F
/-- one slot taken out of all -/
theorem OwnE.at : ∀ {e : Env} {Z H : Hp} {σ : St} {F : List Addr} {i : Nat} {x : Option D}, OwnE Γ e Z H σ F → e[i]? = some x →
    ∃ y F1 F2, σ[i]? = some y ∧ OwnO Γ x Z H y F1 ∧ F.Perm (F1 ++ F2) ∧
      ∀ (Z' H' : Hp) (x' : Option D) (y' : Option V) (F1' : List Addr), Ex Z Z' → (∀ a ∈ F2, ∀ o, nt o → H a = some o → H' a = some o) → OwnO Γ x' Z' H' y' F1' → OwnE Γ (e.set i x') Z' H' (σ.set i y') (F1' ++ F2)
  | [], _, _, _, _, _, _, _, h => by simp at h
  | none :: e, Z, H, σ, F, 0, x, ⟨y, r, e1, e2⟩, h => by
    have hx : none = x := by simpa using h
    subst hx e1
    refine ⟨y, [], F, by simp, rfl, by simp, fun Z' H' x' y' F1' z k o => ?_⟩
    cases x' with
    | none =>
      have o' : F1' = [] := o
      subst o'
      exact ⟨y', r, by simp, by simpa using e2.mono z k⟩
    | some d =>
      obtain ⟨v, rfl, o⟩ := o
      exact ⟨v, r, F1', F, by simp, o, e2.mono z k, .refl _⟩
  | some d :: e, Z, H, σ, F, 0, x, ⟨v, r, F1, F2, e1, e2, e3, e4⟩, h => by
    have hx : some d = x := by simpa using h
    subst hx e1
    refine ⟨some v, F1, F2, by simp, ⟨v, rfl, e2⟩, e4, fun Z' H' x' y' F1' z k o => ?_⟩
    cases x' with
    | none =>
      have o' : F1' = [] := o
      subst o'
      exact ⟨y', r, by simp, by simpa using e3.mono z k⟩
    | some d =>
      obtain ⟨w, rfl, o⟩ := o
      exact ⟨w, r, F1', F2, by simp, o, e3.mono z k, .refl _⟩
  | none :: e, Z, H, σ, F, i + 1, x, ⟨y, r, e1, e2⟩, h => by
    subst e1
    obtain ⟨y1, F1, F2, h1, h2, h3, h4⟩ := e2.at (i := i) (x := x) (by simpa using h)
    exact ⟨y1, F1, F2, by simpa using h1, h2, h3, fun Z' H' x' y' F1' z k o => ⟨y, _, by simp, h4 Z' H' x' y' F1' z k o⟩⟩
  | some d :: e, Z, H, σ, F, i + 1, x, ⟨v, r, G1, G2, e1, e2, e3, e4⟩, h => by
    subst e1
    obtain ⟨y1, F1, F2, h1, h2, h3, h4⟩ := e3.at (i := i) (x := x) (by simpa using h)
    refine ⟨y1, F1, G1 ++ F2, by simpa using h1, h2, ?_, fun Z' H' x' y' F1' z k o => ?_⟩
    · refine e4.trans ((List.Perm.append_left G1 h3).trans ?_)
      rw [← List.append_assoc, ← List.append_assoc]
      exact List.Perm.append_right F2 List.perm_append_comm
    · refine ⟨v, _, G1, F1' ++ F2, by simp, e2.mono z (fun a ha => k a (List.mem_append_left _ ha)), h4 Z' H' x' y' F1' z (fun a ha => k a (List.mem_append_right _ ha)) o, ?_⟩
      rw [← List.append_assoc, ← List.append_assoc]
      exact List.Perm.append_right F2 List.perm_append_comm

/-- the state that an environment tells -/
structure EOK (Γ : Gm) (Z H : Hp) (σ : St) (e : Env) (F : List Addr) : Prop where
  zh : Ex Z H
  own : OwnE Γ e Z H σ F
  nd : F.Nodup
  dis : ∀ a ∈ F, Z a = none
  ntz : ∀ a o, Z a = some o → nt o
  tabs : LamX.Tabs Γ.T H
/-- what changes between two states -/
structure Step (H Z : Hp) (F : List Addr) (H' Z' : Hp) (F' : List Addr) : Prop where
  frame : ∀ a o, nt o → H a = some o → a ∉ F → H' a = some o
  zext : Ex Z Z'
  own : ∀ a ∈ F', a ∈ F ∨ H a = none
  zon : ∀ a, Z' a ≠ none → Z a ≠ none ∨ a ∈ F ∨ H a = none
  dom : ∀ a, H' a = none → H a = none
theorem Step.refl {H Z : Hp} {F : List Addr} : Step H Z F H Z F := ⟨fun _ _ _ h _ => h, Ex.refl _, fun _ h => .inl h, fun _ h => .inl h, fun _ h => h⟩
theorem Step.trans {H0 Z0 H1 Z1 H2 Z2 : Hp} {F0 F1 F2 : List Addr} (a : Step H0 Z0 F0 H1 Z1 F1) (b : Step H1 Z1 F1 H2 Z2 F2) : Step H0 Z0 F0 H2 Z2 F2 where
  frame := fun p o t h n => b.frame p o t (a.frame p o t h n) fun h1 => (a.own p h1).elim n fun z => by rw [z] at h; cases h
  zext := a.zext.trans b.zext
  own := fun p h => (b.own p h).elim (fun h1 => a.own p h1) fun z => .inr (a.dom p z)
  zon := fun p h => (b.zon p h).elim (fun h1 => a.zon p h1) fun h1 => h1.elim (fun h2 => .inr (a.own p h2)) fun z => .inr (.inr (a.dom p z))
  dom := fun p h => a.dom p (b.dom p h)
theorem Step.perm {H Z H' Z' : Hp} {F F' G G' : List Addr} (a : Step H Z F H' Z' F') (p : ∀ x, x ∈ F ↔ x ∈ G) (q : ∀ x, x ∈ G' → x ∈ F') : Step H Z G H' Z' G' where
  frame := fun b o t h n => a.frame b o t h fun z => n ((p b).mp z)
  zext := a.zext
  own := fun b h => (a.own b (q b h)).imp (p b).mp id
  zon := fun b h => (a.zon b h).imp id fun z => z.imp (p b).mp id
  dom := a.dom
/-- nothing is written but new objects (and tables) -/
theorem Step.allocN {H Z H' : Hp} {F Fd : List Addr} (e : ExN H H') (d : ∀ a, H' a = none → H a = none) (f : ∀ a ∈ Fd, H a = none) : Step H Z F H' Z (Fd ++ F) where
  frame := fun a o t h _ => e a o t h
  zext := Ex.refl _
  own := fun a h => (List.mem_append.mp h).elim (fun z => .inr (f a z)) fun z => .inl z
  zon := fun a h => .inl h
  dom := d
theorem Step.alloc {H Z H' : Hp} {F Fd : List Addr} (e : Ex H H') (f : ∀ a ∈ Fd, H a = none) : Step H Z F H' Z (Fd ++ F) := Step.allocN e.n (fun a h => e.none h) f
theorem EOK.allocN {Z H H' : Hp} {σ : St} {e : Env} {F : List Addr} (E : EOK Γ Z H σ e F) (x : ExN H H') (t : LamX.Tabs Γ.T H') : EOK Γ Z H' σ e F :=
  ⟨fun a o h => x a o (E.ntz a o h) (E.zh a o h), E.own.mono (Ex.refl _) fun a _ o n h => x a o n h, E.nd, E.dis, E.ntz, t⟩
theorem EOK.alloc {Z H H' : Hp} {σ : St} {e : Env} {F : List Addr} (E : EOK Γ Z H σ e F) (x : Ex H H') : EOK Γ Z H' σ e F := E.allocN x.n (E.tabs.ext x)
theorem EOK.fresh {Z H : Hp} {σ : St} {e : Env} {F : List Addr} (E : EOK Γ Z H σ e F) {a : Addr} (h : H a = none) : a ∉ F ∧ Z a = none :=
  ⟨fun z => (E.own.dom a z).elim (fun o q => by rw [h] at q; exact nomatch q), E.zh.none h⟩
theorem EOK.nodup {Z H : Hp} {σ : St} {e : Env} {F Fd : List Addr} (E : EOK Γ Z H σ e F) (f : ∀ a ∈ Fd, H a = none) (n : Fd.Nodup) : (Fd ++ F).Nodup :=
  List.nodup_append.mpr ⟨n, E.nd, fun a ha b hb z => (E.fresh (f a ha)).1 (z ▸ hb)⟩

/-- the zone with some objects more -/
def addZ (Z H : Hp) (G : List Addr) : Hp := fun a => if a ∈ G then H a else Z a
theorem addZ_in {Z H : Hp} {G : List Addr} {a : Addr} (h : a ∈ G) : addZ Z H G a = H a := if_pos h
theorem addZ_out {Z H : Hp} {G : List Addr} {a : Addr} (h : a ∉ G) : addZ Z H G a = Z a := if_neg h
theorem addZ_ex {Z H : Hp} {G : List Addr} (h : ∀ a ∈ G, Z a = none) : Ex Z (addZ Z H G) := fun a o e => by
  rw [addZ_out fun z => by rw [h a z] at e; cases e]; exact e
theorem addZ_sub {Z H : Hp} {G : List Addr} (zh : Ex Z H) : Ex (addZ Z H G) H := fun a o e => by
  by_cases h : a ∈ G
  · rw [addZ_in h] at e; exact e
  · rw [addZ_out h] at e; exact zh a o e

theorem addZ_nt {Z H : Hp} {G : List Addr} (h : ∀ a o, Z a = some o → nt o) (k : ∀ a ∈ G, ∀ o, H a = some o → nt o) : ∀ a o, addZ Z H G a = some o → nt o := fun a o e => by
  by_cases g : a ∈ G
  · rw [addZ_in g] at e; exact k a g o e
  · rw [addZ_out g] at e; exact h a o e
mutual
theorem Own.nts : ∀ {d : D} {Z H : Hp} {v : V} {F : List Addr}, Own Γ d Z H v F → ∀ a ∈ F, ∀ o, H a = some o → nt o
  | .non, _, _, _, _, ⟨_, e⟩, a, ha, _, _ => by subst e; cases ha
  | .bl _, _, _, _, _, ⟨_, e⟩, a, ha, _, _ => by subst e; cases ha
  | .int _, _, _, _, _, ⟨_, e⟩, a, ha, _, _ => by subst e; cases ha
  | .str _, _, _, _, _, ⟨_, e⟩, a, ha, _, _ => by subst e; cases ha
  | .scr _, _, _, _, _, ⟨e, _⟩, a, ha, _, _ => by subst e; cases ha
  | .exn _ _ _, _, _, _, _, ⟨e, _⟩, a, ha, _, _ => by subst e; cases ha
  | .nd true k xs, Z, H, v, F, ⟨b, vs, ho, F', e1, e2, e3, e4, e5⟩, a, ha, o, ho' => by
    rcases List.mem_cons.mp (e5.mem_iff.mp ha) with rfl | h
    · rw [e2] at ho'; cases ho'; exact e3.nt
    · exact OwnL.nts e4 a h o ho'
  | .nd false _ _, _, _, _, _, ⟨e, _⟩, a, ha, _, _ => by subst e; cases ha
theorem OwnL.nts : ∀ {ds : List D} {Z H : Hp} {vs : List V} {F : List Addr}, OwnL Γ ds Z H vs F → ∀ a ∈ F, ∀ o, H a = some o → nt o
  | [], _, _, _, _, ⟨_, e⟩, a, ha, _, _ => by subst e; cases ha
  | d :: ds, _, _, _, _, ⟨v, r, F1, F2, e1, e2, e3, e4⟩, a, ha, o, h => by
    rcases List.mem_append.mp (e4.mem_iff.mp ha) with z | z
    · exact Own.nts e2 a z o h
    · exact OwnL.nts e3 a z o h
end
theorem OwnE.nts : ∀ {e : Env} {Z H : Hp} {σ : St} {F : List Addr}, OwnE Γ e Z H σ F → ∀ a ∈ F, ∀ o, H a = some o → nt o
  | [], _, _, _, _, ⟨_, e⟩, a, ha, _, _ => by subst e; cases ha
  | none :: _, _, _, _, _, ⟨x, r, e1, e2⟩, a, ha, o, h => e2.nts a ha o h
  | some _ :: _, _, _, _, _, ⟨v, r, F1, F2, e1, e2, e3, e4⟩, a, ha, o, h => by
    rcases List.mem_append.mp (e4.mem_iff.mp ha) with z | z
    · exact e2.nts a z o h
    · exact e3.nts a z o h
theorem nt_lst {xs : List V} : nt (.lst xs) := fun ps z => nomatch z
/-- a container is changed: the tables stand -/
theorem tabs_upd {T : List (Addr × Str)} {H : Hp} {a : Addr} {ho ho' : HO} (t : LamX.Tabs T H) (h : H a = some ho) (n : nt ho) (n2 : ∀ φ, ho ≠ .ext φ) : LamX.Tabs T (upd H a ho') := fun p hp => by
  obtain ⟨ps, h1, h2, h3⟩ := t p hp
  refine ⟨ps, by rw [upd_ne (fun z => by rw [z, h] at h1; cases h1; exact n _ rfl)]; exact h1, h2, fun pos cv hc => ?_⟩
  obtain ⟨c, e, hcc⟩ := h3 pos cv hc
  exact ⟨c, e, by rw [upd_ne (fun z => by rw [z, h] at hcc; exact n2 _ (Option.some.inj hcc))]; exact hcc⟩
theorem Is.ne {k : Kd} {vs : List V} {ho : HO} (h : Is Γ k vs ho) : ∀ φ, ho ≠ .ext φ := fun φ z => by
  subst z
  cases k with
  | lst => exact nomatch (show HO.ext φ = HO.lst vs from h)
  | tup => exact nomatch (show HO.ext φ = HO.tup vs from h)
  | ins c ns => obtain ⟨_, _, e⟩ := h; cases e
  | dic ks => obtain ⟨_, e⟩ := h; cases e
/-! ### the readings' meaning -/
inductive XO where
  | ok (d : D) (e : Env)
  | exc (c : Nat) (ns : List Str) (fs : List D) (e : Env)
  | bad
abbrev XG := Env → XO
inductive AO where
  | ok (ds : List D) (e : Env)
  | exc (c : Nat) (ns : List Str) (fs : List D) (e : Env)
  | bad
abbrev AG := Env → AO
inductive SO where
  | nx (e : Env) | rt (d : D) (e : Env) | bk (e : Env) | ct (e : Env)
  | exc (c : Nat) (ns : List Str) (fs : List D) (e : Env)
  | bad
abbrev SG := Env → SO
/-- an exception's own dict -/
def ExcAt (Γ : Gm) (Z H : Hp) (ns : List Str) (fs : List D) (dd : Addr) : Prop := ∃ vs, ns.length = vs.length ∧ Z dd = some (.xd (ns.zip vs)) ∧ RpL Γ fs Z vs
def EPost (Γ : Gm) (W : WX) (σ : St) (Z H : Hp) (F : List Addr) (c : Nat) (ns : List Str) (fs : List D) (e : Env) : Prop :=
  ∀ Z' H' F' dd, EOK Γ Z' H' σ e F' → Step H Z F H' Z' F' → ExcAt Γ Z' H' ns fs dd → W (.ref (Γ.C c)) (some dd) σ H'
def XPost (Γ : Gm) (W : WX) (σ : St) (Z H : Hp) (F : List Addr) (Q : VK) : XO → Prop
  | .ok d e => ∀ Z' H' v Fd F', EOK Γ Z' H' σ e F' → Own Γ d Z' H' v Fd → (Fd ++ F').Nodup → (∀ a ∈ Fd, Z' a = none) → Step H Z F H' Z' (Fd ++ F') → Q v H'
  | .exc c ns fs e => EPost Γ W σ Z H F c ns fs e
  | .bad => False
/-- .. its value given away -/
def ShP (Γ : Gm) (W : WX) (σ : St) (Z H : Hp) (F : List Addr) (Q : VK) : XO → Prop
  | .ok d e => ∀ Z' H' v F', EOK Γ Z' H' σ e F' → Rp Γ (fz d) Z' v → Step H Z F H' Z' F' → Q v H'
  | .exc c ns fs e => EPost Γ W σ Z H F c ns fs e
  | .bad => False
def APost (Γ : Gm) (W : WX) (σ : St) (Z H : Hp) (F : List Addr) (Q : List V → Hp → Prop) : AO → Prop
  | .ok ds e => ∀ Z' H' vs F', EOK Γ Z' H' σ e F' → RpL Γ ds Z' vs → Step H Z F H' Z' F' → Q vs H'
  | .exc c ns fs e => EPost Γ W σ Z H F c ns fs e
  | .bad => False
def TPost (Γ : Gm) (W : WX) (σ : St) (Z H : Hp) (F : List Addr) (Q : Bool → Hp → Prop) : XO → Prop
  | .ok (.bl b) e => ∀ Z' H' F', EOK Γ Z' H' σ e F' → Step H Z F H' Z' F' → Q b H'
  | .ok _ _ => False
  | .exc c ns fs e => EPost Γ W σ Z H F c ns fs e
  | .bad => False
def Pin (io : Bool) (σ σ' : St) : Prop := io = true → σ'[0]? = σ[0]?
def SPost (Γ : Gm) (W : WX) (io : Bool) (σ : St) (Z H : Hp) (F : List Addr) (D : Ends) : SO → Prop
  | .nx e => ∀ Z' H' σ' F', EOK Γ Z' H' σ' e F' → Step H Z F H' Z' F' → Pin io σ σ' → D.nx σ' H'
  | .bk e => ∀ Z' H' σ' F', EOK Γ Z' H' σ' e F' → Step H Z F H' Z' F' → Pin io σ σ' → D.bk σ' H'
  | .ct e => ∀ Z' H' σ' F', EOK Γ Z' H' σ' e F' → Step H Z F H' Z' F' → Pin io σ σ' → D.ct σ' H'
  | .rt d e => ∀ Z' H' σ' v Fd F', EOK Γ Z' H' σ' e F' → Own Γ d Z' H' v Fd → (Fd ++ F').Nodup → (∀ a ∈ Fd, Z' a = none) → Step H Z F H' Z' (Fd ++ F') → Pin io σ σ' → D.rt v H'
  | .exc c ns fs e => ∀ Z' H' σ' F' dd, EOK Γ Z' H' σ' e F' → Step H Z F H' Z' F' → Pin io σ σ' → ExcAt Γ Z' H' ns fs dd → W (.ref (Γ.C c)) (some dd) σ' H'
  | .bad => False
def SemX (Γ : Gm) (W : WX) (t : TE) (g : XG) : Prop := ∀ Z H σ e F Q, EOK Γ Z H σ e F → XPost Γ W σ Z H F Q (g e) → t σ H Q
def SemT (Γ : Gm) (W : WX) (t : TT) (g : XG) : Prop := ∀ Z H σ e F Q, EOK Γ Z H σ e F → TPost Γ W σ Z H F Q (g e) → t σ H Q
def SemA (Γ : Gm) (W : WX) (t : TA) (g : AG) : Prop := ∀ Z H σ e F Q, EOK Γ Z H σ e F → APost Γ W σ Z H F Q (g e) → t σ H Q
def SemS (Γ : Gm) (W : WX) (io : Bool) (t : TS) (g : SG) : Prop := ∀ Z H σ e F D, EOK Γ Z H σ e F → SPost Γ W io σ Z H F D (g e) → t D σ H

variable {W : WX} {σ σ' : St} {Z H Z1 H1 : Hp} {F F1 : List Addr} {e : Env}
theorem EPost.after {c ns fs} (s : Step H Z F H1 Z1 F1) (p : EPost Γ W σ Z H F c ns fs e) : EPost Γ W σ Z1 H1 F1 c ns fs e := fun Z' H' F' dd E s' x => p Z' H' F' dd E (s.trans s') x
theorem XPost.after {Q : VK} {o : XO} (s : Step H Z F H1 Z1 F1) (p : XPost Γ W σ Z H F Q o) : XPost Γ W σ Z1 H1 F1 Q o := by
  cases o with
  | ok d e => exact fun Z' H' v Fd F' E o n z s' => p Z' H' v Fd F' E o n z (s.trans s')
  | exc c ns fs e => exact EPost.after s p
  | bad => exact p
theorem TPost.after {Q : Bool → Hp → Prop} {o : XO} (s : Step H Z F H1 Z1 F1) (p : TPost Γ W σ Z H F Q o) : TPost Γ W σ Z1 H1 F1 Q o := by
  cases o with
  | ok d e =>
    cases d <;> first | exact p | exact fun Z' H' F' E s' => p Z' H' F' E (s.trans s')
  | exc c ns fs e => exact EPost.after s p
  | bad => exact p
theorem Pin.trans {io : Bool} {a b c : St} (x : Pin io a b) (y : Pin io b c) : Pin io a c := fun h => (y h).trans (x h)
theorem Pin.refl {io : Bool} {a : St} : Pin io a a := fun _ => rfl
theorem SPost.after {io : Bool} {D : Ends} {o : SO} (s : Step H Z F H1 Z1 F1) (q : Pin io σ σ') (p : SPost Γ W io σ Z H F D o) : SPost Γ W io σ' Z1 H1 F1 D o := by
  cases o with
  | nx e => exact fun Z' H' τ F' E s' r => p Z' H' τ F' E (s.trans s') (q.trans r)
  | bk e => exact fun Z' H' τ F' E s' r => p Z' H' τ F' E (s.trans s') (q.trans r)
  | ct e => exact fun Z' H' τ F' E s' r => p Z' H' τ F' E (s.trans s') (q.trans r)
  | rt d e => exact fun Z' H' τ v Fd F' E o n z s' r => p Z' H' τ v Fd F' E o n z (s.trans s') (q.trans r)
  | exc c ns fs e => exact fun Z' H' τ F' dd E s' r x => p Z' H' τ F' dd E (s.trans s') (q.trans r) x
  | bad => exact p
/-- a value, given away -/
theorem give {Z' H' : Hp} {v : V} {Fd F' : List Addr} {d : D} (E : EOK Γ Z' H' σ e F') (o : Own Γ d Z' H' v Fd) (n : (Fd ++ F').Nodup) (z : ∀ a ∈ Fd, Z' a = none) (s : Step H Z F H' Z' (Fd ++ F')) :
    EOK Γ (addZ Z' H' Fd) H' σ e F' ∧ Rp Γ (fz d) (addZ Z' H' Fd) v ∧ Step H Z F H' (addZ Z' H' Fd) F' := by
  have ex := addZ_ex (H := H') z
  obtain ⟨n1, n2, n3⟩ := List.nodup_append.mp n
  refine ⟨⟨addZ_sub E.zh, E.own.mono ex fun a _ o _ h => h, n2, fun a ha => ?_, addZ_nt E.ntz o.nts, E.tabs⟩, o.fz ex (fun a ha o h => by rw [addZ_in ha]; exact h) _, ⟨s.frame, s.zext.trans ex, fun a h => s.own a (List.mem_append_right _ h), fun a h => ?_, s.dom⟩⟩
  · rw [addZ_out fun y => n3 a y a ha rfl]; exact E.dis a ha
  · by_cases y : a ∈ Fd
    · exact .inr (s.own a (List.mem_append_left _ y))
    · rw [addZ_out y] at h; exact s.zon a h
theorem SemX.sh {t : TE} {f : XG} {Q : VK} (hf : SemX Γ W t f) (E : EOK Γ Z H σ e F) (h : ShP Γ W σ Z H F Q (f e)) : t σ H Q := by
  refine hf Z H σ e F Q E ?_
  cases q : f e with
  | ok d e' =>
    rw [q] at h
    intro Z' H' v Fd F' E' o n z s
    obtain ⟨a, b, c⟩ := give E' o n z s
    exact h _ H' v F' a b c
  | exc c ns fs e' => rw [q] at h; exact h
  | bad => rw [q] at h; exact h
end
end MV

namespace MV
open PySem PySem.Spec PyProof.Rows L2
section
variable {Γ : Gm} {W : WX} {σ σ' : St} {Z H Z1 H1 : Hp} {F F1 : List Addr} {e : Env}
/-! ### lists of data -/
theorem RpL.len : ∀ {ds : List D} {Z : Hp} {vs : List V}, RpL Γ ds Z vs → vs.length = ds.length
  | [], _, _, ⟨h, _⟩ => by rw [h]; rfl
  | d :: ds, _, _, ⟨v, r, F1, F2, e1, _, e3, e4⟩ => by
    have p := List.Perm.nil_eq e4
    have q : F2 = [] := (List.append_eq_nil_iff.mp p.symm).2
    subst q
    rw [e1, List.length_cons, List.length_cons, RpL.len e3]
theorem RpL.cons {d : D} {ds : List D} {v : V} {vs : List V} (a : Rp Γ d Z v) (b : RpL Γ ds Z vs) : RpL Γ (d :: ds) Z (v :: vs) := ⟨v, vs, [], [], rfl, a, b, .nil⟩
theorem RpL.nil : RpL Γ [] Z [] := ⟨rfl, rfl⟩
theorem RpL.split {d : D} {ds : List D} {vs : List V} (h : RpL Γ (d :: ds) Z vs) : ∃ v r, vs = v :: r ∧ Rp Γ d Z v ∧ RpL Γ ds Z r := by
  obtain ⟨v, r, F1, F2, e1, e2, e3, e4⟩ := h
  have p := List.append_eq_nil_iff.mp (List.Perm.nil_eq e4).symm
  obtain ⟨p1, p2⟩ := p
  subst p1 p2
  exact ⟨v, r, e1, e2, e3⟩
theorem RpL.get : ∀ {ds : List D} {vs : List V} {i : Nat} {d : D}, RpL Γ ds Z vs → ds[i]? = some d → ∃ v, vs[i]? = some v ∧ Rp Γ d Z v
  | [], _, _, _, _, h => by simp at h
  | _ :: _, _, 0, _, h, q => by
    obtain ⟨v, r, rfl, a, b⟩ := h.split
    have q' := Option.some.inj (show some _ = some _ from q)
    subst q'
    exact ⟨v, rfl, a⟩
  | _ :: _, _, i + 1, _, h, q => by
    obtain ⟨v, r, rfl, a, b⟩ := h.split
    exact RpL.get (i := i) b q
theorem RpL.append : ∀ {ds es : List D} {vs ws : List V}, RpL Γ ds Z vs → RpL Γ es Z ws → RpL Γ (ds ++ es) Z (vs ++ ws)
  | [], _, _, _, ⟨h, _⟩, b => by subst h; exact b
  | _ :: _, _, _, _, h, b => by
    obtain ⟨v, r, rfl, x, y⟩ := h.split
    exact RpL.cons x (RpL.append y b)
theorem RpL.take : ∀ {ds : List D} {vs : List V} (n : Nat), RpL Γ ds Z vs → RpL Γ (ds.take n) Z (vs.take n)
  | _, _, 0, _ => by simp [OwnL]
  | [], _, n + 1, ⟨h, _⟩ => by subst h; simp [OwnL]
  | _ :: _, _, n + 1, h => by
    obtain ⟨v, r, rfl, x, y⟩ := h.split
    exact RpL.cons x (RpL.take n y)
theorem RpL.drop : ∀ {ds : List D} {vs : List V} (n : Nat), RpL Γ ds Z vs → RpL Γ (ds.drop n) Z (vs.drop n)
  | _, _, 0, h => h
  | [], _, n + 1, ⟨h, _⟩ => by subst h; simp [OwnL]
  | _ :: _, _, n + 1, h => by
    obtain ⟨v, r, rfl, x, y⟩ := h.split
    exact RpL.drop n y
theorem RpL.reverse : ∀ {ds : List D} {vs : List V}, RpL Γ ds Z vs → RpL Γ ds.reverse Z vs.reverse
  | [], _, ⟨h, _⟩ => by subst h; exact RpL.nil
  | _ :: _, _, h => by
    obtain ⟨v, r, rfl, x, y⟩ := h.split
    rw [List.reverse_cons, List.reverse_cons]
    exact RpL.append (RpL.reverse y) (RpL.cons x RpL.nil)
theorem RpL.ints : ∀ {ns : List Int} {vs : List V}, RpL Γ (ns.map D.int) Z vs → vs = ns.map V.int
  | [], _, ⟨h, _⟩ => h
  | n :: ns, _, h => by
    obtain ⟨v, r, rfl, x, y⟩ := RpL.split (d := .int n) (ds := ns.map D.int) h
    rw [RpL.ints y, List.map_cons, x.1]
theorem RpL.ofInts : ∀ (ns : List Int), RpL Γ (ns.map D.int) Z (ns.map V.int)
  | [] => RpL.nil
  | n :: ns => RpL.cons (d := .int n) ⟨rfl, rfl⟩ (RpL.ofInts ns)
/-- the ints of a list of data -/
def ints? : List D → Option (List Int)
  | [] => some []
  | .int i :: r => (ints? r).map (i :: ·)
  | _ => none
theorem ints?_eq : ∀ {ds : List D} {ns : List Int}, ints? ds = some ns → ds = ns.map D.int
  | [], _, h => by cases h; rfl
  | .int i :: r, ns, h => by
    rw [ints?] at h
    cases q : ints? r with
    | none => rw [q] at h; cases h
    | some ms => rw [q] at h; cases h; rw [List.map_cons, ints?_eq q]
  | .non :: _, _, h => by cases h
  | .bl _ :: _, _, h => by cases h
  | .str _ :: _, _, h => by cases h
  | .scr _ :: _, _, h => by cases h
  | .exn _ _ _ :: _, _, h => by cases h
  | .nd _ _ _ :: _, _, h => by cases h
theorem ints?_map : ∀ ns : List Int, ints? (ns.map D.int) = some ns
  | [] => rfl
  | n :: ns => by rw [List.map_cons, ints?, ints?_map ns]; rfl
theorem RpL.own {ds : List D} {vs : List V} {H : Hp} (h : RpL Γ ds Z vs) : OwnL Γ ds Z H vs [] := h.mono (Ex.refl _) fun a ha => absurd ha (by simp)
theorem Rp.own {d : D} {v : V} {H : Hp} (h : Rp Γ d Z v) : Own Γ d Z H v [] := Own.mono h (Ex.refl _) fun a ha => absurd ha (by simp)

/-! ### operations on data -/
/-- new objects alone -/
def NewQ (Γ : Gm) (Z H : Hp) (d : D) (Q : VK) : Prop := ∀ H' v Fd, Ex H H' → Own Γ d Z H' v Fd → Fd.Nodup → (∀ a ∈ Fd, H a = none) → Q v H'
theorem NewQ.val {d : D} {v : V} {Q : VK} (q : NewQ Γ Z H d Q) (h : Rp Γ d Z v) : Q v H := q H v [] (Ex.refl _) h.own List.nodup_nil (fun a ha => absurd ha (by simp))
/-- a new container of things that are there -/
theorem NewQ.node {k : Kd} {ds : List D} {vs : List V} {Q : VK} {ho : HO} {p : Addr} (q : NewQ Γ Z H (.nd true k ds) Q) (h : RpL Γ ds Z vs) (hp : H p = none) (hk : Is Γ k vs ho) : Q (.ref p) (upd H p ho) :=
  q (upd H p ho) (.ref p) [p] (Ex.new hp) ⟨p, vs, ho, [], rfl, upd_same, hk, h.own, .refl _⟩ (List.nodup_cons.mpr ⟨by simp, List.nodup_nil⟩) (fun a ha => by
    have e : a = p := by simpa using ha
    subst e; exact hp)
def OpD (Γ : Gm) (r : R2) (op : D → D → Option D) : Prop := ∀ {Z H : Hp} {dx dy d : D} {x y : V} {Q : VK}, Ex Z H → Rp Γ dx Z x → Rp Γ dy Z y → op dx dy = some d → NewQ Γ Z H d Q → r x y H Q
def UnD (Γ : Gm) (r : V → Hp → VK → Prop) (op : D → Option D) : Prop := ∀ {Z H : Hp} {dx d : D} {x : V} {Q : VK}, Ex Z H → Rp Γ dx Z x → op dx = some d → NewQ Γ Z H d Q → r x H Q
def CallD (Γ : Gm) (r : List V → Hp → VK → Prop) (op : List D → Option D) : Prop := ∀ {Z H : Hp} {ds : List D} {d : D} {vs : List V} {Q : VK}, Ex Z H → RpL Γ ds Z vs → op ds = some d → NewQ Γ Z H d Q → r vs H Q

/-! ### programs of data -/
def x2 (op : D → D → Option D) (f g : XG) : XG := fun e => match f e with
  | .ok d e1 => match g e1 with
    | .ok d' e2 => match op (fz d) (fz d') with
      | some r => .ok r e2
      | none => .bad
    | .exc c ns fs e2 => .exc c ns fs e2
    | .bad => .bad
  | .exc c ns fs e1 => .exc c ns fs e1
  | .bad => .bad
def x1 (op : D → Option D) (f : XG) : XG := fun e => match f e with
  | .ok d e1 => match op (fz d) with
    | some r => .ok r e1
    | none => .bad
  | .exc c ns fs e1 => .exc c ns fs e1
  | .bad => .bad
def xN (op : List D → Option D) (f : AG) : XG := fun e => match f e with
  | .ok ds e1 => match op ds with
    | some r => .ok r e1
    | none => .bad
  | .exc c ns fs e1 => .exc c ns fs e1
  | .bad => .bad
def aNil : AG := fun e => .ok [] e
def aCons (f : XG) (g : AG) : AG := fun e => match f e with
  | .ok d e1 => match g e1 with
    | .ok ds e2 => .ok (fz d :: ds) e2
    | .exc c ns fs e2 => .exc c ns fs e2
    | .bad => .bad
  | .exc c ns fs e1 => .exc c ns fs e1
  | .bad => .bad
def xC (d : D) : XG := fun e => .ok d e
def xVar (i : Nat) : XG := fun e => match e[i]? with
  | some (some d) => .ok (fz d) (e.set i (some (fz d)))
  | _ => .bad
/-- a name's value, when it is read for the last time -/
def xMove (i : Nat) : XG := fun e => match e[i]? with
  | some (some d) => .ok d (e.set i none)
  | _ => .bad
def xIf (c f g : XG) : XG := fun e => match c e with
  | .ok (.bl true) e1 => f e1
  | .ok (.bl false) e1 => g e1
  | .ok _ _ => .bad
  | .exc c ns fs e1 => .exc c ns fs e1
  | .bad => .bad
def xAnd (f g : XG) : XG := xIf f g (xC (.bl false))
def xOr (f g : XG) : XG := xIf f (xC (.bl true)) g
def bNot : D → Option D
  | .bl b => some (.bl (!b))
  | _ => none

theorem sx_op {r : R2} {op : D → D → Option D} {ta tb : TE} {f g : XG} (ho : OpD Γ r op) (hf : SemX Γ W ta f) (hg : SemX Γ W tb g) : SemX Γ W (tOp r ta tb) (x2 op f g) := by
  intro Z H σ e F Q E P
  refine hf.sh E ?_
  unfold x2 at P
  cases q1 : f e with
  | bad => rw [q1] at P; exact P
  | exc c ns fs e1 => rw [q1] at P; exact P
  | ok d e1 =>
    rw [q1] at P
    intro Z1 H1 v F1 E1 R1 S1
    refine hg.sh E1 ?_
    cases q2 : g e1 with
    | bad => simp only [q2] at P; exact P
    | exc c ns fs e2 => simp only [q2] at P; exact EPost.after S1 P
    | ok d' e2 =>
      intro Z2 H2 w F2 E2 R2 S2
      simp only [q2] at P
      cases q3 : op (fz d) (fz d') with
      | none => simp only [q3] at P; exact P.elim
      | some y =>
        simp only [q3] at P
        refine ho E2.zh (R1.mono S2.zext (fun a ha => absurd ha (by simp))) R2 q3 fun H3 u Fd ex o n fr => ?_
        exact P Z2 H3 u Fd F2 (E2.alloc ex) o (E2.nodup fr n) (fun a ha => (E2.fresh (fr a ha)).2) ((S1.trans S2).trans (Step.alloc ex fr))
theorem sx_un {r : V → Hp → VK → Prop} {op : D → Option D} {ta : TE} {f : XG} (ho : UnD Γ r op) (hf : SemX Γ W ta f) : SemX Γ W (tUn r ta) (x1 op f) := by
  intro Z H σ e F Q E P
  refine hf.sh E ?_
  unfold x1 at P
  cases q1 : f e with
  | bad => rw [q1] at P; exact P
  | exc c ns fs e1 => rw [q1] at P; exact P
  | ok d e1 =>
    rw [q1] at P
    intro Z1 H1 v F1 E1 R1 S1
    cases q3 : op (fz d) with
    | none => simp only [q3] at P; exact P.elim
    | some y =>
      simp only [q3] at P
      refine ho E1.zh R1 q3 fun H3 u Fd ex o n fr => ?_
      exact P Z1 H3 u Fd F1 (E1.alloc ex) o (E1.nodup fr n) (fun a ha => (E1.fresh (fr a ha)).2) (S1.trans (Step.alloc ex fr))
theorem sa_nil : SemA Γ W tNil aNil := fun Z H σ e F Q E P => P Z H [] F E RpL.nil Step.refl
theorem sa_cons {ta : TE} {tr : TA} {f : XG} {g : AG} (hf : SemX Γ W ta f) (hg : SemA Γ W tr g) : SemA Γ W (tCons ta tr) (aCons f g) := by
  intro Z H σ e F Q E P
  refine hf.sh E ?_
  unfold aCons at P
  cases q1 : f e with
  | bad => rw [q1] at P; exact P
  | exc c ns fs e1 => rw [q1] at P; exact P
  | ok d e1 =>
    rw [q1] at P
    intro Z1 H1 v F1 E1 R1 S1
    refine hg Z1 H1 σ e1 F1 _ E1 ?_
    cases q2 : g e1 with
    | bad => simp only [q2] at P; exact P
    | exc c ns fs e2 => simp only [q2] at P; exact EPost.after S1 P
    | ok ds e2 =>
      simp only [q2] at P
      intro Z2 H2 vs F2 E2 R2 S2
      exact P Z2 H2 (v :: vs) F2 E2 (RpL.cons (R1.mono S2.zext (fun a ha => absurd ha (by simp))) R2) (S1.trans S2)
theorem sx_call {r : List V → Hp → VK → Prop} {op : List D → Option D} {ta : TA} {f : AG} (ho : CallD Γ r op) (hf : SemA Γ W ta f) : SemX Γ W (tCB r ta) (xN op f) := by
  intro Z H σ e F Q E P
  refine hf Z H σ e F _ E ?_
  unfold xN at P
  cases q1 : f e with
  | bad => rw [q1] at P; exact P
  | exc c ns fs e1 => rw [q1] at P; exact P
  | ok ds e1 =>
    rw [q1] at P
    intro Z1 H1 vs F1 E1 R1 S1
    cases q3 : op ds with
    | none => simp only [q3] at P; exact P.elim
    | some y =>
      simp only [q3] at P
      refine ho E1.zh R1 q3 fun H3 u Fd ex o n fr => ?_
      exact P Z1 H3 u Fd F1 (E1.alloc ex) o (E1.nodup fr n) (fun a ha => (E1.fresh (fr a ha)).2) (S1.trans (Step.alloc ex fr))
theorem sx_const {v : V} {d : D} (h : ∀ Z, Rp Γ d Z v) : SemX Γ W (tC v) (xC d) := fun Z H σ e F Q E P =>
  P Z H v [] F E (h Z).own E.nd (fun a ha => absurd ha (by simp)) Step.refl
theorem sx_var {i : Nat} : SemX Γ W (tVar i) (xVar i) := by
  intro Z H σ e F Q E P
  unfold xVar at P
  cases q : e[i]? with
  | none => simp only [q] at P; exact P.elim
  | some x =>
    cases x with
    | none => simp only [q] at P; exact P.elim
    | some d =>
      simp only [q] at P
      obtain ⟨y, G1, G2, h1, ⟨v, rfl, h2⟩, h3, h4⟩ := E.own.at q
      have z1 : ∀ a ∈ G1, Z a = none := fun a ha => E.dis a (h3.mem_iff.mpr (List.mem_append_left _ ha))
      have ex := addZ_ex (H := H) z1
      have n := (h3.nodup_iff).mp E.nd
      obtain ⟨n1, n2, n3⟩ := List.nodup_append.mp n
      have r : Rp Γ (fz d) (addZ Z H G1) v := h2.fz ex (fun a ha o h => by rw [addZ_in ha]; exact h) _
      refine ⟨v, h1, P (addZ Z H G1) H v [] G2 ⟨addZ_sub E.zh, ?_, n2, fun a ha => ?_, addZ_nt E.ntz h2.nts, E.tabs⟩ r.own n2 (fun a ha => absurd ha (by simp)) ⟨fun a o _ h _ => h, ex, fun a h => .inl (h3.mem_iff.mpr (List.mem_append_right _ h)), fun a h => ?_, fun a h => h⟩⟩
      · have := h4 (addZ Z H G1) H (some (fz d)) (some v) [] ex (fun a _ o _ h => h) ⟨v, rfl, r.own⟩
        have e0 : σ.set i (some v) = σ := by
          have hl : i < σ.length := (List.getElem?_eq_some_iff.mp h1).1
          exact List.ext_getElem? fun j => by
            by_cases hj : i = j
            · subst hj; rw [List.getElem?_set_self hl, h1]
            · rw [List.getElem?_set_ne hj]
        rw [e0] at this
        exact this
      · rw [addZ_out fun y => n3 a y a ha rfl]; exact E.dis a (h3.mem_iff.mpr (List.mem_append_right _ ha))
      · by_cases y : a ∈ G1
        · exact .inr (.inl (h3.mem_iff.mpr (List.mem_append_left _ y)))
        · rw [addZ_out y] at h; exact .inl h
theorem sx_move {i : Nat} : SemX Γ W (tVar i) (xMove i) := by
  intro Z H σ e F Q E P
  unfold xMove at P
  cases q : e[i]? with
  | none => simp only [q] at P; exact P.elim
  | some x =>
    cases x with
    | none => simp only [q] at P; exact P.elim
    | some d =>
      simp only [q] at P
      obtain ⟨y, G1, G2, h1, ⟨v, rfl, h2⟩, h3, h4⟩ := E.own.at q
      have n := (h3.nodup_iff).mp E.nd
      obtain ⟨n1, n2, n3⟩ := List.nodup_append.mp n
      refine ⟨v, h1, P Z H v G1 G2 ⟨E.zh, ?_, n2, fun a ha => E.dis a (h3.mem_iff.mpr (List.mem_append_right _ ha)), E.ntz, E.tabs⟩ h2 n (fun a ha => E.dis a (h3.mem_iff.mpr (List.mem_append_left _ ha)))
        ⟨fun a o _ h _ => h, Ex.refl _, fun a h => .inl (h3.mem_iff.mpr h), fun a h => .inl h, fun a h => h⟩⟩
      have := h4 Z H none (some v) [] (Ex.refl _) (fun a _ o _ h => h) rfl
      have e0 : σ.set i (some v) = σ := by
        have hl : i < σ.length := (List.getElem?_eq_some_iff.mp h1).1
        exact List.ext_getElem? fun j => by
          by_cases hj : i = j
          · subst hj; rw [List.getElem?_set_self hl, h1]
          · rw [List.getElem?_set_ne hj]
      rw [e0] at this
      exact this

/-! ### tests -/
theorem st_val {t : TE} {f : XG} (hf : SemX Γ W t f) : SemT Γ W (tB t) f := by
  intro Z H σ e F Q E P
  refine hf Z H σ e F _ E ?_
  cases q : f e with
  | bad => rw [q] at P; exact P
  | exc c ns fs e1 => rw [q] at P; exact P
  | ok d e1 =>
    rw [q] at P
    intro Z' H' v Fd F' E' o n z s
    cases d <;> first | exact P.elim | skip
    rename_i b
    obtain ⟨rfl, rfl⟩ := o
    exact ⟨b, rfl, P Z' H' F' E' s⟩
theorem st_test {t : TE} {f : XG} (hf : SemX Γ W t f) : SemT Γ W (tTest t) f := st_val hf
theorem st_if {t u w : TT} {f g h : XG} (hf : SemT Γ W t f) (hg : SemT Γ W u g) (hh : SemT Γ W w h) : SemT Γ W (fun σ H Q => t σ H fun c H1 => if c = true then u σ H1 Q else w σ H1 Q) (xIf f g h) := by
  intro Z H σ e F Q E P
  refine hf Z H σ e F _ E ?_
  unfold xIf at P
  cases q : f e with
  | bad => rw [q] at P; exact P
  | exc c ns fs e1 => rw [q] at P; exact P
  | ok d e1 =>
    rw [q] at P
    cases d <;> first | exact P.elim | skip
    rename_i b
    intro Z1 H1 F1 E1 S1
    cases b with
    | true => exact hg Z1 H1 σ e1 F1 Q E1 (TPost.after S1 P)
    | false => exact hh Z1 H1 σ e1 F1 Q E1 (TPost.after S1 P)
theorem st_true {b : Bool} : SemT Γ W (fun _ H Q => Q b H) (xC (.bl b)) := fun Z H σ e F Q E P => P Z H F E Step.refl
theorem st_and {t u : TT} {f g : XG} (hf : SemT Γ W t f) (hg : SemT Γ W u g) : SemT Γ W (tAnd t u) (xAnd f g) := st_if hf hg st_true
theorem st_or {t u : TT} {f g : XG} (hf : SemT Γ W t f) (hg : SemT Γ W u g) : SemT Γ W (tOr t u) (xOr f g) := st_if hf st_true hg
theorem st_not {t : TT} {f : XG} (hf : SemT Γ W t f) : SemT Γ W (tNot t) (x1 bNot f) := by
  intro Z H σ e F Q E P
  refine hf Z H σ e F _ E ?_
  unfold x1 at P
  cases q : f e with
  | bad => rw [q] at P; exact P
  | exc c ns fs e1 => rw [q] at P; exact P
  | ok d e1 =>
    rw [q] at P
    cases d <;> first | exact P.elim | skip
    rename_i b
    intro Z1 H1 F1 E1 S1
    exact P Z1 H1 F1 E1 S1
theorem sx_if {t : TT} {ta tb : TE} {c f g : XG} (hc : SemT Γ W t c) (hf : SemX Γ W ta f) (hg : SemX Γ W tb g) : SemX Γ W (tIf t ta tb) (xIf c f g) := by
  intro Z H σ e F Q E P
  refine hc Z H σ e F _ E ?_
  unfold xIf at P
  cases q : c e with
  | bad => rw [q] at P; exact P
  | exc c ns fs e1 => rw [q] at P; exact P
  | ok d e1 =>
    rw [q] at P
    cases d <;> first | exact P.elim | skip
    rename_i b
    intro Z1 H1 F1 E1 S1
    cases b with
    | true => exact hf Z1 H1 σ e1 F1 Q E1 (XPost.after S1 P)
    | false => exact hg Z1 H1 σ e1 F1 Q E1 (XPost.after S1 P)
end
end MV

namespace MV
open PySem PySem.Spec PyProof.Rows L2
/-! ### reading without giving away -/
/-- the slots of a mask alone, read only -/
def view : List Bool → Env → Env
  | _, [] => []
  | [], _ :: e => none :: view [] e
  | b :: m, x :: e => (if b then x.map fz else none) :: view m e
/-- the slots of a mask given away -/
def fzS : List Bool → Env → Env
  | _, [] => []
  | [], x :: e => x :: fzS [] e
  | b :: m, x :: e => (if b then x.map fz else x) :: fzS m e
def xBor (m : List Bool) (g : XG) : XG := fun e => match g (view m e) with
  | .ok d _ => if cl d then .ok d e else .ok d (fzS m e)
  | .exc c ns fs _ => .exc c ns fs (fzS m e)
  | .bad => .bad
section
variable {Γ : Gm} {W : WX} {σ σ' : St} {Z H Z1 H1 : Hp} {F F1 : List Addr} {e : Env}
theorem fzS_nil : ∀ e : Env, fzS [] e = e
  | [] => rfl
  | x :: e => by rw [fzS, fzS_nil e]
theorem view_none : ∀ {e : Env} {Z H : Hp} {σ : St} {F : List Addr}, OwnE Γ e Z H σ F → ∀ Z' H', OwnE Γ (view [] e) Z' H' σ []
  | [], _, _, _, _, ⟨h, _⟩, _, _ => ⟨h, rfl⟩
  | none :: e, _, _, _, _, ⟨x, r, e1, e2⟩, Z', H' => ⟨x, r, e1, view_none e2 Z' H'⟩
  | some d :: e, _, _, _, _, ⟨v, r, F1, F2, e1, e2, e3, e4⟩, Z', H' => ⟨some v, r, e1, view_none e3 Z' H'⟩
theorem OwnE.view : ∀ {m : List Bool} {e : Env} {Z H : Hp} {σ : St} {F : List Addr}, OwnE Γ e Z H σ F →
    ∃ G R, F.Perm (G ++ R) ∧ ∀ Z' H', Ex Z Z' → (∀ a ∈ G, ∀ o, H a = some o → Z' a = some o) → (∀ a ∈ R, ∀ o, nt o → H a = some o → H' a = some o) →
      OwnE Γ (view m e) Z' H' σ [] ∧ OwnE Γ (fzS m e) Z' H' σ R
  | [], e, Z, H, σ, F, h => ⟨[], F, .refl _, fun Z' H' z _ k => ⟨view_none h _ _, by rw [fzS_nil]; exact h.mono z k⟩⟩
  | b :: m, [], _, _, _, _, ⟨h, e⟩ => by
    subst e
    exact ⟨[], [], .refl _, fun Z' H' z k1 k2 => ⟨⟨h, rfl⟩, ⟨h, rfl⟩⟩⟩
  | b :: m, none :: e, _, _, _, _, ⟨x, r, e1, e2⟩ => by
    obtain ⟨G, R, p, k⟩ := OwnE.view (m := m) e2
    refine ⟨G, R, p, fun Z' H' z k1 k2 => ?_⟩
    obtain ⟨a, b'⟩ := k Z' H' z k1 k2
    cases b <;> exact ⟨⟨x, r, e1, a⟩, ⟨x, r, e1, b'⟩⟩
  | false :: m, some d :: e, _, _, _, F, ⟨v, r, F1, F2, e1, e2, e3, e4⟩ => by
    obtain ⟨G, R, p, k⟩ := OwnE.view (m := m) e3
    refine ⟨G, F1 ++ R, ?_, fun Z' H' z k1 k2 => ?_⟩
    · refine e4.trans ((List.Perm.append_left F1 p).trans ?_)
      rw [← List.append_assoc, ← List.append_assoc]
      exact List.Perm.append_right R List.perm_append_comm
    obtain ⟨a, b'⟩ := k Z' H' z k1 (fun a ha => k2 a (List.mem_append_right _ ha))
    exact ⟨⟨some v, r, e1, a⟩, ⟨v, r, F1, R, e1, e2.mono z (fun a ha => k2 a (List.mem_append_left _ ha)), b', .refl _⟩⟩
  | true :: m, some d :: e, _, _, _, F, ⟨v, r, F1, F2, e1, e2, e3, e4⟩ => by
    obtain ⟨G, R, p, k⟩ := OwnE.view (m := m) e3
    refine ⟨F1 ++ G, R, ?_, fun Z' H' z k1 k2 => ?_⟩
    · refine e4.trans ?_
      rw [List.append_assoc]
      exact List.Perm.append_left F1 p
    obtain ⟨a, b'⟩ := k Z' H' z (fun a ha => k1 a (List.mem_append_right _ ha)) k2
    have o : ∀ H'', Own Γ (fz d) Z' H'' v [] := e2.fz z (fun a ha => k1 a (List.mem_append_left _ ha))
    exact ⟨⟨v, r, [], [], e1, o _, a, .refl _⟩, ⟨v, r, [], R, e1, o _, b', .refl _⟩⟩
/-- .. the whole of it -/
theorem EOK.view (m : List Bool) (E : EOK Γ Z H σ e F) : ∃ G R, (∀ a, a ∈ F ↔ a ∈ G ∨ a ∈ R) ∧ EOK Γ (addZ Z H G) H σ (view m e) [] ∧
    ∀ Z' H', Ex (addZ Z H G) Z' → Ex Z' H' → ExN H H' → (∀ a, Z' a ≠ none → addZ Z H G a ≠ none ∨ H a = none) → (∀ a o, Z' a = some o → nt o) → LamX.Tabs Γ.T H' → (∀ a, H' a = none → H a = none) → EOK Γ Z' H' σ (fzS m e) R ∧ Step H Z F H' Z' R := by
  obtain ⟨G, R, p, k⟩ := E.own.view (m := m)
  have n := (p.nodup_iff).mp E.nd
  obtain ⟨n1, n2, n3⟩ := List.nodup_append.mp n
  have z1 : ∀ a ∈ G, Z a = none := fun a ha => E.dis a (p.mem_iff.mpr (List.mem_append_left _ ha))
  have ex := addZ_ex (H := H) z1
  have k1 : ∀ a ∈ G, ∀ o, H a = some o → addZ Z H G a = some o := fun a ha o h => by rw [addZ_in ha]; exact h
  have hm : ∀ a, a ∈ F ↔ a ∈ G ∨ a ∈ R := fun a => by rw [p.mem_iff, List.mem_append]
  have nG : ∀ a ∈ G, ∀ o, H a = some o → nt o := fun a ha o h => E.own.nts a ((hm a).mpr (.inl ha)) o h
  refine ⟨G, R, hm, ⟨addZ_sub E.zh, (k _ _ ex k1 (fun a _ o _ h => h)).1, List.nodup_nil, fun a ha => absurd ha (by simp), addZ_nt E.ntz nG, E.tabs⟩, fun Z' H' x1 x2 x3 x4 x5 x6 x7 => ?_⟩
  refine ⟨⟨x2, (k Z' H' (ex.trans x1) (fun a ha o h => x1 a o (k1 a ha o h)) (fun a ha o n h => x3 a o n h)).2, n2, fun a ha => ?_, x5, x6⟩, ⟨fun a o n h _ => x3 a o n h, ex.trans x1, fun a h => .inl ((hm a).mpr (.inr h)), fun a h => ?_, x7⟩⟩
  · cases q : Z' a with
    | none => rfl
    | some o =>
      rcases x4 a (by rw [q]; exact fun z => nomatch z) with y | y
      · rw [addZ_out fun g => n3 a g a ha rfl] at y
        exact absurd (E.dis a ((hm a).mpr (.inr ha))) y
      · obtain ⟨u, hu⟩ := E.own.dom a ((hm a).mpr (.inr ha))
        rw [hu] at y; cases y
  · rcases x4 a h with y | y
    · by_cases g : a ∈ G
      · exact .inr (.inl ((hm a).mpr (.inl g)))
      · rw [addZ_out g] at y; exact .inl y
    · exact .inr (.inr y)
theorem sx_bor {t : TE} {g : XG} {m : List Bool} (hg : SemX Γ W t g) : SemX Γ W t (xBor m g) := by
  intro Z H σ e F Q E P
  obtain ⟨G, R, hm, Ev, k⟩ := E.view m
  refine hg _ H σ _ [] Q Ev ?_
  unfold xBor at P
  cases q : g (view m e) with
  | bad => rw [q] at P; exact P
  | exc c ns fs e1 =>
    rw [q] at P
    intro Z' H' F' dd E' s x
    obtain ⟨a, b⟩ := k Z' H' s.zext E'.zh (fun a o n h => s.frame a o n h (by simp)) (fun a h => (s.zon a h).imp id fun z => z.elim (fun z => absurd z (by simp)) id) E'.ntz E'.tabs s.dom
    exact P Z' H' R dd a b x
  | ok d e1 =>
    rw [q] at P
    intro Z' H' v Fd F' E' o n z s
    have exH : ExN H H' := fun a o n h => s.frame a o n h (by simp)
    have fr : ∀ a ∈ Fd, H a = none := fun a ha => (s.own a (List.mem_append_left _ ha)).elim (fun z => absurd z (by simp)) id
    have nd := (List.nodup_append.mp n).1
    by_cases c : cl d = true
    · simp only [c, if_true] at P
      exact P Z H' v Fd F (E.allocN exH E'.tabs) (o.cl c) (E.nodup fr nd) (fun a ha => (E.fresh (fr a ha)).2) (Step.allocN exH s.dom fr)
    · simp only [if_neg c] at P
      obtain ⟨a, b⟩ := k Z' H' s.zext E'.zh exH (fun a h => (s.zon a h).imp id fun z => z.elim (fun z => absurd z (by simp)) id) E'.ntz E'.tabs s.dom
      have rd : ∀ a ∈ R, ∃ o, H a = some o := fun a ha => E.own.dom a ((hm a).mpr (.inr ha))
      refine P Z' H' v Fd R a o (List.nodup_append.mpr ⟨nd, a.nd, fun x hx y hy w => ?_⟩) z ⟨b.frame, b.zext, fun a h => (List.mem_append.mp h).elim (fun h => .inr (fr a h)) (fun h => b.own a h), b.zon, b.dom⟩
      subst w
      obtain ⟨o, ho⟩ := rd x hy
      rw [fr x hx] at ho; cases ho

/-! ### what a def does with data -/
inductive FO where
  | ok (r s : D)
  | exc (c : Nat) (ns : List Str) (fs : List D) (s : D)
  | bad
abbrev DF := List D → FO
def OwnS (Γ : Gm) (io : Bool) (s : D) (Z H : Hp) (vs : List V) (F : List Addr) : Prop :=
  match io with
  | true => ∃ v r, vs = v :: r ∧ Own Γ s Z H v F
  | false => F = []
def FPost (Γ : Gm) (io : Bool) (vs : List V) (Z H : Hp) (F : List Addr) (Q : VK) (E : XK) : FO → Prop
  | .ok r s => ∀ Z' H' v Fr Fs, Ex Z' H' → (∀ a o, Z' a = some o → nt o) → LamX.Tabs Γ.T H' → Own Γ r Z' H' v Fr → OwnS Γ io s Z' H' vs Fs → (Fr ++ Fs).Nodup → (∀ a ∈ Fr ++ Fs, Z' a = none) → Step H Z F H' Z' (Fr ++ Fs) → Q v H'
  | .exc c ns fs s => ∀ Z' H' Fs dd, Ex Z' H' → (∀ a o, Z' a = some o → nt o) → LamX.Tabs Γ.T H' → OwnS Γ io s Z' H' vs Fs → Fs.Nodup → (∀ a ∈ Fs, Z' a = none) → Step H Z F H' Z' Fs → ExcAt Γ Z' H' ns fs dd → E (.ref (Γ.C c)) (some dd) H'
  | .bad => False
def ArgsD (Γ : Gm) (io : Bool) (ds : List D) (Z H : Hp) (vs : List V) (F : List Addr) : Prop :=
  match io with
  | true => ∃ d r v s, ds = d :: r ∧ vs = v :: s ∧ Own Γ d Z H v F ∧ RpL Γ r Z s
  | false => RpL Γ ds Z vs ∧ F = []
/-- the promise of a def that does φ; n parameters; io: the first one is changed -/
def spD (Γ : Gm) (n : Nat) (io : Bool) (φ : DF) : Sp := fun vs H Q E => vs.length = n ∧ ∃ ds Z F, Ex Z H ∧ F.Nodup ∧ (∀ a ∈ F, Z a = none) ∧ (∀ a o, Z a = some o → nt o) ∧ LamX.Tabs Γ.T H ∧ ArgsD Γ io ds Z H vs F ∧ FPost Γ io vs Z H F Q E (φ ds)
/-- φ does no less than ψ -/
def Le (ψ φ : DF) : Prop := ∀ ds, ψ ds ≠ .bad → φ ds = ψ ds
theorem spD_mono {n : Nat} {io : Bool} {φ ψ : DF} (h : Le ψ φ) {vs H Q E} (p : spD Γ n io ψ vs H Q E) : spD Γ n io φ vs H Q E := by
  obtain ⟨l, ds, Z, F, a, b, c, d, d2, d3, k⟩ := p
  refine ⟨l, ds, Z, F, a, b, c, d, d2, d3, ?_⟩
  rw [h ds (fun z => by rw [z] at k; exact k)]
  exact k
def xCall (n : Nat) (φ : DF) (f : AG) : XG := fun e => match f e with
  | .ok ds e1 => if ds.length = n then match φ ds with
    | .ok r _ => .ok r e1
    | .exc c ns fs _ => .exc c ns fs e1
    | .bad => .bad else .bad
  | .exc c ns fs e1 => .exc c ns fs e1
  | .bad => .bad
/-- the name in slot i is changed by the call -/
def xCallIO (i n : Nat) (φ : DF) (f : AG) : XG := fun e => match e[i]? with
  | some (some _) => (match f e with
  | .ok ds e1 => if ds.length + 1 = n then match e1[i]? with
    | some (some d) => match φ (d :: ds) with
      | .ok r s => .ok r (e1.set i (some s))
      | .exc c ns fs s => .exc c ns fs (e1.set i (some s))
      | .bad => .bad
    | _ => .bad else .bad
  | .exc c ns fs e1 => .exc c ns fs e1
  | .bad => .bad)
  | _ => .bad
theorem sx_calld {n : Nat} {φ : DF} {ta : TA} {f : AG} (hf : SemA Γ W ta f) : SemX Γ W (tCallSD (spD Γ n false φ) [] (WE W) ta) (xCall n φ f) := by
  intro Z H σ e F Q E P
  refine hf Z H σ e F _ E ?_
  unfold xCall at P
  cases q1 : f e with
  | bad => rw [q1] at P; exact P
  | exc c ns fs e1 => rw [q1] at P; exact P
  | ok ds e1 =>
    rw [q1] at P
    intro Z1 H1 vs F1 E1 R1 S1
    by_cases hl : ds.length = n
    · simp only [if_pos hl] at P
      rw [List.append_nil]
      refine ⟨by rw [R1.len]; exact hl, ds, Z1, [], E1.zh, List.nodup_nil, fun a ha => absurd ha (by simp), E1.ntz, E1.tabs, ⟨R1, rfl⟩, ?_⟩
      have keep : ∀ {Z' H' Fr}, Ex Z' H' → (∀ a o, Z' a = some o → nt o) → LamX.Tabs Γ.T H' → Step H1 Z1 [] H' Z' Fr → EOK Γ Z' H' σ e1 F1 ∧ Step H1 Z1 F1 H' Z' (Fr ++ F1) := fun {Z' H' Fr} x xn xt s => by
        refine ⟨⟨x, E1.own.mono s.zext (fun a _ o n h => s.frame a o n h (by simp)), E1.nd, fun a ha => ?_, xn, xt⟩, ⟨fun a o n h _ => s.frame a o n h (by simp), s.zext, fun a h => ?_, fun a h => (s.zon a h).imp id fun z => .inr (z.elim (fun z => absurd z (by simp)) id), s.dom⟩⟩
        · cases q : Z' a with
          | none => rfl
          | some o =>
            rcases s.zon a (by rw [q]; exact fun z => nomatch z) with y | y | y
            · exact absurd (E1.dis a ha) y
            · exact absurd y (by simp)
            · obtain ⟨u, hu⟩ := E1.own.dom a ha
              rw [hu] at y; cases y
        · exact (List.mem_append.mp h).elim (fun h => .inr ((s.own a h).elim (fun z => absurd z (by simp)) id)) .inl
      cases q2 : φ ds with
      | bad => simp only [q2] at P; exact P
      | exc c ns fs s =>
        simp only [q2] at P
        intro Z' H' Fs dd x xn xt os n z st ea
        have os' : Fs = [] := os
        subst os'
        obtain ⟨a, b⟩ := keep x xn xt st
        exact P Z' H' F1 dd a (S1.trans b) ea
      | ok r s =>
        simp only [q2] at P
        intro Z' H' v Fr Fs x xn xt o os n z st
        have os' : Fs = [] := os
        subst os'
        rw [List.append_nil] at n z st
        obtain ⟨a, b⟩ := keep x xn xt st
        exact P Z' H' v Fr F1 a o (E1.nodup (fun a ha => (st.own a ha).elim (fun z => absurd z (by simp)) id) n) z (S1.trans b)
    · simp only [if_neg hl] at P; exact P.elim
theorem set_same {σ : St} {i : Nat} {y : Option V} (h : σ[i]? = some y) : σ.set i y = σ := by
  have hl : i < σ.length := (List.getElem?_eq_some_iff.mp h).1
  exact List.ext_getElem? fun j => by
    by_cases hj : i = j
    · subst hj; rw [List.getElem?_set_self hl, h]
    · rw [List.getElem?_set_ne hj]
theorem sx_callio {i n : Nat} {φ : DF} {ta : TA} {f : AG} (hf : SemA Γ W ta f) : SemX Γ W (tCallSD (spD Γ n true φ) [] (WE W) (tCons (tVar i) ta)) (xCallIO i n φ f) := by
  intro Z H σ e F Q E P
  unfold xCallIO at P
  cases q0 : e[i]? with
  | none => simp only [q0] at P; exact P.elim
  | some x0 =>
    cases x0 with
    | none => simp only [q0] at P; exact P.elim
    | some d0 =>
      simp only [q0] at P
      obtain ⟨y0, _, _, hy0, ⟨v, ey0, _⟩, _⟩ := E.own.at q0
      subst ey0
      refine ⟨v, hy0, ?_⟩
      have hv := hy0
      refine hf Z H σ e F _ E ?_
      cases q1 : f e with
      | bad => rw [q1] at P; exact P
      | exc c ns fs e1 => rw [q1] at P; exact P
      | ok ds e1 =>
        rw [q1] at P
        intro Z1 H1 vs F1 E1 R1 S1
        by_cases hl : ds.length + 1 = n
        · simp only [if_pos hl] at P
          cases q2 : e1[i]? with
          | none => simp only [q2] at P; exact P.elim
          | some x =>
            cases x with
            | none => simp only [q2] at P; exact P.elim
            | some d =>
              simp only [q2] at P
              obtain ⟨y, G1, G2, h1, ⟨v', e1', h2⟩, h3, h4⟩ := E1.own.at q2
              rw [hv] at h1
              have ev : v' = v := by
                rw [e1'] at h1
                exact (Option.some.inj (Option.some.inj h1)).symm
              subst ev
              have n0 := (h3.nodup_iff).mp E1.nd
              obtain ⟨n1, n2, n3⟩ := List.nodup_append.mp n0
              have d1 : ∀ a ∈ G1, Z1 a = none := fun a ha => E1.dis a (h3.mem_iff.mpr (List.mem_append_left _ ha))
              have d2 : ∀ a ∈ G2, Z1 a = none := fun a ha => E1.dis a (h3.mem_iff.mpr (List.mem_append_right _ ha))
              have k2 : ∀ a ∈ G2, a ∉ G1 := fun a ha z => n3 a z a ha rfl
              have dm : ∀ a ∈ G2, ∃ o, H1 a = some o := fun a ha => E1.own.dom a (h3.mem_iff.mpr (List.mem_append_right _ ha))
              rw [List.append_nil]
              refine ⟨by rw [List.length_cons, R1.len]; exact hl, d :: ds, Z1, G1, E1.zh, n1, d1, E1.ntz, E1.tabs, ⟨d, ds, v', vs, rfl, rfl, h2, R1⟩, ?_⟩
              have keep : ∀ {Z' H' Fr Fs s}, Ex Z' H' → (∀ a o, Z' a = some o → nt o) → LamX.Tabs Γ.T H' → Own Γ s Z' H' v' Fs → (Fr ++ Fs).Nodup → (∀ a ∈ Fr ++ Fs, Z' a = none) → Step H1 Z1 G1 H' Z' (Fr ++ Fs) →
                  EOK Γ Z' H' σ (e1.set i (some s)) (Fs ++ G2) ∧ Step H1 Z1 F1 H' Z' (Fr ++ (Fs ++ G2)) ∧ (Fr ++ (Fs ++ G2)).Nodup := fun {Z' H' Fr Fs s} x xn xt o n z st => by
                have k3 : ∀ a ∈ Fr ++ Fs, a ∉ G2 := fun a ha hb => (st.own a ha).elim (fun z => k2 a hb z) fun z => by
                  obtain ⟨u, hu⟩ := dm a hb
                  rw [hu] at z; cases z
                have nn : ((Fr ++ Fs) ++ G2).Nodup := List.nodup_append.mpr ⟨n, n2, fun a ha b hb w => k3 a ha (w ▸ hb)⟩
                rw [List.append_assoc] at nn
                have ow := h4 Z' H' (some s) (some v') Fs st.zext (fun a ha o n h => st.frame a o n h (k2 a ha)) ⟨v', rfl, o⟩
                rw [set_same hv] at ow
                have dz : ∀ a ∈ G2, Z' a = none := fun a ha => by
                  cases q : Z' a with
                  | none => rfl
                  | some o =>
                    rcases st.zon a (by rw [q]; exact fun z => nomatch z) with y | y | y
                    · exact absurd (d2 a ha) y
                    · exact absurd y (k2 a ha)
                    · obtain ⟨u, hu⟩ := dm a ha
                      rw [hu] at y; cases y
                refine ⟨⟨x, ow, (List.nodup_append.mp nn).2.1, fun a ha => (List.mem_append.mp ha).elim (fun h => z a (List.mem_append_right _ h)) (dz a), xn, xt⟩, ⟨fun a o n h hn => st.frame a o n h fun z => hn (h3.mem_iff.mpr (List.mem_append_left _ z)), st.zext, fun a h => ?_, fun a h => (st.zon a h).imp id fun z => z.imp (fun y => h3.mem_iff.mpr (List.mem_append_left _ y)) id, st.dom⟩, nn⟩
                rw [← List.append_assoc] at h
                rcases List.mem_append.mp h with h | h
                · exact (st.own a h).imp (fun y => h3.mem_iff.mpr (List.mem_append_left _ y)) id
                · exact .inl (h3.mem_iff.mpr (List.mem_append_right _ h))
              cases q3 : φ (d :: ds) with
              | bad => simp only [q3] at P; exact P
              | exc c ns fs s =>
                simp only [q3] at P
                intro Z' H' Fs dd x xn xt os nn z st ea
                obtain ⟨w, r, ew, os⟩ := os
                cases ew
                obtain ⟨a, b, _⟩ := keep (Fr := []) x xn xt os nn z st
                exact P Z' H' _ dd a (S1.trans b) ea
              | ok r s =>
                simp only [q3] at P
                intro Z' H' u Fr Fs x xn xt o os nn z st
                obtain ⟨w, r', ew, os⟩ := os
                cases ew
                obtain ⟨a, b, c⟩ := keep x xn xt os nn z st
                exact P Z' H' u Fr _ a o c (fun a ha => z a (List.mem_append_left _ ha)) (S1.trans b)
        · simp only [if_neg hl] at P; exact P.elim
end
end MV

namespace MV
open PySem PySem.Spec PyProof.Rows L2
/-! ### statements -/
def sNx : SG := fun e => .nx e
def sBk : SG := fun e => .bk e
def sCt : SG := fun e => .ct e
def sRtN : SG := fun e => .rt .non e
def sSeq (f g : SG) : SG := fun e => match f e with
  | .nx e1 => g e1
  | o => o
def sDrop (f : XG) : SG := fun e => match f e with
  | .ok _ e1 => .nx e1
  | .exc c ns fs e1 => .exc c ns fs e1
  | .bad => .bad
def sRt (f : XG) : SG := fun e => match f e with
  | .ok d e1 => .rt d e1
  | .exc c ns fs e1 => .exc c ns fs e1
  | .bad => .bad
def sIf (c : XG) (f g : SG) : SG := fun e => match c e with
  | .ok (.bl true) e1 => f e1
  | .ok (.bl false) e1 => g e1
  | .ok _ _ => .bad
  | .exc c ns fs e1 => .exc c ns fs e1
  | .bad => .bad
/-- a value goes to a target -/
abbrev TGt := D → Env → Option Env
def gNm (i : Nat) : TGt := fun d e => if i < e.length then some (e.set i (some d)) else none
def gTs : List Nat → List D → Env → Option Env
  | [], [], e => some e
  | i :: is, d :: ds, e => if i < e.length then gTs is ds (e.set i (some d)) else none
  | _, _, _ => none
def gTp (is : List Nat) : TGt := fun d e => match d with
  | .nd _ .tup ds => gTs is ds e
  | _ => none
def sAsg (f : XG) (g : TGt) : SG := fun e => match f e with
  | .ok d e1 => match g d e1 with
    | some e2 => .nx e2
    | none => .bad
  | .exc c ns fs e1 => .exc c ns fs e1
  | .bad => .bad
def runFor (g : TGt) (b : SG) : List D → Env → SO
  | [], e => .nx e
  | d :: ds, e => match g d e with
    | none => .bad
    | some e1 => match b e1 with
      | .nx e2 => runFor g b ds e2
      | .ct e2 => runFor g b ds e2
      | .bk e2 => .nx e2
      | .rt r e2 => .rt r e2
      | .exc c ns fs e2 => .exc c ns fs e2
      | .bad => .bad
def sFor (f : AG) (g : TGt) (b : SG) : SG := fun e => match f e with
  | .ok ds e1 => runFor g b ds e1
  | .exc c ns fs e1 => .exc c ns fs e1
  | .bad => .bad
def runWhile (c : XG) (b : SG) : Nat → Env → SO
  | 0, _ => .bad
  | n + 1, e => match c e with
    | .ok (.bl true) e1 => match b e1 with
      | .nx e2 => runWhile c b n e2
      | .ct e2 => runWhile c b n e2
      | .bk e2 => .nx e2
      | .rt r e2 => .rt r e2
      | .exc c ns fs e2 => .exc c ns fs e2
      | .bad => .bad
    | .ok (.bl false) e1 => .nx e1
    | .ok _ _ => .bad
    | .exc c ns fs e1 => .exc c ns fs e1
    | .bad => .bad
def sWhile (n : Env → Nat) (c : XG) (b : SG) : SG := fun e => runWhile c b (n e) e
/-- a scalar -/
def isS : D → Bool
  | .int _ => true
  | .str _ => true
  | .bl _ => true
  | .non => true
  | _ => false
def sAug (i : Nat) (op : D → D → Option D) (f : XG) : SG := fun e => match e[i]? with
  | some (some d) => if isS d then match f e with
    | .ok d' e1 => match op d (fz d') with
      | some r => if i < e1.length then .nx (e1.set i (some r)) else .bad
      | none => .bad
    | .exc c ns fs e1 => .exc c ns fs e1
    | .bad => .bad else .bad
  | _ => .bad
section
variable {Γ : Gm} {W : WX} {io : Bool} {σ σ' : St} {Z H Z1 H1 : Hp} {F F1 : List Addr} {e : Env}
theorem ss_nx : SemS Γ W io tNext sNx := fun Z H σ e F D E P => P Z H σ F E Step.refl Pin.refl
theorem ss_bk : SemS Γ W io tBreak sBk := fun Z H σ e F D E P => P Z H σ F E Step.refl Pin.refl
theorem ss_ct : SemS Γ W io tCont sCt := fun Z H σ e F D E P => P Z H σ F E Step.refl Pin.refl
theorem ss_rtn : SemS Γ W io tRetN sRtN := fun Z H σ e F D E P => P Z H σ .non [] F E ⟨rfl, rfl⟩ E.nd (fun a ha => absurd ha (by simp)) Step.refl Pin.refl
theorem ss_seq {t u : TS} {f g : SG} (hf : SemS Γ W io t f) (hg : SemS Γ W io u g) : SemS Γ W io (tSeq t u) (sSeq f g) := by
  intro Z H σ e F D E P
  refine hf Z H σ e F _ E ?_
  unfold sSeq at P
  cases q : f e with
  | nx e1 =>
    rw [q] at P
    intro Z1 H1 σ1 F1 E1 S1 p1
    exact hg Z1 H1 σ1 e1 F1 D E1 (SPost.after S1 p1 P)
  | bk e1 => rw [q] at P; exact P
  | ct e1 => rw [q] at P; exact P
  | rt r e1 => rw [q] at P; exact P
  | exc c ns fs e1 => rw [q] at P; exact P
  | bad => rw [q] at P; exact P
theorem EPost.of {c ns fs} (p : ∀ Z' H' σ' F' dd, EOK Γ Z' H' σ' e F' → Step H Z F H' Z' F' → Pin io σ σ' → ExcAt Γ Z' H' ns fs dd → W (.ref (Γ.C c)) (some dd) σ' H') : EPost Γ W σ Z H F c ns fs e :=
  fun Z' H' F' dd E s x => p Z' H' σ F' dd E s Pin.refl x
theorem ss_drop {t : TE} {f : XG} (hf : SemX Γ W t f) : SemS Γ W io (tDrop t) (sDrop f) := by
  intro Z H σ e F D E P
  refine hf.sh E ?_
  unfold sDrop at P
  cases q : f e with
  | bad => rw [q] at P; exact P
  | exc c ns fs e1 => rw [q] at P; exact EPost.of P
  | ok d e1 => rw [q] at P; exact fun Z1 H1 v F1 E1 _ S1 => P Z1 H1 σ F1 E1 S1 Pin.refl
theorem ss_rt {t : TE} {f : XG} (hf : SemX Γ W t f) : SemS Γ W io (tRet t) (sRt f) := by
  intro Z H σ e F D E P
  refine hf Z H σ e F _ E ?_
  unfold sRt at P
  cases q : f e with
  | bad => rw [q] at P; exact P
  | exc c ns fs e1 => rw [q] at P; exact EPost.of P
  | ok d e1 => rw [q] at P; exact fun Z1 H1 v Fd F1 E1 o n z S1 => P Z1 H1 σ v Fd F1 E1 o n z S1 Pin.refl
theorem ss_if {c : TT} {t u : TS} {fc : XG} {f g : SG} (hc : SemT Γ W c fc) (hf : SemS Γ W io t f) (hg : SemS Γ W io u g) : SemS Γ W io (tIfS c t u) (sIf fc f g) := by
  intro Z H σ e F D E P
  refine hc Z H σ e F _ E ?_
  unfold sIf at P
  cases q : fc e with
  | bad => rw [q] at P; exact P
  | exc c ns fs e1 => rw [q] at P; exact EPost.of P
  | ok d e1 =>
    rw [q] at P
    cases d <;> first | exact P.elim | skip
    rename_i b
    intro Z1 H1 F1 E1 S1
    cases b with
    | true => exact hf Z1 H1 σ e1 F1 D E1 (SPost.after S1 Pin.refl P)
    | false => exact hg Z1 H1 σ e1 F1 D E1 (SPost.after S1 Pin.refl P)
/-- what a target does -/
def SemG (Γ : Gm) (io : Bool) (g : TG) (f : TGt) : Prop := ∀ Z H σ e F d x Fd e' Q, EOK Γ Z H σ e F → Own Γ d Z H x Fd → (Fd ++ F).Nodup → (∀ a ∈ Fd, Z a = none) → f d e = some e' →
  (∀ Z' H' σ' F', EOK Γ Z' H' σ' e' F' → Step H Z (Fd ++ F) H' Z' F' → Pin io σ σ' → Q σ' H') → g x σ H Q
/-- one slot stored -/
theorem EOK.put {i : Nat} {d : D} {v : V} {Fd : List Addr} (E : EOK Γ Z H σ e F) (o : Own Γ d Z H v Fd) (n : (Fd ++ F).Nodup) (z : ∀ a ∈ Fd, Z a = none) (hi : i < e.length) :
    ∃ F', EOK Γ Z H (σ.set i (some v)) (e.set i (some d)) F' ∧ (∀ a ∈ F', a ∈ Fd ++ F) := by
  obtain ⟨y, G1, G2, h1, h2, h3, h4⟩ := E.own.at (List.getElem?_eq_getElem hi)
  have n2 : (Fd ++ G2).Nodup := by
    refine List.nodup_append.mpr ⟨(List.nodup_append.mp n).1, (List.nodup_append.mp ((h3.nodup_iff).mp E.nd)).2.1, fun a ha b hb => ?_⟩
    exact (List.nodup_append.mp n).2.2 a ha b (h3.mem_iff.mpr (List.mem_append_right _ hb))
  refine ⟨Fd ++ G2, ⟨E.zh, h4 Z H (some d) (some v) Fd (Ex.refl _) (fun a _ o _ h => h) ⟨v, rfl, o⟩, n2, fun a ha => ?_, E.ntz, E.tabs⟩, fun a ha => ?_⟩
  · exact (List.mem_append.mp ha).elim (z a) fun h => E.dis a (h3.mem_iff.mpr (List.mem_append_right _ h))
  · exact (List.mem_append.mp ha).elim (List.mem_append_left _) fun h => List.mem_append_right _ (h3.mem_iff.mpr (List.mem_append_right _ h))
theorem Step.sub {H Z : Hp} {F F' : List Addr} (h : ∀ a ∈ F', a ∈ F) : Step H Z F H Z F' := ⟨fun _ _ _ h _ => h, Ex.refl _, fun a ha => .inl (h a ha), fun _ h => .inl h, fun _ h => h⟩
theorem sg_name {i : Nat} (hio : io = true → i ≠ 0) : SemG Γ io (gName i) (gNm i) := by
  intro Z H σ e F d x Fd e' Q E o n z h k
  unfold gNm at h
  by_cases hi : i < e.length
  · rw [if_pos hi] at h
    cases h
    obtain ⟨F', E', s⟩ := E.put o n z hi
    exact k Z H _ F' E' (Step.sub s) fun p => by rw [List.getElem?_set_ne (hio p)]
  · rw [if_neg hi] at h; cases h
/-- several names -/
def gNs : List Nat → TGs
  | [] => gNil
  | i :: is => gCons (gName i) (gNs is)
theorem sg_names : ∀ {is : List Nat} (hio : io = true → ∀ i ∈ is, i ≠ 0) {Z H σ e F ds xs Fd e' Q}, EOK Γ Z H σ e F → OwnL Γ ds Z H xs Fd → (Fd ++ F).Nodup → (∀ a ∈ Fd, Z a = none) → gTs is ds e = some e' →
    (∀ σ' F', EOK Γ Z H σ' e' F' → (∀ a ∈ F', a ∈ Fd ++ F) → Pin io σ σ' → Q σ' H) → gNs is xs σ H Q
  | [], _, Z, H, σ, e, F, [], xs, Fd, e', Q, E, ⟨o1, o2⟩, n, z, h, k => by
    cases h
    exact ⟨o1, k σ F E (fun a ha => List.mem_append_right _ ha) Pin.refl⟩
  | i :: is, hio, Z, H, σ, e, F, d :: ds, xs, Fd, e', Q, E, ⟨v, r, F1, F2, o1, o2, o3, o4⟩, n, z, h, k => by
    rw [gTs] at h
    by_cases hi : i < e.length
    · rw [if_pos hi] at h
      have m1 : ∀ a ∈ F1, a ∈ Fd := fun a ha => o4.mem_iff.mpr (List.mem_append_left _ ha)
      have m2 : ∀ a ∈ F2, a ∈ Fd := fun a ha => o4.mem_iff.mpr (List.mem_append_right _ ha)
      obtain ⟨n1, n2, n3⟩ := List.nodup_append.mp n
      obtain ⟨p1, p2, p3⟩ := List.nodup_append.mp ((o4.nodup_iff).mp n1)
      obtain ⟨F', E', s⟩ := E.put o2 (List.nodup_append.mpr ⟨p1, n2, fun a ha b hb => n3 a (m1 a ha) b hb⟩) (fun a ha => z a (m1 a ha)) hi
      refine ⟨v, r, o1, sg_names (fun p j hj => hio p j (List.mem_cons_of_mem _ hj)) E' o3 (List.nodup_append.mpr ⟨p2, E'.nd, fun a ha b hb w => ?_⟩) (fun a ha => z a (m2 a ha)) h fun σ' F'' E'' s' p => ?_⟩
      · subst w
        rcases List.mem_append.mp (s a hb) with h | h
        · exact p3 a h a ha rfl
        · exact n3 a (m2 a ha) a h rfl
      · refine k σ' F'' E'' (fun a ha => ?_) (Pin.trans (fun q => ?_) p)
        · rcases List.mem_append.mp (s' a ha) with h | h
          · exact List.mem_append_left _ (m2 a h)
          · exact (List.mem_append.mp (s a h)).elim (fun h => List.mem_append_left _ (m1 a h)) (List.mem_append_right _)
        · exact List.getElem?_set_ne (hio q i List.mem_cons_self)
    · rw [if_neg hi] at h; cases h
  | [], _, _, _, _, _, _, _ :: _, _, _, _, _, _, _, _, _, h, _ => by cases h
  | _ :: _, _, _, _, _, _, _, [], _, _, _, _, _, _, _, _, h, _ => by cases h
theorem gTs_len : ∀ {is : List Nat} {ds : List D} {e e' : Env}, gTs is ds e = some e' → ds.length = is.length
  | [], [], _, _, _ => rfl
  | i :: is, d :: ds, e, e', h => by
    rw [gTs] at h
    by_cases hi : i < e.length
    · rw [if_pos hi] at h; rw [List.length_cons, List.length_cons, gTs_len h]
    · rw [if_neg hi] at h; cases h
  | [], _ :: _, _, _, h => by cases h
  | _ :: _, [], _, _, h => by cases h
theorem OwnL.len : ∀ {ds : List D} {Z H : Hp} {vs : List V} {F : List Addr}, OwnL Γ ds Z H vs F → vs.length = ds.length
  | [], _, _, _, _, ⟨h, _⟩ => by rw [h]; rfl
  | _ :: _, _, _, _, _, ⟨v, r, F1, F2, e1, _, e3, _⟩ => by rw [e1, List.length_cons, List.length_cons, e3.len]
theorem sg_tup {is : List Nat} {K : PySem.W.Frag} (hio : io = true → ∀ i ∈ is, i ≠ 0) : SemG Γ io (gTup K is.length (gNs is)) (gTp is) := by
  intro Z H σ e F d x Fd e' Q E o n z h k
  unfold gTp at h
  cases d <;> try (cases h; done)
  rename_i ow kd ds
  cases kd <;> try (cases h; done)
  have hl := gTs_len h
  cases ow with
  | true =>
    obtain ⟨a, vs, ho, F', e1, e2, e3, e4, e5⟩ := o
    have e3' : ho = .tup vs := e3
    subst e3' e1
    have m : ∀ b ∈ F', b ∈ Fd := fun b hb => e5.mem_iff.mpr (List.mem_cons_of_mem _ hb)
    obtain ⟨n1, n2, n3⟩ := List.nodup_append.mp n
    refine ⟨a, vs, rfl, SqT.of e2, by rw [e4.len, hl], sg_names hio E e4 (List.nodup_append.mpr ⟨((e5.nodup_iff).mp n1).of_cons, n2, fun b hb c hc => n3 b (m b hb) c hc⟩) (fun b hb => z b (m b hb)) h fun σ' F'' E' s p => ?_⟩
    exact k Z H σ' F'' E' (Step.sub fun b hb => (List.mem_append.mp (s b hb)).elim (fun h => List.mem_append_left _ (m b h)) (List.mem_append_right _)) p
  | false =>
    obtain ⟨e0, a, vs, ho, e1, e2, e3, e4⟩ := o
    have e3' : ho = .tup vs := e3
    subst e3' e1 e0
    refine ⟨a, vs, rfl, SqT.of (E.zh _ _ e2), by rw [e4.len, hl], sg_names hio E (RpL.own e4) (by simpa using E.nd) (fun b hb => absurd hb (by simp)) h fun σ' F'' E' s p => ?_⟩
    exact k Z H σ' F'' E' (Step.sub fun b hb => s b hb) p
theorem ss_asg {t : TE} {g : TG} {f : XG} {h : TGt} (hf : SemX Γ W t f) (hg : SemG Γ io g h) : SemS Γ W io (tAsg t g) (sAsg f h) := by
  intro Z H σ e F D E P
  refine hf Z H σ e F _ E ?_
  unfold sAsg at P
  cases q : f e with
  | bad => rw [q] at P; exact P
  | exc c ns fs e1 => rw [q] at P; exact EPost.of P
  | ok d e1 =>
    simp only [q] at P
    intro Z1 H1 v Fd F1 E1 o n z S1
    cases q2 : h d e1 with
    | none => simp only [q2] at P; exact P.elim
    | some e2 =>
      simp only [q2] at P
      exact hg Z1 H1 σ e1 F1 d v Fd e2 _ E1 o n z q2 fun Z' H' σ' F' E' s p => P Z' H' σ' F' E' (S1.trans s) p
theorem scal_rp {d : D} {Z H : Hp} {v : V} {F : List Addr} (h : isS d = true) (o : Own Γ d Z H v F) (Z' : Hp) : Rp Γ d Z' v ∧ F = [] := by
  cases d <;> first | (simp [isS] at h; done) | exact ⟨⟨o.1, rfl⟩, o.2⟩
def IpD (Γ : Gm) (r : TIp) (op : D → D → Option D) : Prop := ∀ {Z H : Hp} {dx dy d : D} {x y : V} {Q : VK}, Ex Z H → Rp Γ dx Z x → Rp Γ dy Z y → op dx dy = some d → NewQ Γ Z H d Q → r x y H Q
theorem ss_aug {i : Nat} {r : TIp} {op : D → D → Option D} {t : TE} {f : XG} (hio : io = true → i ≠ 0) (ho : IpD Γ r op) (hf : SemX Γ W t f) : SemS Γ W io (tAug i t r) (sAug i op f) := by
  intro Z H σ e F D E P
  unfold sAug at P
  cases q0 : e[i]? with
  | none => simp only [q0] at P; exact P.elim
  | some x =>
    cases x with
    | none => simp only [q0] at P; exact P.elim
    | some d =>
      simp only [q0] at P
      by_cases hs : isS d = true
      · simp only [hs, if_true] at P
        obtain ⟨y, G1, G2, h1, ⟨v, rfl, h2⟩, h3, h4⟩ := E.own.at q0
        refine ⟨v, h1, hf.sh E ?_⟩
        cases q : f e with
        | bad => rw [q] at P; exact P
        | exc c ns fs e1 => rw [q] at P; exact EPost.of P
        | ok d' e1 =>
          simp only [q] at P
          intro Z1 H1 w F1 E1 R1 S1
          cases q2 : op d (fz d') with
          | none => simp only [q2] at P; exact P.elim
          | some r' =>
            simp only [q2] at P
            by_cases hi : i < e1.length
            · simp only [if_pos hi] at P
              refine ho E1.zh (scal_rp hs h2 Z1).1 R1 q2 fun H3 u Fd ex o n fr => ?_
              have E3 := E1.alloc ex
              obtain ⟨F', E', s⟩ := E3.put o (E1.nodup fr n) (fun a ha => (E1.fresh (fr a ha)).2) hi
              exact P Z1 H3 _ F' E' ((S1.trans (Step.alloc ex fr)).trans (Step.sub s)) fun p => List.getElem?_set_ne (hio p)
            · simp only [if_neg hi] at P; exact P.elim
      · simp only [if_neg hs] at P; exact P.elim

/-! ### loops -/
/-- an iterator gives these things -/
def WalksD (Γ : Gm) (J : It) (Z : Hp) (ds : List D) : Prop := ∀ Z1 H1 i, Ex Z Z1 → Ex Z1 H1 →
  (∀ d, ds[i]? = some d → J.go i H1 ∧ ∀ x H2, J.yld i H1 x H2 → ∃ Fd, Ex H1 H2 ∧ Own Γ d Z1 H2 x Fd ∧ Fd.Nodup ∧ ∀ a ∈ Fd, H1 a = none) ∧ (ds.length ≤ i → J.stop i H1)
def IPost (Γ : Gm) (W : WX) (σ : St) (Z H : Hp) (F : List Addr) (R : It → Hp → Prop) : AO → Prop
  | .ok ds e => ∀ Z' H' J F', EOK Γ Z' H' σ e F' → WalksD Γ J Z' ds → Step H Z F H' Z' F' → R J H'
  | .exc c ns fs e => EPost Γ W σ Z H F c ns fs e
  | .bad => False
def SemI (Γ : Gm) (W : WX) (t : TI) (f : AG) : Prop := ∀ Z H σ e F R, EOK Γ Z H σ e F → IPost Γ W σ Z H F R (f e) → t σ H R
theorem ss_for {wi : TI} {g : TG} {tb : TS} {f : AG} {h : TGt} {b : SG} (hf : SemI Γ W wi f) (hg : SemG Γ io g h) (hb : SemS Γ W io tb b) : SemS Γ W io (tFor wi g tb) (sFor f h b) := by
  intro Z H σ e F D E P
  refine hf Z H σ e F _ E ?_
  unfold sFor at P
  cases q : f e with
  | bad => rw [q] at P; exact P
  | exc c ns fs e1 => rw [q] at P; exact EPost.of P
  | ok ds e1 =>
    rw [q] at P
    intro Z1 H1 J F1 E1 wk S1
    refine ⟨fun i m σ' H' => m = ds.length - i ∧ i ≤ ds.length ∧ ∃ e' Z' F', EOK Γ Z' H' σ' e' F' ∧ Ex Z1 Z' ∧ SPost Γ W io σ' Z' H' F' D (runFor h b (ds.drop i) e'),
      ⟨ds.length, by simp, Nat.zero_le _, e1, Z1, F1, E1, Ex.refl _, SPost.after S1 Pin.refl P⟩, ?_⟩
    rintro i m σ2 H2 ⟨rfl, hi, e2, Z2, F2, E2, z2, P2⟩
    obtain ⟨wg, ws⟩ := wk Z2 H2 i z2 E2.zh
    by_cases hlt : i < ds.length
    · have hd : ds[i]? = some ds[i] := List.getElem?_eq_getElem hlt
      obtain ⟨go, yl⟩ := wg _ hd
      refine .inr ⟨go, fun σ' H' => ∃ e' Z' F', EOK Γ Z' H' σ' e' F' ∧ Ex Z1 Z' ∧ SPost Γ W io σ' Z' H' F' D (runFor h b (ds.drop (i + 1)) e'), fun σ' H' hN => ⟨ds.length - (i + 1), by omega, rfl, hlt, hN⟩, fun x H3 y => ?_⟩
      obtain ⟨Fd, ex, o, n, fr⟩ := yl x H3 y
      rw [List.drop_eq_getElem_cons hlt, runFor] at P2
      cases q2 : h ds[i] e2 with
      | none => simp only [q2] at P2; exact P2.elim
      | some e3 =>
        simp only [q2] at P2
        refine hg Z2 H3 σ2 e2 F2 _ x Fd e3 _ (E2.alloc ex) o (E2.nodup fr n) (fun a ha => (E2.fresh (fr a ha)).2) q2 fun Z4 H4 σ4 F4 E4 S4 p4 => ?_
        have S4' := (Step.alloc (F := F2) (Z := Z2) ex fr).trans S4
        refine hb Z4 H4 σ4 e3 F4 _ E4 ?_
        cases q3 : b e3 with
        | nx e5 => simp only [q3] at P2; exact fun Z' H' σ' F' E' s' p' => ⟨e5, Z', F', E', (z2.trans S4'.zext).trans s'.zext, SPost.after (S4'.trans s') (p4.trans p') P2⟩
        | ct e5 => simp only [q3] at P2; exact fun Z' H' σ' F' E' s' p' => ⟨e5, Z', F', E', (z2.trans S4'.zext).trans s'.zext, SPost.after (S4'.trans s') (p4.trans p') P2⟩
        | bk e5 => simp only [q3] at P2; exact fun Z' H' σ' F' E' s' p' => P2 Z' H' σ' F' E' (S4'.trans s') (p4.trans p')
        | rt r e5 => simp only [q3] at P2; exact fun Z' H' σ' v Fd F' E' o n z s' p' => P2 Z' H' σ' v Fd F' E' o n z (S4'.trans s') (p4.trans p')
        | exc c ns fs e5 => simp only [q3] at P2; exact fun Z' H' σ' F' dd E' s' p' x => P2 Z' H' σ' F' dd E' (S4'.trans s') (p4.trans p') x
        | bad => simp only [q3] at P2; exact P2.elim
    · have ei : ds.drop i = [] := List.drop_eq_nil_of_le (by omega)
      rw [ei] at P2
      exact .inl ⟨ws (by omega), P2 Z2 H2 σ2 F2 E2 Step.refl Pin.refl⟩
theorem ss_while {n : Env → Nat} {c : TT} {tb : TS} {fc : XG} {b : SG} (hc : SemT Γ W c fc) (hb : SemS Γ W io tb b) : SemS Γ W io (tWhile c tb) (sWhile n fc b) := by
  intro Z H σ e F D E P
  refine ⟨fun m σ' H' => ∃ e' Z' F', EOK Γ Z' H' σ' e' F' ∧ SPost Γ W io σ' Z' H' F' D (runWhile fc b m e'), ⟨n e, e, Z, F, E, P⟩, ?_⟩
  rintro m σ2 H2 ⟨e2, Z2, F2, E2, P2⟩
  cases m with
  | zero => exact P2.elim
  | succ m =>
    rw [runWhile] at P2
    refine hc Z2 H2 σ2 e2 F2 _ E2 ?_
    cases q : fc e2 with
    | bad => rw [q] at P2; exact P2
    | exc c ns fs e1 => rw [q] at P2; exact EPost.of P2
    | ok d e3 =>
      rw [q] at P2
      cases d <;> first | exact P2.elim | skip
      rename_i k
      intro Z3 H3 F3 E3 S3
      cases k with
      | false =>
        rw [if_neg Bool.false_ne_true]
        exact P2 Z3 H3 σ2 F3 E3 S3 Pin.refl
      | true =>
        rw [if_pos rfl]
        refine ⟨fun σ' H' => ∃ e' Z' F', EOK Γ Z' H' σ' e' F' ∧ SPost Γ W io σ' Z' H' F' D (runWhile fc b m e'), fun σ' H' hN => ⟨m, Nat.lt_succ_self _, hN⟩, hb Z3 H3 σ2 e3 F3 _ E3 ?_⟩
        cases q3 : b e3 with
        | nx e5 => simp only [q3] at P2; exact fun Z' H' σ' F' E' s' p' => ⟨e5, Z', F', E', SPost.after (S3.trans s') p' P2⟩
        | ct e5 => simp only [q3] at P2; exact fun Z' H' σ' F' E' s' p' => ⟨e5, Z', F', E', SPost.after (S3.trans s') p' P2⟩
        | bk e5 => simp only [q3] at P2; exact fun Z' H' σ' F' E' s' p' => P2 Z' H' σ' F' E' (S3.trans s') p'
        | rt r e5 => simp only [q3] at P2; exact fun Z' H' σ' v Fd F' E' o n z s' p' => P2 Z' H' σ' v Fd F' E' o n z (S3.trans s') p'
        | exc c ns fs e5 => simp only [q3] at P2; exact fun Z' H' σ' F' dd E' s' p' x => P2 Z' H' σ' F' dd E' (S3.trans s') p' x
        | bad => simp only [q3] at P2; exact P2.elim
end
end MV

namespace MV
open PySem PySem.Spec PyProof.Rows L2
/-- the longest list that is let -/
def LIM : Nat := 100000
theorem lim_le {n : Nat} (h : n ≤ LIM) : n ≤ sizeLine := by
  rw [sizeLine_eq]
  unfold LIM at h
  omega
section
variable {Γ : Gm} {Z H : Hp}
theorem Rp.lst {xs : List D} {v : V} (zh : Ex Z H) (h : Rp Γ (L xs) Z v) : ∃ a vs, v = .ref a ∧ Z a = some (.lst vs) ∧ H a = some (.lst vs) ∧ RpL Γ xs Z vs := by
  obtain ⟨_, a, vs, ho, e1, e2, e3, e4⟩ := h
  have e3' : ho = .lst vs := e3
  subst e3'
  exact ⟨a, vs, e1, e2, zh _ _ e2, e4⟩
theorem Rp.tup {xs : List D} {v : V} (zh : Ex Z H) (h : Rp Γ (T xs) Z v) : ∃ a vs, v = .ref a ∧ Z a = some (.tup vs) ∧ H a = some (.tup vs) ∧ RpL Γ xs Z vs := by
  obtain ⟨_, a, vs, ho, e1, e2, e3, e4⟩ := h
  have e3' : ho = .tup vs := e3
  subst e3'
  exact ⟨a, vs, e1, e2, zh _ _ e2, e4⟩
/-! ### ints -/
def oI (f : Int → Int → D) : D → D → Option D
  | .int a, .int b => some (f a b)
  | _, _ => none
def oIc (c : Int → Int → Bool) (f : Int → Int → D) : D → D → Option D
  | .int a, .int b => if c a b then some (f a b) else none
  | _, _ => none
theorem rp_int {i : Int} : Rp Γ (.int i) Z (.int i) := ⟨rfl, rfl⟩
theorem rp_bl {i : Bool} : Rp Γ (.bl i) Z (.bl i) := ⟨rfl, rfl⟩
theorem rp_str {i : Str} : Rp Γ (.str i) Z (.str i) := ⟨rfl, rfl⟩
theorem rp_non : Rp Γ .non Z .non := ⟨rfl, rfl⟩
theorem od_I0 {g : Int → Int → V} {f : Int → Int → D} (hr : ∀ (i j : Int) (Z : Hp), Rp Γ (f i j) Z (g i j)) : OpD Γ (rI0 g) (oI f) := by
  intro Z H dx dy d x y Q zh hx hy h q
  unfold oI at h
  split at h
  · cases h
    exact ⟨_, _, hx.1, hy.1, q.val (hr _ _ _)⟩
  · cases h
theorem od_I {C : Int → Int → Prop} {g : Int → Int → V} {c : Int → Int → Bool} {f : Int → Int → D} (hc : ∀ i j, c i j = true → C i j) (hr : ∀ (i j : Int) (Z : Hp), Rp Γ (f i j) Z (g i j)) : OpD Γ (rI C g) (oIc c f) := by
  intro Z H dx dy d x y Q zh hx hy h q
  unfold oIc at h
  split at h
  · split at h
    · rename_i hcc
      cases h
      exact ⟨_, _, hx.1, hy.1, hc _ _ hcc, q.val (hr _ _ _)⟩
    · cases h
  · cases h
/-- tried one after the other -/
def oOr (f g : D → D → Option D) : D → D → Option D := fun x y => match f x y with
  | some d => some d
  | none => g x y
theorem od_or {r r' : R2} {f g : D → D → Option D} (hf : OpD Γ r f) (hg : OpD Γ r' g) : OpD Γ (fun x y H Q => r x y H Q ∨ r' x y H Q) (oOr f g) := by
  intro Z H dx dy d x y Q zh hx hy h q
  unfold oOr at h
  split at h
  · rename_i d' e
    cases h
    exact .inl (hf zh hx hy e q)
  · exact .inr (hg zh hx hy h q)
def oStrAdd : D → D → Option D
  | .str a, .str b => if a.length + b.length ≤ LIM then some (.str (a ++ b)) else none
  | _, _ => none
def oCat : D → D → Option D
  | .nd _ .lst xs, .nd _ .lst ys => if xs.length + ys.length ≤ LIM then some (OL (xs ++ ys)) else none
  | _, _ => none
def rAddS : R2 := fun x y H Q => ∃ i j, x = .str i ∧ y = .str j ∧ i.length + j.length ≤ sizeLine ∧ Q (.str (i ++ j)) H
theorem od_strAdd : OpD Γ rAddS oStrAdd := by
  intro Z H dx dy d x y Q zh hx hy h q
  unfold oStrAdd at h
  split at h
  · split at h
    · rename_i hcc
      cases h
      exact ⟨_, _, hx.1, hy.1, lim_le hcc, q.val rp_str⟩
    · cases h
  · cases h
/-- what is read may be taken as read only -/
theorem Rp.flag {o : Bool} {k : Kd} {xs : List D} {v : V} (h : Own Γ (.nd o k xs) Z Z v []) : o = false := by
  cases o with
  | false => rfl
  | true =>
    obtain ⟨a, vs, ho, F', e1, e2, e3, e4, e5⟩ := h
    exact absurd (List.Perm.nil_eq e5) (by simp)
theorem od_cat : OpD Γ rCat oCat := by
  intro Z H dx dy d x y Q zh hx hy h q
  unfold oCat at h
  split at h
  · split at h
    · rename_i hcc
      cases h
      have f1 := Rp.flag hx
      have f2 := Rp.flag hy
      subst f1 f2
      obtain ⟨a, vs, rfl, z1, h1, r1⟩ := Rp.lst zh hx
      obtain ⟨b, ws, rfl, z2, h2, r2⟩ := Rp.lst zh hy
      refine ⟨a, b, vs, ws, rfl, rfl, h1, h2, by rw [r1.len, r2.len]; exact lim_le hcc, fun p hp => q.node (r1.append r2) hp rfl⟩
    · cases h
  · cases h
def rAddAny : R2 := fun x y H Q => (rI0 fun i j => .int (i + j)) x y H Q ∨ (rAddS x y H Q ∨ rCat x y H Q)
theorem op_addAny {X : Cx} : OpR X (binaryOp .Add) rAddAny := op_add.or (OpR.or op_add_str op_cat)
def oAdd : D → D → Option D := oOr (oI fun a b => .int (a + b)) (oOr oStrAdd oCat)
theorem od_add : OpD Γ rAddAny oAdd := od_or (od_I0 fun _ _ _ => rp_int) (od_or od_strAdd od_cat)
def oSub : D → D → Option D := oI fun a b => .int (a - b)
theorem od_sub : OpD Γ (rI0 fun i j => .int (i - j)) oSub := od_I0 fun _ _ _ => rp_int
/-- products that are let: one factor small, or both below 2 ^ 4000 -/
def mulOk (a b : Int) : Bool := decide (a.natAbs < 2 ^ 64) || decide (b.natAbs < 2 ^ 64) || (decide (a.natAbs < 2 ^ 4000) && decide (b.natAbs < 2 ^ 4000))
theorem mulOk_or {a b : Int} (h : mulOk a b = true) : CMul a b ∨ CMulW a b := by
  unfold mulOk at h
  simp only [Bool.or_eq_true, decide_eq_true_eq, Bool.and_eq_true] at h
  rcases h with (h | h) | ⟨h1, h2⟩
  · left; left; constructor <;> omega
  · left; right; constructor <;> omega
  · right; exact wide_mul h1 h2 (by decide) (by decide) (by decide)
def rMulAny : R2 := fun x y H Q => ((rI CMul fun i j => .int (i * j)) x y H Q ∨ (rI CMulW fun i j => .int (i * j)) x y H Q) ∨ rRep x y H Q
theorem op_mulAny {X : Cx} : OpR X (binaryOp .Mult) rMulAny := (op_mul.or op_mulW).or op_rep
def oRep : D → D → Option D
  | .nd _ .lst xs, .int k => if decide (k ≤ 100000) && decide (-100000 ≤ k) && decide (xs.length * k.toNat ≤ LIM) then some (OL (List.replicate k.toNat xs).flatten) else none
  | _, _ => none
theorem RpL.rep {xs : List D} {vs : List V} (h : RpL Γ xs Z vs) : ∀ n : Nat, RpL Γ (List.replicate n xs).flatten Z (List.replicate n vs).flatten
  | 0 => RpL.nil
  | n + 1 => by
    rw [List.replicate_succ, List.replicate_succ, List.flatten_cons, List.flatten_cons]
    exact RpL.append h (RpL.rep h n)
theorem od_rep : OpD Γ rRep oRep := by
  intro Z H dx dy d x y Q zh hx hy h q
  unfold oRep at h
  split at h
  · split at h
    · rename_i hcc
      cases h
      have f1 := Rp.flag hx
      subst f1
      simp only [Bool.and_eq_true, decide_eq_true_eq] at hcc
      obtain ⟨⟨c1, c2⟩, c3⟩ := hcc
      obtain ⟨a, vs, rfl, z1, h1, r1⟩ := Rp.lst zh hx
      refine ⟨a, _, vs, rfl, hy.1, h1, by omega, by omega, by rw [r1.len]; exact lim_le c3, fun p hp => q.node (r1.rep _) hp rfl⟩
    · cases h
  · cases h
def oMul : D → D → Option D := oOr (oIc mulOk fun a b => .int (a * b)) oRep
theorem od_mulI : OpD Γ (fun x y H Q => (rI CMul fun i j => .int (i * j)) x y H Q ∨ (rI CMulW fun i j => .int (i * j)) x y H Q) (oIc mulOk fun a b => .int (a * b)) := by
  intro Z H dx dy d x y Q zh hx hy h q
  unfold oIc at h
  split at h
  · split at h
    · rename_i hcc
      cases h
      rcases mulOk_or hcc with c | c
      · exact .inl ⟨_, _, hx.1, hy.1, c, q.val rp_int⟩
      · exact .inr ⟨_, _, hx.1, hy.1, c, q.val rp_int⟩
    · cases h
  · cases h
theorem od_mul : OpD Γ rMulAny oMul := od_or od_mulI od_rep
def divOk (a b : Int) : Bool := decide (0 < b) && decide (b.natAbs < 2 ^ 4000)
def oDiv : D → D → Option D := oIc divOk fun a b => .int (a / b)
theorem od_div : OpD Γ (rI CDivW fun i j => .int (i / j)) oDiv := od_I (fun i j h => by
  unfold divOk at h
  simp only [Bool.and_eq_true, decide_eq_true_eq] at h
  exact wide_div h.1 h.2 (by decide) (by decide)) fun _ _ _ => rp_int
def oMod : D → D → Option D := oIc (fun _ b => decide (0 < b)) fun a b => .int (a % b)
theorem od_mod : OpD Γ (rI (fun _ j => 0 < j) fun i j => .int (i % j)) oMod := od_I (fun i j h => of_decide_eq_true h) fun _ _ _ => rp_int
def powOk (a b : Int) : Bool := decide (0 ≤ b) && decide (b ≤ 1000) && decide (a.natAbs < 2 ^ 64)
theorem powOk_c {a b : Int} (h : powOk a b = true) : CPow a b := by
  unfold powOk at h
  simp only [Bool.and_eq_true, decide_eq_true_eq] at h
  exact ⟨h.1.1, by omega, h.2⟩
def oPow : D → D → Option D := oIc powOk fun a b => .int (a ^ b.toNat)
theorem od_pow : OpD Γ (rI CPow fun i j => .int (i ^ j.toNat)) oPow := od_I (fun i j h => powOk_c h) fun _ _ _ => rp_int
def oShl : D → D → Option D := oIc powOk fun a b => .int (a * 2 ^ b.toNat)
theorem od_shl : OpD Γ (rI CPow fun i j => .int (i * 2 ^ j.toNat)) oShl := od_I (fun i j h => powOk_c h) fun _ _ _ => rp_int
def oShr : D → D → Option D := oIc (fun _ b => decide (0 ≤ b)) fun a b => .int (a / 2 ^ b.toNat)
theorem od_shr : OpD Γ (rI (fun _ j => 0 ≤ j) fun i j => .int (i / 2 ^ j.toNat)) oShr := od_I (fun i j h => of_decide_eq_true h) fun _ _ _ => rp_int
def oBand : D → D → Option D := oI fun a b => .int (Builtin.bitAnd a b)
theorem od_band : OpD Γ (rI0 fun i j => .int (Builtin.bitAnd i j)) oBand := od_I0 fun _ _ _ => rp_int
def oBor : D → D → Option D := oI fun a b => .int (Builtin.bitOr a b)
theorem od_bor : OpD Γ (rI0 fun i j => .int (Builtin.bitOr i j)) oBor := od_I0 fun _ _ _ => rp_int
def oBxor : D → D → Option D := oI fun a b => .int (Builtin.bitXor a b)
theorem od_bxor : OpD Γ (rI0 fun i j => .int (Builtin.bitXor i j)) oBxor := od_I0 fun _ _ _ => rp_int
def oLt : D → D → Option D := oI fun a b => .bl (decide (a < b))
theorem od_lt : OpD Γ (rI0 fun i j => .bl (decide (i < j))) oLt := od_I0 fun _ _ _ => rp_bl
def oLe : D → D → Option D := oI fun a b => .bl (decide (a ≤ b))
theorem od_le : OpD Γ (rI0 fun i j => .bl (decide (i ≤ j))) oLe := od_I0 fun _ _ _ => rp_bl
def oGt : D → D → Option D := oI fun a b => .bl (decide (b < a))
theorem od_gt : OpD Γ (rI0 fun i j => .bl (decide (j < i))) oGt := od_I0 fun _ _ _ => rp_bl
def oGe : D → D → Option D := oI fun a b => .bl (decide (b ≤ a))
theorem od_ge : OpD Γ (rI0 fun i j => .bl (decide (j ≤ i))) oGe := od_I0 fun _ _ _ => rp_bl
def oNeg : D → Option D
  | .int i => some (.int (-i))
  | _ => none
theorem ud_neg : UnD Γ (rU fun i => .int (-i)) oNeg := by
  intro Z H dx d x Q zh hx h q
  unfold oNeg at h
  split at h
  · cases h; exact ⟨_, hx.1, q.val rp_int⟩
  · cases h
/-! ### is None -/
def oIsN : D → D → Option D
  | .non, .non => some (.bl true)
  | _, .non => some (.bl false)
  | _, _ => none
def oNotN : D → D → Option D
  | .non, .non => some (.bl false)
  | _, .non => some (.bl true)
  | _, _ => none
def isNonD : D → Bool
  | .non => true
  | _ => false
theorem rp_isnon {d : D} {v : V} (h : Rp Γ d Z v) : decide (v = .non) = isNonD d := by
  cases d with
  | non => rw [h.1]; rfl
  | bl b => rw [h.1]; rfl
  | int b => rw [h.1]; rfl
  | str b => rw [h.1]; rfl
  | scr b => obtain ⟨_, a, e, _⟩ := h; rw [e]; rfl
  | exn c ns fs => obtain ⟨_, a, dd, vs, e, _⟩ := h; rw [e]; rfl
  | nd o k xs =>
    cases o with
    | true => obtain ⟨a, vs, ho, F', e, _⟩ := h; rw [e]; rfl
    | false => obtain ⟨_, a, vs, ho, e, _⟩ := h; rw [e]; rfl
def rIsNn : R2 := fun x y H Q => y = .non ∧ Q (.bl (decide (x = .non))) H
def rNotNn : R2 := fun x y H Q => y = .non ∧ Q (.bl (!decide (x = .non))) H
theorem od_isN : OpD Γ rIsNn oIsN := by
  intro Z H dx dy d x y Q zh hx hy h q
  have e := rp_isnon hx
  cases dy <;> try (cases dx <;> cases h; done)
  refine ⟨hy.1, ?_⟩
  rw [e]
  cases dx <;> cases h <;> exact q.val rp_bl
theorem od_notN : OpD Γ rNotNn oNotN := by
  intro Z H dx dy d x y Q zh hx hy h q
  have e := rp_isnon hx
  cases dy <;> try (cases dx <;> cases h; done)
  refine ⟨hy.1, ?_⟩
  rw [e]
  cases dx <;> cases h <;> exact q.val rp_bl
/-! ### == of data -/
mutual
def toP : D → Option PyData
  | .non => some .none
  | .bl b => some (.bool b)
  | .int i => some (.int i)
  | .str x => some (.str x)
  | .nd _ .lst xs => (toPL xs).map .list
  | .nd _ .tup xs => (toPL xs).map .tuple
  | _ => none
def toPL : List D → Option (List PyData)
  | [] => some []
  | d :: ds => match toP d with
    | some p => (toPL ds).map (p :: ·)
    | none => none
end
mutual
theorem dp_of : ∀ {d : D} {p : PyData} {v : V}, toP d = some p → Rp Γ d Z v → Ex Z H → Dp Γ.K H v p
  | .non, p, v, h, r, z => by
    rw [toP] at h; cases h
    rw [r.1]; exact .non
  | .bl b, p, v, h, r, z => by
    rw [toP] at h; cases h
    rw [r.1]; exact .bl b
  | .int b, p, v, h, r, z => by
    rw [toP] at h; cases h
    rw [r.1]; exact .int b
  | .str b, p, v, h, r, z => by
    rw [toP] at h; cases h
    rw [r.1]; exact .str b
  | .scr ns, p, v, h, r, z => by rw [toP] at h <;> first | cases h | (intros; exact fun z => nomatch z)
  | .exn c ns fs, p, v, h, r, z => by rw [toP] at h <;> first | cases h | (intros; exact fun z => nomatch z)
  | .nd o .lst xs, p, v, h, r, z => by
    rw [toP] at h
    cases q : toPL xs with
    | none => rw [q] at h; cases h
    | some ps =>
      rw [q] at h; cases h
      have f := Rp.flag r
      subst f
      obtain ⟨a, vs, rfl, z1, h1, r1⟩ := Rp.lst z r
      exact .lst (SqL.of h1) (dpl_of q r1 z)
  | .nd o .tup xs, p, v, h, r, z => by
    rw [toP] at h
    cases q : toPL xs with
    | none => rw [q] at h; cases h
    | some ps =>
      rw [q] at h; cases h
      have f := Rp.flag r
      subst f
      obtain ⟨a, vs, rfl, z1, h1, r1⟩ := Rp.tup z r
      exact .tup (SqT.of h1) (dpl_of q r1 z)
  | .nd o (.ins c ns) xs, p, v, h, r, z => by simp [toP] at h
  | .nd o (.dic ks) xs, p, v, h, r, z => by simp [toP] at h
theorem dpl_of : ∀ {ds : List D} {ps : List PyData} {vs : List V}, toPL ds = some ps → RpL Γ ds Z vs → Ex Z H → DpAll Γ.K H vs ps
  | [], ps, vs, h, r, z => by
    rw [toPL] at h; cases h
    rw [r.1]; exact .nil
  | d :: ds, ps, vs, h, r, z => by
    rw [toPL] at h
    obtain ⟨v, w, rfl, r1, r2⟩ := r.split
    cases q1 : toP d with
    | none => rw [q1] at h; cases h
    | some p =>
      rw [q1] at h
      cases q2 : toPL ds with
      | none => simp only [q2] at h; cases h
      | some p2 =>
        simp only [q2] at h; cases h
        exact .cons (dp_of q1 r1 z) (dpl_of q2 r2 z)
end
def oEqB (neg : Bool) : D → D → Option D := fun a b => match toP a, toP b with
  | some p, some q => if SeqAt.shaped p && SeqAt.shaped q then some (.bl (if neg then !PyData.eqv p q else PyData.eqv p q)) else none
  | _, _ => none
def oEq : D → D → Option D := oEqB false
def oNe : D → D → Option D := oEqB true
theorem od_eq : OpD Γ (rEqD Γ.K) oEq := by
  intro Z H dx dy d x y Q zh hx hy h q
  unfold oEq oEqB at h
  split at h
  · rename_i p p' e1 e2
    split at h
    · rename_i hs
      simp only [Bool.and_eq_true] at hs
      cases h
      exact ⟨p, p', dp_of e1 hx zh, dp_of e2 hy zh, hs.1, hs.2, q.val rp_bl⟩
    · cases h
  · cases h
theorem od_ne : OpD Γ (rNeD Γ.K) oNe := by
  intro Z H dx dy d x y Q zh hx hy h q
  unfold oNe oEqB at h
  split at h
  · rename_i p p' e1 e2
    split at h
    · rename_i hs
      simp only [Bool.and_eq_true] at hs
      cases h
      exact ⟨p, p', dp_of e1 hx zh, dp_of e2 hy zh, hs.1, hs.2, q.val rp_bl⟩
    · cases h
  · cases h
/-! ### in -/
def toV : D → Option V
  | .non => some .non
  | .bl b => some (.bl b)
  | .int i => some (.int i)
  | .str x => some (.str x)
  | _ => none
def toVL : List D → Option (List V)
  | [] => some []
  | d :: ds => match toV d with
    | some v => (toVL ds).map (v :: ·)
    | none => none
theorem toV_eq {d : D} {v w : V} (h : toV d = some v) (r : Rp Γ d Z w) : w = v ∧ flatV v = true := by
  cases d <;> first | (cases h; exact ⟨r.1, rfl⟩) | cases h
theorem toVL_eq : ∀ {ds : List D} {vs ws : List V}, toVL ds = some vs → RpL Γ ds Z ws → ws = vs ∧ vs.all flatV = true
  | [], vs, ws, h, r => by cases h; exact ⟨r.1, rfl⟩
  | d :: ds, vs, ws, h, r => by
    obtain ⟨v, w, rfl, r1, r2⟩ := r.split
    rw [toVL] at h
    cases q1 : toV d with
    | none => rw [q1] at h; cases h
    | some p =>
      rw [q1] at h
      cases q2 : toVL ds with
      | none => simp only [q2] at h; cases h
      | some p2 =>
        simp only [q2] at h; cases h
        obtain ⟨a, b⟩ := toV_eq q1 r1
        obtain ⟨c, e⟩ := toVL_eq q2 r2
        subst a c
        exact ⟨rfl, by rw [List.all_cons, b, e]; rfl⟩
def itemsOf : D → Option (List D)
  | .nd _ .lst xs => some xs
  | .nd _ .tup xs => some xs
  | .scr ns => some (ns.map D.int)
  | _ => none
theorem itemsOf_rp {d : D} {xs : List D} {v : V} {K : PySem.W.Frag} (zh : Ex Z H) (h : itemsOf d = some xs) (r : Rp Γ d Z v) : ∃ a vs, v = .ref a ∧ (SqL Γ.K H a vs ∨ SqT Γ.K H a vs) ∧ RpL Γ xs Z vs := by
  cases d <;> try (cases h; done)
  · rename_i ns
    cases h
    obtain ⟨_, a, e, s⟩ := r
    exact ⟨a, _, e, .inl (zh.sql s), RpL.ofInts ns⟩
  · rename_i o k ys
    cases k <;> try (cases h; done)
    · cases h
      have f := Rp.flag r
      subst f
      obtain ⟨a, vs, e, z1, h1, r1⟩ := Rp.lst zh r
      exact ⟨a, vs, e, .inl (SqL.of h1), r1⟩
    · cases h
      have f := Rp.flag r
      subst f
      obtain ⟨a, vs, e, z1, h1, r1⟩ := Rp.tup zh r
      exact ⟨a, vs, e, .inr (SqT.of h1), r1⟩
def oInB (neg : Bool) : D → D → Option D := fun x y => match toV x, (itemsOf y).bind toVL with
  | some v, some vs => some (.bl (if neg then !inV v vs else inV v vs))
  | _, _ => none
def oIn : D → D → Option D := oInB false
def oNotIn : D → D → Option D := oInB true
theorem od_inB {neg : Bool} : OpD Γ (rIn Γ.K neg) (oInB neg) := by
  intro Z H dx dy d x y Q zh hx hy h q
  unfold oInB at h
  split at h
  · rename_i v vs e1 e2
    cases h
    cases q1 : itemsOf dy with
    | none => rw [q1] at e2; cases e2
    | some ys =>
      rw [q1] at e2
      have e2' : toVL ys = some vs := e2
      obtain ⟨a, ws, rfl, s, r⟩ := itemsOf_rp (K := Γ.K) zh q1 hy
      obtain ⟨e3, f3⟩ := toVL_eq e2' r
      obtain ⟨e4, f4⟩ := toV_eq e1 hx
      subst e3 e4
      exact ⟨a, ws, rfl, s, f4, f3, q.val rp_bl⟩
  · cases h
/-! ### built-ins -/
def fLen : List D → Option D
  | [d] => match itemsOf d with
    | some xs => some (.int xs.length)
    | none => match d with
      | .str x => if x.length ≤ LIM then some (.int x.length) else none
      | _ => none
  | _ => none
def rLenA (K : PySem.W.Frag) : List V → Hp → VK → Prop := fun xs H Q => (∃ p ys, xs = [.ref p] ∧ (SqL K H p ys ∨ SqT K H p ys) ∧ Q (.int ys.length) H) ∨ ∃ z, xs = [.str z] ∧ z.length ≤ sizeLine ∧ Q (.int z.length) H
theorem call_lenA {X : Cx} : CallR X (.builtin "len") (rLenA X.K) := CallR.or call_len_seq call_len_str
theorem RpL.one {d : D} {vs : List V} (h : RpL Γ [d] Z vs) : ∃ v, vs = [v] ∧ Rp Γ d Z v := by
  obtain ⟨v, w, rfl, r1, r2⟩ := h.split
  rw [r2.1]
  exact ⟨v, rfl, r1⟩
theorem RpL.two {d d' : D} {vs : List V} (h : RpL Γ [d, d'] Z vs) : ∃ v w, vs = [v, w] ∧ Rp Γ d Z v ∧ Rp Γ d' Z w := by
  obtain ⟨v, w, rfl, r1, r2⟩ := h.split
  obtain ⟨u, rfl, r3⟩ := r2.one
  exact ⟨v, u, rfl, r1, r3⟩
theorem cd_len : CallD Γ (rLenA Γ.K) fLen := by
  intro Z H ds d vs Q zh r h q
  unfold fLen at h
  split at h
  · rename_i d'
    obtain ⟨v, rfl, r1⟩ := r.one
    cases q1 : itemsOf d' with
    | some xs =>
      rw [q1] at h; cases h
      obtain ⟨a, ws, rfl, s, r2⟩ := itemsOf_rp (K := Γ.K) zh q1 r1
      refine .inl ⟨a, ws, rfl, s, ?_⟩
      rw [r2.len]
      exact q.val rp_int
    | none =>
      rw [q1] at h
      cases d' <;> try (cases h; done)
      rename_i x
      by_cases hx : x.length ≤ LIM
      · simp only [if_pos hx] at h; cases h
        exact .inr ⟨x, by rw [r1.1], lim_le hx, q.val rp_int⟩
      · simp only [if_neg hx] at h; cases h
  · cases h
def fSum : List D → Option D
  | [d] => ((itemsOf d).bind ints?).map fun ns => .int ns.sum
  | _ => none
theorem list_of {d : D} {xs : List D} {v : V} (zh : Ex Z H) (hd : (match d with | .nd _ .lst ys => some ys | .scr ns => some (ns.map D.int) | _ => none) = some xs) (r : Rp Γ d Z v) : ∃ a vs, v = .ref a ∧ SqL Γ.K H a vs ∧ RpL Γ xs Z vs := by
  cases d <;> try (cases hd; done)
  · rename_i ns
    cases hd
    obtain ⟨_, a, e, s⟩ := r
    exact ⟨a, _, e, zh.sql s, RpL.ofInts ns⟩
  · rename_i o k ys
    cases k <;> try (cases hd; done)
    cases hd
    have f := Rp.flag r
    subst f
    obtain ⟨a, vs, e, z1, h1, r1⟩ := Rp.lst zh r
    exact ⟨a, vs, e, SqL.of h1, r1⟩
/-- a list's items -/
def listOf? : D → Option (List D)
  | .nd _ .lst ys => some ys
  | .scr ns => some (ns.map D.int)
  | _ => none
theorem listOf_rp {d : D} {xs : List D} {v : V} (zh : Ex Z H) (h : listOf? d = some xs) (r : Rp Γ d Z v) : ∃ a vs, v = .ref a ∧ SqL Γ.K H a vs ∧ RpL Γ xs Z vs := by
  cases d <;> try (cases h; done)
  · rename_i ns
    cases h
    obtain ⟨_, a, e, s⟩ := r
    exact ⟨a, _, e, zh.sql s, RpL.ofInts ns⟩
  · rename_i o k ys
    cases k <;> try (cases h; done)
    cases h
    have f := Rp.flag r
    subst f
    obtain ⟨a, vs, e, z1, h1, r1⟩ := Rp.lst zh r
    exact ⟨a, vs, e, SqL.of h1, r1⟩
/-- the ints of a list -/
def listI? (d : D) : Option (List Int) := (listOf? d).bind ints?
theorem listI_rp {d : D} {ns : List Int} {v : V} (zh : Ex Z H) (h : listI? d = some ns) (r : Rp Γ d Z v) : ∃ a, v = .ref a ∧ SqL Γ.K H a (ns.map V.int) := by
  unfold listI? at h
  cases q : listOf? d with
  | none => rw [q] at h; cases h
  | some xs =>
    rw [q] at h
    have e := ints?_eq (show ints? xs = some ns from h)
    subst e
    obtain ⟨a, vs, e, s, r1⟩ := listOf_rp zh q r
    rw [r1.ints] at s
    exact ⟨a, e, s⟩
def fSumI : List D → Option D
  | [d] => (listI? d).map fun ns => .int ns.sum
  | _ => none
theorem cd_sum : CallD Γ (rSum Γ.K) fSumI := by
  intro Z H ds d vs Q zh r h q
  unfold fSumI at h
  split at h
  · rename_i d'
    obtain ⟨v, rfl, r1⟩ := r.one
    cases q1 : listI? d' with
    | none => rw [q1] at h; cases h
    | some ns =>
      rw [q1] at h; cases h
      obtain ⟨a, rfl, s⟩ := listI_rp zh q1 r1
      exact ⟨a, ns, rfl, s, q.val rp_int⟩
  · cases h
def maxL : List Int → Int
  | [] => 0
  | [x] => x
  | x :: y :: r => max x (maxL (y :: r))
def minL : List Int → Int
  | [] => 0
  | [x] => x
  | x :: y :: r => min x (minL (y :: r))
theorem maxL_ge : ∀ {ns : List Int} {y : Int}, y ∈ ns → y ≤ maxL ns
  | [x], y, h => by simp at h; subst h; exact Int.le_refl _
  | x :: z :: r, y, h => by
    rw [maxL]
    rcases List.mem_cons.mp h with e | h
    · subst e; omega
    · have := maxL_ge h; omega
theorem maxL_mem : ∀ {ns : List Int}, ns ≠ [] → maxL ns ∈ ns
  | [x], _ => by simp [maxL]
  | x :: z :: r, _ => by
    rw [maxL]
    have := maxL_mem (ns := z :: r) (by simp)
    by_cases h : maxL (z :: r) ≤ x
    · rw [Int.max_eq_left h]; exact List.mem_cons_self
    · rw [Int.max_eq_right (by omega)]; exact List.mem_cons_of_mem _ this
theorem minL_le : ∀ {ns : List Int} {y : Int}, y ∈ ns → minL ns ≤ y
  | [x], y, h => by simp at h; subst h; exact Int.le_refl _
  | x :: z :: r, y, h => by
    rw [minL]
    rcases List.mem_cons.mp h with e | h
    · subst e; omega
    · have := minL_le h; omega
theorem minL_mem : ∀ {ns : List Int}, ns ≠ [] → minL ns ∈ ns
  | [x], _ => by simp [minL]
  | x :: z :: r, _ => by
    rw [minL]
    have := minL_mem (ns := z :: r) (by simp)
    by_cases h : x ≤ minL (z :: r)
    · rw [Int.min_eq_left h]; exact List.mem_cons_self
    · rw [Int.min_eq_right (by omega)]; exact List.mem_cons_of_mem _ this
def fMaxL : List D → Option D
  | [d] => (listI? d).bind fun ns => if ns = [] then none else some (.int (maxL ns))
  | [.int a, .int b] => some (.int (max a b))
  | [.int a, .int b, .int c] => some (.int (max a (max b c)))
  | _ => none
def fMinL : List D → Option D
  | [d] => (listI? d).bind fun ns => if ns = [] then none else some (.int (minL ns))
  | [.int a, .int b] => some (.int (min a b))
  | _ => none
def rMax2 : List V → Hp → VK → Prop := fun xs H Q => ∃ i j, xs = [.int i, .int j] ∧ Q (.int (if j > i then j else i)) H
def rMin2 : List V → Hp → VK → Prop := fun xs H Q => ∃ i j, xs = [.int i, .int j] ∧ Q (.int (if j < i then j else i)) H
def rMaxA (K : PySem.W.Frag) : List V → Hp → VK → Prop := fun xs H Q => rMax K xs H Q ∨ rMax2 xs H Q
def rMinA (K : PySem.W.Frag) : List V → Hp → VK → Prop := fun xs H Q => rMin K xs H Q ∨ rMin2 xs H Q
theorem call_maxA {X : Cx} (hc : X.calm = true) : CallR X (.builtin "max") (rMaxA X.K) := CallR.or (cr_max hc) (call_max2 hc)
theorem call_minA {X : Cx} (hc : X.calm = true) : CallR X (.builtin "min") (rMinA X.K) := CallR.or (cr_min hc) (call_min2 hc)
def fMaxA : List D → Option D
  | [d] => (listI? d).bind fun ns => if ns = [] then none else some (.int (maxL ns))
  | [.int a, .int b] => some (.int (max a b))
  | _ => none
theorem cd_max : CallD Γ (rMaxA Γ.K) fMaxA := by
  intro Z H ds d vs Q zh r h q
  unfold fMaxA at h
  split at h
  · rename_i d'
    obtain ⟨v, rfl, r1⟩ := r.one
    cases q1 : listI? d' with
    | none => rw [q1] at h; cases h
    | some ns =>
      rw [q1] at h
      by_cases hn : ns = []
      · simp [hn] at h
      · simp only [Option.bind_some, if_neg hn] at h; cases h
        obtain ⟨a, rfl, s⟩ := listI_rp zh q1 r1
        refine .inl ⟨a, ns, rfl, s, List.length_pos_iff.mpr hn, fun m hm hle => ?_⟩
        have e : m = maxL ns := Int.le_antisymm (maxL_ge hm) (hle _ (maxL_mem hn))
        rw [e]
        exact q.val rp_int
  · rename_i a b
    cases h
    obtain ⟨v, w, rfl, r1, r2⟩ := r.two
    refine .inr ⟨a, b, by rw [r1.1, r2.1], ?_⟩
    rw [show (if b > a then b else a) = max a b by split <;> omega]
    exact q.val rp_int
  · cases h
theorem cd_min : CallD Γ (rMinA Γ.K) fMinL := by
  intro Z H ds d vs Q zh r h q
  unfold fMinL at h
  split at h
  · rename_i d'
    obtain ⟨v, rfl, r1⟩ := r.one
    cases q1 : listI? d' with
    | none => rw [q1] at h; cases h
    | some ns =>
      rw [q1] at h
      by_cases hn : ns = []
      · simp [hn] at h
      · simp only [Option.bind_some, if_neg hn] at h; cases h
        obtain ⟨a, rfl, s⟩ := listI_rp zh q1 r1
        refine .inl ⟨a, ns, rfl, s, List.length_pos_iff.mpr hn, fun m hm hle => ?_⟩
        have e : m = minL ns := Int.le_antisymm (hle _ (minL_mem hn)) (minL_le hm)
        rw [e]
        exact q.val rp_int
  · rename_i a b
    cases h
    obtain ⟨v, w, rfl, r1, r2⟩ := r.two
    refine .inr ⟨a, b, by rw [r1.1, r2.1], ?_⟩
    rw [show (if b < a then b else a) = min a b by split <;> omega]
    exact q.val rp_int
  · cases h
def rAbs : List V → Hp → VK → Prop := fun xs H Q => ∃ i, xs = [.int i] ∧ Q (.int (if i < 0 then -i else i)) H
def fAbs : List D → Option D
  | [.int i] => some (.int (if i < 0 then -i else i))
  | _ => none
theorem cd_abs : CallD Γ rAbs fAbs := by
  intro Z H ds d vs Q zh r h q
  unfold fAbs at h
  split at h
  · cases h
    obtain ⟨v, rfl, r1⟩ := r.one
    exact ⟨_, by rw [r1.1], q.val rp_int⟩
  · cases h
def rInt1 : List V → Hp → VK → Prop := fun xs H Q => (∃ i, xs = [.int i] ∧ Q (.int i) H) ∨ ∃ k, xs = [.bl k] ∧ Q (.int (if k then 1 else 0)) H
def fInt : List D → Option D
  | [.int i] => some (.int i)
  | [.bl k] => some (.int (if k then 1 else 0))
  | _ => none
theorem cd_int : CallD Γ rInt1 fInt := by
  intro Z H ds d vs Q zh r h q
  unfold fInt at h
  split at h
  · cases h
    obtain ⟨v, rfl, r1⟩ := r.one
    exact .inl ⟨_, by rw [r1.1], q.val rp_int⟩
  · cases h
    obtain ⟨v, rfl, r1⟩ := r.one
    exact .inr ⟨_, by rw [r1.1], q.val rp_int⟩
  · cases h
def rListOf (K : PySem.W.Frag) : List V → Hp → VK → Prop := fun xs H Q => ∃ p ys, xs = [.ref p] ∧ (SqL K H p ys ∨ SqT K H p ys) ∧ ∀ l, H l = none → Q (.ref l) (upd H l (.lst ys))
def fList : List D → Option D
  | [d] => (itemsOf d).map fun xs => OL xs
  | _ => none
theorem cd_list : CallD Γ (rListOf Γ.K) fList := by
  intro Z H ds d vs Q zh r h q
  unfold fList at h
  split at h
  · rename_i d'
    obtain ⟨v, rfl, r1⟩ := r.one
    cases q1 : itemsOf d' with
    | none => rw [q1] at h; cases h
    | some xs =>
      rw [q1] at h; cases h
      obtain ⟨a, ws, rfl, s, r2⟩ := itemsOf_rp (K := Γ.K) zh q1 r1
      exact ⟨a, ws, rfl, s, fun l hl => q.node r2 hl rfl⟩
  · cases h
/-- the ints of a list, put in order -/
def isort : List Int → List Int
  | [] => []
  | x :: r => ins x (isort r)
where ins (x : Int) : List Int → List Int
  | [] => [x]
  | y :: r => if x ≤ y then x :: y :: r else y :: ins x r
theorem ins_perm (x : Int) : ∀ l : List Int, (isort.ins x l).Perm (x :: l)
  | [] => .refl _
  | y :: r => by
    rw [isort.ins]
    split
    · exact .refl _
    · exact ((ins_perm x r).cons y).trans (.swap x y r)
theorem isort_perm : ∀ l : List Int, (isort l).Perm l
  | [] => .refl _
  | x :: r => (ins_perm x _).trans ((isort_perm r).cons x)
theorem ins_sorted {x : Int} : ∀ {l : List Int}, l.Pairwise (· ≤ ·) → (isort.ins x l).Pairwise (· ≤ ·)
  | [], _ => List.pairwise_singleton _ _
  | y :: r, h => by
    rw [isort.ins]
    obtain ⟨h1, h2⟩ := List.pairwise_cons.mp h
    split
    · rename_i hxy
      exact List.pairwise_cons.mpr ⟨fun z hz => by
        rcases List.mem_cons.mp hz with e | e
        · subst e; exact hxy
        · exact Int.le_trans hxy (h1 z e), h⟩
    · rename_i hxy
      refine List.pairwise_cons.mpr ⟨fun z hz => ?_, ins_sorted h2⟩
      rcases List.mem_cons.mp ((ins_perm x r).mem_iff.mp hz) with e | e
      · subst e; omega
      · exact h1 z e
theorem isort_sorted : ∀ l : List Int, (isort l).Pairwise (· ≤ ·)
  | [] => List.Pairwise.nil
  | x :: r => ins_sorted (isort_sorted r)
theorem sorted_eq {a b : List Int} (p : a.Perm b) (h1 : a.Pairwise (· ≤ ·)) (h2 : b.Pairwise (· ≤ ·)) : a = b :=
  p.eq_of_pairwise (fun x y _ _ h h' => Int.le_antisymm h h') h1 h2
def fSorted : List D → Option D
  | [d] => (listI? d).map fun ns => OL ((isort ns).map D.int)
  | _ => none
theorem cd_sorted : CallD Γ (rSortedI Γ.K) fSorted := by
  intro Z H ds d vs Q zh r h q
  unfold fSorted at h
  split at h
  · rename_i d'
    obtain ⟨v, rfl, r1⟩ := r.one
    cases q1 : listI? d' with
    | none => rw [q1] at h; cases h
    | some ns =>
      rw [q1] at h; cases h
      obtain ⟨a, rfl, s⟩ := listI_rp zh q1 r1
      refine ⟨a, ns, rfl, s, fun ns' p pm st hp => ?_⟩
      have e := sorted_eq (pm.trans (isort_perm ns).symm) st (isort_sorted ns)
      rw [e]
      exact q.node (RpL.ofInts _) hp rfl
  · cases h
/-! ### items, slices -/
def oIx : D → D → Option D
  | d, .int i => (itemsOf d).bind fun xs => atI xs i
  | _, _ => none
theorem ixN_lt {n : Nat} {i : Int} {j : Nat} (h : ixN n i = some j) : j < n := by
  obtain ⟨_, a, _⟩ := ixN_seq h
  exact a
theorem atI_rp {xs : List D} {vs : List V} {i : Int} {d : D} (h : atI xs i = some d) (r : RpL Γ xs Z vs) : ∃ v, atI vs i = some v ∧ Rp Γ d Z v := by
  unfold atI at h ⊢
  rw [r.len]
  cases q : ixN xs.length i with
  | none => rw [q] at h; cases h
  | some j =>
    rw [q] at h
    exact r.get h
theorem od_ix : OpD Γ (rIx Γ.K) oIx := by
  intro Z H dx dy d x y Q zh hx hy h q
  unfold oIx at h
  split at h
  · rename_i d' i
    cases q1 : itemsOf dx with
    | none => rw [q1] at h; cases h
    | some xs =>
      rw [q1] at h
      have h' : atI xs i = some d := h
      obtain ⟨a, ws, rfl, s, r⟩ := itemsOf_rp (K := Γ.K) zh q1 hx
      obtain ⟨v, hv, rv⟩ := atI_rp h' r
      rcases s with s | s
      · exact .inl ⟨a, ws, i, v, rfl, hy.1, s, hv, q.val rv⟩
      · exact .inr (.inl ⟨a, ws, i, v, rfl, hy.1, s, hv, q.val rv⟩)
  · cases h
end
end MV

namespace MV
open PySem PySem.Spec PyProof.Rows L2
section
variable {Γ : Gm} {W : WX} {io : Bool} {σ σ' : St} {Z H Z1 H1 : Hp} {F F1 : List Addr} {e : Env}
/-! ### what loops walk -/
def iL (f : XG) : AG := fun e => match f e with
  | .ok d e1 => match listOf? (fz d) with
    | some xs => .ok xs e1
    | none => .bad
  | .exc c ns fs e1 => .exc c ns fs e1
  | .bad => .bad
def tupOf? : D → Option (List D)
  | .nd _ .tup xs => some xs
  | _ => none
def iT (f : XG) : AG := fun e => match f e with
  | .ok d e1 => match tupOf? (fz d) with
    | some xs => .ok xs e1
    | none => .bad
  | .exc c ns fs e1 => .exc c ns fs e1
  | .bad => .bad
def small62 (i : Int) : Bool := decide (i.natAbs ≤ 1000000000)
theorem small62_b {i : Int} (h : small62 i = true) : -(2 ^ 62) ≤ i ∧ i < 2 ^ 62 := by
  unfold small62 at h
  simp only [Bool.and_eq_true, decide_eq_true_eq] at h
  omega
/-- lo, lo + c, ..; n of them -/
def rgD (lo c : Int) (n : Nat) : List D := (List.range n).map fun (k : Nat) => .int (lo + (k : Int) * c)
def iRg (g : List D → Option (List D)) (f : AG) : AG := fun e => match f e with
  | .ok ds e1 => match g ds with
    | some xs => .ok xs e1
    | none => .bad
  | .exc c ns fs e1 => .exc c ns fs e1
  | .bad => .bad
def rg1 : List D → Option (List D)
  | [.int j] => if small62 j then some (rgD 0 1 j.toNat) else none
  | _ => none
def rg2 : List D → Option (List D)
  | [.int i, .int j] => if small62 i && small62 j then some (rgD i 1 (j - i).toNat) else none
  | _ => none
/-- downward by ones -/
def rg3 : List D → Option (List D)
  | [.int i, .int j, .int c] => if small62 i && small62 j && decide (c = -1) then some (rgD i (-1) (i - j).toNat) else none
  | _ => none
/-- enumerate(..) of a list -/
def enD : Nat → List D → List D
  | _, [] => []
  | n, d :: ds => OT [.int n, d] :: enD (n + 1) ds
def iE (f : XG) : AG := fun e => match f e with
  | .ok d e1 => match listOf? (fz d) with
    | some xs => .ok (enD 0 xs) e1
    | none => .bad
  | .exc c ns fs e1 => .exc c ns fs e1
  | .bad => .bad
theorem walks_list {a : Addr} {xs : List D} {vs : List V} (s : SqL Γ.K Z a vs) (r : RpL Γ xs Z vs) : WalksD Γ (Itl Γ.K a) Z xs := fun Z1 H1 i z1 h1 => by
  have s1 : SqL Γ.K H1 a vs := (z1.trans h1).sql s
  refine ⟨fun d hd => ?_, fun hl => ⟨vs, s1, by rw [r.len]; exact hl⟩⟩
  obtain ⟨v, hv, rv⟩ := r.get hd
  refine ⟨⟨vs, v, s1, hv⟩, fun x H2 y => ?_⟩
  obtain ⟨rfl, y⟩ := y
  have e := y vs s1
  rw [hv] at e
  cases e
  exact ⟨[], Ex.refl _, Own.mono rv z1 (fun a ha => absurd ha (by simp)), List.nodup_nil, fun a ha => absurd ha (by simp)⟩
theorem walks_tup {a : Addr} {xs : List D} {vs : List V} (s : Z a = some (.tup vs)) (r : RpL Γ xs Z vs) : WalksD Γ (Itt Γ.K a) Z xs := fun Z1 H1 i z1 h1 => by
  have s1 : SqT Γ.K H1 a vs := SqT.of ((z1.trans h1) _ _ s)
  refine ⟨fun d hd => ?_, fun hl => ⟨vs, s1, by rw [r.len]; exact hl⟩⟩
  obtain ⟨v, hv, rv⟩ := r.get hd
  refine ⟨⟨vs, v, s1, hv⟩, fun x H2 y => ?_⟩
  obtain ⟨rfl, y⟩ := y
  have e := y vs s1
  rw [hv] at e
  cases e
  exact ⟨[], Ex.refl _, Own.mono rv z1 (fun a ha => absurd ha (by simp)), List.nodup_nil, fun a ha => absurd ha (by simp)⟩
theorem rgD_get {lo c : Int} {n i : Nat} {d : D} (h : (rgD lo c n)[i]? = some d) : i < n ∧ d = .int (lo + (i : Int) * c) := by
  unfold rgD at h
  rw [List.getElem?_map] at h
  by_cases hi : i < n
  · rw [List.getElem?_range hi] at h
    exact ⟨hi, (Option.some.inj h).symm⟩
  · rw [List.getElem?_eq_none (by simpa using hi)] at h; cases h
theorem rgD_len {lo c : Int} {n : Nat} : (rgD lo c n).length = n := by unfold rgD; simp
theorem walks_rg {lo : Int} {n : Nat} : WalksD Γ (Itr lo n) Z (rgD lo 1 n) := fun Z1 H1 i z1 h1 => by
  refine ⟨fun d hd => ?_, fun hl => by rw [rgD_len] at hl; exact hl⟩
  obtain ⟨hi, rfl⟩ := rgD_get hd
  refine ⟨hi, fun x H2 y => ?_⟩
  obtain ⟨rfl, rfl⟩ := y
  exact ⟨[], Ex.refl _, ⟨by rw [Int.mul_one], rfl⟩, List.nodup_nil, fun a ha => absurd ha (by simp)⟩
theorem walks_rgC {lo c : Int} {n : Nat} : WalksD Γ (Itc lo c n) Z (rgD lo c n) := fun Z1 H1 i z1 h1 => by
  refine ⟨fun d hd => ?_, fun hl => by rw [rgD_len] at hl; exact hl⟩
  obtain ⟨hi, rfl⟩ := rgD_get hd
  refine ⟨hi, fun x H2 y => ?_⟩
  obtain ⟨rfl, rfl⟩ := y
  exact ⟨[], Ex.refl _, ⟨rfl, rfl⟩, List.nodup_nil, fun a ha => absurd ha (by simp)⟩
theorem enD_get : ∀ {xs : List D} {n i : Nat} {d : D}, (enD n xs)[i]? = some d → ∃ x, xs[i]? = some x ∧ d = OT [.int ((n + i : Nat) : Int), x]
  | [], _, _, _, h => by simp [enD] at h
  | x :: xs, n, 0, d, h => by
    simp [enD] at h
    exact ⟨x, rfl, h.symm⟩
  | x :: xs, n, i + 1, d, h => by
    obtain ⟨y, a, b⟩ := enD_get (xs := xs) (n := n + 1) (i := i) (d := d) (by simpa [enD] using h)
    exact ⟨y, by simpa using a, by rw [b, show n + 1 + i = n + (i + 1) by omega]⟩
theorem enD_len : ∀ {xs : List D} {n : Nat}, (enD n xs).length = xs.length
  | [], _ => rfl
  | x :: xs, n => by rw [enD, List.length_cons, List.length_cons, enD_len]
theorem walks_en {a : Addr} {xs : List D} {vs : List V} (s : SqL Γ.K Z a vs) (r : RpL Γ xs Z vs) : WalksD Γ (Ite Γ.K a) Z (enD 0 xs) := fun Z1 H1 i z1 h1 => by
  have s1 : SqL Γ.K H1 a vs := (z1.trans h1).sql s
  refine ⟨fun d hd => ?_, fun hl => ⟨vs, s1, by rw [r.len]; rw [enD_len] at hl; exact hl⟩⟩
  obtain ⟨y, hy, rfl⟩ := enD_get hd
  obtain ⟨v, hv, rv⟩ := r.get hy
  refine ⟨⟨vs, v, s1, hv⟩, fun x H2 y => ?_⟩
  obtain ⟨T, x', rfl, hT, rfl, y⟩ := y
  have e := y vs s1
  rw [hv] at e
  cases e
  have rv1 : Rp Γ _ Z1 v := Own.mono rv z1 (fun a ha => absurd ha (by simp))
  refine ⟨[T], Ex.new hT, ⟨T, [.int ((0 + i : Nat) : Int), v], _, [], rfl, upd_same, ?_, RpL.own (RpL.cons rp_int (RpL.cons rv1 RpL.nil)), .refl _⟩, List.nodup_cons.mpr ⟨by simp, List.nodup_nil⟩, fun a ha => ?_⟩
  · show HO.tup _ = HO.tup _
    rw [Nat.zero_add]
  · have e : a = T := by simpa using ha
    subst e; exact hT
theorem si_list {t : TE} {f : XG} (hf : SemX Γ W t f) : SemI Γ W (iList Γ.K t) (iL f) := by
  intro Z H σ e F R E P
  refine hf.sh E ?_
  unfold iL at P
  cases q : f e with
  | bad => rw [q] at P; exact P
  | exc c ns fs e1 => rw [q] at P; exact P
  | ok d e1 =>
    simp only [q] at P
    intro Z1 H1 v F1 E1 r S1
    cases q2 : listOf? (fz d) with
    | none => simp only [q2] at P; exact P.elim
    | some xs =>
      simp only [q2] at P
      have zz : ∃ a vs, v = .ref a ∧ SqL Γ.K Z1 a vs ∧ RpL Γ xs Z1 vs := listOf_rp (Ex.refl Z1) q2 r
      obtain ⟨a, vs, rfl, s, r1⟩ := zz
      exact ⟨a, rfl, ⟨vs, E1.zh.sql s⟩, P Z1 H1 _ F1 E1 (walks_list s r1) S1⟩
theorem si_tup {t : TE} {f : XG} (hf : SemX Γ W t f) : SemI Γ W (iTup Γ.K t) (iT f) := by
  intro Z H σ e F R E P
  refine hf.sh E ?_
  unfold iT at P
  cases q : f e with
  | bad => rw [q] at P; exact P
  | exc c ns fs e1 => rw [q] at P; exact P
  | ok d e1 =>
    simp only [q] at P
    intro Z1 H1 v F1 E1 r S1
    cases q2 : tupOf? (fz d) with
    | none => simp only [q2] at P; exact P.elim
    | some xs =>
      simp only [q2] at P
      cases q3 : fz d <;> rw [q3] at q2 r <;> try (cases q2; done)
      rename_i o k ys
      cases k <;> try (cases q2; done)
      cases q2
      have f := Rp.flag r
      subst f
      obtain ⟨a, vs, rfl, z1, h1, r1⟩ := Rp.tup E1.zh r
      exact ⟨a, rfl, ⟨vs, SqT.of h1⟩, P Z1 H1 _ F1 E1 (walks_tup z1 r1) S1⟩
theorem si_en {ta : TE} {f : XG} (hf : SemX Γ W ta f) : SemI Γ W (iEnum Γ.K (tCons ta tNil)) (iE f) := by
  intro Z H σ e F R E P
  refine hf.sh E ?_
  unfold iE at P
  cases q : f e with
  | bad => rw [q] at P; exact P
  | exc c ns fs e1 => rw [q] at P; exact P
  | ok d e1 =>
    simp only [q] at P
    intro Z1 H1 v F1 E1 r S1
    cases q2 : listOf? (fz d) with
    | none => simp only [q2] at P; exact P.elim
    | some xs =>
      simp only [q2] at P
      obtain ⟨a, vs, rfl, s, r1⟩ := listOf_rp (Ex.refl Z1) q2 r
      exact ⟨a, vs, rfl, E1.zh.sql s, P Z1 H1 _ F1 E1 (walks_en s r1) S1⟩
theorem si_rg {ta : TA} {f : AG} {wi : TI} {g : List D → Option (List D)} (hf : SemA Γ W ta f)
    (h : ∀ {σ H R}, wi σ H R = ta σ H (fun vs H1 => wi (vs.map some) H1 R) → True) : True := trivial
theorem RpL.three {d d' d'' : D} {vs : List V} (h : RpL Γ [d, d', d''] Z vs) : ∃ v w u, vs = [v, w, u] ∧ Rp Γ d Z v ∧ Rp Γ d' Z w ∧ Rp Γ d'' Z u := by
  obtain ⟨v, w, rfl, r1, r2⟩ := h.split
  obtain ⟨u, x, rfl, r3, r4⟩ := r2.two
  exact ⟨v, u, x, rfl, r1, r3, r4⟩
theorem si_r1 {ta : TA} {f : AG} (hf : SemA Γ W ta f) : SemI Γ W (iRng1 ta) (iRg rg1 f) := by
  intro Z H σ e F R E P
  refine hf Z H σ e F _ E ?_
  unfold iRg at P
  cases q : f e with
  | bad => rw [q] at P; exact P
  | exc c ns fs e1 => rw [q] at P; exact P
  | ok ds e1 =>
    simp only [q] at P
    intro Z1 H1 vs F1 E1 r S1
    cases q2 : rg1 ds with
    | none => simp only [q2] at P; exact P.elim
    | some xs =>
      simp only [q2] at P
      unfold rg1 at q2
      split at q2
      · rename_i j
        split at q2
        · rename_i hj
          cases q2
          obtain ⟨v, rfl, r1⟩ := r.one
          obtain ⟨b1, b2⟩ := small62_b hj
          exact ⟨j, by rw [r1.1], b1, b2, P Z1 H1 _ F1 E1 walks_rg S1⟩
        · cases q2
      · cases q2
theorem si_r2 {ta : TA} {f : AG} (hf : SemA Γ W ta f) : SemI Γ W (iRng2 ta) (iRg rg2 f) := by
  intro Z H σ e F R E P
  refine hf Z H σ e F _ E ?_
  unfold iRg at P
  cases q : f e with
  | bad => rw [q] at P; exact P
  | exc c ns fs e1 => rw [q] at P; exact P
  | ok ds e1 =>
    simp only [q] at P
    intro Z1 H1 vs F1 E1 r S1
    cases q2 : rg2 ds with
    | none => simp only [q2] at P; exact P.elim
    | some xs =>
      simp only [q2] at P
      unfold rg2 at q2
      split at q2
      · rename_i i j
        split at q2
        · rename_i hj
          cases q2
          simp only [Bool.and_eq_true] at hj
          obtain ⟨v, w, rfl, r1, r2⟩ := r.two
          obtain ⟨b1, b2⟩ := small62_b hj.1
          obtain ⟨b3, b4⟩ := small62_b hj.2
          exact ⟨i, j, by rw [r1.1, r2.1], ⟨b1, b2, b3, b4⟩, P Z1 H1 _ F1 E1 walks_rg S1⟩
        · cases q2
      · cases q2
theorem si_r3 {ta : TA} {f : AG} (hf : SemA Γ W ta f) : SemI Γ W (iRng3 ta) (iRg rg3 f) := by
  intro Z H σ e F R E P
  refine hf Z H σ e F _ E ?_
  unfold iRg at P
  cases q : f e with
  | bad => rw [q] at P; exact P
  | exc c ns fs e1 => rw [q] at P; exact P
  | ok ds e1 =>
    simp only [q] at P
    intro Z1 H1 vs F1 E1 r S1
    cases q2 : rg3 ds with
    | none => simp only [q2] at P; exact P.elim
    | some xs =>
      simp only [q2] at P
      unfold rg3 at q2
      split at q2
      · rename_i i j c
        split at q2
        · rename_i hj
          cases q2
          simp only [Bool.and_eq_true, decide_eq_true_eq] at hj
          obtain ⟨⟨hi, hj⟩, rfl⟩ := hj
          obtain ⟨v, w, u, rfl, r1, r2, r3⟩ := r.three
          obtain ⟨b1, b2⟩ := small62_b hi
          obtain ⟨b3, b4⟩ := small62_b hj
          exact ⟨i, j, -1, (i - j).toNat, by rw [r1.1, r2.1, r3.1], RgC.neg b1 b2 b3 b4, P Z1 H1 _ F1 E1 walks_rgC S1⟩
        · cases q2
      · cases q2

/-! ### comprehensions -/
def wipeE (e : Env) : List Nat → Env
  | [] => e
  | v :: vs => (wipeE e vs).set v none
/-- what is held by nobody alone -/
def sh : D → Bool
  | .nd true _ _ => false
  | _ => true
def keep : Option (Option D) → Option D
  | some (some d) => if sh d then some d else none
  | _ => none
def backE (e0 e : Env) : List Nat → Env
  | [] => e
  | v :: vs => (backE e0 e vs).set v (keep e0[v]?)
def backS (σ τ : St) : List Nat → St
  | [] => τ
  | v :: vs => match σ[v]? with
    | some y => (backS σ τ vs).set v y
    | none => backS σ τ vs
theorem sh_rp {d : D} {v : V} (h : sh d = true) (o : Own Γ d Z H v F) : F = [] ∧ Rp Γ d Z v := by
  cases d with
  | non => exact ⟨o.2, o.1, rfl⟩
  | bl b => exact ⟨o.2, o.1, rfl⟩
  | int b => exact ⟨o.2, o.1, rfl⟩
  | str b => exact ⟨o.2, o.1, rfl⟩
  | scr ns => exact ⟨o.1, rfl, o.2⟩
  | exn c ns fs => exact ⟨o.1, rfl, o.2⟩
  | nd ow k xs =>
    cases ow with
    | true => cases h
    | false => exact ⟨o.1, rfl, o.2⟩
theorem EOK.setO {i : Nat} {x : Option D} {y : Option V} (E : EOK Γ Z H σ e F) (h : OwnO Γ x Z H y []) : ∃ F', EOK Γ Z H (σ.set i y) (e.set i x) F' ∧ ∀ a ∈ F', a ∈ F := by
  by_cases hi : i < e.length
  · obtain ⟨y', G1, G2, h1, h2, h3, h4⟩ := E.own.at (List.getElem?_eq_getElem hi)
    have n2 := (List.nodup_append.mp ((h3.nodup_iff).mp E.nd)).2.1
    have m : ∀ a ∈ G2, a ∈ F := fun a ha => h3.mem_iff.mpr (List.mem_append_right _ ha)
    exact ⟨G2, ⟨E.zh, h4 Z H x y [] (Ex.refl _) (fun a _ o _ h => h) h, n2, fun a ha => E.dis a (m a ha), E.ntz, E.tabs⟩, m⟩
  · have l := E.own.len
    rw [List.set_eq_of_length_le (by omega), List.set_eq_of_length_le (by omega)]
    exact ⟨F, E, fun a h => h⟩
theorem EOK.wipe (E : EOK Γ Z H σ e F) : ∀ vs : List Nat, ∃ F', EOK Γ Z H (wipe σ vs) (wipeE e vs) F' ∧ ∀ a ∈ F', a ∈ F
  | [] => ⟨F, E, fun a h => h⟩
  | v :: vs => by
    obtain ⟨F1, E1, m1⟩ := E.wipe vs
    obtain ⟨F2, E2, m2⟩ := E1.setO (i := v) (x := none) (y := none) rfl
    exact ⟨F2, E2, fun a h => m1 a (m2 a h)⟩
theorem EOK.back {Z0 H0 : Hp} {σ0 : St} {e0 : Env} {F0 : List Addr} (E0 : EOK Γ Z0 H0 σ0 e0 F0) (z : Ex Z0 Z) (E : EOK Γ Z H σ e F) : ∀ vs : List Nat, ∃ F', EOK Γ Z H (backS σ0 σ vs) (backE e0 e vs) F' ∧ ∀ a ∈ F', a ∈ F
  | [] => ⟨F, E, fun a h => h⟩
  | v :: vs => by
    obtain ⟨F1, E1, m1⟩ := E0.back z E vs
    have l := E0.own.len
    rw [backS, backE]
    cases q : e0[v]? with
    | none =>
      have hn : σ0[v]? = none := List.getElem?_eq_none (by have := List.getElem?_eq_none_iff.mp q; omega)
      simp only [hn]
      by_cases hl : v < (backE e0 e vs).length
      · -- nothing is told of such a slot
        obtain ⟨F2, E2, m2⟩ := E1.setO (i := v) (x := none) (y := (backS σ0 σ vs)[v]?.getD none) rfl
        have hs : v < (backS σ0 σ vs).length := by rw [E1.own.len]; exact hl
        rw [show (backS σ0 σ vs).set v ((backS σ0 σ vs)[v]?.getD none) = backS σ0 σ vs from set_same (by rw [List.getElem?_eq_getElem hs]; rfl)] at E2
        exact ⟨F2, E2, fun a h => m1 a (m2 a h)⟩
      · rw [List.set_eq_of_length_le (by omega)]
        exact ⟨F1, E1, m1⟩
    | some x =>
      obtain ⟨y, G1, G2, h1, h2, h3, h4⟩ := E0.own.at q
      simp only [h1]
      have ok : OwnO Γ (keep (some x)) Z H y [] := by
        cases x with
        | none => exact rfl
        | some d =>
          show OwnO Γ (if sh d = true then some d else none) Z H y []
          by_cases hs : sh d = true
          · rw [if_pos hs]
            obtain ⟨w, rfl, o⟩ := h2
            obtain ⟨rfl, r⟩ := sh_rp hs o
            exact ⟨w, rfl, Own.mono r z (fun a ha => absurd ha (by simp))⟩
          · rw [if_neg hs]
            show [] = []
            rfl
      obtain ⟨F2, E2, m2⟩ := E1.setO (i := v) ok
      exact ⟨F2, E2, fun a h => m1 a (m2 a h)⟩
theorem wipe_at {σ : St} {i : Nat} : ∀ {vs : List Nat}, i ∉ vs → (wipe σ vs)[i]? = σ[i]?
  | [], _ => rfl
  | v :: vs, h => by
    have h1 : ¬ i = v := fun z => h (z ▸ List.mem_cons_self)
    have h2 : i ∉ vs := fun z => h (List.mem_cons_of_mem _ z)
    rw [L2.wipe, List.getElem?_set_ne (Ne.symm h1), wipe_at h2]
theorem backS_len {σ τ : St} : ∀ vs : List Nat, (backS σ τ vs).length = τ.length
  | [] => rfl
  | v :: vs => by
    rw [backS]
    split
    · rw [List.length_set, backS_len vs]
    · exact backS_len vs
theorem backS_at {σ τ : St} (hl : τ.length = σ.length) (i : Nat) : ∀ vs : List Nat, (backS σ τ vs)[i]? = if i ∈ vs then σ[i]? else τ[i]?
  | [] => by simp [backS]
  | v :: vs => by
    rw [backS]
    by_cases e : i = v
    · subst e
      rw [if_pos List.mem_cons_self]
      cases q : σ[i]? with
      | none =>
        simp only
        exact List.getElem?_eq_none (by rw [backS_len, hl]; exact List.getElem?_eq_none_iff.mp q)
      | some y =>
        simp only
        rw [List.getElem?_set_self (by rw [backS_len, hl]; exact (List.getElem?_eq_some_iff.mp q).1)]
    · have ih := backS_at hl i vs
      have m : (if i ∈ v :: vs then σ[i]? else τ[i]?) = (if i ∈ vs then σ[i]? else τ[i]?) := by
        by_cases hm : i ∈ vs
        · rw [if_pos hm, if_pos (List.mem_cons_of_mem _ hm)]
        · rw [if_neg hm, if_neg fun z => (List.mem_cons.mp z).elim e hm]
      rw [m]
      split
      · rw [List.getElem?_set_ne (Ne.symm e), ih]
      · exact ih
theorem backS_wipe {σ : St} (vs : List Nat) : backS σ (wipe σ vs) vs = σ := by
  refine List.ext_getElem? fun i => ?_
  rw [backS_at (wipe_length σ vs) i vs]
  split
  · rfl
  · rename_i h; exact wipe_at h
def runLc (vs : List Nat) (g : TGt) (t el : XG) : List D → List D → Env → Option (List D × Env)
  | [], acc, e => some (acc, e)
  | d :: ds, acc, e => match g d e with
    | none => none
    | some e1 => match t e1 with
      | .ok (.bl true) e2 => match el e2 with
        | .ok y e3 => if acc.length < LIM then runLc vs g t el ds (acc ++ [y]) (wipeE e3 vs) else none
        | _ => none
      | .ok (.bl false) e2 => runLc vs g t el ds acc (wipeE e2 vs)
      | _ => none
def xLc (vs : List Nat) (src : AG) (g : TGt) (t el : XG) : XG := fun e => match src e with
  | .ok ds e1 => match runLc vs g t el ds [] (wipeE e1 vs) with
    | some (acc, e2) => .ok (OL acc) (backE e1 e2 vs)
    | none => .bad
  | .exc c ns fs e1 => .exc c ns fs e1
  | .bad => .bad
abbrev W0 : WX := fun _ _ _ _ => False
theorem OwnL.append : ∀ {ds es : List D} {Z H : Hp} {vs ws : List V} {F G : List Addr}, OwnL Γ ds Z H vs F → OwnL Γ es Z H ws G → OwnL Γ (ds ++ es) Z H (vs ++ ws) (F ++ G)
  | [], _, _, _, _, _, _, _, ⟨h1, h2⟩, b => by subst h1 h2; exact b
  | d :: ds, _, _, _, _, _, _, _, ⟨v, r, F1, F2, e1, e2, e3, e4⟩, b => by
    subst e1
    refine ⟨v, _, F1, _, rfl, e2, OwnL.append e3 b, ?_⟩
    rw [← List.append_assoc]
    exact List.Perm.append_right _ e4
theorem OwnL.one {d : D} {v : V} {G : List Addr} (o : Own Γ d Z H v G) : OwnL Γ [d] Z H [v] G := ⟨v, [], G, [], rfl, o, ⟨rfl, rfl⟩, by simp⟩
theorem SemS.x {t : TE} {f : XG} (hf : SemX Γ W t f) : True := trivial
/-- the target's slots are the block's -/
def TgIn (g : TG) (vs : List Nat) : Prop := ∀ (x : V) (σ : St) (H : Hp) (Q : St → Hp → Prop), g x σ H (fun σ2 H2 => wipe σ2 vs = wipe σ vs → Q σ2 H2) → g x σ H fun σ2 H2 => wipe σ2 vs = wipe σ vs ∧ Q σ2 H2
theorem wipe_idem {σ : St} (vs : List Nat) : wipe (wipe σ vs) vs = wipe σ vs := by
  refine List.ext_getElem? fun i => ?_
  by_cases h : i ∈ vs
  · have k : ∀ τ : St, ∀ us : List Nat, i ∈ us → (wipe τ us)[i]? = if i < τ.length then some none else none := by
      intro τ us
      induction us with
      | nil => intro z; cases z
      | cons u us ih =>
        intro hm
        rw [L2.wipe]
        by_cases e : u = i
        · subst e
          split
          · rename_i hl
            rw [List.getElem?_set_self (by rw [wipe_length]; exact hl)]
          · rename_i hl
            exact List.getElem?_eq_none (by rw [List.length_set, wipe_length]; omega)
        · rw [List.getElem?_set_ne e]
          exact ih ((List.mem_cons.mp hm).resolve_left (Ne.symm e))
    rw [k _ _ h, k _ _ h, wipe_length]
  · rw [wipe_at h]
theorem wipe_setN {σ : St} {i : Nat} {y : Option V} {vs : List Nat} (h : i ∈ vs) : wipe (σ.set i y) vs = wipe σ vs := by
  have k : ∀ (τ : St) (j : Nat) (us : List Nat), j ∈ us → (wipe τ us)[j]? = if j < τ.length then some none else none := by
    intro τ j us
    induction us with
    | nil => intro z; cases z
    | cons u us ih =>
      intro hm
      rw [L2.wipe]
      by_cases e : u = j
      · subst e
        split
        · rename_i hl
          rw [List.getElem?_set_self (by rw [wipe_length]; exact hl)]
        · rename_i hl
          exact List.getElem?_eq_none (by rw [List.length_set, wipe_length]; omega)
      · rw [List.getElem?_set_ne e]
        exact ih ((List.mem_cons.mp hm).resolve_left (Ne.symm e))
  refine List.ext_getElem? fun j => ?_
  by_cases hj : j ∈ vs
  · rw [k _ _ _ hj, k _ _ _ hj, List.length_set]
  · rw [wipe_at hj, wipe_at hj, List.getElem?_set_ne (fun (e : i = j) => hj (by rw [← e]; exact h))]
theorem tgin_name {i : Nat} {vs : List Nat} (h : i ∈ vs) : TgIn (gName i) vs := fun x σ H Q q => ⟨wipe_setN h, q (wipe_setN h)⟩
theorem tgin_names {vs : List Nat} : ∀ {is : List Nat}, (∀ i ∈ is, i ∈ vs) → ∀ (xs : List V) (σ : St) (H : Hp) (Q : St → Hp → Prop), gNs is xs σ H (fun σ2 H2 => wipe σ2 vs = wipe σ vs → Q σ2 H2) → gNs is xs σ H fun σ2 H2 => wipe σ2 vs = wipe σ vs ∧ Q σ2 H2
  | [], _, xs, σ, H, Q, ⟨e, q⟩ => ⟨e, rfl, q rfl⟩
  | i :: is, h, xs, σ, H, Q, ⟨v, r, e, q⟩ => by
    have w : wipe (σ.set i (some v)) vs = wipe σ vs := wipe_setN (h i List.mem_cons_self)
    have k := tgin_names (is := is) (fun j hj => h j (List.mem_cons_of_mem _ hj)) r (σ.set i (some v)) H Q (by rw [w]; exact q)
    rw [w] at k
    exact ⟨v, r, e, k⟩
theorem tgin_tup {K : PySem.W.Frag} {vs is : List Nat} {n : Nat} (h : ∀ i ∈ is, i ∈ vs) : TgIn (gTup K n (gNs is)) vs := fun x σ H Q ⟨a, xs, e1, e2, e3, q⟩ => ⟨a, xs, e1, e2, e3, tgin_names h xs σ H Q q⟩
theorem sx_lc {wi : TI} {g : TG} {tt : TT} {te : TE} {vs : List Nat} {src : AG} {h : TGt} {t el : XG} (hs : SemI Γ W wi src) (hg : SemG Γ false g h) (hin : TgIn g vs) (ht : SemT Γ W0 tt t) (he : SemX Γ W0 te el) :
    SemX Γ W (tLc wi g tt te vs) (xLc vs src h t el) := by
  intro Z H σ e F Q E P
  refine hs Z H σ e F _ E ?_
  unfold xLc at P
  cases q : src e with
  | bad => rw [q] at P; exact P
  | exc c ns fs e1 => rw [q] at P; exact P
  | ok ds e1 =>
    simp only [q] at P
    intro Z1 H1 J F1 E1 wk S1 Dl hD
    obtain ⟨Fw, Ew, mw⟩ := E1.wipe vs
    have ED := Ew.alloc (Ex.new (o := .lst []) hD)
    cases q0 : runLc vs h t el ds [] (wipeE e1 vs) with
    | none => simp only [q0] at P; exact P.elim
    | some r =>
      obtain ⟨accE, eE⟩ := r
      simp only [q0] at P
      -- the loop's state
      refine ⟨fun i m H' => m = ds.length - i ∧ i ≤ ds.length ∧ ∃ e' Z' F' acc ws Fa, EOK Γ Z' H' (wipe σ vs) e' F' ∧ Ex Z1 Z' ∧ H' Dl = some (.lst ws) ∧ OwnL Γ acc Z' H' ws Fa ∧ ((Dl :: Fa) ++ F').Nodup ∧ (∀ a ∈ Dl :: Fa, Z' a = none) ∧
          Step H1 Z1 F1 H' Z' ((Dl :: Fa) ++ F') ∧ runLc vs h t el (ds.drop i) acc e' = some (accE, eE), ⟨ds.length, by simp, Nat.zero_le _, wipeE e1 vs, Z1, Fw, [], [], [], ED, Ex.refl _, upd_same, ⟨rfl, rfl⟩, ?_, ?_, ?_, q0⟩, ?_⟩
      · exact List.nodup_cons.mpr ⟨(Ew.fresh hD).1, Ew.nd⟩
      · intro a ha
        have ea : a = Dl := by simpa using ha
        subst ea; exact (Ew.fresh hD).2
      · exact (Step.alloc (Fd := [Dl]) (Ex.new hD) (fun a ha => by
          have ea : a = Dl := by simpa using ha
          subst ea; exact hD)).perm (fun x => Iff.rfl) (fun x hx => by
          rcases List.mem_cons.mp hx with rfl | hx
          · exact List.mem_cons_self
          · exact List.mem_cons_of_mem _ (mw x hx))
      rintro i m H2 ⟨rfl, hi, e2, Z2, F2, acc, ws, Fa, E2, z2, hDl, oa, nd, dz, S2, run⟩
      obtain ⟨wg, wst⟩ := wk Z2 H2 i z2 E2.zh
      obtain ⟨nd1, nd2, nd3⟩ := List.nodup_append.mp nd
      by_cases hlt : i < ds.length
      · have hd : ds[i]? = some ds[i] := List.getElem?_eq_getElem hlt
        obtain ⟨go, yl⟩ := wg _ hd
        refine .inr ⟨go, fun H' => ∃ e' Z' F' acc ws Fa, EOK Γ Z' H' (wipe σ vs) e' F' ∧ Ex Z1 Z' ∧ H' Dl = some (.lst ws) ∧ OwnL Γ acc Z' H' ws Fa ∧ ((Dl :: Fa) ++ F').Nodup ∧ (∀ a ∈ Dl :: Fa, Z' a = none) ∧
          Step H1 Z1 F1 H' Z' ((Dl :: Fa) ++ F') ∧ runLc vs h t el (ds.drop (i + 1)) acc e' = some (accE, eE), fun H' hN => ⟨ds.length - (i + 1), by omega, rfl, hlt, hN⟩, fun x H3 y => ?_⟩
        obtain ⟨Fd, ex, o, n, fr⟩ := yl x H3 y
        rw [List.drop_eq_getElem_cons hlt, runLc] at run
        cases q2 : h ds[i] e2 with
        | none => simp only [q2] at run; cases run
        | some e3 =>
          simp only [q2] at run
          have tg := hin x (wipe σ vs) H3 (fun σ2 H4 => tt σ2 H4 fun b H5 => if b = true then te σ2 H5 fun y H6 => ∃ acc, H6 Dl = some (.lst acc) ∧ acc.length < sizeLine ∧
            (∃ e' Z' F' acc' ws Fa, EOK Γ Z' (upd H6 Dl (.lst (acc ++ [y]))) (wipe σ vs) e' F' ∧ Ex Z1 Z' ∧ (upd H6 Dl (.lst (acc ++ [y]))) Dl = some (.lst ws) ∧ OwnL Γ acc' Z' (upd H6 Dl (.lst (acc ++ [y]))) ws Fa ∧ ((Dl :: Fa) ++ F').Nodup ∧ (∀ a ∈ Dl :: Fa, Z' a = none) ∧
              Step H1 Z1 F1 (upd H6 Dl (.lst (acc ++ [y]))) Z' ((Dl :: Fa) ++ F') ∧ runLc vs h t el (ds.drop (i + 1)) acc' e' = some (accE, eE))
            else ∃ e' Z' F' acc ws Fa, EOK Γ Z' H5 (wipe σ vs) e' F' ∧ Ex Z1 Z' ∧ H5 Dl = some (.lst ws) ∧ OwnL Γ acc Z' H5 ws Fa ∧ ((Dl :: Fa) ++ F').Nodup ∧ (∀ a ∈ Dl :: Fa, Z' a = none) ∧
              Step H1 Z1 F1 H5 Z' ((Dl :: Fa) ++ F') ∧ runLc vs h t el (ds.drop (i + 1)) acc e' = some (accE, eE)) ?_
          · rw [wipe_idem] at tg
            exact tg
          rw [wipe_idem]
          refine hg Z2 H3 _ e2 F2 _ x Fd e3 _ (E2.alloc ex) o (E2.nodup fr n) (fun a ha => (E2.fresh (fr a ha)).2) q2 fun Z4 H4 σ4 F4 E4 S4 p4 hw => ?_
          have S4' := (Step.alloc (F := F2) (Z := Z2) ex fr).trans S4
          -- what is kept beside the block's own
          have held : ∀ {Z5 H5 F5}, Step H2 Z2 F2 H5 Z5 F5 → EOK Γ Z5 H5 σ4 e F5 ∨ True → H5 Dl = some (.lst ws) ∧ OwnL Γ acc Z5 H5 ws Fa ∧ (∀ a ∈ Dl :: Fa, Z5 a = none) ∧ (∀ a ∈ Dl :: Fa, a ∉ F5) := fun {Z5 H5 F5} s _ => by
            have some2 : ∀ a ∈ Dl :: Fa, ∃ o, H2 a = some o := fun a ha => by
              rcases List.mem_cons.mp ha with rfl | ha
              · exact ⟨_, hDl⟩
              · exact oa.dom a ha
            have nF : ∀ a ∈ Dl :: Fa, a ∉ F2 := fun a ha hb => nd3 a ha a hb rfl
            refine ⟨s.frame _ _ nt_lst hDl (nF _ List.mem_cons_self), oa.mono s.zext (fun a ha o hn ho => s.frame a o hn ho (nF a (List.mem_cons_of_mem _ ha))), fun a ha => ?_, fun a ha hb => ?_⟩
            · cases q : Z5 a with
              | none => rfl
              | some o =>
                rcases s.zon a (by rw [q]; exact fun z => nomatch z) with y | y | y
                · exact absurd (dz a ha) y
                · exact absurd y (nF a ha)
                · obtain ⟨u, hu⟩ := some2 a ha
                  rw [hu] at y; cases y
            · rcases s.own a hb with y | y
              · exact nF a ha y
              · obtain ⟨u, hu⟩ := some2 a ha
                rw [hu] at y; cases y
          -- back to the loop's form
          have close : ∀ {Z5 H5 F5 e5 τ} , EOK Γ Z5 H5 τ e5 F5 → wipe τ vs = wipe σ vs → Step H2 Z2 F2 H5 Z5 F5 → runLc vs h t el (ds.drop (i + 1)) acc (wipeE e5 vs) = some (accE, eE) →
              ∃ e' Z' F' acc ws Fa, EOK Γ Z' H5 (wipe σ vs) e' F' ∧ Ex Z1 Z' ∧ H5 Dl = some (.lst ws) ∧ OwnL Γ acc Z' H5 ws Fa ∧ ((Dl :: Fa) ++ F').Nodup ∧ (∀ a ∈ Dl :: Fa, Z' a = none) ∧
                Step H1 Z1 F1 H5 Z' ((Dl :: Fa) ++ F') ∧ runLc vs h t el (ds.drop (i + 1)) acc e' = some (accE, eE) := fun {Z5 H5 F5 e5 τ} E5 hw s hr => by
            obtain ⟨k1, k2, k3, k4⟩ := held s (.inr trivial)
            obtain ⟨F6, E6, m6⟩ := E5.wipe vs
            rw [hw] at E6
            refine ⟨_, Z5, F6, acc, ws, Fa, E6, z2.trans s.zext, k1, k2, List.nodup_append.mpr ⟨nd1, E6.nd, fun a ha b hb w => k4 a ha (m6 a (w ▸ hb))⟩, k3, S2.trans ⟨fun a o t ho hn => s.frame a o t ho fun z => hn (List.mem_append_right _ z), s.zext, fun a ha => ?_, fun a ha => (s.zon a ha).imp id fun z => z.imp (List.mem_append_right _) id, s.dom⟩, hr⟩
            rcases List.mem_append.mp ha with ha | ha
            · exact .inl (List.mem_append_left _ ha)
            · exact (s.own a (m6 a ha)).imp (List.mem_append_right _) id
          refine ht Z4 H4 σ4 e3 F4 _ E4 ?_
          cases q3 : t e3 with
          | bad => simp only [q3] at run; cases run
          | exc c ns fs e5 => simp only [q3] at run; cases run
          | ok d e5 =>
            cases d <;> try (simp only [q3] at run; cases run; done)
            rename_i b
            intro Z5 H5 F5 E5 S5
            have S5' := S4'.trans S5
            cases b with
            | false =>
              simp only [q3] at run
              rw [if_neg Bool.false_ne_true]
              exact close E5 hw S5' run
            | true =>
              simp only [q3] at run
              rw [if_pos rfl]
              refine he Z5 H5 σ4 e5 F5 _ E5 ?_
              cases q4 : el e5 with
              | bad => simp only [q4] at run; cases run
              | exc c ns fs e6 => simp only [q4] at run; cases run
              | ok y e6 =>
                simp only [q4] at run
                by_cases hl : acc.length < LIM
                · simp only [if_pos hl] at run
                  intro Z6 H6 v Fy F6 E6 oy ny zy S6
                  have S6' := S5'.trans S6
                  obtain ⟨k1, k2, k3, k4⟩ := held (F5 := Fy ++ F6) S6' (.inr trivial)
                  have lw : ws.length = acc.length := oa.len
                  refine ⟨ws, k1, by rw [lw]; exact Nat.lt_of_lt_of_le hl (lim_le (Nat.le_refl _)), ?_⟩
                  obtain ⟨F7, E7, m7⟩ := E6.wipe vs
                  rw [hw] at E7
                  obtain ⟨ny1, ny2, ny3⟩ := List.nodup_append.mp ny
                  have nDF : Dl ∉ F7 := fun z => k4 Dl List.mem_cons_self (List.mem_append_right _ (m7 _ z))
                  have nDy : Dl ∉ Fy := fun z => k4 Dl List.mem_cons_self (List.mem_append_left _ z)
                  have nDa : Dl ∉ Fa := (List.nodup_cons.mp nd1).1
                  have at' : ∀ b : Addr, b ≠ Dl → ∀ o, H6 b = some o → upd H6 Dl (.lst (ws ++ [v])) b = some o := fun b hb o ho => by rw [upd_ne hb]; exact ho
                  have zDl : Z6 Dl = none := k3 Dl List.mem_cons_self
                  have exZ : Ex Z6 (upd H6 Dl (.lst (ws ++ [v]))) := fun b o ho => at' b (fun z => by rw [z, zDl] at ho; cases ho) o (E6.zh b o ho)
                  refine ⟨wipeE e6 vs, Z6, F7, acc ++ [y], ws ++ [v], Fa ++ Fy, ⟨exZ, E7.own.mono (Ex.refl _) (fun b hb o _ ho => at' b (fun z => nDF (z ▸ hb)) o ho), E7.nd, E7.dis, E7.ntz, tabs_upd E6.tabs k1 nt_lst (fun φ z => nomatch z)⟩, z2.trans S6'.zext, upd_same,
                    OwnL.append (k2.mono (Ex.refl _) (fun b hb o _ ho => at' b (fun z => nDa (z ▸ hb)) o ho)) (OwnL.one (oy.mono (Ex.refl _) (fun b hb o _ ho => at' b (fun z => nDy (z ▸ hb)) o ho))), ?_, ?_, ?_, run⟩
                  · have n1 : (Dl :: (Fa ++ Fy)).Nodup := by
                      refine List.nodup_cons.mpr ⟨fun z => (List.mem_append.mp z).elim nDa nDy, List.nodup_append.mpr ⟨(List.nodup_cons.mp nd1).2, ny1, fun a ha b hb w => ?_⟩⟩
                      subst w
                      exact k4 a (List.mem_cons_of_mem _ ha) (List.mem_append_left _ hb)
                    refine List.nodup_append.mpr ⟨n1, E7.nd, fun a ha b hb w => ?_⟩
                    subst w
                    rcases List.mem_cons.mp ha with rfl | ha
                    · exact nDF hb
                    · rcases List.mem_append.mp ha with ha | ha
                      · exact k4 a (List.mem_cons_of_mem _ ha) (List.mem_append_right _ (m7 _ hb))
                      · exact ny3 a ha a (m7 _ hb) rfl
                  · intro a ha
                    rcases List.mem_cons.mp ha with rfl | ha
                    · exact zDl
                    · rcases List.mem_append.mp ha with ha | ha
                      · exact k3 a (List.mem_cons_of_mem _ ha)
                      · exact zy a ha
                  · refine S2.trans ⟨fun a o t ho hn => at' a (fun z => hn (z ▸ List.mem_append_left _ List.mem_cons_self)) o (S6'.frame a o t ho fun z => hn (List.mem_append_right _ z)), S6'.zext, fun a ha => ?_, fun a ha => (S6'.zon a ha).imp id fun z => z.imp (List.mem_append_right _) id, fun a ha => ?_⟩
                    · rcases List.mem_append.mp ha with ha | ha
                      · rcases List.mem_cons.mp ha with rfl | ha
                        · exact .inl (List.mem_append_left _ List.mem_cons_self)
                        · rcases List.mem_append.mp ha with ha | ha
                          · exact .inl (List.mem_append_left _ (List.mem_cons_of_mem _ ha))
                          · exact (S6'.own a (List.mem_append_left _ ha)).imp (List.mem_append_right _) id
                      · exact (S6'.own a (List.mem_append_right _ (m7 _ ha))).imp (List.mem_append_right _) id
                    · by_cases z : a = Dl
                      · subst z; rw [upd_same] at ha; cases ha
                      · rw [upd_ne z] at ha; exact S6'.dom a ha
                · simp only [if_neg hl] at run; cases run
      · have ei : ds.drop i = [] := List.drop_eq_nil_of_le (by omega)
        rw [ei, runLc] at run
        cases run
        refine .inl ⟨wst (by omega), ?_⟩
        obtain ⟨F3, E3, m3⟩ := E1.back (Z := Z2) z2 E2 vs
        rw [backS_wipe] at E3
        refine P Z2 H2 (.ref Dl) (Dl :: Fa) F3 E3 ⟨Dl, ws, _, Fa, rfl, hDl, rfl, oa, .refl _⟩ (List.nodup_append.mpr ⟨nd1, E3.nd, fun a ha b hb w => nd3 a ha b (m3 b hb) w⟩) dz (S1.trans (S2.perm (fun x => Iff.rfl) fun x hx => ?_))
        rcases List.mem_append.mp hx with h | h
        · exact List.mem_append_left _ h
        · exact List.mem_append_right _ (m3 x h)
end
end MV

namespace MV
open PySem PySem.Spec PyProof.Rows L2
abbrev rSubI : R2 := rI0 fun i j => .int (i - j)
abbrev rDivI : R2 := rI CDivW fun i j => .int (i / j)
abbrev rModI : R2 := rI (fun _ j => 0 < j) fun i j => .int (i % j)
abbrev rPowI : R2 := rI CPow fun i j => .int (i ^ j.toNat)
abbrev rShlI : R2 := rI CPow fun i j => .int (i * 2 ^ j.toNat)
abbrev rShrI : R2 := rI (fun _ j => 0 ≤ j) fun i j => .int (i / 2 ^ j.toNat)
abbrev rAndI : R2 := rI0 fun i j => .int (Builtin.bitAnd i j)
abbrev rOrI : R2 := rI0 fun i j => .int (Builtin.bitOr i j)
abbrev rXorI : R2 := rI0 fun i j => .int (Builtin.bitXor i j)
abbrev rLtI : R2 := rI0 fun i j => .bl (decide (i < j))
abbrev rLeI : R2 := rI0 fun i j => .bl (decide (i ≤ j))
abbrev rGtI : R2 := rI0 fun i j => .bl (decide (j < i))
abbrev rGeI : R2 := rI0 fun i j => .bl (decide (j ≤ i))
abbrev rNegI : V → Hp → VK → Prop := rU fun i => .int (-i)
/-- the classes' places, the tables of code objects -/
structure Cs where
  C : Nat → Addr
  T : List (Addr × Str)
  E : Addr → Nat → Addr → Prop
abbrev GX (X : Cx) (C : Cs) : Gm := ⟨X.K, C.C, C.T, C.E⟩
structure EX (C : Cs) (X : Cx) (e : Expr) (t : WX → TE) (g : XG) : Prop where
  pe : ∀ W, Takes X W → PE X e (t W)
  sem : ∀ W, SemX (GX X C) W (t W) g
structure TX (C : Cs) (X : Cx) (e : Expr) (t : WX → TT) (g : XG) : Prop where
  pt : ∀ W, Takes X W → PT X e (t W)
  sem : ∀ W, SemT (GX X C) W (t W) g
structure WXt (C : Cs) (X : Cx) (e : Expr) (t : WX → TT) (g : XG) : Prop where
  pw : ∀ W, Takes X W → PW X e (t W)
  sem : ∀ W, SemT (GX X C) W (t W) g
structure AX (C : Cs) (X : Cx) (es : List Expr) (t : WX → TA) (g : AG) : Prop where
  pa : ∀ W, Takes X W → PA X es (t W)
  sem : ∀ W, SemA (GX X C) W (t W) g
structure IX (C : Cs) (X : Cx) (tg iter : Expr) (t : WX → TI) (g : AG) : Prop where
  pi : ∀ W, Takes X W → PI X tg iter (t W)
  sem : ∀ W, SemI (GX X C) W (t W) g
structure GXt (C : Cs) (io : Bool) (X : Cx) (tg : Expr) (t : TG) (g : TGt) : Prop where
  pg : PG X tg t
  sem : SemG (GX X C) io t g
structure SX (C : Cs) (io : Bool) (X : Cx) (st : Stmt) (t : WX → TS) (g : SG) : Prop where
  ps : ∀ W, Takes X W → PS X st (t W)
  sem : ∀ W, SemS (GX X C) W io (t W) g
structure SSX (C : Cs) (io : Bool) (X : Cx) (st : List Stmt) (t : WX → TS) (g : SG) : Prop where
  ps : ∀ W, Takes X W → PSs X st (t W)
  sem : ∀ W, SemS (GX X C) W io (t W) g
section
variable {C : Cs} {io : Bool} {X : Cx} {a b c e : Expr} {es : List Expr} {ta tb te : WX → TE} {tt tu tv : WX → TT} {tA : WX → TA} {f g h : XG} {fa : AG} {pos p : Pos} {x : Str}
/-! ### names, constants -/
theorem ex_var (i : Nat) (hN : X.N[i]? = some x := by rfl) (hv : Vis X.env.scope x := by first | exact Or.inl rfl | exact Or.inr (Or.inl rfl) | exact Or.inr (Or.inr rfl)) (hd : (x == ("__debug__" : Str)) = false := by decide)
    (hcd : (x == ("__classdict__" : Str)) = false := by decide) : EX C X (.Name x pos) (fun _ => tVar i) (xVar i) := ⟨fun _ _ => pe_var hN hv hd hcd, fun _ => sx_var⟩
theorem ex_move (i : Nat) (hN : X.N[i]? = some x := by rfl) (hv : Vis X.env.scope x := by first | exact Or.inl rfl | exact Or.inr (Or.inl rfl) | exact Or.inr (Or.inr rfl)) (hd : (x == ("__debug__" : Str)) = false := by decide)
    (hcd : (x == ("__classdict__" : Str)) = false := by decide) : EX C X (.Name x pos) (fun _ => tVar i) (xMove i) := ⟨fun _ _ => pe_var hN hv hd hcd, fun _ => sx_move⟩
theorem ex_int {i : Int} {j : Nat} : EX C X (.Constant (.int i) j pos) (fun _ => tC (.int i)) (xC (.int i)) := ⟨fun _ _ => pe_int, fun _ => sx_const fun _ => rp_int⟩
theorem ex_bl {i : Bool} {j : Nat} : EX C X (.Constant (.bool i) j pos) (fun _ => tC (.bl i)) (xC (.bl i)) := ⟨fun _ _ => pe_bl, fun _ => sx_const fun _ => rp_bl⟩
theorem ex_str {i : Str} {j : Nat} : EX C X (.Constant (.str i) j pos) (fun _ => tC (.str i)) (xC (.str i)) := ⟨fun _ _ => pe_str, fun _ => sx_const fun _ => rp_str⟩
theorem ex_non {j : Nat} : EX C X (.Constant .none j pos) (fun _ => tC .non) (xC .non) := ⟨fun _ _ => pe_non, fun _ => sx_const fun _ => rp_non⟩
/-- a constant of the module -/
theorem ex_glob {v : V} {d : D} {u : Value} (hm : X.mg x = some u) (r : RelV v u) (hd : ∀ Z, Rp (GX X C) d Z v) (hg : Gl X x := by rfl) (hdb : (x == ("__debug__" : Str)) = false := by decide) : EX C X (.Name x pos) (fun _ => tC v) (xC d) :=
  ⟨fun _ _ => pe_glob hg hm r hdb, fun _ => sx_const hd⟩
theorem ex_bor (m : List Bool) (h : EX C X e te g) : EX C X e te (xBor m g) := ⟨h.pe, fun W => sx_bor (h.sem W)⟩
/-! ### operators -/
theorem ex_bin {op : Operator} {r : R2} {o : D → D → Option D} (hr : OpR X (binaryOp op) r) (ho : OpD (GX X C) r o) (ha : EX C X a ta f) (hb : EX C X b tb g) : EX C X (.BinOp a op b pos) (fun W => tOp r (ta W) (tb W)) (x2 o f g) :=
  ⟨fun W k => pe_op hr (ha.pe W k) (hb.pe W k), fun W => sx_op ho (ha.sem W) (hb.sem W)⟩
theorem ex_add (ha : EX C X a ta f) (hb : EX C X b tb g) : EX C X (.BinOp a .Add b pos) (fun W => tOp rAddAny (ta W) (tb W)) (x2 oAdd f g) := ex_bin op_addAny od_add ha hb
theorem ex_sub (ha : EX C X a ta f) (hb : EX C X b tb g) : EX C X (.BinOp a .Sub b pos) (fun W => tOp rSubI (ta W) (tb W)) (x2 oSub f g) := ex_bin op_sub od_sub ha hb
theorem ex_mul (ha : EX C X a ta f) (hb : EX C X b tb g) : EX C X (.BinOp a .Mult b pos) (fun W => tOp rMulAny (ta W) (tb W)) (x2 oMul f g) := ex_bin op_mulAny od_mul ha hb
theorem ex_fdiv (ha : EX C X a ta f) (hb : EX C X b tb g) : EX C X (.BinOp a .FloorDiv b pos) (fun W => tOp rDivI (ta W) (tb W)) (x2 oDiv f g) := ex_bin op_fdivW od_div ha hb
theorem ex_mod (ha : EX C X a ta f) (hb : EX C X b tb g) : EX C X (.BinOp a .Mod b pos) (fun W => tOp rModI (ta W) (tb W)) (x2 oMod f g) := ex_bin op_mod od_mod ha hb
theorem ex_pow (ha : EX C X a ta f) (hb : EX C X b tb g) : EX C X (.BinOp a .Pow b pos) (fun W => tOp rPowI (ta W) (tb W)) (x2 oPow f g) := ex_bin op_pow od_pow ha hb
theorem ex_shl (ha : EX C X a ta f) (hb : EX C X b tb g) : EX C X (.BinOp a .LShift b pos) (fun W => tOp rShlI (ta W) (tb W)) (x2 oShl f g) := ex_bin op_shl od_shl ha hb
theorem ex_shr (ha : EX C X a ta f) (hb : EX C X b tb g) : EX C X (.BinOp a .RShift b pos) (fun W => tOp rShrI (ta W) (tb W)) (x2 oShr f g) := ex_bin op_shr od_shr ha hb
theorem ex_band (ha : EX C X a ta f) (hb : EX C X b tb g) : EX C X (.BinOp a .BitAnd b pos) (fun W => tOp rAndI (ta W) (tb W)) (x2 oBand f g) := ex_bin op_and od_band ha hb
theorem ex_bitor (ha : EX C X a ta f) (hb : EX C X b tb g) : EX C X (.BinOp a .BitOr b pos) (fun W => tOp rOrI (ta W) (tb W)) (x2 oBor f g) := ex_bin op_or od_bor ha hb
theorem ex_bxor (ha : EX C X a ta f) (hb : EX C X b tb g) : EX C X (.BinOp a .BitXor b pos) (fun W => tOp rXorI (ta W) (tb W)) (x2 oBxor f g) := ex_bin op_xor od_bxor ha hb
theorem ex_neg (ha : EX C X a ta f) : EX C X (.UnaryOp .USub a pos) (fun W => tUn rNegI (ta W)) (x1 oNeg f) := ⟨fun W k => pe_un un_neg (ha.pe W k), fun W => sx_un ud_neg (ha.sem W)⟩
theorem ex_cmp {op : CmpOp} {r : R2} {o : D → D → Option D} (hr : OpR X (compareOp op) r) (ho : OpD (GX X C) r o) (ha : EX C X a ta f) (hb : EX C X b tb g) (hm : behindInMarks op b = false) : EX C X (.Compare a [op] [b] pos) (fun W => tOp r (ta W) (tb W)) (x2 o f g) :=
  ⟨fun W k => pe_cmpR hr (ha.pe W k) (hb.pe W k) hm, fun W => sx_op ho (ha.sem W) (hb.sem W)⟩
theorem ex_lt (ha : EX C X a ta f) (hb : EX C X b tb g) : EX C X (.Compare a [.Lt] [b] pos) (fun W => tOp rLtI (ta W) (tb W)) (x2 oLt f g) := ex_cmp op_lt od_lt ha hb (nomark _)
theorem ex_le (ha : EX C X a ta f) (hb : EX C X b tb g) : EX C X (.Compare a [.LtE] [b] pos) (fun W => tOp rLeI (ta W) (tb W)) (x2 oLe f g) := ex_cmp op_le od_le ha hb (nomark _)
theorem ex_gt (ha : EX C X a ta f) (hb : EX C X b tb g) : EX C X (.Compare a [.Gt] [b] pos) (fun W => tOp rGtI (ta W) (tb W)) (x2 oGt f g) := ex_cmp op_gt od_gt ha hb (nomark _)
theorem ex_ge (ha : EX C X a ta f) (hb : EX C X b tb g) : EX C X (.Compare a [.GtE] [b] pos) (fun W => tOp rGeI (ta W) (tb W)) (x2 oGe f g) := ex_cmp op_ge od_ge ha hb (nomark _)
theorem ex_eq {K : PySem.W.Frag} (hu : X.A.units + 64 < cLine) (ha : EX C X a ta f) (hb : EX C X b tb g) (hK : X.K = K := by rfl) : EX C X (.Compare a [.Eq] [b] pos) (fun W => tOp (rEqD K) (ta W) (tb W)) (x2 oEq f g) := by subst hK; exact (ex_cmp (op_eqD hu) (od_eq (Γ := GX X C)) ha hb (nomark _))
theorem ex_ne {K : PySem.W.Frag} (hu : X.A.units + 64 < cLine) (ha : EX C X a ta f) (hb : EX C X b tb g) (hK : X.K = K := by rfl) : EX C X (.Compare a [.NotEq] [b] pos) (fun W => tOp (rNeD K) (ta W) (tb W)) (x2 oNe f g) := by subst hK; exact (ex_cmp (op_neD hu) (od_ne (Γ := GX X C)) ha hb (nomark _))
theorem ex_in {K : PySem.W.Frag} (ha : EX C X a ta f) (hb : EX C X b tb g) (hm : behindInMarks .In b = false := by rfl) (hK : X.K = K := by rfl) : EX C X (.Compare a [.In] [b] pos) (fun W => tOp (rIn K false) (ta W) (tb W)) (x2 oIn f g) := by subst hK; exact (ex_cmp op_in_seq (od_inB (Γ := GX X C)) ha hb hm)
theorem ex_nin {K : PySem.W.Frag} (ha : EX C X a ta f) (hb : EX C X b tb g) (hm : behindInMarks .NotIn b = false := by rfl) (hK : X.K = K := by rfl) : EX C X (.Compare a [.NotIn] [b] pos) (fun W => tOp (rIn K true) (ta W) (tb W)) (x2 oNotIn f g) := by subst hK; exact (ex_cmp op_notIn_seq (od_inB (Γ := GX X C)) ha hb hm)
theorem ex_isN {j : Nat} {p' : Pos} (ha : EX C X a ta f) : EX C X (.Compare a [.Is] [.Constant .none j p'] pos) (fun W => tOp rIsNn (ta W) (tC .non)) (x2 oIsN f (xC .non)) := ex_cmp op_isN od_isN ha ex_non (nomark _)
theorem ex_notN {j : Nat} {p' : Pos} (ha : EX C X a ta f) : EX C X (.Compare a [.IsNot] [.Constant .none j p'] pos) (fun W => tOp rNotNn (ta W) (tC .non)) (x2 oNotN f (xC .non)) := ex_cmp op_notN od_notN ha ex_non (nomark _)
/-! ### tests -/
theorem tx_val (h : EX C X e te g) (he : ∀ whole, isTrue e X.env whole = (do let v ← whole; standAt e.pos; holding [v] (truthy v)) := by intro _; rfl) : TX C X e (fun W => tB (te W)) g := ⟨fun W k => pt_val (h.pe W k) he, fun W => st_val (h.sem W)⟩
theorem tx_cmp {op : CmpOp} {r : R2} {o : D → D → Option D} (hr : OpR X (compareOp op) r) (ho : OpD (GX X C) r o) (ha : EX C X a ta f) (hb : EX C X b tb g) (hm : behindInMarks op b = false) : TX C X (.Compare a [op] [b] pos) (fun W => tTest (tOp r (ta W) (tb W))) (x2 o f g) :=
  ⟨fun W k => pt_cmpR hr (ha.pe W k) (hb.pe W k) hm, fun W => st_test (sx_op ho (ha.sem W) (hb.sem W))⟩
/-- .. read without giving away -/
theorem st_bor {Γ : Gm} {W : WX} {t : TE} {g : XG} {m : List Bool} (h : SemX Γ W t g) : SemT Γ W (tTest t) (xBor m g) := st_test (sx_bor h)
theorem tx_cmpB (m : List Bool) {op : CmpOp} {r : R2} {o : D → D → Option D} (hr : OpR X (compareOp op) r) (ho : OpD (GX X C) r o) (ha : EX C X a ta f) (hb : EX C X b tb g) (hm : behindInMarks op b = false) : TX C X (.Compare a [op] [b] pos) (fun W => tTest (tOp r (ta W) (tb W))) (xBor m (x2 o f g)) :=
  ⟨fun W k => pt_cmpR hr (ha.pe W k) (hb.pe W k) hm, fun W => st_bor (sx_op ho (ha.sem W) (hb.sem W))⟩
theorem tx_lt (m : List Bool) (ha : EX C X a ta f) (hb : EX C X b tb g) : TX C X (.Compare a [.Lt] [b] pos) (fun W => tTest (tOp rLtI (ta W) (tb W))) (xBor m (x2 oLt f g)) := tx_cmpB m op_lt od_lt ha hb (nomark _)
theorem tx_le (m : List Bool) (ha : EX C X a ta f) (hb : EX C X b tb g) : TX C X (.Compare a [.LtE] [b] pos) (fun W => tTest (tOp rLeI (ta W) (tb W))) (xBor m (x2 oLe f g)) := tx_cmpB m op_le od_le ha hb (nomark _)
theorem tx_gt (m : List Bool) (ha : EX C X a ta f) (hb : EX C X b tb g) : TX C X (.Compare a [.Gt] [b] pos) (fun W => tTest (tOp rGtI (ta W) (tb W))) (xBor m (x2 oGt f g)) := tx_cmpB m op_gt od_gt ha hb (nomark _)
theorem tx_ge (m : List Bool) (ha : EX C X a ta f) (hb : EX C X b tb g) : TX C X (.Compare a [.GtE] [b] pos) (fun W => tTest (tOp rGeI (ta W) (tb W))) (xBor m (x2 oGe f g)) := tx_cmpB m op_ge od_ge ha hb (nomark _)
theorem tx_eq {K : PySem.W.Frag} (m : List Bool) (hu : X.A.units + 64 < cLine) (ha : EX C X a ta f) (hb : EX C X b tb g) (hK : X.K = K := by rfl) : TX C X (.Compare a [.Eq] [b] pos) (fun W => tTest (tOp (rEqD K) (ta W) (tb W))) (xBor m (x2 oEq f g)) := by subst hK; exact (tx_cmpB m (op_eqD hu) (od_eq (Γ := GX X C)) ha hb (nomark _))
theorem tx_ne {K : PySem.W.Frag} (m : List Bool) (hu : X.A.units + 64 < cLine) (ha : EX C X a ta f) (hb : EX C X b tb g) (hK : X.K = K := by rfl) : TX C X (.Compare a [.NotEq] [b] pos) (fun W => tTest (tOp (rNeD K) (ta W) (tb W))) (xBor m (x2 oNe f g)) := by subst hK; exact (tx_cmpB m (op_neD hu) (od_ne (Γ := GX X C)) ha hb (nomark _))
theorem tx_in {K : PySem.W.Frag} (m : List Bool) (ha : EX C X a ta f) (hb : EX C X b tb g) (hm : behindInMarks .In b = false := by rfl) (hK : X.K = K := by rfl) : TX C X (.Compare a [.In] [b] pos) (fun W => tTest (tOp (rIn K false) (ta W) (tb W))) (xBor m (x2 oIn f g)) := by subst hK; exact (tx_cmpB m op_in_seq (od_inB (Γ := GX X C)) ha hb hm)
theorem tx_nin {K : PySem.W.Frag} (m : List Bool) (ha : EX C X a ta f) (hb : EX C X b tb g) (hm : behindInMarks .NotIn b = false := by rfl) (hK : X.K = K := by rfl) : TX C X (.Compare a [.NotIn] [b] pos) (fun W => tTest (tOp (rIn K true) (ta W) (tb W))) (xBor m (x2 oNotIn f g)) := by subst hK; exact (tx_cmpB m op_notIn_seq (od_inB (Γ := GX X C)) ha hb hm)
theorem tx_isN (m : List Bool) {j : Nat} {p' : Pos} (ha : EX C X a ta f) : TX C X (.Compare a [.Is] [.Constant .none j p'] pos) (fun W => tTest (tOp rIsNn (ta W) (tC .non))) (xBor m (x2 oIsN f (xC .non))) := tx_cmpB m op_isN od_isN ha ex_non (nomark _)
theorem tx_notN (m : List Bool) {j : Nat} {p' : Pos} (ha : EX C X a ta f) : TX C X (.Compare a [.IsNot] [.Constant .none j p'] pos) (fun W => tTest (tOp rNotNn (ta W) (tC .non))) (xBor m (x2 oNotN f (xC .non))) := tx_cmpB m op_notN od_notN ha ex_non (nomark _)
theorem tx_not (h : TX C X e tt g) : TX C X (.UnaryOp .Not e pos) (fun W => tNot (tt W)) (x1 bNot g) := ⟨fun W k => pt_not (h.pt W k), fun W => st_not (h.sem W)⟩
theorem wx_and1 (h : TX C X e tt g) : WXt C X (.BoolOp .And [e] pos) tt g := ⟨fun W k => pw_and1 (h.pt W k), h.sem⟩
theorem wx_or1 (h : TX C X e tt g) : WXt C X (.BoolOp .Or [e] pos) tt g := ⟨fun W k => pw_or1 (h.pt W k), h.sem⟩
theorem wx_and (ha : TX C X a tt f) (hb : WXt C X (.BoolOp .And (b :: es) pos) tu g) : WXt C X (.BoolOp .And (a :: b :: es) pos) (fun W => tAnd (tt W) (tu W)) (xAnd f g) := ⟨fun W k => pw_and (ha.pt W k) (hb.pw W k), fun W => st_and (ha.sem W) (hb.sem W)⟩
theorem wx_or (ha : TX C X a tt f) (hb : WXt C X (.BoolOp .Or (b :: es) pos) tu g) : WXt C X (.BoolOp .Or (a :: b :: es) pos) (fun W => tOr (tt W) (tu W)) (xOr f g) := ⟨fun W k => pw_or (ha.pt W k) (hb.pw W k), fun W => st_or (ha.sem W) (hb.sem W)⟩
theorem tx_w (h : WXt C X e tt g) : TX C X e tt g := ⟨fun W k => (h.pw W k).pt, h.sem⟩
theorem ex_if (hc : TX C X c tt h) (ha : EX C X a ta f) (hb : EX C X b tb g) : EX C X (.IfExp c a b pos) (fun W => tIf (tt W) (ta W) (tb W)) (xIf h f g) := ⟨fun W k => pe_ifExp (hc.pt W k) (ha.pe W k) (hb.pe W k), fun W => sx_if (hc.sem W) (ha.sem W) (hb.sem W)⟩
/-! ### arguments, displays, calls -/
theorem ax_nil : AX C X [] (fun _ => tNil) aNil := ⟨fun _ _ => pa_nil, fun _ => sa_nil⟩
theorem ax_cons (ha : EX C X e te g) (hr : AX C X es tA fa) (hs : starEach (e :: es) X.env = (false, eval e X.env) :: starEach es X.env := by rfl) : AX C X (e :: es) (fun W => tCons (te W) (tA W)) (aCons g fa) := ⟨fun W k => pa_cons (ha.pe W k) (hr.pa W k) hs, fun W => sa_cons (ha.sem W) (hr.sem W)⟩
def xDsp (k : Kd) (f : AG) : XG := fun e => match f e with
  | .ok ds e1 => if ds.length ≤ LIM then .ok (.nd true k ds) e1 else .bad
  | .exc c ns fs e1 => .exc c ns fs e1
  | .bad => .bad
theorem sx_lst {Γ : Gm} {W : WX} {t : TA} {f : AG} (hf : SemA Γ W t f) : SemX Γ W (tLst t) (xDsp .lst f) := by
  intro Z H σ e F Q E P
  refine hf Z H σ e F _ E ?_
  unfold xDsp at P
  cases q1 : f e with
  | bad => rw [q1] at P; exact P
  | exc c ns fs e1 => rw [q1] at P; exact P
  | ok ds e1 =>
    simp only [q1] at P
    intro Z1 H1 vs F1 E1 R1 S1
    by_cases hl : ds.length ≤ LIM
    · simp only [if_pos hl] at P
      refine ⟨by rw [R1.len]; exact lim_le hl, fun p hp => ?_⟩
      have q : NewQ Γ Z1 H1 (OL ds) Q := fun H3 u Fd ex o n fr => P Z1 H3 u Fd F1 (E1.alloc ex) o (E1.nodup fr n) (fun a ha => (E1.fresh (fr a ha)).2) (S1.trans (Step.alloc ex fr))
      exact q.node R1 hp rfl
    · simp only [if_neg hl] at P; exact P.elim
theorem sx_tup {Γ : Gm} {W : WX} {t : TA} {f : AG} (hf : SemA Γ W t f) : SemX Γ W (tTup t) (xDsp .tup f) := by
  intro Z H σ e F Q E P
  refine hf Z H σ e F _ E ?_
  unfold xDsp at P
  cases q1 : f e with
  | bad => rw [q1] at P; exact P
  | exc c ns fs e1 => rw [q1] at P; exact P
  | ok ds e1 =>
    simp only [q1] at P
    intro Z1 H1 vs F1 E1 R1 S1
    by_cases hl : ds.length ≤ LIM
    · simp only [if_pos hl] at P
      refine ⟨by rw [R1.len]; exact lim_le hl, fun p hp => ?_⟩
      have q : NewQ Γ Z1 H1 (OT ds) Q := fun H3 u Fd ex o n fr => P Z1 H3 u Fd F1 (E1.alloc ex) o (E1.nodup fr n) (fun a ha => (E1.fresh (fr a ha)).2) (S1.trans (Step.alloc ex fr))
      exact q.node R1 hp rfl
    · simp only [if_neg hl] at P; exact P.elim
theorem ex_lst (ha : AX C X es tA fa) : EX C X (.List es pos) (fun W => tLst (tA W)) (xDsp .lst fa) := ⟨fun W k => pe_lst (ha.pa W k), fun W => sx_lst (ha.sem W)⟩
theorem ex_tup {j : Nat} (ha : AX C X es tA fa) : EX C X (.Tuple es j pos) (fun W => tTup (tA W)) (xDsp .tup fa) := ⟨fun W k => pe_tup (ha.pa W k), fun W => sx_tup (ha.sem W)⟩
theorem ex_ix {K : PySem.W.Frag} (ha : EX C X a ta f) (hb : EX C X b tb g) (hs : PlainIx b := by intro _ _; rfl) (hK : X.K = K := by rfl) : EX C X (.Subscript a b pos) (fun W => tOp (rIx K) (ta W) (tb W)) (x2 oIx f g) := by subst hK; exact (⟨fun W k => pe_ix ix_seq (ha.pe W k) (hb.pe W k) hs, fun W => sx_op (od_ix (Γ := GX X C)) (ha.sem W) (hb.sem W)⟩)
/-- a built-in function, a built-in class, called -/
theorem ex_callB {id : String} {r : List V → Hp → VK → Prop} {o : List D → Option D} (hc : CallR X (.builtin id) r) (ho : CallD (GX X C) r o) (hv : bootBuiltins x = some (.builtin id)) (hm : X.mg x = none) (ha : AX C X (e :: es) tA fa) (hg : Gl X x := by rfl) (hn : x ≠ "__name__" := by decide)
    (hdb : (x == ("__debug__" : Str)) = false := by decide) (he : starEach (e :: es) X.env = (false, eval e X.env) :: starEach es X.env := by rfl) (hpl : (backTo pos (starEach es X.env)).any (·.1) = false := by rfl) : EX C X (.Call (.Name x p) (e :: es) [] pos) (fun W => tCB r (tA W)) (xN o fa) :=
  ⟨fun W k => pe_callB hc hg hm hv (ha.pa W k) hn hdb he hpl, fun W => sx_call ho (ha.sem W)⟩
theorem ex_callTy {T : String} {r : List V → Hp → VK → Prop} {o : List D → Option D} (hc : CallR X (.type T) r) (ho : CallD (GX X C) r o) (hv : bootBuiltins x = some (.type T)) (hm : X.mg x = none) (ha : AX C X (e :: es) tA fa) (hg : Gl X x := by rfl) (hn : x ≠ "__name__" := by decide)
    (hdb : (x == ("__debug__" : Str)) = false := by decide) (he : starEach (e :: es) X.env = (false, eval e X.env) :: starEach es X.env := by rfl) (hpl : (backTo pos (starEach es X.env)).any (·.1) = false := by rfl) : EX C X (.Call (.Name x p) (e :: es) [] pos) (fun W => tCB r (tA W)) (xN o fa) :=
  ⟨fun W k => pe_callTy hc hg hm hv (ha.pa W k) hn hdb he hpl, fun W => sx_call ho (ha.sem W)⟩
theorem ex_len {K : PySem.W.Frag} (hm : X.mg "len" = none) (ha : AX C X (e :: es) tA fa) (hg : Gl X "len" := by rfl) (he : starEach (e :: es) X.env = (false, eval e X.env) :: starEach es X.env := by rfl) (hpl : (backTo pos (starEach es X.env)).any (·.1) = false := by rfl) (hK : X.K = K := by rfl) :
    EX C X (.Call (.Name "len" p) (e :: es) [] pos) (fun W => tCB (rLenA K) (tA W)) (xN fLen fa) := by subst hK; exact (ex_callB call_lenA (cd_len (Γ := GX X C)) PySem.boot_len hm ha hg (by decide) (by decide) he hpl)
theorem ex_sum {K : PySem.W.Frag} (hm : X.mg "sum" = none) (ha : AX C X (e :: es) tA fa) (hc : X.calm = true := by rfl) (hg : Gl X "sum" := by rfl) (he : starEach (e :: es) X.env = (false, eval e X.env) :: starEach es X.env := by rfl) (hpl : (backTo pos (starEach es X.env)).any (·.1) = false := by rfl) (hK : X.K = K := by rfl) :
    EX C X (.Call (.Name "sum" p) (e :: es) [] pos) (fun W => tCB (rSum K) (tA W)) (xN fSumI fa) := by subst hK; exact (ex_callB (cr_sum hc) (cd_sum (Γ := GX X C)) (by decide +kernel) hm ha hg (by decide) (by decide) he hpl)
theorem ex_max {K : PySem.W.Frag} (hm : X.mg "max" = none) (ha : AX C X (e :: es) tA fa) (hc : X.calm = true := by rfl) (hg : Gl X "max" := by rfl) (he : starEach (e :: es) X.env = (false, eval e X.env) :: starEach es X.env := by rfl) (hpl : (backTo pos (starEach es X.env)).any (·.1) = false := by rfl) (hK : X.K = K := by rfl) :
    EX C X (.Call (.Name "max" p) (e :: es) [] pos) (fun W => tCB (rMaxA K) (tA W)) (xN fMaxA fa) := by subst hK; exact (ex_callB (call_maxA hc) (cd_max (Γ := GX X C)) (by decide +kernel) hm ha hg (by decide) (by decide) he hpl)
theorem ex_min {K : PySem.W.Frag} (hm : X.mg "min" = none) (ha : AX C X (e :: es) tA fa) (hc : X.calm = true := by rfl) (hg : Gl X "min" := by rfl) (he : starEach (e :: es) X.env = (false, eval e X.env) :: starEach es X.env := by rfl) (hpl : (backTo pos (starEach es X.env)).any (·.1) = false := by rfl) (hK : X.K = K := by rfl) :
    EX C X (.Call (.Name "min" p) (e :: es) [] pos) (fun W => tCB (rMinA K) (tA W)) (xN fMinL fa) := by subst hK; exact (ex_callB (call_minA hc) (cd_min (Γ := GX X C)) (by decide +kernel) hm ha hg (by decide) (by decide) he hpl)
theorem ex_abs (hm : X.mg "abs" = none) (ha : AX C X (e :: es) tA fa) (hg : Gl X "abs" := by rfl) (he : starEach (e :: es) X.env = (false, eval e X.env) :: starEach es X.env := by rfl) (hpl : (backTo pos (starEach es X.env)).any (·.1) = false := by rfl) :
    EX C X (.Call (.Name "abs" p) (e :: es) [] pos) (fun W => tCB rAbs (tA W)) (xN fAbs fa) := ex_callB call_abs cd_abs (by decide +kernel) hm ha hg (by decide) (by decide) he hpl
theorem ex_sorted {K : PySem.W.Frag} (hm : X.mg "sorted" = none) (ha : AX C X (e :: es) tA fa) (hg : Gl X "sorted" := by rfl) (he : starEach (e :: es) X.env = (false, eval e X.env) :: starEach es X.env := by rfl) (hpl : (backTo pos (starEach es X.env)).any (·.1) = false := by rfl) (hK : X.K = K := by rfl) :
    EX C X (.Call (.Name "sorted" p) (e :: es) [] pos) (fun W => tCB (rSortedI K) (tA W)) (xN fSorted fa) := by subst hK; exact (ex_callB cr_sortedI (cd_sorted (Γ := GX X C)) (by decide +kernel) hm ha hg (by decide) (by decide) he hpl)
theorem ex_toint (hm : X.mg "int" = none) (ha : AX C X (e :: es) tA fa) (hg : Gl X "int" := by rfl) (he : starEach (e :: es) X.env = (false, eval e X.env) :: starEach es X.env := by rfl) (hpl : (backTo pos (starEach es X.env)).any (·.1) = false := by rfl) :
    EX C X (.Call (.Name "int" p) (e :: es) [] pos) (fun W => tCB rInt1 (tA W)) (xN fInt fa) := ex_callTy call_int1 cd_int (by decide +kernel) hm ha hg (by decide) (by decide) he hpl
theorem ex_tolist {K : PySem.W.Frag} (hm : X.mg "list" = none) (ha : AX C X (e :: es) tA fa) (hg : Gl X "list" := by rfl) (he : starEach (e :: es) X.env = (false, eval e X.env) :: starEach es X.env := by rfl) (hpl : (backTo pos (starEach es X.env)).any (·.1) = false := by rfl) (hK : X.K = K := by rfl) :
    EX C X (.Call (.Name "list" p) (e :: es) [] pos) (fun W => tCB (rListOf K) (tA W)) (xN fList fa) := by subst hK; exact (ex_callTy call_list_of (cd_list (Γ := GX X C)) (by decide +kernel) hm ha hg (by decide) (by decide) he hpl)
/-- a def of the text, called -/
theorem ex_call {K : PySem.W.Frag} {k n : Nat} {fA : Addr} {fd : FuncData} {ps : List Str} {φ : DF} (G : FnOk X.prog X.w X.K X.mg X.base (L2.CX X.prog X.w) k fA fd ps (spD ⟨K, C.C, C.T, C.E⟩ n false φ)) (hr : Room k X.A) (hm : X.mg x = some (.ref fA)) (hk : PySem.W.keepIn X.K (.ref fA) = true) (hb : Binds X.K fd ps [])
    (ha : AX C X (e :: es) tA fa) (hg : Gl X x := by rfl) (hdb : (x == ("__debug__" : Str)) = false := by decide) (he : starEach (e :: es) X.env = (false, eval e X.env) :: starEach es X.env := by rfl) (hpl : (backTo pos (starEach es X.env)).any (·.1) = false := by rfl) (hK : X.K = K := by rfl) :
    EX C X (.Call (.Name x p) (e :: es) [] pos) (fun W => tCallSD (spD (⟨K, C.C, C.T, C.E⟩) n false φ) [] (WE W) (tA W)) (xCall n φ fa) := by subst hK; exact (⟨fun W k => pe_callSD G hr hg hm hk hb .nil (fun σ => passAt k σ) (ha.pa W k) hdb he hpl, fun W => sx_calld (ha.sem W)⟩)
/-- .. that changes its first argument, a name -/
theorem ex_callIO {K : PySem.W.Frag} (i : Nat) {k n : Nat} {fA : Addr} {fd : FuncData} {ps : List Str} {φ : DF} {y : Str} {py : Pos} (G : FnOk X.prog X.w X.K X.mg X.base (L2.CX X.prog X.w) k fA fd ps (spD ⟨K, C.C, C.T, C.E⟩ n true φ)) (hr : Room k X.A) (hm : X.mg x = some (.ref fA)) (hk : PySem.W.keepIn X.K (.ref fA) = true) (hb : Binds X.K fd ps [])
    (ha : AX C X es tA fa) (hN : X.N[i]? = some y := by rfl) (hv : Vis X.env.scope y := by first | exact Or.inl rfl | exact Or.inr (Or.inl rfl) | exact Or.inr (Or.inr rfl)) (hd : (y == ("__debug__" : Str)) = false := by decide) (hcd : (y == ("__classdict__" : Str)) = false := by decide)
    (hg : Gl X x := by rfl) (hdb : (x == ("__debug__" : Str)) = false := by decide) (he : starEach (.Name y py :: es) X.env = (false, eval (.Name y py) X.env) :: starEach es X.env := by rfl) (hpl : (backTo pos (starEach es X.env)).any (·.1) = false := by rfl) (hK : X.K = K := by rfl) :
    EX C X (.Call (.Name x p) (.Name y py :: es) [] pos) (fun W => tCallSD (spD (⟨K, C.C, C.T, C.E⟩) n true φ) [] (WE W) (tCons (tVar i) (tA W))) (xCallIO i n φ fa) := by subst hK; exact (⟨fun W k => pe_callSD G hr hg hm hk hb .nil (fun σ => passAt k σ) (pa_cons (pe_var hN hv hd hcd) (ha.pa W k) he) hdb he hpl, fun W => sx_callio (ha.sem W)⟩)
end
end MV

namespace MV
open PySem PySem.Spec PyProof.Rows L2
section
variable {Γ : Gm} {W : WX} {io : Bool} {σ σ' : St} {Z H Z1 H1 : Hp} {F F1 : List Addr} {e : Env}
theorem nem {a b : Addr} {G : List Addr} (h : a ∉ G) (hb : b ∈ G) : b ≠ a := fun z => h (z ▸ hb)
/-- one place of a list of data -/
theorem OwnL.at : ∀ {ds : List D} {Z H : Hp} {vs : List V} {F : List Addr} {j : Nat} {d : D}, OwnL Γ ds Z H vs F → ds[j]? = some d →
    ∃ v F1 F2, vs[j]? = some v ∧ Own Γ d Z H v F1 ∧ F.Perm (F1 ++ F2) ∧ OwnL Γ (ds.eraseIdx j) Z H (vs.eraseIdx j) F2 ∧
      ∀ (Z' H' : Hp) (d' : D) (v' : V) (F1' : List Addr), Ex Z Z' → (∀ a ∈ F2, ∀ o, nt o → H a = some o → H' a = some o) → Own Γ d' Z' H' v' F1' → OwnL Γ (ds.set j d') Z' H' (vs.set j v') (F1' ++ F2)
  | [], _, _, _, _, _, _, _, h => by simp at h
  | d :: ds, Z, H, _, F, 0, d', ⟨v, r, F1, F2, e1, e2, e3, e4⟩, h => by
    have hx : d = d' := by simpa using h
    subst hx e1
    exact ⟨v, F1, F2, by simp, e2, e4, by simpa using e3, fun Z' H' x' y' F1' z k o => ⟨y', r, F1', F2, by simp, o, e3.mono z k, .refl _⟩⟩
  | d :: ds, Z, H, _, F, j + 1, d', ⟨v, r, G1, G2, e1, e2, e3, e4⟩, h => by
    subst e1
    obtain ⟨w, F1, F2, h1, h2, h3, h4, h5⟩ := e3.at (j := j) (d := d') (by simpa using h)
    refine ⟨w, F1, G1 ++ F2, by simpa using h1, h2, ?_, ?_, fun Z' H' x' y' F1' z k o => ?_⟩
    · refine e4.trans ((List.Perm.append_left G1 h3).trans ?_)
      rw [← List.append_assoc, ← List.append_assoc]
      exact List.Perm.append_right F2 List.perm_append_comm
    · rw [List.eraseIdx_cons_succ, List.eraseIdx_cons_succ]
      exact ⟨v, _, G1, F2, rfl, e2, h4, .refl _⟩
    · refine ⟨v, _, G1, F1' ++ F2, by simp, e2.mono z (fun a ha => k a (List.mem_append_left _ ha)), h5 Z' H' x' y' F1' z (fun a ha => k a (List.mem_append_right _ ha)) o, ?_⟩
      rw [← List.append_assoc, ← List.append_assoc]
      exact List.Perm.append_right F2 List.perm_append_comm
/-- a container of one's own, in a slot, is changed -/
theorem EOK.mut {i : Nat} {k : Kd} {xs : List D} (E : EOK Γ Z H σ e F) (q : e[i]? = some (some (.nd true k xs))) :
    ∃ a vs ho Fx G, σ[i]? = some (some (.ref a)) ∧ H a = some ho ∧ Is Γ k vs ho ∧ OwnL Γ xs Z H vs Fx ∧ F.Perm ((a :: Fx) ++ G) ∧ a ∉ Fx ∧ Z a = none ∧
      ∀ {k' : Kd} {xs' : List D} {vs' : List V} {ho' : HO} {Fd Fx' : List Addr}, Is Γ k' vs' ho' → OwnL Γ xs' Z (upd H a ho') vs' Fx' → Fx'.Nodup → (∀ b ∈ Fx', b ∈ Fx ∨ b ∈ Fd) → (Fd ++ F).Nodup → (∀ b ∈ Fd, Z b = none) →
        EOK Γ Z (upd H a ho') σ (e.set i (some (.nd true k' xs'))) ((a :: Fx') ++ G) ∧ Step H Z (Fd ++ F) (upd H a ho') Z ((a :: Fx') ++ G) := by
  obtain ⟨y, G1, G2, h1, ⟨v, rfl, h2⟩, h3, h4⟩ := E.own.at q
  obtain ⟨a, vs, ho, Fx, rfl, e2, e3, e4, e5⟩ := h2
  have p : F.Perm ((a :: Fx) ++ G2) := h3.trans (List.Perm.append_right _ e5)
  have n := (p.nodup_iff).mp E.nd
  obtain ⟨n1, n2, n3⟩ := List.nodup_append.mp n
  have naF : a ∉ Fx := (List.nodup_cons.mp n1).1
  have za : Z a = none := E.dis a (p.mem_iff.mpr (List.mem_append_left _ List.mem_cons_self))
  refine ⟨a, vs, ho, Fx, G2, h1, e2, e3, e4, p, naF, za, fun {k' xs' vs' ho' Fd Fx'} i1 i2 i3 i4 i5 i6 => ?_⟩
  obtain ⟨d1, d2, d3⟩ := List.nodup_append.mp i5
  have naX : a ∉ Fx' := fun z => (i4 a z).elim naF fun z => d3 a z a (p.mem_iff.mpr (List.mem_append_left _ List.mem_cons_self)) rfl
  have own' : Own Γ (.nd true k' xs') Z (upd H a ho') (.ref a) (a :: Fx') := ⟨a, vs', ho', Fx', rfl, upd_same, i1, i2, .refl _⟩
  have nG : a ∉ G2 := fun z => n3 a List.mem_cons_self a z rfl
  have ow := h4 Z (upd H a ho') (some (.nd true k' xs')) (some (.ref a)) (a :: Fx') (Ex.refl _) (fun b hb o _ ho => by rw [upd_ne (nem nG hb)]; exact ho) ⟨_, rfl, own'⟩
  rw [set_same h1] at ow
  have dz : ∀ b ∈ (a :: Fx') ++ G2, Z b = none := fun b hb => by
    rcases List.mem_append.mp hb with h | h
    · rcases List.mem_cons.mp h with rfl | h
      · exact za
      · rcases i4 b h with h | h
        · exact E.dis b (p.mem_iff.mpr (List.mem_append_left _ (List.mem_cons_of_mem _ h)))
        · exact i6 b h
    · exact E.dis b (p.mem_iff.mpr (List.mem_append_right _ h))
  have nn : ((a :: Fx') ++ G2).Nodup := by
    refine List.nodup_append.mpr ⟨List.nodup_cons.mpr ⟨naX, i3⟩, n2, fun b hb c hc w => ?_⟩
    subst w
    rcases List.mem_cons.mp hb with rfl | hb
    · exact nG hc
    · rcases i4 b hb with h | h
      · exact n3 b (List.mem_cons_of_mem _ h) b hc rfl
      · exact d3 b h b (p.mem_iff.mpr (List.mem_append_right _ hc)) rfl
  refine ⟨⟨fun b o ho => ?_, ow, nn, dz, E.ntz, tabs_upd E.tabs e2 e3.nt e3.ne⟩, ⟨fun b o _ ho hn => ?_, Ex.refl _, fun b hb => ?_, fun b hb => .inl hb, fun b hb => ?_⟩⟩
  · rw [upd_ne (fun z => by rw [z, za] at ho; cases ho)]; exact E.zh b o ho
  · rw [upd_ne (show b ≠ a from fun z => hn (by rw [z]; exact List.mem_append_right _ (p.mem_iff.mpr (List.mem_append_left _ List.mem_cons_self))))]; exact ho
  · rcases List.mem_append.mp hb with h | h
    · rcases List.mem_cons.mp h with rfl | h
      · exact .inl (List.mem_append_right _ (p.mem_iff.mpr (List.mem_append_left _ List.mem_cons_self)))
      · rcases i4 b h with h | h
        · exact .inl (List.mem_append_right _ (p.mem_iff.mpr (List.mem_append_left _ (List.mem_cons_of_mem _ h))))
        · exact .inl (List.mem_append_left _ h)
    · exact .inl (List.mem_append_right _ (p.mem_iff.mpr (List.mem_append_right _ h)))
  · by_cases z : b = a
    · subst z; rw [upd_same] at hb; cases hb
    · rw [upd_ne z] at hb; exact hb
/-! ### append -/
def xApp (i : Nat) (g : XG) : XG := fun e => match e[i]? with
  | some (some (.nd _ .lst _)) => (match g e with
    | .ok d e1 => (match e1[i]? with
      | some (some (.nd true .lst xs)) => if xs.length < LIM then .ok .non (e1.set i (some (.nd true .lst (xs ++ [d])))) else .bad
      | _ => .bad)
    | .exc c ns fs e1 => .exc c ns fs e1
    | .bad => .bad)
  | _ => .bad
theorem slot_list {o : Bool} {k : Kd} {xs : List D} {i : Nat} (E : EOK Γ Z H σ e F) (q : e[i]? = some (some (.nd o k xs))) : ∃ a vs ho, σ[i]? = some (some (.ref a)) ∧ H a = some ho ∧ Is Γ k vs ho := by
  obtain ⟨y, G1, G2, h1, ⟨v, rfl, h2⟩, h3, h4⟩ := E.own.at q
  cases o with
  | true =>
    obtain ⟨a, vs, ho, Fx, rfl, e2, e3, e4, e5⟩ := h2
    exact ⟨a, vs, ho, h1, e2, e3⟩
  | false =>
    obtain ⟨_, a, vs, ho, rfl, e2, e3, e4⟩ := h2
    exact ⟨a, vs, ho, h1, E.zh _ _ e2, e3⟩
theorem sx_app {i : Nat} {t : TE} {g : XG} (hg : SemX Γ W t g) : SemX Γ W (tBM Γ.K "list" rAppend (tVar i) (tCons t tNil)) (xApp i g) := by
  intro Z H σ e F Q E P
  unfold xApp at P
  split at P
  · rename_i o ys q0
    obtain ⟨a0, vs0, ho0, h0, hh0, is0⟩ := slot_list E q0
    have is0' : ho0 = .lst vs0 := is0
    subst is0'
    refine ⟨_, h0, .inl ⟨rfl, vs0, SqL.of hh0⟩, ?_⟩
    refine hg Z H σ e F _ E ?_
    cases q : g e with
    | bad => rw [q] at P; exact P
    | exc c ns fs e1 => rw [q] at P; exact P
    | ok d e1 =>
      rw [q] at P
      intro Z1 H1 v Fd F1 E1 od nd zd S1
      dsimp only at P
      split at P
      · rename_i xs q1
        split at P
        · rename_i hl
          obtain ⟨a, vs, ho, Fx, G, h1, hh, is1, ol, p, na, za, put⟩ := E1.mut q1
          have is1' : ho = .lst vs := is1
          subst is1'
          rw [h0] at h1
          cases h1
          obtain ⟨n1, n2, n3⟩ := List.nodup_append.mp nd
          have inF : ∀ b ∈ Fx, b ∈ F1 := fun b hb => p.mem_iff.mpr (List.mem_append_left _ (List.mem_cons_of_mem _ hb))
          have aF : a0 ∈ F1 := p.mem_iff.mpr (List.mem_append_left _ List.mem_cons_self)
          have nad : a0 ∉ Fd := fun z => n3 a0 z a0 aF rfl
          have at' : ∀ {ho' : HO} {b : Addr}, b ≠ a0 → ∀ o, nt o → H1 b = some o → upd H1 a0 ho' b = some o := fun {ho' b} hb o _ ho => by rw [upd_ne hb]; exact ho
          have nx : Fx.Nodup := (List.nodup_cons.mp (List.nodup_append.mp ((p.nodup_iff).mp E1.nd)).1).2
          obtain ⟨E', S'⟩ := put (k' := .lst) (xs' := xs ++ [d]) (vs' := vs ++ [v]) (ho' := .lst (vs ++ [v])) (Fd := Fd) (Fx' := Fx ++ Fd) rfl
            (OwnL.append (ol.mono (Ex.refl _) (fun b hb => at' (nem na hb))) (OwnL.one (od.mono (Ex.refl _) (fun b hb => at' (nem nad hb)))))
            (List.nodup_append.mpr ⟨nx, n1, fun b hb c hc w => n3 c hc b (inF b hb) w.symm⟩) (fun b hb => List.mem_append.mp hb) nd zd
          refine ⟨a0, vs, v, rfl, rfl, hh, by rw [ol.len]; exact Nat.lt_of_lt_of_le hl (lim_le (Nat.le_refl _)), ?_⟩
          exact P Z1 _ .non [] _ E' ⟨rfl, rfl⟩ E'.nd (fun b hb => absurd hb (by simp)) (S1.trans S')
        · exact P.elim
      · exact P.elim
  · exact P.elim
/-! ### pop -/
def xPop (i : Nat) : XG := fun e => match e[i]? with
  | some (some (.nd true .lst xs)) => (match xs[xs.length - 1]? with
    | some d => .ok d (e.set i (some (.nd true .lst xs.dropLast)))
    | none => .bad)
  | _ => .bad
theorem eraseIdx_last {α : Type} : ∀ (xs : List α), xs.eraseIdx (xs.length - 1) = xs.dropLast
  | [] => rfl
  | [x] => rfl
  | x :: y :: r => by
    have ih := eraseIdx_last (y :: r)
    show (x :: y :: r).eraseIdx ((y :: r).length - 1 + 1) = _
    rw [List.eraseIdx_cons_succ, ih]
    rfl
theorem pop_at {Q : VK} {i j : Nat} {xs : List D} {d : D} (E : EOK Γ Z H σ e F) (q : e[i]? = some (some (.nd true .lst xs))) (hd : xs[j]? = some d)
    (P : XPost Γ W σ Z H F Q (.ok d (e.set i (some (.nd true .lst (xs.eraseIdx j)))))) :
    ∃ a vs v, σ[i]? = some (some (.ref a)) ∧ H a = some (.lst vs) ∧ vs.length = xs.length ∧ vs[j]? = some v ∧ Q v (upd H a (.lst (vs.eraseIdx j))) := by
  obtain ⟨a, vs, ho, Fx, G, h1, hh, is1, ol, p, na, za, put⟩ := E.mut q
  have is1' : ho = .lst vs := is1
  subst is1'
  obtain ⟨v, G1, G2, hv, ov, p2, oe, _⟩ := ol.at hd
  have m1 : ∀ b ∈ G1, b ∈ Fx := fun b hb => p2.mem_iff.mpr (List.mem_append_left _ hb)
  have m2 : ∀ b ∈ G2, b ∈ Fx := fun b hb => p2.mem_iff.mpr (List.mem_append_right _ hb)
  have inF : ∀ b ∈ Fx, b ∈ F := fun b hb => p.mem_iff.mpr (List.mem_append_left _ (List.mem_cons_of_mem _ hb))
  have aF : a ∈ F := p.mem_iff.mpr (List.mem_append_left _ List.mem_cons_self)
  have nF := (p.nodup_iff).mp E.nd
  have nx : Fx.Nodup := (List.nodup_cons.mp (List.nodup_append.mp nF).1).2
  obtain ⟨g1, g2, g3⟩ := List.nodup_append.mp ((p2.nodup_iff).mp nx)
  have at' : ∀ {ho' : HO} {b : Addr}, b ∈ Fx → ∀ o, nt o → H b = some o → upd H a ho' b = some o := fun {ho' b} hb o _ ho => by rw [upd_ne (nem na hb)]; exact ho
  obtain ⟨E', S'⟩ := put (k' := .lst) (xs' := xs.eraseIdx j) (vs' := vs.eraseIdx j) (ho' := .lst (vs.eraseIdx j)) (Fd := []) (Fx' := G2) rfl (oe.mono (Ex.refl _) (fun b hb => at' (m2 b hb))) g2 (fun b hb => .inl (m2 b hb)) (by simpa using E.nd) (fun b hb => absurd hb (by simp))
  -- the popped one lies apart
  have ap : ∀ b ∈ G1, b ∉ (a :: G2) ++ G := fun b hb hF => by
    rcases List.mem_append.mp hF with h | h
    · rcases List.mem_cons.mp h with h | h
      · exact nem na (m1 b hb) h
      · exact g3 b hb b h rfl
    · exact (List.nodup_append.mp nF).2.2 b (List.mem_cons_of_mem _ (m1 b hb)) b h rfl
  refine ⟨a, vs, v, h1, hh, ol.len, hv, ?_⟩
  refine P Z _ v G1 _ E' (ov.mono (Ex.refl _) (fun b hb => at' (m1 b hb))) (List.nodup_append.mpr ⟨g1, E'.nd, fun b hb c hc w => ap b hb (by rw [w]; exact hc)⟩) (fun b hb => E.dis b (inF b (m1 b hb))) ⟨fun b o t ho hn => S'.frame b o t ho hn, S'.zext, fun b hb => ?_, S'.zon, S'.dom⟩
  rcases List.mem_append.mp hb with h | h
  · exact .inl (inF b (m1 b h))
  · exact S'.own b h
theorem sx_pop {i : Nat} : SemX Γ W (tBM0 Γ.K "list" rPop (tVar i)) (xPop i) := by
  intro Z H σ e F Q E P
  unfold xPop at P
  split at P
  · rename_i xs q0
    split at P
    · rename_i d hd
      rw [← eraseIdx_last] at P
      obtain ⟨a, vs, v, h1, hh, hl, hv, q⟩ := pop_at E q0 hd P
      rw [← hl] at hv q
      rw [eraseIdx_last] at q
      exact ⟨_, h1, .inl ⟨rfl, vs, SqL.of hh⟩, a, vs, v, rfl, rfl, hh, hv, q⟩
    · exact P.elim
  · exact P.elim
def xPopAt (i : Nat) (g : XG) : XG := fun e => match e[i]? with
  | some (some (.nd _ .lst _)) => (match g e with
    | .ok (.int j) e1 => (match e1[i]? with
      | some (some (.nd true .lst xs)) => (match xs[j.toNat]? with
        | some d => if 0 ≤ j ∧ xs.length ≤ LIM then .ok d (e1.set i (some (.nd true .lst (xs.eraseIdx j.toNat)))) else .bad
        | none => .bad)
      | _ => .bad)
    | .ok _ _ => .bad
    | .exc c ns fs e1 => .exc c ns fs e1
    | .bad => .bad)
  | _ => .bad
theorem sx_popAt {i : Nat} {t : TE} {g : XG} (hg : SemX Γ W t g) : SemX Γ W (tBM Γ.K "list" rPopAt (tVar i) (tCons t tNil)) (xPopAt i g) := by
  intro Z H σ e F Q E P
  unfold xPopAt at P
  split at P
  · rename_i o ys q0
    obtain ⟨a0, vs0, ho0, h0, hh0, is0⟩ := slot_list E q0
    have is0' : ho0 = .lst vs0 := is0
    subst is0'
    refine ⟨_, h0, .inl ⟨rfl, vs0, SqL.of hh0⟩, ?_⟩
    refine hg.sh E ?_
    cases q : g e with
    | bad => rw [q] at P; exact P
    | exc c ns fs e1 => rw [q] at P; exact P
    | ok d e1 =>
      rw [q] at P
      intro Z1 H1 w F1 E1 od S1
      cases d <;> try (exact P.elim)
      rename_i j
      dsimp only at P
      split at P
      · rename_i xs q1
        split at P
        · rename_i d hd
          split at P
          · rename_i hc
            obtain ⟨a, vs, v, h1, hh, hl, hv, q⟩ := pop_at E1 q1 hd (P.after S1)
            rw [h0] at h1
            cases h1
            have hlt : j.toNat < xs.length := (List.getElem?_eq_some_iff.mp hd).1
            have hj : (j.toNat : Int) = j := by omega
            unfold LIM at hc
            refine ⟨a0, vs, j, j.toNat, v, rfl, by rw [od.1], hh, by omega, by omega, ?_, hv, q⟩
            have e1' := (ixN_seq (n := vs.length) (i := j) (j := j.toNat) (by unfold ixN; rw [if_pos hc.1, if_pos (by omega)])).1
            exact e1'
          · exact P.elim
        · exact P.elim
      · exact P.elim
  · exact P.elim
/-! ### xs[i] = e, xs[i] op= e -/
def sSet (i : Nat) (gv gi : XG) : SG := fun e => match gv e with
  | .ok d e1 => (match e1[i]? with
    | some (some (.nd _ .lst _)) => (match gi e1 with
      | .ok (.int j) e2 => (match e2[i]? with
        | some (some (.nd true .lst xs)) => (match ixN xs.length j with
          | some m => .nx (e2.set i (some (.nd true .lst (xs.set m (fz d)))))
          | none => .bad)
        | _ => .bad)
      | .ok _ _ => .bad
      | .exc c ns fs e2 => .exc c ns fs e2
      | .bad => .bad)
    | _ => .bad)
  | .exc c ns fs e1 => .exc c ns fs e1
  | .bad => .bad
theorem set_at {i m : Nat} {xs : List D} {d : D} {v : V} (E : EOK Γ Z H σ e F) (q : e[i]? = some (some (.nd true .lst xs))) (hm : m < xs.length) (od : Rp Γ d Z v) :
    ∃ a vs, σ[i]? = some (some (.ref a)) ∧ H a = some (.lst vs) ∧ vs.length = xs.length ∧ ∃ F', EOK Γ Z (upd H a (.lst (vs.set m v))) σ (e.set i (some (.nd true .lst (xs.set m d)))) F' ∧ Step H Z F (upd H a (.lst (vs.set m v))) Z F' := by
  obtain ⟨a, vs, ho, Fx, G, h1, hh, is1, ol, p, na, za, put⟩ := E.mut q
  have is1' : ho = .lst vs := is1
  subst is1'
  obtain ⟨w, G1, G2, hv, ov, p2, oe, os⟩ := ol.at (List.getElem?_eq_getElem hm)
  have m2 : ∀ b ∈ G2, b ∈ Fx := fun b hb => p2.mem_iff.mpr (List.mem_append_right _ hb)
  have nx : Fx.Nodup := (List.nodup_cons.mp (List.nodup_append.mp ((p.nodup_iff).mp E.nd)).1).2
  have g2 := (List.nodup_append.mp ((p2.nodup_iff).mp nx)).2.1
  have o2 := os Z (upd H a (.lst (vs.set m v))) d v [] (Ex.refl _) (fun b hb o _ ho => by rw [upd_ne (nem na (m2 b hb))]; exact ho) (Rp.own od)
  obtain ⟨E', S'⟩ := put (k' := .lst) (ho' := .lst (vs.set m v)) (Fd := []) (Fx' := G2) rfl o2 g2 (fun b hb => .inl (m2 b hb)) (by simpa using E.nd) (fun b hb => absurd hb (by simp))
  exact ⟨a, vs, h1, hh, ol.len, _, E', S'⟩
theorem ss_set {i : Nat} {tv ti : TE} {gv gi : XG} (hv : SemX Γ W tv gv) (hi : SemX Γ W ti gi) : SemS Γ W io (tAsg tv (gSub (tVar i) ti rSetL)) (sSet i gv gi) := by
  intro Z H σ e F D E P
  refine hv.sh E ?_
  unfold sSet at P
  cases q : gv e with
  | bad => rw [q] at P; exact P
  | exc c ns fs e1 => rw [q] at P; exact EPost.of P
  | ok d e1 =>
    rw [q] at P
    intro Z1 H1 v F1 E1 od S1
    dsimp only at P
    split at P
    · rename_i o ys q0
      obtain ⟨a0, vs0, ho0, h0, hh0, is0⟩ := slot_list E1 q0
      refine ⟨_, h0, hi.sh E1 ?_⟩
      cases q2 : gi e1 with
      | bad => rw [q2] at P; exact P
      | exc c ns fs e2 => rw [q2] at P; exact EPost.after S1 (EPost.of P)
      | ok di e2 =>
        rw [q2] at P
        intro Z2 H2 w F2 E2 oi S2
        cases di <;> try (exact P.elim)
        rename_i j
        dsimp only at P
        split at P
        · rename_i xs q3
          split at P
          · rename_i m hm
            obtain ⟨a, vs, h1, hh, hl, F', E', S'⟩ := set_at E2 q3 (ixN_lt hm) (Own.mono od S2.zext (fun a ha => absurd ha (by simp)))
            rw [h0] at h1
            cases h1
            exact ⟨a0, vs, j, m, rfl, oi.1, hh, by rw [hl]; exact hm, P Z2 _ σ F' E' ((S1.trans S2).trans S') Pin.refl⟩
          · exact P.elim
        · exact P.elim
    · exact P.elim
theorem pg_get {X : Cx} : PGet X (rIxL X.K) := fun pins s σ H o i ov iv Q I ro ri h => by
  obtain ⟨p, xs, k, z, rfl, rfl, hq, he, q⟩ := h
  cases ro
  obtain ⟨t, rfl⟩ := ri
  obtain ⟨its, r, pl, hz⟩ := I.list hq
  obtain ⟨j, h1, h2, h3, h4, h5⟩ := atI_get he
  obtain ⟨w, ew, rw'⟩ := r.get h2
  have hl := r.length
  have hn := line63
  have fin : EP X pins σ Q w s := ⟨z, H, I, rw', q⟩
  by_cases h0 : 0 ≤ k
  · have hj : k.toNat = j := by
      rw [seqIndex_of h0 h5] at h1
      exact Option.some.inj h1
    exact wpAny_getItem_list pl.isList h0 (by omega) (by rw [hj]; simpa using ew) fin
  · have hj : (k + (its.toArray.size : Int)).toNat = j := by
      rw [seqIndex_neg (by omega) h4] at h1
      rw [List.size_toArray, ← hl]
      exact Option.some.inj h1
    exact wpAny_getItem_list_neg pl.isList (by omega) (by rw [List.size_toArray] <;> omega) (by omega) (by rw [hj]; simpa using ew) fin
/-- xs[i] op= e: the item is read ahead of e -/
def sAugIx (i : Nat) (op : D → D → Option D) (gi gv : XG) : SG := fun e => match e[i]? with
  | some (some (.nd _ .lst _)) => (match gi e with
    | .ok (.int j) e1 => (match e1[i]? with
      | some (some (.nd true .lst xs)) => (match ixN xs.length j with
        | some m => (match xs[m]? with
          | some d => if isS d then (match gv e1 with
            | .ok d' e2 => (match op d (fz d'), e2[i]? with
              | some r, some (some (.nd true .lst ys)) => if sh r ∧ m < ys.length ∧ ys.length = xs.length then .nx (e2.set i (some (.nd true .lst (ys.set m r)))) else .bad
              | _, _ => .bad)
            | .exc c ns fs e2 => .exc c ns fs e2
            | .bad => .bad) else .bad
          | none => .bad)
        | none => .bad)
      | _ => .bad)
    | .ok _ _ => .bad
    | .exc c ns fs e1 => .exc c ns fs e1
    | .bad => .bad)
  | _ => .bad
theorem ss_augix {i : Nat} {ti tv : TE} {r : TIp} {op : D → D → Option D} {gi gv : XG} (ho : IpD Γ r op) (hi : SemX Γ W ti gi) (hv : SemX Γ W tv gv) :
    SemS Γ W io (tAugS (tVar i) ti tv (rIxL Γ.K) r rSetL) (sAugIx i op gi gv) := by
  intro Z H σ e F D E P
  unfold sAugIx at P
  split at P
  · rename_i o ys0 q0
    obtain ⟨a0, vs0, ho0, h0, hh0, is0⟩ := slot_list E q0
    refine ⟨_, h0, hi.sh E ?_⟩
    cases q1 : gi e with
    | bad => rw [q1] at P; exact P
    | exc c ns fs e2 => rw [q1] at P; exact EPost.of P
    | ok di e1 =>
      rw [q1] at P
      intro Z1 H1 w F1 E1 oi S1
      cases di <;> try (exact P.elim)
      rename_i j
      dsimp only at P
      split at P
      · rename_i xs q2
        split at P
        · rename_i m hm
          split at P
          · rename_i d hd
            split at P
            · rename_i hs
              obtain ⟨a, vs, ho1, Fx, G, h1, hh, is1, ol, p, na, za, put⟩ := E1.mut q2
              have is1' : ho1 = .lst vs := is1
              subst is1'
              rw [h0] at h1
              cases h1
              obtain ⟨v, G1, G2, hv1, ov, _, _, _⟩ := ol.at hd
              refine ⟨a0, vs, j, v, rfl, oi.1, SqL.of hh, by unfold atI; rw [ol.len, hm]; exact hv1, hv.sh E1 ?_⟩
              cases q3 : gv e1 with
              | bad => rw [q3] at P; exact P
              | exc c ns fs e2 => rw [q3] at P; exact EPost.after S1 (EPost.of P)
              | ok d' e2 =>
                rw [q3] at P
                intro Z2 H2 u F2 E2 ou S2
                dsimp only at P
                split at P
                · rename_i r' ys e3 q4
                  split at P
                  · rename_i hc
                    refine ho E2.zh (scal_rp hs ov Z2).1 ou e3 fun H3 y Fd ex od nd fr => ?_
                    obtain ⟨rfl, rd⟩ := sh_rp hc.1 od
                    obtain ⟨a, ws, k1, k2, k3, F', E', S'⟩ := set_at (E2.alloc ex) q4 hc.2.1 rd
                    rw [h0] at k1
                    cases k1
                    exact ⟨a0, ws, j, m, rfl, oi.1, k2, by rw [k3, hc.2.2]; exact hm, P Z2 _ σ F' E' (((S1.trans S2).trans (Step.alloc (Fd := []) ex (fun a ha => absurd ha (by simp)))).trans S') Pin.refl⟩
                  · exact P.elim
                · exact P.elim
            · exact P.elim
          · exact P.elim
        · exact P.elim
      · exact P.elim
  · exact P.elim
end
end MV

namespace MV
open PySem PySem.Spec PyProof.Rows L2
section
variable {C : Cs} {io : Bool} {X : Cx} {a b c e : Expr} {es : List Expr} {ta tb te : WX → TE} {tt : WX → TT} {tA : WX → TA} {ti : WX → TI} {f g h : XG} {fa : AG} {pos p : Pos} {x : Str}
  {st : Stmt} {ss su : List Stmt} {us uu : WX → TS} {tg : Expr} {g1 : TG} {gg : TGt} {sg su' : SG}
theorem od_ipI {Γ : Gm} {fI : Int → Int → Int} : IpD Γ (ipI fI) (oI fun i j => .int (fI i j)) := by
  intro Z H dx dy d x y Q zh hx hy h q
  unfold oI at h
  split at h
  · cases h
    exact ⟨_, _, hx.1, hy.1, q.val rp_int⟩
  · cases h
/-! ### statements -/
theorem ssx_nil : SSX C io X [] (fun _ => tNext) sNx := ⟨fun _ _ => pss_nil, fun _ => ss_nx⟩
theorem ssx_cons (h1 : SX C io X st us sg) (h2 : SSX C io X ss uu su') : SSX C io X (st :: ss) (fun W => tSeq (us W) (uu W)) (sSeq sg su') := ⟨fun W k => pss_cons (h1.ps W k) (h2.ps W k), fun W => ss_seq (h1.sem W) (h2.sem W)⟩
theorem ssx_one (h1 : SX C io X st us sg) : SSX C io X [st] us sg := ⟨fun W k => pss_one (h1.ps W k), h1.sem⟩
theorem sx_pass : SX C io X (.Pass pos) (fun _ => tNext) sNx := ⟨fun _ _ => ps_pass, fun _ => ss_nx⟩
theorem sx_brk : SX C io X (.Break pos) (fun _ => tBreak) sBk := ⟨fun _ _ => ps_break, fun _ => ss_bk⟩
theorem sx_cont : SX C io X (.Continue pos) (fun _ => tCont) sCt := ⟨fun _ _ => ps_continue, fun _ => ss_ct⟩
theorem sx_expr (he : EX C X e te f) (hs : swapsWith e none pos.line X.env = pure false := by rfl) : SX C io X (.Expr e pos) (fun W => tDrop (te W)) (sDrop f) := ⟨fun W k => ps_expr (he.pe W k) hs, fun W => ss_drop (he.sem W)⟩
theorem sx_ret (he : EX C X e te f) : SX C io X (.Return (some e) pos) (fun W => tRet (te W)) (sRt f) := ⟨fun W k => ps_ret (he.pe W k), fun W => ss_rt (he.sem W)⟩
theorem sx_retN : SX C io X (.Return none pos) (fun _ => tRetN) sRtN := ⟨fun _ _ => ps_retN, fun _ => ss_rtn⟩
theorem sx_ife (hc : TX C X c tt h) (ha : SSX C io X ss us sg) (hb : SSX C io X su uu su') : SX C io X (.If c ss su pos) (fun W => tIfS (tt W) (us W) (uu W)) (sIf h sg su') := ⟨fun W k => ps_if (hc.pt W k) (ha.ps W k) (hb.ps W k), fun W => ss_if (hc.sem W) (ha.sem W) (hb.sem W)⟩
/-- a name's target; the last place: it is not the changed parameter -/
theorem gx_name (i : Nat) (hN : X.N.Nodup) (hi : X.N[i]? = some x := by rfl) (hx : Loc X.env.scope x := by first | exact Or.inl rfl | exact Or.inr rfl) (hf : X.fn x = true ∨ X.env.scope.names.lookup x = some .local := by first | exact .inl rfl | exact .inr rfl)
    (hio : io = true → i ≠ 0 := by decide) : GXt C io X (.Name x pos) (gName i) (gNm i) := ⟨pg_name hN hi hx hf, sg_name hio⟩
theorem gx_tup {is : List Nat} {j : Nat} (h : PGs X es (gNs is)) (hio : io = true → ∀ i ∈ is, i ≠ 0 := by decide) (hc : X.calm = true := by rfl) (hn : (assignEach es X.env).length = is.length := by rfl) (hst : (assignEach es X.env).findIdx? (·.1) = none := by rfl) :
    GXt C io X (.Tuple es j pos) (gTup X.K is.length (gNs is)) (gTp is) := ⟨pg_tup hc h hn hst, sg_tup hio⟩
theorem pgn_nil : PGs X [] (gNs []) := pgs_nil
theorem pgn_cons {i : Nat} {is : List Nat} (h : GXt C io X e (gName i) (gNm i)) (r : PGs X es (gNs is)) (hs : (assignEach (e :: es) X.env).map (·.2) = assign e X.env :: (assignEach es X.env).map (·.2) := by rfl) : PGs X (e :: es) (gNs (i :: is)) := pgs_cons h.pg r hs
theorem sx_set (i : Nat) {p' : Pos} (hN : X.N.Nodup) (he : EX C X e te f) (hi : X.N[i]? = some x := by rfl) (hx : Loc X.env.scope x := by first | exact Or.inl rfl | exact Or.inr rfl) (hs : swapsWith e (some (.Name x p')) pos.line X.env = pure false := by rfl)
    (hf : X.fn x = true ∨ X.env.scope.names.lookup x = some .local := by first | exact .inl rfl | exact .inr rfl) (hio : io = true → i ≠ 0 := by decide) : SX C io X (.Assign [.Name x p'] e pos) (fun W => tAsg (te W) (gName i)) (sAsg f (gNm i)) :=
  ⟨fun W k => ps_set hN hi hx (he.pe W k) hs hf, fun W => ss_asg (he.sem W) (sg_name hio)⟩
theorem sx_asg (he : EX C X e te f) (hg : GXt C io X tg g1 gg) (hs : swapsWithSole [tg] e pos.line X.env = pure false := by rfl) (hw : swappedStores [tg] e X.env = pure none := by rfl) (h1 : (assignEach [tg] X.env).map (·.2) = [assign tg X.env] := by rfl) :
    SX C io X (.Assign [tg] e pos) (fun W => tAsg (te W) g1) (sAsg f gg) := ⟨fun W k => ps_asg (he.pe W k) hg.pg hs hw h1, fun W => ss_asg (he.sem W) hg.sem⟩
theorem sx_aug (i : Nat) {op : Operator} {r : TIp} {o : D → D → Option D} {p' : Pos} (hN : X.N.Nodup) (hr : PIp X op r) (ho : IpD (GX X C) r o) (he : EX C X e te f) (hi : X.N[i]? = some x := by rfl) (hx : Loc X.env.scope x := by first | exact Or.inl rfl | exact Or.inr rfl)
    (hf : X.fn x = true ∨ X.env.scope.names.lookup x = some .local := by first | exact .inl rfl | exact .inr rfl) (hio : io = true → i ≠ 0 := by decide) : SX C io X (.AugAssign (.Name x p') op e pos) (fun W => tAug i (te W) r) (sAug i o f) :=
  ⟨fun W k => ps_aug hN hi hx (he.pe W k) hr hf, fun W => ss_aug hio ho (he.sem W)⟩
def oAddI : D → D → Option D := oI fun i j => .int (i + j)
def oSubI : D → D → Option D := oI fun i j => .int (i - j)
theorem sx_augAdd (i : Nat) {p' : Pos} (hN : X.N.Nodup) (he : EX C X e te f) (hi : X.N[i]? = some x := by rfl) (hx : Loc X.env.scope x := by first | exact Or.inl rfl | exact Or.inr rfl)
    (hf : X.fn x = true ∨ X.env.scope.names.lookup x = some .local := by first | exact .inl rfl | exact .inr rfl) (hio : io = true → i ≠ 0 := by decide) : SX C io X (.AugAssign (.Name x p') .Add e pos) (fun W => tAug i (te W) (ipI fun i j => i + j)) (sAug i oAddI f) := sx_aug i hN ip_add od_ipI he hi hx hf hio
theorem sx_augSub (i : Nat) {p' : Pos} (hN : X.N.Nodup) (he : EX C X e te f) (hi : X.N[i]? = some x := by rfl) (hx : Loc X.env.scope x := by first | exact Or.inl rfl | exact Or.inr rfl)
    (hf : X.fn x = true ∨ X.env.scope.names.lookup x = some .local := by first | exact .inl rfl | exact .inr rfl) (hio : io = true → i ≠ 0 := by decide) : SX C io X (.AugAssign (.Name x p') .Sub e pos) (fun W => tAug i (te W) (ipI fun i j => i - j)) (sAug i oSubI f) := sx_aug i hN ip_sub od_ipI he hi hx hf hio
/-- xs[i] = e -/
theorem sx_setix (i : Nat) {p' p2 : Pos} (hv : EX C X e te f) (hi : EX C X b tb g) (hN : X.N[i]? = some x := by rfl) (hvis : Vis X.env.scope x := by first | exact Or.inl rfl | exact Or.inr (Or.inl rfl) | exact Or.inr (Or.inr rfl)) (hd : (x == ("__debug__" : Str)) = false := by decide)
    (hcd : (x == ("__classdict__" : Str)) = false := by decide)
    (ha : ∀ v, assign (.Subscript (.Name x p') b p2) X.env v = (do
      let ov ← holding [v] (eval (.Name x p') X.env)
      let iv ← holding [v, ov] (eval b X.env)
      standAt p2
      holding [v, ov, iv] (setItem ov iv v)
      release [v, ov, iv] []) := by intro _; rfl)
    (hs : swapsWithSole [.Subscript (.Name x p') b p2] e pos.line X.env = pure false := by rfl) (hw : swappedStores [.Subscript (.Name x p') b p2] e X.env = pure none := by rfl)
    (h1 : (assignEach [.Subscript (.Name x p') b p2] X.env).map (·.2) = [assign (.Subscript (.Name x p') b p2) X.env] := by rfl) :
    SX C io X (.Assign [.Subscript (.Name x p') b p2] e pos) (fun W => tAsg (te W) (gSub (tVar i) (tb W) rSetL)) (sSet i f g) :=
  ⟨fun W k => ps_asg (hv.pe W k) (pg_sub (pe_var hN hvis hd hcd) (hi.pe W k) set_list ha) hs hw h1, fun W => ss_set (hv.sem W) (hi.sem W)⟩
theorem sx_augix {K : PySem.W.Frag} (i : Nat) {op : Operator} {r : TIp} {o : D → D → Option D} {p' p2 : Pos} (hr : PIp X op r) (ho : IpD (GX X C) r o) (hi : EX C X b tb g) (hv : EX C X e te f) (hN : X.N[i]? = some x := by rfl)
    (hvis : Vis X.env.scope x := by first | exact Or.inl rfl | exact Or.inr (Or.inl rfl) | exact Or.inr (Or.inr rfl)) (hd : (x == ("__debug__" : Str)) = false := by decide) (hcd : (x == ("__classdict__" : Str)) = false := by decide)
    (ha : ∀ ov iv new, augStore b ov iv new = (do holding [new, ov, iv] (setItem ov iv new); release [new, ov, iv] []; pure Flow.next) := by intros; rfl) (hK : X.K = K := by rfl) :
    SX C io X (.AugAssign (.Subscript (.Name x p') b p2) op e pos) (fun W => tAugS (tVar i) (tb W) (te W) (rIxL K) r rSetL) (sAugIx i o g f) := by subst hK; exact (⟨fun W k => ps_augS (pe_var hN hvis hd hcd) (hi.pe W k) pg_get (hv.pe W k) hr set_list ha, fun W => ss_augix (Γ := GX X C) ho (hi.sem W) (hv.sem W)⟩)
theorem sx_for (hp : PassesOwn (model X.prog X.w) X.A X.env X.xe) (hi : IX C X tg e ti fa) (hg : GXt C io X tg g1 gg) (hb : SSX C io X ss us sg) (hc : X.calm = true := by rfl) (hs : ∀ x, foldedSetIterable e X.env x = pure x := by intro _; rfl) :
    SX C io X (.For tg e ss [] pos) (fun W => tFor (ti W) g1 (us W)) (sFor fa gg sg) := ⟨fun W k => ps_for hp hc (hi.pi W k) hg.pg (hb.ps W k) hs, fun W => ss_for (hi.sem W) hg.sem (hb.sem W)⟩
theorem sx_while (n : Env → Nat) (hp : PassesOwn (model X.prog X.w) X.A X.env X.xe) (hc : TX C X c tt h) (hb : SSX C io X ss us sg) : SX C io X (.While c ss [] pos) (fun W => tWhile (tt W) (us W)) (sWhile n h sg) :=
  ⟨fun W k => ps_while hp (hc.pt W k) (hb.ps W k), fun W => ss_while (hc.sem W) (hb.sem W)⟩
/-- code that is never reached -/
theorem sx_never : SX C io X st (fun _ => tNever) (fun _ => .bad) := ⟨fun _ _ => ps_never, fun W Z H σ e F D E P => P⟩
/-! ### what is walked -/
theorem ix_lst {K : PySem.W.Frag} (he : EX C X e te f) (hK : X.K = K := by rfl) : IX C X tg e (fun W => iList K (te W)) (iL f) := by subst hK; exact (⟨fun W k => pi_list (he.pe W k), fun W => si_list (Γ := GX X C) (he.sem W)⟩)
theorem ix_tp {K : PySem.W.Frag} (he : EX C X e te f) (hK : X.K = K := by rfl) : IX C X tg e (fun W => iTup K (te W)) (iT f) := by subst hK; exact (⟨fun W k => pi_tup (he.pe W k), fun W => si_tup (Γ := GX X C) (he.sem W)⟩)
theorem ix_r1 (hm : X.mg "range" = none) (ha : AX C X [a] tA fa) (hg : Gl X "range" := by rfl) (hs : starEach [a] X.env = [(false, eval a X.env)] := by rfl) : IX C X tg (.Call (.Name "range" p) [a] [] pos) (fun W => iRng1 (tA W)) (iRg rg1 fa) := ⟨fun W k => pi_range1 hg hm (ha.pa W k) hs, fun W => si_r1 (ha.sem W)⟩
theorem ix_r2 (hm : X.mg "range" = none) (ha : AX C X [a, b] tA fa) (hg : Gl X "range" := by rfl) (hs : starEach [a, b] X.env = [(false, eval a X.env), (false, eval b X.env)] := by rfl) (hs2 : starEach [b] X.env = [(false, eval b X.env)] := by rfl) :
    IX C X tg (.Call (.Name "range" p) [a, b] [] pos) (fun W => iRng2 (tA W)) (iRg rg2 fa) := ⟨fun W k => pi_range2 hg hm (ha.pa W k) hs hs2, fun W => si_r2 (ha.sem W)⟩
theorem ix_r3 (hm : X.mg "range" = none) (ha : AX C X [a, b, c] tA fa) (hg : Gl X "range" := by rfl) (hs : starEach [a, b, c] X.env = (false, eval a X.env) :: starEach [b, c] X.env := by rfl) (hpl : (backTo pos (starEach [b, c] X.env)).any (·.1) = false := by rfl) :
    IX C X tg (.Call (.Name "range" p) [a, b, c] [] pos) (fun W => iRng3 (tA W)) (iRg rg3 fa) := ⟨fun W k => pi_range3 hg hm (ha.pa W k) hs hpl, fun W => si_r3 (ha.sem W)⟩
theorem ix_en {K : PySem.W.Frag} {elts : List Expr} {kk : Nat} {tpos : Pos} (hm : X.mg "enumerate" = none) (he : EX C X e te f) (hg : Gl X "enumerate" := by rfl) (hs : starEach [e] X.env = [(false, eval e X.env)] := by rfl) (hs2 : starEach (e :: []) X.env = (false, eval e X.env) :: starEach [] X.env := by rfl) (hK : X.K = K := by rfl) :
    IX C X (.Tuple elts kk tpos) (.Call (.Name "enumerate" p) [e] [] pos) (fun W => iEnum K (tCons (te W) tNil)) (iE f) := by subst hK; exact (⟨fun W k => pi_enum hg hm (pa_cons (he.pe W k) pa_nil hs2) hs, fun W => si_en (Γ := GX X C) (he.sem W)⟩)
/-! ### lists changed -/
theorem ex_app {K : PySem.W.Frag} (i : Nat) {p1 p2 : Pos} (he : EX C X e te g) (hN : X.N[i]? = some x := by rfl) (hv : Vis X.env.scope x := by first | exact Or.inl rfl | exact Or.inr (Or.inl rfl) | exact Or.inr (Or.inr rfl)) (hd : (x == ("__debug__" : Str)) = false := by decide) (hcd : (x == ("__classdict__" : Str)) = false := by decide)
    (hbase : attributeBase (.Name x p1) "append" X.env (eval (.Name x p1) X.env) = eval (.Name x p1) X.env := by rfl)
    (hfew : ((backTo pos (starEach [e] X.env)).all (fun x => !x.1) && (backToKw pos (keywordEach [] X.env)).all (fun x => x.1.isSome) && decide ([e].length + ([] : List Keyword).length + (if ([] : List Keyword).isEmpty then 0 else 1) < 30)) = true := by rfl)
    (hline : (p2.endLine == pos.line) = true := by rfl) (hs : starEach [e] X.env = (false, eval e X.env) :: starEach [] X.env := by rfl) (hplain : (backTo pos (starEach [] X.env)).any (·.1) = false := by rfl) (hK : X.K = K := by rfl) :
    EX C X (.Call (.Attribute (.Name x p1) "append" p2) [e] [] pos) (fun W => tBM K "list" rAppend (tVar i) (tCons (te W) tNil)) (xApp i g) := by subst hK; exact (⟨fun W k => pe_bm PySem.F.plainAttrs_list PySem.F.slot_list_append PySem.F.type_list_append mt_append (pe_var hN hv hd hcd) (pa_cons (he.pe W k) pa_nil hs) hbase hfew hline hs hplain, fun W => sx_app (Γ := GX X C) (he.sem W)⟩)
theorem ex_popAt {K : PySem.W.Frag} (i : Nat) {p1 p2 : Pos} (he : EX C X e te g) (hN : X.N[i]? = some x := by rfl) (hv : Vis X.env.scope x := by first | exact Or.inl rfl | exact Or.inr (Or.inl rfl) | exact Or.inr (Or.inr rfl)) (hd : (x == ("__debug__" : Str)) = false := by decide) (hcd : (x == ("__classdict__" : Str)) = false := by decide)
    (hbase : attributeBase (.Name x p1) "pop" X.env (eval (.Name x p1) X.env) = eval (.Name x p1) X.env := by rfl)
    (hfew : ((backTo pos (starEach [e] X.env)).all (fun x => !x.1) && (backToKw pos (keywordEach [] X.env)).all (fun x => x.1.isSome) && decide ([e].length + ([] : List Keyword).length + (if ([] : List Keyword).isEmpty then 0 else 1) < 30)) = true := by rfl)
    (hline : (p2.endLine == pos.line) = true := by rfl) (hs : starEach [e] X.env = (false, eval e X.env) :: starEach [] X.env := by rfl) (hplain : (backTo pos (starEach [] X.env)).any (·.1) = false := by rfl) (hK : X.K = K := by rfl) :
    EX C X (.Call (.Attribute (.Name x p1) "pop" p2) [e] [] pos) (fun W => tBM K "list" rPopAt (tVar i) (tCons (te W) tNil)) (xPopAt i g) := by subst hK; exact (⟨fun W k => pe_bm PySem.F.plainAttrs_list PySem.F.slot_list_pop PySem.F.type_list_pop mt_popAt (pe_var hN hv hd hcd) (pa_cons (he.pe W k) pa_nil hs) hbase hfew hline hs hplain, fun W => sx_popAt (Γ := GX X C) (he.sem W)⟩)
theorem ex_pop {K : PySem.W.Frag} (i : Nat) {p1 p2 : Pos} (hN : X.N[i]? = some x := by rfl) (hv : Vis X.env.scope x := by first | exact Or.inl rfl | exact Or.inr (Or.inl rfl) | exact Or.inr (Or.inr rfl)) (hd : (x == ("__debug__" : Str)) = false := by decide) (hcd : (x == ("__classdict__" : Str)) = false := by decide)
    (hbase : attributeBase (.Name x p1) "pop" X.env (eval (.Name x p1) X.env) = eval (.Name x p1) X.env := by rfl) (hline : (p2.endLine == pos.line) = true := by rfl) (hK : X.K = K := by rfl) :
    EX C X (.Call (.Attribute (.Name x p1) "pop" p2) [] [] pos) (fun W => tBM0 K "list" rPop (tVar i)) (xPop i) := by subst hK; exact (⟨fun W k => pe_bm0 PySem.F.plainAttrs_list PySem.F.slot_list_pop PySem.F.type_list_pop mt_pop (pe_var hN hv hd hcd) hbase hline, fun W => sx_pop (Γ := GX X C)⟩)
/-! ### comprehensions -/
structure TsX (C : Cs) (X : Cx) (ifs : List Expr) (t : TT) (g : XG) : Prop where
  pts : PTs X ifs t
  sem : SemT (GX X C) W0 t g
theorem tk0 {X : Cx} : Takes X W0 := fun _ _ x => by
  obtain ⟨_, _, _, _, _, _, _, _, _, _, _, _, _, _, _, _, z⟩ := x
  exact z.elim
theorem tsx_nil : TsX C X [] tYes (xC (.bl true)) := ⟨pts_nil, st_true⟩
theorem tsx_one (h : TX C X c tt f) : TsX C X [c] (tt W0) f := ⟨pts_one (h.pt W0 tk0), h.sem W0⟩
theorem ex_lc {elt iter : Expr} {ifs : List Expr} {scope : Scope} (own : List (Str × Nat)) {tT : TT} {t el : XG} {tl : WX → TE} (hN : X.N.Nodup) (ok : BlkOk X.N X.env.scope scope own) (hin : TgIn g1 (own.map (·.2))) (hi : IX C X tg iter ti fa)
    (hg : ∀ (s : Shared) (H : Hp) (cc : Addr) (cl : List (Str × Addr)) (fp : List Addr), GXt C false (X.blk s H scope (compEnvC scope cl cc X.env) fp) tg g1 gg)
    (htt : ∀ (s : Shared) (H : Hp) (cc : Addr) (cl : List (Str × Addr)) (fp : List Addr), TsX C (X.blk s H scope (compEnvC scope cl cc X.env) fp) ifs tT t)
    (he : ∀ (s : Shared) (H : Hp) (cc : Addr) (cl : List (Str × Addr)) (fp : List Addr), EX C (X.blk s H scope (compEnvC scope cl cc X.env) fp) elt tl el)
    (hc : X.calm = true := by rfl) (hs : ∀ x, foldedSetIterable iter X.env x = pure x := by intro _; rfl) :
    EX C X (.ListComp elt [⟨tg, iter, ifs, 0⟩] scope pos) (fun W => tLc (ti W) g1 tT (tl W0) (own.map (·.2))) (xLc (own.map (·.2)) fa gg t el) :=
  ⟨fun W k => pe_lc hc hN (hi.pi W k) ok (fun s H cc cl fp => (hg s H cc cl fp).pg) (fun s H cc cl fp => (htt s H cc cl fp).pts) (fun s H cc cl fp => (he s H cc cl fp).pe W0 tk0) hs,
    fun W => by
      have E0 : Shared → Hp → Addr → True := fun _ _ _ => trivial
      exact sx_lc (Γ := GX X C) (hi.sem W) (hg X.s_0 X.H_0 0 [] []).sem hin (htt X.s_0 X.H_0 0 [] []).sem ((he X.s_0 X.H_0 0 [] []).sem W0)⟩
/-- .. stored to a name on its line -/
theorem sx_setLc (i : Nat) {elt iter : Expr} {ifs : List Expr} {scope : Scope} (own : List (Str × Nat)) {tT : TT} {t el : XG} {tl : WX → TE} {py spos : Pos} (hN : X.N.Nodup) (ok : BlkOk X.N X.env.scope scope own) (hin : TgIn g1 (own.map (·.2))) (hi : IX C X tg iter ti fa)
    (hg : ∀ (s : Shared) (H : Hp) (cc : Addr) (cl : List (Str × Addr)) (fp : List Addr), GXt C false (X.blk s H scope (compEnvC scope cl cc X.env) fp) tg g1 gg)
    (htt : ∀ (s : Shared) (H : Hp) (cc : Addr) (cl : List (Str × Addr)) (fp : List Addr), TsX C (X.blk s H scope (compEnvC scope cl cc X.env) fp) ifs tT t)
    (he : ∀ (s : Shared) (H : Hp) (cc : Addr) (cl : List (Str × Addr)) (fp : List Addr), EX C (X.blk s H scope (compEnvC scope cl cc X.env) fp) elt tl el) (m : List Bool)
    (hsw : swapsWith (.ListComp elt [⟨tg, iter, ifs, 0⟩] scope pos) (some (.Name x py)) spos.line X.env = pure true) (hy : X.N[i]? = some x := by rfl) (hyl : X.env.scope.names.lookup x = some .local := by rfl)
    (hc : X.calm = true := by rfl) (hs : ∀ x, foldedSetIterable iter X.env x = pure x := by intro _; rfl) (hio : io = true → i ≠ 0 := by decide) :
    SX C io X (.Assign [.Name x py] (.ListComp elt [⟨tg, iter, ifs, 0⟩] scope pos) spos) (fun W => tAsg (tLc (ti W) g1 tT (tl W0) (own.map (·.2))) (gName i)) (sAsg (xBor m (xLc (own.map (·.2)) fa gg t el)) (gNm i)) :=
  ⟨fun W k => ps_setLc hc hN hy hyl hsw (hi.pi W k) ok (fun s H cc cl fp => (hg s H cc cl fp).pg) (fun s H cc cl fp => (htt s H cc cl fp).pts) (fun s H cc cl fp => (he s H cc cl fp).pe W0 tk0) hs,
    fun W => ss_asg (sx_bor (sx_lc (Γ := GX X C) (hi.sem W) (hg X.s_0 X.H_0 0 [] []).sem hin (htt X.s_0 X.H_0 0 [] []).sem ((he X.s_0 X.H_0 0 [] []).sem W0))) (sg_name hio)⟩
/-! ### a def -/
def slOf (io : Bool) (e : Env) : Option D := match io with
  | true => (match e[0]? with
    | some (some d) => some d
    | _ => none)
  | false => some .non
def runB (n : Nat) (io : Bool) (b : SG) : DF := fun ds => match b (ds.map some ++ List.replicate (n - ds.length) none) with
  | .nx e => (match slOf io e with
    | some s => .ok .non s
    | none => .bad)
  | .rt d e => (match slOf io e with
    | some s => .ok d s
    | none => .bad)
  | .exc c ns fs e => (match slOf io e with
    | some s => .exc c ns fs s
    | none => .bad)
  | _ => .bad
end
section
variable {Γ : Gm} {io : Bool} {σ : St} {Z H : Hp} {F : List Addr} {e : Env}
theorem ownE_nones : ∀ (k : Nat), OwnE Γ (List.replicate k none) Z H (List.replicate k none) []
  | 0 => ⟨rfl, rfl⟩
  | k + 1 => ⟨none, _, rfl, ownE_nones k⟩
theorem ownE_args : ∀ {ds : List D} {vs : List V} (k : Nat), RpL Γ ds Z vs → OwnE Γ (ds.map some ++ List.replicate k none) Z H (vs.map some ++ List.replicate k none) []
  | [], vs, k, ⟨h, _⟩ => by subst h; exact ownE_nones k
  | d :: ds, vs, k, h => by
    obtain ⟨v, r, rfl, a, b⟩ := h.split
    exact ⟨v, _, [], [], rfl, Rp.own a, ownE_args k b, .nil⟩
/-- the changed parameter at the end -/
theorem slot0 {v : V} {vs : List V} {s : D} (E : EOK Γ Z H σ e F) (h0 : io = true → σ[0]? = some (some v)) (hs : slOf io e = some s) (hv : io = true → vs.head? = some v) : ∃ Fs, OwnS Γ io s Z H vs Fs ∧ (∀ a ∈ Fs, a ∈ F) ∧ Fs.Nodup := by
  cases io with
  | false => exact ⟨[], rfl, fun a ha => absurd ha (by simp), List.nodup_nil⟩
  | true =>
    unfold slOf at hs
    dsimp only at hs
    split at hs
    · rename_i d q
      cases hs
      obtain ⟨y, G1, G2, h1, ⟨w, rfl, h2⟩, h3, _⟩ := E.own.at q
      rw [h0 rfl] at h1
      cases h1
      cases vs with
      | nil => cases hv rfl
      | cons v' r =>
        have e := Option.some.inj (hv rfl)
        subst e
        exact ⟨G1, ⟨_, r, rfl, h2⟩, fun a ha => h3.mem_iff.mpr (List.mem_append_left _ ha), (List.nodup_append.mp ((h3.nodup_iff).mp E.nd)).1⟩
    · cases hs
end
section
variable {P : Program} {w : World} {K : PySem.W.Frag} {mg : Str → Option Value} {base : Heap} {C : Cs}
/-- a body's meaning, its promise told -/
theorem body_d {Γ : Gm} {N : List Str} {io : Bool} {b : SG} {t : TS} {n m : Nat} {vs : List V} {H : Hp} {Q : VK} {E : XK} (hm : N.length = m) (hnm : n ≤ m) (ht : SemS Γ (fun cls d _ H => E cls d H) io t b) (h : spD Γ n io (runB m io b) vs H Q E) :
    t { nx := fun _ H' => Q .non H', rt := Q } (L2.start N vs) H := by
  obtain ⟨hl, ds, Z, F0, zh, nd, dz, nz, tb, args, post⟩ := h
  have hds : ds.length = vs.length := by
    cases io with
    | true =>
      obtain ⟨d, r, v, s', rfl, rfl, _, r2⟩ := args
      rw [List.length_cons, List.length_cons, r2.len]
    | false => exact args.1.len.symm
  have es : L2.start N vs = vs.map some ++ List.replicate (m - ds.length) none := by unfold L2.start; rw [hm, hds]
  have E0 : EOK Γ Z H (L2.start N vs) (ds.map some ++ List.replicate (m - ds.length) none) F0 := by
    rw [es]
    refine ⟨zh, ?_, nd, dz, nz, tb⟩
    cases io with
    | true =>
      obtain ⟨d, r, v, s', rfl, rfl, o, r2⟩ := args
      exact ⟨v, _, F0, [], rfl, o, ownE_args _ r2, by simp⟩
    | false =>
      obtain ⟨r, rfl⟩ := args
      exact ownE_args _ r
  have hv : io = true → ∃ v, vs.head? = some v ∧ (L2.start N vs)[0]? = some (some v) := fun h => by
    subst h
    obtain ⟨d, r, v, s', rfl, rfl, o, r2⟩ := args
    exact ⟨v, rfl, by rw [es]; rfl⟩
  have pin : ∀ {σ'}, Pin io (L2.start N vs) σ' → ∃ v, (io = true → σ'[0]? = some (some v)) ∧ (io = true → vs.head? = some v) := fun {σ'} p => by
    cases io with
    | false => exact ⟨.non, fun z => (Bool.false_ne_true z).elim, fun z => (Bool.false_ne_true z).elim⟩
    | true =>
      obtain ⟨v, h1, h2⟩ := hv rfl
      exact ⟨v, fun _ => (p rfl).trans h2, fun _ => h1⟩
  refine ht Z H _ _ F0 _ E0 ?_
  unfold runB at post
  cases q : b (ds.map some ++ List.replicate (m - ds.length) none) with
  | bk e => rw [q] at post; exact post.elim
  | ct e => rw [q] at post; exact post.elim
  | bad => rw [q] at post; exact post.elim
  | nx e =>
    simp only [q] at post
    intro Z' H' σ' F' E' s' p
    cases q2 : slOf io e with
    | none => simp only [q2] at post; exact post.elim
    | some sd =>
      simp only [q2] at post
      obtain ⟨v, h1, h2⟩ := pin p
      obtain ⟨Fs, os, mF, nF⟩ := slot0 E' h1 q2 h2
      exact post Z' H' .non [] Fs E'.zh E'.ntz E'.tabs ⟨rfl, rfl⟩ os nF (fun a ha => E'.dis a (mF a ha)) (s'.perm (fun _ => Iff.rfl) fun a ha => mF a ha)
  | rt d e =>
    simp only [q] at post
    intro Z' H' σ' v' Fd F' E' o n' z s' p
    cases q2 : slOf io e with
    | none => simp only [q2] at post; exact post.elim
    | some sd =>
      simp only [q2] at post
      obtain ⟨v, h1, h2⟩ := pin p
      obtain ⟨Fs, os, mF, nF⟩ := slot0 E' h1 q2 h2
      obtain ⟨n1, n2, n3⟩ := List.nodup_append.mp n'
      refine post Z' H' v' Fd Fs E'.zh E'.ntz E'.tabs o os (List.nodup_append.mpr ⟨n1, nF, fun a ha b hb => n3 a ha b (mF b hb)⟩) (fun a ha => (List.mem_append.mp ha).elim (z a) fun h => E'.dis a (mF a h)) (s'.perm (fun _ => Iff.rfl) fun a ha => ?_)
      exact (List.mem_append.mp ha).elim (List.mem_append_left _) fun h => List.mem_append_right _ (mF a h)
  | exc c ns fs e =>
    simp only [q] at post
    intro Z' H' σ' F' dd E' s' p x
    cases q2 : slOf io e with
    | none => simp only [q2] at post; exact post.elim
    | some sd =>
      simp only [q2] at post
      obtain ⟨v, h1, h2⟩ := pin p
      obtain ⟨Fs, os, mF, nF⟩ := slot0 E' h1 q2 h2
      exact post Z' H' Fs dd E'.zh E'.ntz E'.tabs os nF (fun a ha => E'.dis a (mF a ha)) (s'.perm (fun _ => Iff.rfl) fun a ha => mF a ha) x
theorem fn_d {x qual : Str} {st : Stmt} {f : Addr} {fd : FuncData} {N ps : List Str} {k : Nat} (F : Fun K x qual st f fd) (S : FnScope N ps (defScope st)) (io : Bool) {b : SG} (n m : Nat) (hn : ps.length = n) (hm : N.length = m) (hnm : n ≤ m)
    (hbody : ∀ (cdv : Value) (A : Around) (outer : List PySem.Env) (s : Shared) (H : Hp) (E : XK), Room k (A.deeper (envOfC qual (defScope st) s.heap.objs.size f cdv)) →
      ∃ t, SSX C io (cxOf (L2.CX P w) P w K mg base N qual (defScope st) f cdv A outer s H E) (defBody st) t b) :
    FnOk P w K mg base (L2.CX P w) (k + 1) f fd ps (spD ⟨K, C.C, C.T, C.E⟩ n io (runB m io b)) := by
  refine F.okX S (fun vs H Q E h => by rw [hn]; exact h.1) (fun cdv A outer s H vs Q E hr h => ?_)
  obtain ⟨t, ht⟩ := hbody cdv A outer s H E hr
  exact ⟨t fun cls d _ H => E cls d H, ht.ps _ (takes_of rfl rfl rfl rfl), body_d hm hnm (ht.sem _) h⟩
end
end MV

namespace MV
open PySem PySem.Spec PyProof.Rows L2
section
variable {Γ : Gm} {W : WX} {io : Bool} {σ σ' : St} {Z H Z1 H1 : Hp} {F F1 : List Addr} {e : Env}
/-! ### and, or, not as values -/
theorem sx_andV {ta tb : TE} {f g : XG} (hf : SemX Γ W ta f) (hg : SemX Γ W tb g) : SemX Γ W (tAndV ta tb) (xIf f g (xC (.bl false))) := by
  intro Z H σ e F Q E P
  refine hf.sh E ?_
  unfold xIf at P
  cases q : f e with
  | bad => rw [q] at P; exact P
  | exc c ns fs e1 => rw [q] at P; exact P
  | ok d e1 =>
    rw [q] at P
    cases d <;> try (exact P.elim)
    rename_i b
    intro Z1 H1 v F1 E1 R1 S1
    refine ⟨b, R1.1, ?_⟩
    cases b with
    | true => rw [if_pos rfl]; exact hg Z1 H1 σ e1 F1 Q E1 (XPost.after S1 P)
    | false => rw [if_neg Bool.false_ne_true]; exact P Z1 H1 (.bl false) [] F1 E1 ⟨rfl, rfl⟩ E1.nd (fun a ha => absurd ha (by simp)) S1
theorem sx_orV {ta tb : TE} {f g : XG} (hf : SemX Γ W ta f) (hg : SemX Γ W tb g) : SemX Γ W (tOrV ta tb) (xIf f (xC (.bl true)) g) := by
  intro Z H σ e F Q E P
  refine hf.sh E ?_
  unfold xIf at P
  cases q : f e with
  | bad => rw [q] at P; exact P
  | exc c ns fs e1 => rw [q] at P; exact P
  | ok d e1 =>
    rw [q] at P
    cases d <;> try (exact P.elim)
    rename_i b
    intro Z1 H1 v F1 E1 R1 S1
    refine ⟨b, R1.1, ?_⟩
    cases b with
    | false => rw [if_neg Bool.false_ne_true]; exact hg Z1 H1 σ e1 F1 Q E1 (XPost.after S1 P)
    | true => rw [if_pos rfl]; exact P Z1 H1 (.bl true) [] F1 E1 ⟨rfl, rfl⟩ E1.nd (fun a ha => absurd ha (by simp)) S1
theorem sx_notV {ta : TE} {f : XG} (hf : SemX Γ W ta f) : SemX Γ W (tNotV ta) (x1 bNot f) := by
  intro Z H σ e F Q E P
  refine hf.sh E ?_
  unfold x1 at P
  cases q : f e with
  | bad => rw [q] at P; exact P
  | exc c ns fs e1 => rw [q] at P; exact P
  | ok d e1 =>
    rw [q] at P
    cases d <;> try (exact P.elim)
    rename_i b
    intro Z1 H1 v F1 E1 R1 S1
    exact ⟨b, R1.1, P Z1 H1 (.bl (!b)) [] F1 E1 ⟨rfl, rfl⟩ E1.nd (fun a ha => absurd ha (by simp)) S1⟩
/-! ### chains -/
def xChain (o o' : D → D → Option D) (f g h : XG) : XG := fun e => match f e with
  | .ok a e1 => (match g e1 with
    | .ok b e2 => (match o (fz a) (fz b) with
      | some (.bl true) => (match h e2 with
        | .ok c e3 => (match o' (fz b) (fz c) with
          | some (.bl k) => .ok (.bl k) e3
          | _ => .bad)
        | .exc c ns fs e3 => .exc c ns fs e3
        | .bad => .bad)
      | some (.bl false) => .ok (.bl false) e2
      | _ => .bad)
    | .exc c ns fs e2 => .exc c ns fs e2
    | .bad => .bad)
  | .exc c ns fs e1 => .exc c ns fs e1
  | .bad => .bad
theorem sx_chain {r r' : R2} {o o' : D → D → Option D} {ta tb tc : TE} {f g h : XG} (ho : OpD Γ r o) (ho' : OpD Γ r' o') (hf : SemX Γ W ta f) (hg : SemX Γ W tb g) (hh : SemX Γ W tc h) : SemX Γ W (tChain r r' ta tb tc) (xChain o o' f g h) := by
  intro Z H σ e F Q E P
  refine hf.sh E ?_
  unfold xChain at P
  cases q1 : f e with
  | bad => rw [q1] at P; exact P
  | exc c ns fs e1 => rw [q1] at P; exact P
  | ok a e1 =>
    simp only [q1] at P
    intro Z1 H1 x F1 E1 R1 S1
    refine hg.sh E1 ?_
    cases q2 : g e1 with
    | bad => simp only [q2] at P; exact P
    | exc c ns fs e2 => simp only [q2] at P; exact EPost.after S1 P
    | ok b e2 =>
      simp only [q2] at P
      intro Z2 H2 y F2 E2 R2 S2
      cases q3 : o (fz a) (fz b) with
      | none => simp only [q3] at P; exact P.elim
      | some d =>
        cases d <;> try (simp only [q3] at P; exact P.elim)
        rename_i k
        refine ho E2.zh (R1.mono S2.zext (fun a ha => absurd ha (by simp))) R2 q3 fun H3 u Fd ex od n fr => ?_
        obtain ⟨rfl, rfl⟩ := od
        have E3 := E2.alloc ex
        have S3 := (S1.trans S2).trans (Step.alloc (Fd := []) (F := F2) (Z := Z2) ex (fun a ha => absurd ha (by simp)))
        refine ⟨k, rfl, ?_⟩
        cases k with
        | false =>
          simp only [q3] at P
          rw [if_neg Bool.false_ne_true]
          exact P Z2 H3 _ [] F2 E3 ⟨rfl, rfl⟩ E3.nd (fun a ha => absurd ha (by simp)) S3
        | true =>
          simp only [q3] at P
          rw [if_pos rfl]
          refine hh.sh E3 ?_
          cases q4 : h e2 with
          | bad => simp only [q4] at P; exact P
          | exc c ns fs e3 => simp only [q4] at P; exact EPost.after S3 P
          | ok c e3 =>
            simp only [q4] at P
            intro Z4 H4 w F4 E4 R4 S4
            cases q5 : o' (fz b) (fz c) with
            | none => simp only [q5] at P; exact P.elim
            | some d =>
              cases d <;> try (simp only [q5] at P; exact P.elim)
              rename_i k'
              simp only [q5] at P
              refine ho' E4.zh (R2.mono S4.zext (fun a ha => absurd ha (by simp))) R4 q5 fun H5 u' Fd' ex' od' n' fr' => ?_
              exact P Z4 H5 u' Fd' F4 (E4.alloc ex') od' (E4.nodup fr' n') (fun a ha => (E4.fresh (fr' a ha)).2) ((S3.trans S4).trans (Step.alloc ex' fr'))
/-! ### slices of lists -/
def OPost (Γ : Gm) (W : WX) (σ : St) (Z H : Hp) (F : List Addr) (Q : Option Int → Hp → Prop) : XO → Prop
  | .ok (.int i) e => ∀ Z' H' F', EOK Γ Z' H' σ e F' → Step H Z F H' Z' F' → Q (some i) H'
  | .ok .non e => ∀ Z' H' F', EOK Γ Z' H' σ e F' → Step H Z F H' Z' F' → Q none H'
  | .ok _ _ => False
  | .exc c ns fs e => EPost Γ W σ Z H F c ns fs e
  | .bad => False
def SemO (Γ : Gm) (W : WX) (t : TO) (g : XG) : Prop := ∀ Z H σ e F Q, EOK Γ Z H σ e F → OPost Γ W σ Z H F Q (g e) → t σ H Q
theorem so_none : SemO Γ W tNoPart (xC .non) := fun Z H σ e F Q E P => P Z H F E Step.refl
/-- an int alone -/
def xInt (f : XG) : XG := fun e => match f e with
  | .ok (.int i) e1 => .ok (.int i) e1
  | .ok _ _ => .bad
  | o => o
theorem so_some {t : TE} {f : XG} (hf : SemX Γ W t f) : SemO Γ W (tPart t) (xInt f) := by
  intro Z H σ e F Q E P
  refine hf.sh E ?_
  unfold xInt at P
  cases q : f e with
  | bad => rw [q] at P; exact P
  | exc c ns fs e1 => rw [q] at P; exact P
  | ok d e1 =>
    rw [q] at P
    cases d <;> try (exact P.elim)
    rename_i i
    intro Z1 H1 v F1 E1 R1 S1
    exact ⟨i, R1.1, P Z1 H1 F1 E1 S1⟩
def oPart : D → Option (Option Int)
  | .int i => some (some i)
  | .non => some none
  | _ => none
def cutD (xs : List D) (lo hi : Option Int) : List D := (xs.drop (HT.sIx xs.length 0 lo)).take (HT.sIx xs.length xs.length hi - HT.sIx xs.length 0 lo)
def xSl (f lo hi : XG) : XG := fun e => match f e with
  | .ok d e1 => (match lo e1 with
    | .ok a e2 => (match oPart a with
      | some i => (match hi e2 with
        | .ok b e3 => (match oPart b with
          | some j => (match listOf? (fz d) with
            | some xs => .ok (OL (cutD xs i j)) e3
            | none => .bad)
          | none => .bad)
        | .exc c ns fs e3 => .exc c ns fs e3
        | .bad => .bad)
      | none => .bad)
    | .exc c ns fs e2 => .exc c ns fs e2
    | .bad => .bad)
  | .exc c ns fs e1 => .exc c ns fs e1
  | .bad => .bad
theorem opost_of {R : Option Int → Hp → Prop} {d : D} {o : Option (Option Int)} (ho : oPart d = o) (hn : o = none → False) (h : ∀ i, o = some i → ∀ Z' H' F', EOK Γ Z' H' σ e F' → Step H Z F H' Z' F' → R i H') : OPost Γ W σ Z H F R (.ok d e) := by
  cases d <;> first
    | exact fun Z' H' F' E s => h _ (by rw [← ho]; rfl) Z' H' F' E s
    | exact (hn (by rw [← ho]; rfl)).elim
theorem RpL.cut {xs : List D} {vs : List V} (r : RpL Γ xs Z vs) (lo hi : Option Int) : RpL Γ (cutD xs lo hi) Z (cutV vs lo hi) := by
  unfold cutD cutV
  rw [r.len]
  exact (r.drop _).take _
theorem sx_sl {t : TE} {tl th : TO} {f lo hi : XG} (hf : SemX Γ W t f) (hl : SemO Γ W tl lo) (hh : SemO Γ W th hi) : SemX Γ W (tSl (rSlL Γ.K) t tl th) (xSl f lo hi) := by
  intro Z H σ e F Q E P
  refine hf.sh E ?_
  unfold xSl at P
  cases q1 : f e with
  | bad => rw [q1] at P; exact P
  | exc c ns fs e1 => rw [q1] at P; exact P
  | ok d e1 =>
    simp only [q1] at P
    intro Z1 H1 x F1 E1 R1 S1
    refine hl Z1 H1 σ e1 F1 _ E1 ?_
    cases q2 : lo e1 with
    | bad => simp only [q2] at P; exact P
    | exc c ns fs e2 => simp only [q2] at P; exact EPost.after S1 P
    | ok a e2 =>
      simp only [q2] at P
      refine opost_of (o := oPart a) rfl (fun z => by simp only [z] at P; exact P) fun i hi' Z2 H2 F2 E2 S2 => ?_
      simp only [hi'] at P
      refine hh Z2 H2 σ e2 F2 _ E2 ?_
      cases q3 : hi e2 with
      | bad => simp only [q3] at P; exact P
      | exc c ns fs e3 => simp only [q3] at P; exact EPost.after (S1.trans S2) P
      | ok b e3 =>
        simp only [q3] at P
        refine opost_of (o := oPart b) rfl (fun z => by simp only [z] at P; exact P) fun j hj Z3 H3 F3 E3 S3 => ?_
        simp only [hj] at P
        cases q4 : listOf? (fz d) with
        | none => simp only [q4] at P; exact P.elim
        | some xs =>
          simp only [q4] at P
          have R3 : Rp Γ (fz d) Z3 x := Own.mono R1 (S2.zext.trans S3.zext) (fun a ha => absurd ha (by simp))
          obtain ⟨p, vs, rfl, s, r⟩ := listOf_rp E3.zh q4 R3
          refine ⟨p, vs, rfl, s, fun l hl => ?_⟩
          have q : NewQ Γ Z3 H3 (OL (cutD xs i j)) Q := fun H4 u Fd ex o n fr => P Z3 H4 u Fd F3 (E3.alloc ex) o (E3.nodup fr n) (fun a ha => (E3.fresh (fr a ha)).2) (((S1.trans S2).trans S3).trans (Step.alloc ex fr))
          exact q.node (r.cut i j) hl rfl
def xRev (f : XG) : XG := x1 (fun d => (listOf? d).map fun xs => OL xs.reverse) f
theorem sx_rev {t : TE} {f : XG} (hf : SemX Γ W t f) : SemX Γ W (tRevL Γ.K t) (xRev f) := by
  intro Z H σ e F Q E P
  refine hf.sh E ?_
  unfold xRev x1 at P
  cases q1 : f e with
  | bad => rw [q1] at P; exact P
  | exc c ns fs e1 => rw [q1] at P; exact P
  | ok d e1 =>
    simp only [q1] at P
    intro Z1 H1 x F1 E1 R1 S1
    cases q4 : listOf? (fz d) with
    | none => simp only [q4] at P; exact P.elim
    | some xs =>
      simp only [q4] at P
      obtain ⟨p, vs, rfl, s, r⟩ := listOf_rp E1.zh q4 R1
      refine ⟨p, vs, rfl, s, fun l hl => ?_⟩
      have q : NewQ Γ Z1 H1 (OL xs.reverse) Q := fun H4 u Fd ex o n fr => P Z1 H4 u Fd F1 (E1.alloc ex) o (E1.nodup fr n) (fun a ha => (E1.fresh (fr a ha)).2) (S1.trans (Step.alloc ex fr))
      exact q.node r.reverse hl rfl
/-! ### isinstance of data, a built-in class -/
/-- the class's name, where a table of the library knows it -/
def clsOf : D → Option String
  | .non => some "NoneType"
  | .bl _ => some "bool"
  | .int _ => some "int"
  | .str _ => some "str"
  | .nd _ .lst _ => some "list"
  | .nd _ .tup _ => some "tuple"
  | _ => none
def oIsi (T : String) : D → Option D := fun d => (clsOf d).bind fun n => (kitB n T).map .bl
end
section
variable {C : Cs} {io : Bool} {X : Cx} {a b c e : Expr} {es : List Expr} {ta tb tc te : WX → TE} {tt : WX → TT} {tA : WX → TA} {f g h : XG} {fa : AG} {pos p : Pos} {x : Str} {op : BoolOp}
theorem ex_and (ha : EX C X a ta f) (hb : EX C X (.BoolOp .And (b :: es) pos) tb g) : EX C X (.BoolOp .And (a :: b :: es) pos) (fun W => tAndV (ta W) (tb W)) (xIf f g (xC (.bl false))) := ⟨fun W k => pe_and (ha.pe W k) (hb.pe W k), fun W => sx_andV (ha.sem W) (hb.sem W)⟩
theorem ex_or (ha : EX C X a ta f) (hb : EX C X (.BoolOp .Or (b :: es) pos) tb g) : EX C X (.BoolOp .Or (a :: b :: es) pos) (fun W => tOrV (ta W) (tb W)) (xIf f (xC (.bl true)) g) := ⟨fun W k => pe_or (ha.pe W k) (hb.pe W k), fun W => sx_orV (ha.sem W) (hb.sem W)⟩
theorem ex_one (ha : EX C X a ta f) : EX C X (.BoolOp op [a] pos) ta f := ⟨fun W k => pe_one (ha.pe W k), ha.sem⟩
theorem ex_not (ha : EX C X a ta f) : EX C X (.UnaryOp .Not a pos) (fun W => tNotV (ta W)) (x1 bNot f) := ⟨fun W k => pe_not (ha.pe W k), fun W => sx_notV (ha.sem W)⟩
theorem ex_chain {o1 o2 : CmpOp} {r r' : R2} {o o' : D → D → Option D} (hr : OpR X (compareOp o1) r) (hr' : OpR X (compareOp o2) r') (ho : OpD (GX X C) r o) (ho' : OpD (GX X C) r' o') (ha : EX C X a ta f) (hb : EX C X b tb g) (hc : EX C X c tc h)
    (hm : lastMarks [o1, o2] [b, c] = false := by with_unfolding_all rfl) : EX C X (.Compare a [o1, o2] [b, c] pos) (fun W => tChain r r' (ta W) (tb W) (tc W)) (xChain o o' f g h) := ⟨fun W k => pe_chain hr hr' (ha.pe W k) (hb.pe W k) (hc.pe W k) hm, fun W => sx_chain ho ho' (ha.sem W) (hb.sem W) (hc.sem W)⟩
theorem tx_chain (m : List Bool) {o1 o2 : CmpOp} {r r' : R2} {o o' : D → D → Option D} (hr : OpR X (compareOp o1) r) (hr' : OpR X (compareOp o2) r') (ho : OpD (GX X C) r o) (ho' : OpD (GX X C) r' o') (ha : EX C X a ta f) (hb : EX C X b tb g) (hc : EX C X c tc h)
    (hm : lastMarks [o1, o2] [b, c] = false := by with_unfolding_all rfl) : TX C X (.Compare a [o1, o2] [b, c] pos) (fun W => tTest (tChain r r' (ta W) (tb W) (tc W))) (xBor m (xChain o o' f g h)) := ⟨fun W k => pt_chain hr hr' (ha.pe W k) (hb.pe W k) (hc.pe W k) hm, fun W => st_bor (sx_chain ho ho' (ha.sem W) (hb.sem W) (hc.sem W))⟩
structure OX (C : Cs) (X : Cx) (e : Option Expr) (t : WX → TO) (g : XG) : Prop where
  po : ∀ W, Takes X W → PO X e (t W)
  sem : ∀ W, SemO (GX X C) W (t W) g
theorem ox_none : OX C X none (fun _ => tNoPart) (xC .non) := ⟨fun _ _ => po_none, fun _ => so_none⟩
theorem ox_some (h : EX C X e te f) : OX C X (some e) (fun W => tPart (te W)) (xInt f) := ⟨fun W k => po_some (h.pe W k), fun W => so_some (h.sem W)⟩
theorem ex_sl {K : PySem.W.Frag} {lo hi : Option Expr} {tl th : WX → TO} {p2 : Pos} (he : EX C X e te f) (hl : OX C X lo tl g) (hh : OX C X hi th h) (hK : X.K = K := by rfl) : EX C X (.Subscript e (.Slice lo hi none p2) pos) (fun W => tSl (rSlL K) (te W) (tl W) (th W)) (xSl f g h) := by subst hK; exact (⟨fun W k => pe_slice sl_list (he.pe W k) (hl.po W k) (hh.po W k), fun W => sx_sl (Γ := GX X C) (he.sem W) (hl.sem W) (hh.sem W)⟩)
theorem ex_rev {K : PySem.W.Frag} {k : Nat} {p1 p2 p3 : Pos} (he : EX C X e te f) (hK : X.K = K := by rfl) : EX C X (.Subscript e (.Slice none none (some (.UnaryOp .USub (.Constant (.int 1) k p1) p2)) p3) pos) (fun W => tRevL K (te W)) (xRev f) := by subst hK; exact (⟨fun W k => pe_revL (he.pe W k), fun W => sx_rev (Γ := GX X C) (he.sem W)⟩)
theorem tyx_of {Γ : Gm} {d : D} {n : String} {Z H : Hp} {v : V} (h : clsOf d = some n) (r : Rp Γ d Z v) (zh : Ex Z H) : TyX Γ.K H v (.type n) := by
  cases d <;> try (cases h; done)
  · cases h; rw [r.1]; exact .base .non
  · cases h; rw [r.1]; exact .base (.bl _)
  · cases h; rw [r.1]; exact .base (.int _)
  · cases h; rw [r.1]; exact .base (.str _)
  · rename_i o k xs
    have f := Rp.flag r
    subst f
    cases k <;> try (cases h; done)
    · cases h
      obtain ⟨a, vs, rfl, z1, h1, r1⟩ := Rp.lst zh r
      exact .base (.lst h1)
    · cases h
      obtain ⟨a, vs, rfl, z1, h1, r1⟩ := Rp.tup zh r
      exact .base (.tup h1)
theorem sx_isi {Γ : Gm} {W : WX} {T : String} {t : TE} {f : XG} (hf : SemX Γ W t f) : SemX Γ W (tCB (rIsi Γ.K) (tCons t (tCons (tC (.ty T)) tNil))) (x1 (oIsi T) f) := by
  intro Z H σ e F Q E P
  refine hf.sh E ?_
  unfold x1 at P
  cases q1 : f e with
  | bad => rw [q1] at P; exact P
  | exc c ns fs e1 => rw [q1] at P; exact P
  | ok d e1 =>
    simp only [q1] at P
    intro Z1 H1 x F1 E1 R1 S1
    unfold oIsi at P
    cases q2 : clsOf (fz d) with
    | none => simp only [q2] at P; exact P.elim
    | some n =>
      simp only [q2, Option.bind_some] at P
      cases q3 : kitB n T with
      | none => simp only [q3] at P; exact P.elim
      | some b =>
        simp only [q3, Option.map_some] at P
        exact ⟨x, .ty T, .type n, .type T, b, rfl, .ty T, tyx_of q2 R1 E1.zh, kit_ty q3, P Z1 H1 (.bl b) [] F1 E1 ⟨rfl, rfl⟩ E1.nd (fun a ha => absurd ha (by simp)) S1⟩
/-- isinstance(e, T), T a built-in class -/
theorem ex_isi {K : PySem.W.Frag} (T : String) {y : Str} {py : Pos} (hm : X.mg "isinstance" = none) (hmy : X.mg y = none) (hvy : bootBuiltins y = some (.type T)) (he : EX C X e te f) (hg : Gl X "isinstance" := by rfl) (hgy : Gl X y := by rfl) (hn : y ≠ "__name__" := by decide) (hd : (y == ("__debug__" : Str)) = false := by decide)
    (hs : starEach (e :: [.Name y py]) X.env = (false, eval e X.env) :: starEach [.Name y py] X.env := by rfl) (hs2 : starEach (.Name y py :: []) X.env = (false, eval (.Name y py) X.env) :: starEach [] X.env := by rfl) (hpl : (backTo pos (starEach [.Name y py] X.env)).any (·.1) = false := by rfl) (hK : X.K = K := by rfl) :
    EX C X (.Call (.Name "isinstance" p) [e, .Name y py] [] pos) (fun W => tCB (rIsi K) (tCons (te W) (tCons (tC (.ty T)) tNil))) (x1 (oIsi T) f) := by subst hK; exact (⟨fun W k => pe_callB call_isi hg hm (by decide +kernel) (pa_cons (he.pe W k) (pa_cons (pe_bltn (v := .ty T) hgy hmy hvy rfl hn hd) pa_nil hs2) hs) (by decide) (by decide) hs hpl, fun W => sx_isi (Γ := GX X C) (he.sem W)⟩)
end
end MV

namespace MV
open PySem PySem.Spec PyProof.Rows L2
/-! ### the held exception's meaning changes -/
mutual
def noX : D → Bool
  | .exn _ _ _ => false
  | .nd _ _ xs => noXL xs
  | _ => true
def noXL : List D → Bool
  | [] => true
  | d :: ds => noX d && noXL ds
end
def noXE (e : Env) : Bool := e.all fun x => match x with
  | none => true
  | some d => noX d
abbrev EP3 := Addr → Nat → Addr → Prop
abbrev Gm.with (Γ : Gm) (E : EP3) : Gm := ⟨Γ.K, Γ.C, Γ.T, E⟩
section
variable {Γ : Gm} {E' : EP3}
theorem Is.chE {k : Kd} {vs : List V} {ho : HO} (h : Is Γ k vs ho) : Is (Γ.with E') k vs ho := by cases k <;> exact h
mutual
theorem Own.chE : ∀ {d : D} {Z H : Hp} {v : V} {F : List Addr}, noX d = true → Own Γ d Z H v F → Own (Γ.with E') d Z H v F
  | .non, _, _, _, _, _, h => h
  | .bl _, _, _, _, _, _, h => h
  | .int _, _, _, _, _, _, h => h
  | .str _, _, _, _, _, _, h => h
  | .scr _, _, _, _, _, _, h => h
  | .exn _ _ _, _, _, _, _, n, _ => by simp [noX] at n
  | .nd true k xs, Z, H, v, F, n, ⟨a, vs, ho, F', e1, e2, e3, e4, e5⟩ => ⟨a, vs, ho, F', e1, e2, e3.chE, OwnL.chE (by simpa [noX] using n) e4, e5⟩
  | .nd false k xs, Z, _, v, F, n, ⟨e, a, vs, ho, e1, e2, e3, e4⟩ => ⟨e, a, vs, ho, e1, e2, e3.chE, OwnL.chE (by simpa [noX] using n) e4⟩
theorem OwnL.chE : ∀ {ds : List D} {Z H : Hp} {vs : List V} {F : List Addr}, noXL ds = true → OwnL Γ ds Z H vs F → OwnL (Γ.with E') ds Z H vs F
  | [], _, _, _, _, _, h => h
  | d :: ds, _, _, _, _, n, ⟨v, r, F1, F2, e1, e2, e3, e4⟩ => by
    have n' : noX d = true ∧ noXL ds = true := by simpa [noXL] using n
    exact ⟨v, r, F1, F2, e1, Own.chE n'.1 e2, OwnL.chE n'.2 e3, e4⟩
end
theorem OwnE.chE : ∀ {e : Env} {Z H : Hp} {σ : St} {F : List Addr}, noXE e = true → OwnE Γ e Z H σ F → OwnE (Γ.with E') e Z H σ F
  | [], _, _, _, _, _, h => h
  | none :: e, _, _, _, _, n, ⟨x, r, e1, e2⟩ => ⟨x, r, e1, e2.chE (by simpa [noXE] using n)⟩
  | some d :: e, _, _, _, _, n, ⟨v, r, F1, F2, e1, e2, e3, e4⟩ => by
    have n' : noX d = true ∧ noXE e = true := by simpa [noXE] using n
    exact ⟨v, r, F1, F2, e1, e2.chE n'.1, e3.chE n'.2, e4⟩
theorem EOK.chE {Z H : Hp} {σ : St} {e : Env} {F : List Addr} (n : noXE e = true) (E : EOK Γ Z H σ e F) : EOK (Γ.with E') Z H σ e F := ⟨E.zh, E.own.chE n, E.nd, E.dis, E.ntz, E.tabs⟩
/-- a slot set to something that is not owned -/
theorem EOK.slot {Z H : Hp} {σ : St} {e : Env} {F : List Addr} {i : Nat} {x x' : Option D} {y' : Option V} (E : EOK Γ Z H σ e F) (h : e[i]? = some x) (o : OwnO Γ x' Z H y' []) : ∃ F2, EOK Γ Z H (σ.set i y') (e.set i x') F2 ∧ ∀ a ∈ F2, a ∈ F := by
  obtain ⟨y, F1, F2, h1, h2, h3, h4⟩ := E.own.at h
  have q := h4 Z H x' y' [] (Ex.refl _) (fun _ _ _ _ h => h) o
  exact ⟨F2, ⟨E.zh, q, (List.nodup_append.mp ((h3.nodup_iff).mp E.nd)).2.1, fun a ha => E.dis a (h3.mem_iff.mpr (List.mem_append_right _ ha)), E.ntz, E.tabs⟩, fun a ha => h3.mem_iff.mpr (List.mem_append_right _ ha)⟩
theorem Step.less {H Z H' Z' : Hp} {F F' G' : List Addr} (s : Step H Z F H' Z' F') (q : ∀ a ∈ G', a ∈ F') : Step H Z F H' Z' G' := s.perm (fun _ => Iff.rfl) q
end
/-- the end of an except suite: its name is gone -/
def endX (i : Nat) : SO → SO
  | .nx e => if noXE (e.set i none) = true ∧ i < e.length then .nx (e.set i none) else .bad
  | .bk e => if noXE (e.set i none) = true ∧ i < e.length then .bk (e.set i none) else .bad
  | .ct e => if noXE (e.set i none) = true ∧ i < e.length then .ct (e.set i none) else .bad
  | .rt d e => if (noX d = true ∧ noXE (e.set i none) = true) ∧ i < e.length then .rt d (e.set i none) else .bad
  | .exc _ _ _ _ => .bad
  | .bad => .bad
def sTryAs (i : Nat) (okc : Nat → Option Bool) (b s : SG) : SG := fun e => match b e with
  | .exc c ns fs e1 => (match okc c with
    | some true => if (noXE e1 = true ∧ noXL fs = true) ∧ i < e1.length then endX i (s (e1.set i (some (.exn c ns fs)))) else .bad
    | some false => .exc c ns fs e1
    | none => .bad)
  | .nx e1 => .nx e1
  | .bk e1 => .bk e1
  | .ct e1 => .ct e1
  | .rt d e1 => .rt d e1
  | .bad => .bad
abbrev heldE (C : Nat → Addr) (a : Addr) (cls : Value) (d : Option Addr) : EP3 := fun a' c' dd' => a' = a ∧ cls = .ref (C c') ∧ d = some dd'
abbrev W00 : WX := fun _ _ _ _ => False
theorem ss_tryas {Γ : Gm} {io : Bool} {i : Nat} {okc : Nat → Option Bool} {cv : Value} {tb : WX → TS} {ts : Addr → Value → Option Addr → TS} {W : WX} {b s : SG} (hx : ∀ c b, okc c = some b → PySem.W.exmOne Γ.K (.ref (Γ.C c)) cv = some b) (hio : io = true → i ≠ 0)
    (hb : ∀ W, SemS Γ W io (tb W) b) (hs : ∀ a cls d, SemS (Γ.with (heldE Γ.C a cls d)) W00 io (ts a cls d) s) :
    SemS Γ W io (fun D σ H => tb (wAs Γ.K cv i ts W D) D σ H) (sTryAs i okc b s) := by
  intro Z H σ e F D E P
  refine hb _ Z H σ e F D E ?_
  unfold sTryAs at P
  cases q : b e with
  | nx e1 => rw [q] at P; exact P
  | bk e1 => rw [q] at P; exact P
  | ct e1 => rw [q] at P; exact P
  | rt d e1 => rw [q] at P; exact P
  | bad => rw [q] at P; exact P
  | exc c ns fs e1 =>
    simp only [q] at P
    intro Z' H' σ' F' dd E' s' p xa
    cases q2 : okc c with
    | none => simp only [q2] at P; exact P.elim
    | some bb =>
      refine ⟨bb, hx c bb q2, fun hb1 a na => ?_, fun hb1 => ?_⟩
      · subst hb1
        simp only [q2] at P
        by_cases hc : (noXE e1 = true ∧ noXL fs = true) ∧ i < e1.length
        · rw [if_pos hc] at P
          obtain ⟨vs, hl, hz, rv⟩ := xa
          obtain ⟨F2, E2, sub⟩ := EOK.slot (E'.chE (E' := heldE Γ.C a (.ref (Γ.C c)) (some dd)) hc.1.1) (List.getElem?_eq_getElem hc.2) (x' := some (.exn c ns fs)) (y' := some (.ref a)) ⟨.ref a, rfl, rfl, a, dd, vs, rfl, ⟨rfl, rfl, rfl⟩, hl, hz, OwnL.chE hc.1.2 rv⟩
          have s2 : Step H Z F H' Z' F2 := s'.less sub
          have p2 : ∀ y, Pin io σ (σ'.set i y) := fun y h => by rw [List.getElem?_set_ne (hio h)]; exact p h
          have fin : ∀ {e2 : Env} {Z2 H2 : Hp} {σ2 : St} {F3 : List Addr}, EOK (Γ.with (heldE Γ.C a (.ref (Γ.C c)) (some dd))) Z2 H2 σ2 e2 F3 → noXE (e2.set i none) = true → i < e2.length → ∃ F4, EOK Γ Z2 H2 (σ2.set i none) (e2.set i none) F4 ∧ ∀ a ∈ F4, a ∈ F3 := fun {e2 Z2 H2 σ2 F3} E3 n l => by
            obtain ⟨F4, E4, sub4⟩ := EOK.slot E3 (List.getElem?_eq_getElem l) (x' := none) (y' := none) rfl
            exact ⟨F4, EOK.chE (Γ := Γ.with (heldE Γ.C a (.ref (Γ.C c)) (some dd))) (E' := Γ.E) n E4, sub4⟩
          have p3 : ∀ {σ2 : St}, Pin io (σ'.set i (some (.ref a))) σ2 → Pin io σ (σ2.set i none) := fun {σ2} p4 h => by rw [List.getElem?_set_ne (hio h)]; exact (p2 _).trans p4 h
          refine hs a _ _ Z' H' _ _ F2 _ E2 ?_
          cases q3 : s (e1.set i (some (.exn c ns fs))) with
          | nx e2 =>
            simp only [q3, endX] at P
            by_cases hn : noXE (e2.set i none) = true ∧ i < e2.length
            · rw [if_pos hn] at P
              intro Z2 H2 σ2 F3 E3 s3 p4
              obtain ⟨F4, E4, sub4⟩ := fin E3 hn.1 hn.2
              exact P Z2 H2 _ F4 E4 ((s2.trans s3).less sub4) (p3 p4)
            · rw [if_neg hn] at P; exact P.elim
          | bk e2 =>
            simp only [q3, endX] at P
            by_cases hn : noXE (e2.set i none) = true ∧ i < e2.length
            · rw [if_pos hn] at P
              intro Z2 H2 σ2 F3 E3 s3 p4
              obtain ⟨F4, E4, sub4⟩ := fin E3 hn.1 hn.2
              exact P Z2 H2 _ F4 E4 ((s2.trans s3).less sub4) (p3 p4)
            · rw [if_neg hn] at P; exact P.elim
          | ct e2 =>
            simp only [q3, endX] at P
            by_cases hn : noXE (e2.set i none) = true ∧ i < e2.length
            · rw [if_pos hn] at P
              intro Z2 H2 σ2 F3 E3 s3 p4
              obtain ⟨F4, E4, sub4⟩ := fin E3 hn.1 hn.2
              exact P Z2 H2 _ F4 E4 ((s2.trans s3).less sub4) (p3 p4)
            · rw [if_neg hn] at P; exact P.elim
          | rt d e2 =>
            simp only [q3, endX] at P
            by_cases hn : (noX d = true ∧ noXE (e2.set i none) = true) ∧ i < e2.length
            · rw [if_pos hn] at P
              intro Z2 H2 σ2 v Fd F3 E3 o n z s3 p4
              obtain ⟨F4, E4, sub4⟩ := fin E3 hn.1.2 hn.2
              obtain ⟨n1, n2, n3⟩ := List.nodup_append.mp n
              exact P Z2 H2 _ v Fd F4 E4 (Own.chE (Γ := Γ.with (heldE Γ.C a (.ref (Γ.C c)) (some dd))) (E' := Γ.E) hn.1.1 o) (List.nodup_append.mpr ⟨n1, E4.nd, fun x hx y hy => n3 x hx y (sub4 y hy)⟩) z
                ((s2.trans s3).less fun x hx => (List.mem_append.mp hx).elim (List.mem_append_left _) fun h => List.mem_append_right _ (sub4 x h)) (p3 p4)
            · rw [if_neg hn] at P; exact P.elim
          | exc c' ns' fs' e2 => simp only [q3, endX] at P; exact P.elim
          | bad => simp only [q3, endX] at P; exact P.elim
        · rw [if_neg hc] at P; exact P.elim
      · subst hb1
        simp only [q2] at P
        exact P Z' H' σ' F' dd E' s' p xa
end MV

namespace MV
open PySem PySem.Spec PyProof.Rows L2
/-- the held exception stands where X says -/
def PinX (C : Cs) (X : Cx) : Prop := ∀ a c dd, C.E a c dd → ∃ oe, (a, oe) ∈ X.pn ∧ Zc (.ref (C.C c)) (some dd) oe ∧ ∃ vs, oe.data = .fields vs
section
variable {C : Cs} {io : Bool} {X : Cx} {e : Expr} {te : WX → TE} {f : XG} {p pos : Pos}
theorem PinX.inst {pins : List (Addr × Obj)} {σ : St} {H : Hp} {s : Shared} {a dd : Addr} {c : Nat} {fs : List (Str × V)} (hp : PinX C X) (I : Inv X pins σ H s) (he : C.E a c dd) (hd : H dd = some (.xd fs)) :
    ∃ (oe od : Obj) (mA : Str → Option Value), PySem.W.InstAt s.heap a oe (C.C c) (some od) ∧ (∀ y, RelO (fs.lookup y) (mA y)) ∧ ∀ y, PySem.W.lookIn y od = some (mA y) := by
  obtain ⟨oe, hm, hz, vs, hv⟩ := hp a c dd he
  have at_ := (I.pin (a, oe) (List.mem_append_left _ hm)).1
  have ok : ObjOk X.prog X.w H s.heap dd (.xd fs) := I.hok dd _ hd
  obtain ⟨mA, ns, rel⟩ := ok
  obtain ⟨od, e1, e2⟩ := lookIn_ns ns
  exact ⟨oe, od, mA, ⟨at_, hz.1, by unfold PySem.W.notCls; rw [hv] <;> rfl, by rw [hz.2]; exact e1⟩, rel, e2⟩
/-! ### isinstance(e, D), e the held exception -/
def rIsX (K : PySem.W.Frag) (C : Cs) : List V → Hp → VK → Prop := fun xs H Q => ∃ a c dd fs cv cval b, xs = [.ref a, cv] ∧ C.E a c dd ∧ H dd = some (.xd fs) ∧ (∀ u, RelV cv u → u = cval) ∧ L2.ExcC K (C.C c) ∧ PySem.W.kitOne K (.ref (C.C c)) cval = some b ∧ Q (.bl b) H
theorem call_isX (hp : PinX C X) : CallR X (.builtin "isinstance") (rIsX X.K C) := by
  intro pins s σ H xs us Q I r h
  obtain ⟨a, c, dd, fs, cv, cval, b, rfl, he, hd, hcv, hC, hk, q⟩ := h
  obtain ⟨oe, od, mA, J, _, _⟩ := hp.inst I he hd
  obtain ⟨u1, r1, eu, ra, rest⟩ : ∃ u1 r1, us = u1 :: r1 ∧ RelV (.ref a) u1 ∧ Vals [cv] r1 := by
    cases r with
    | cons x y => exact ⟨_, _, rfl, x, y⟩
  obtain ⟨u2, eu2, rc⟩ : ∃ u2, r1 = [u2] ∧ RelV cv u2 := by
    cases rest with
    | cons x y =>
      cases y
      exact ⟨_, rfl, x⟩
  have e1 : u1 = .ref a := ra
  have e2 := hcv u2 rc
  rw [eu, eu2, e1, e2]
  obtain ⟨cd, hcd, _⟩ := PySem.W.any_some hC.hd
  exact PySem.W.kia_one (PySem.W.kitx_exc (x := a) (od := some od) (ox := oe) (by rw [hcd]; rfl) hC.hg hC.hk hC.hs hC.ha hC.hn hC.ht hC.hm) I.kIn J hk (fun z => nomatch z) fun tk => ⟨.bl b, H, I.kept (t' := tk) fun _ _ z => z, rfl, q⟩
def oIsE (isc : Nat → Option Bool) : D → Option D
  | .exn c _ _ => (isc c).map D.bl
  | _ => none
theorem sx_isE {Γ : Gm} {W : WX} {isc : Nat → Option Bool} {D0 : Addr} {t : TE} {g : XG} (hC : ∀ c b, isc c = some b → L2.ExcC Γ.K (Γ.C c) ∧ PySem.W.kitOne Γ.K (.ref (Γ.C c)) (.ref D0) = some b) (hf : SemX Γ W t g) :
    SemX Γ W (tCB (rIsX Γ.K ⟨Γ.C, Γ.T, Γ.E⟩) (tCons t (tCons (tC (.ref D0)) tNil))) (x1 (oIsE isc) g) := by
  intro Z H σ e F Q E P
  refine hf.sh E ?_
  unfold x1 at P
  cases q1 : g e with
  | bad => rw [q1] at P; exact P
  | exc c ns fs e1 => rw [q1] at P; exact P
  | ok d e1 =>
    simp only [q1] at P
    intro Z1 H1 x F1 E1 R1 S1
    cases q2 : fz d with
    | exn c ns fs =>
      rw [q2] at R1
      simp only [q2, oIsE] at P
      cases q3 : isc c with
      | none => simp only [q3, Option.map_none] at P; exact P.elim
      | some b =>
        simp only [q3, Option.map_some] at P
        obtain ⟨_, a, dd, vs, ev, he, hl, hz, rv⟩ := R1
        obtain ⟨h1, h2⟩ := hC c b q3
        exact ⟨a, c, dd, _, .ref D0, .ref D0, b, by rw [ev], he, E1.zh _ _ hz, fun u h => h, h1, h2, P Z1 H1 (.bl b) [] F1 E1 ⟨rfl, rfl⟩ E1.nd (fun a ha => absurd ha (by simp)) S1⟩
    | _ => simp only [q2, oIsE] at P; exact P.elim
theorem ex_isE {K : PySem.W.Frag} (isc : Nat → Option Bool) {y : Str} {py : Pos} {D0 : Addr} (hp : PinX C X) (hm : X.mg "isinstance" = none) (hmy : X.mg y = some (.ref D0)) (hC : ∀ c b, isc c = some b → L2.ExcC K (C.C c) ∧ PySem.W.kitOne K (.ref (C.C c)) (.ref D0) = some b) (he : EX C X e te f)
    (hg : Gl X "isinstance" := by rfl) (hgy : Gl X y := by rfl) (hd : (y == ("__debug__" : Str)) = false := by decide)
    (hs : starEach (e :: [.Name y py]) X.env = (false, eval e X.env) :: starEach [.Name y py] X.env := by rfl) (hs2 : starEach (.Name y py :: []) X.env = (false, eval (.Name y py) X.env) :: starEach [] X.env := by rfl) (hpl : (backTo pos (starEach [.Name y py] X.env)).any (·.1) = false := by rfl) (hK : X.K = K := by rfl) :
    EX C X (.Call (.Name "isinstance" p) [e, .Name y py] [] pos) (fun W => tCB (rIsX K C) (tCons (te W) (tCons (tC (.ref D0)) tNil))) (x1 (oIsE isc) f) := by
  subst hK
  exact ⟨fun W k => pe_callB (call_isX hp) hg hm (by decide +kernel) (pa_cons (he.pe W k) (pa_cons (pe_glob (v := .ref D0) hgy hmy rfl hd) pa_nil hs2) hs) (by decide) (by decide) hs hpl, fun W => sx_isE (Γ := GX X C) hC (he.sem W)⟩
/-! ### e.y, e the held exception -/
def tXfx (K : PySem.W.Frag) (C : Cs) (y : Str) (te : TE) : TE := fun σ H Q => te σ H fun x H1 => ∃ a c dd fs v, x = .ref a ∧ C.E a c dd ∧ H1 dd = some (.xd fs) ∧ fs.lookup y = some v ∧ XfC K (C.C c) ∧ PySem.W.findIn K (.ref (C.C c)) y = some none ∧ Q v H1
theorem pe_xfx {y : Str} {t : TE} (hp : PinX C X) (he : PE X e t) (hb : attributeBase e y X.env (eval e X.env) = eval e X.env) : PE X (.Attribute e y pos) (tXfx X.K C y t) := by
  constructor
  intro pins s σ H Q I h
  refine attr_of hb (thn (he.run pins s σ H _ I h) fun u s1 ⟨x, H1, I1, rx, a, c, dd, fs, v, ex, hE, hd, hl, T, hn, q⟩ => ?_)
  rw [ex] at rx
  have eu : u = Value.ref a := rx
  rw [eu]
  obtain ⟨oe, od, mA, J, rel, lk⟩ := hp.inst I1 hE hd
  have ry := rel y
  rw [hl] at ry
  obtain ⟨w', hw, rw'⟩ := RelO.some_of ry
  exact HandSPX.exc_get I1.kIn J T.ga T.gg T.exC (PySem.W.findObj_own T.hdC hn rfl (by rw [lk, hw])) (handed_of rw') ⟨v, H1, I1.tok _, rw', q⟩
def oFld (okc : Nat → Bool) (y : Str) : D → Option D
  | .exn c ns fs => if okc c then (ns.zip fs).lookup y else none
  | _ => none
theorem RpL.field {Γ : Gm} {Z : Hp} : ∀ {ns : List Str} {fs : List D} {vs : List V} {y : Str} {d : D}, RpL Γ fs Z vs → (ns.zip fs).lookup y = some d → ∃ v, (ns.zip vs).lookup y = some v ∧ Rp Γ d Z v
  | [], _, _, _, _, _, h => by simp at h
  | _ :: _, [], _, _, _, _, h => by simp at h
  | n :: ns, g :: fs, vs, y, d, r, h => by
    obtain ⟨v, r', rfl, a, b⟩ := r.split
    rw [List.zip_cons_cons] at h ⊢
    rw [List.lookup_cons] at h ⊢
    by_cases e : (y == n) = true
    · simp only [e, cond_true, Option.some.injEq] at h ⊢
      subst h
      exact ⟨v, rfl, a⟩
    · have e' : (y == n) = false := by simpa using e
      simp only [e'] at h ⊢
      exact RpL.field b h
theorem sx_xfx {Γ : Gm} {W : WX} {okc : Nat → Bool} {y : Str} {t : TE} {g : XG} (hC : ∀ c, okc c = true → XfC Γ.K (Γ.C c) ∧ PySem.W.findIn Γ.K (.ref (Γ.C c)) y = some none) (hf : SemX Γ W t g) :
    SemX Γ W (tXfx Γ.K ⟨Γ.C, Γ.T, Γ.E⟩ y t) (x1 (oFld okc y) g) := by
  intro Z H σ e F Q E P
  refine hf.sh E ?_
  unfold x1 at P
  cases q1 : g e with
  | bad => rw [q1] at P; exact P
  | exc c ns fs e1 => rw [q1] at P; exact P
  | ok d e1 =>
    simp only [q1] at P
    intro Z1 H1 x F1 E1 R1 S1
    cases q2 : fz d with
    | exn c ns fs =>
      rw [q2] at R1
      simp only [q2, oFld] at P
      by_cases hc : okc c = true
      · rw [if_pos hc] at P
        obtain ⟨_, a, dd, vs, ev, he, hl, hz, rv⟩ := R1
        cases q3 : (ns.zip fs).lookup y with
        | none => simp only [q3] at P; exact P.elim
        | some d' =>
          simp only [q3] at P
          obtain ⟨v, hv, rd⟩ := RpL.field (RpL.own rv (H := Z1)) q3
          obtain ⟨h1, h2⟩ := hC c hc
          exact ⟨a, c, dd, _, v, ev, he, E1.zh _ _ hz, hv, h1, h2, P Z1 H1 v [] F1 E1 (Rp.own rd) E1.nd (fun a ha => absurd ha (by simp)) S1⟩
      · rw [if_neg hc] at P; exact P.elim
    | _ => simp only [q2, oFld] at P; exact P.elim
theorem ex_xfx {K : PySem.W.Frag} (okc : Nat → Bool) {y : Str} (hp : PinX C X) (hC : ∀ c, okc c = true → XfC K (C.C c) ∧ PySem.W.findIn K (.ref (C.C c)) y = some none) (he : EX C X e te f) (hb : attributeBase e y X.env (eval e X.env) = eval e X.env := by rfl) (hK : X.K = K := by rfl) :
    EX C X (.Attribute e y pos) (fun W => tXfx K C y (te W)) (x1 (oFld okc y) f) := by
  subst hK
  exact ⟨fun W k => pe_xfx hp (he.pe W k) hb, fun W => sx_xfx (Γ := GX X C) hC (he.sem W)⟩
/-! ### the statement -/
theorem pinx_suite {a : Addr} {oe : Obj} {cls : Value} {d : Option Addr} {pn : List (Addr × Obj)} (hz : Zc cls d oe) (hv : ∃ vs, oe.data = .fields vs) : PinX ⟨C.C, C.T, heldE C.C a cls d⟩ (X.suite a ((a, oe) :: pn)) := fun a' c dd ⟨e1, e2, e3⟩ => by
  subst e1 e2 e3
  exact ⟨oe, List.mem_cons_self, hz, hv⟩
theorem sx_tryas (i : Nat) {x n : Str} {cv : Value} {body suite : List Stmt} {b₀ : Stmt} {np pos' : Pos} {tb : WX → TS} {ts : Addr → Value → Option Addr → WX → TS} {b s : SG} (okc : Nat → Option Bool)
    (hc : Names X x cv) (hx : ∀ c b, okc c = some b → PySem.W.exmOne X.K (.ref (C.C c)) cv = some b) (hN : X.N.Nodup)
    (hb : ∀ (pn : List (Addr × Obj)) (xe : Value → Shared → Prop), PassesOwn (model X.prog X.w) X.A X.env xe → SSX C io (X.tr pn xe) body tb b)
    (hsu : ∀ (a : Addr) (oe : Obj) (cls : Value) (d : Option Addr) (pn : List (Addr × Obj)), Zc cls d oe → (∃ vs, oe.data = .fields vs) → SSX ⟨C.C, C.T, heldE C.C a cls d⟩ io (X.suite a ((a, oe) :: pn)) (b₀ :: suite) (ts a cls d) s)
    (hi : X.N[i]? = some n := by rfl) (hln : X.env.kindOf n = some .local := by rfl) (hst : X.stack = X.env :: X.outer := by rfl) (hf : X.env.frame = some X.env.locals := by rfl) (hio : io = true → i ≠ 0 := by decide) :
    SX C io X (.Try body [.ExceptHandler (some (.Name x np)) (some n) (b₀ :: suite) pos'] [] [] pos) (fun W D σ H => tb (wAs X.K cv i (fun a cls d => ts a cls d W00) W D) D σ H) (sTryAs i okc b s) :=
  ⟨fun W k => ps_try_as (tb := tb) (ts := fun a cls d => ts a cls d W00) (Wout := W) hst hf hN hi hln hc k (fun W pn xe tk po => (hb pn xe po).ps W tk) (fun a oe cls d pn hz hv => (hsu a oe cls d pn hz hv).ps W00 LamX.takes0),
    fun W => ss_tryas (Γ := GX X C) hx hio (fun W' => (hb [] _ PassesOwn.never).sem W') (fun a cls d => (hsu a ⟨cls, d, .fields #[], #[]⟩ cls d [] ⟨rfl, rfl⟩ ⟨_, rfl⟩).sem W00)⟩
end
end MV

namespace MV
open PySem PySem.Spec PyProof.Rows L2 L2H
/-! ### defs called within an except suite; they may be handed the held exception -/
abbrev St2 := L2.St
/-- the meaning of what is held: the object q of the heap -/
abbrev heldP (C : Cs) (q : Addr × Obj) : Cs := ⟨C.C, C.T, heldE C.C q.1 q.2.cls q.2.dict⟩
abbrev isRec (q : Addr × Obj) : Prop := ∃ vs : Array Value, q.2.data = .fields vs
structure FnE (P : Program) (w : World) (K : PySem.W.Frag) (mg : Str → Option Value) (base : Heap) (k : Nat) (g : Addr) (gd : FuncData) (ps : List Str) (sp : Addr × Obj → Sp) : Prop where
  many : ∀ q vs H Q E, sp q vs H Q E → vs.length = ps.length
  goes : ∀ (q : Addr × Obj) (A : Around) (outer : List PySem.Env) (s : Shared) (H : Hp) (args : Args) (us : List Value) (vs : List V) (Q : VK) (E : XK), isRec q → RoomH k A → PinOk outer H s q → Env0 P w K mg base A outer s H → BindsTo s gd args (ps.zip us) → Vals vs us → sp q vs H Q E →
    codeAny (model P w) A (.call (.ref g) args) (CR (L2.CX P w) outer P w H s Q E) s
section
variable {P : Program} {w : World} {K : PySem.W.Frag} {mg : Str → Option Value} {base : Heap} {C : Cs}
abbrev cxE (P : Program) (w : World) (K : PySem.W.Frag) (mg : Str → Option Value) (base : Heap) (N : List Str) (qual : Str) (scope : Scope) (g : Addr) (cd : Value) (A : Around) (outer : List PySem.Env) (s : Shared) (H : Hp) (E : XK) (q : Addr × Obj) : Cx :=
  cxH (L2.CX P w) P w K mg base N qual scope g cd A outer s H E q
theorem fn_e {x qual : Str} {st : Stmt} {g : Addr} {gd : FuncData} {N ps : List Str} {k : Nat} (F : Fun K x qual st g gd) (S : FnScope N ps (defScope st)) {b : SG} (n m : Nat) (hn : ps.length = n) (hm : N.length = m) (hnm : n ≤ m)
    (hbody : ∀ (cdv : Value) (A : Around) (outer : List PySem.Env) (s : Shared) (H : Hp) (E : XK) (q : Addr × Obj), isRec q → RoomH k (A.deeper (envOfC qual (defScope st) s.heap.objs.size g cdv)) →
      ∃ t, SSX (heldP C q) false (cxE P w K mg base N qual (defScope st) g cdv A outer s H E q) (defBody st) t b) :
    FnE P w K mg base (k + 1) g gd ps (fun q => spD ⟨K, C.C, C.T, heldE C.C q.1 q.2.cls q.2.dict⟩ n false (runB m false b)) := by
  constructor
  · intro q vs H Q E h
    rw [hn]
    exact h.1
  intro q A outer s H args us vs Q E hq room pin e0 bi val h
  obtain ⟨oc, od, kV, doc, pm, an, cdv, ct, osl, rfl, look, code⟩ := F.ex
  have lens : vs.length = ps.length := by rw [hn]; exact h.1
  have inK : K.In s.heap := e0.mod.kin.keeps fun b o z => (e0.bs b o z).1
  have kinds : ∀ z ∈ ps.zip us, (defScope st).names.lookup z.1 = some .local ∨ ((defScope st).names.lookup z.1 = some .cell ∧ ((cellsFrom (s.heap.objs.size + 1) (defScope st).names []).lookup z.1).isSome = true) := by
    intro z hz
    have hz1 : z.1 ∈ ps := (List.of_mem_zip (a := z.1) (b := z.2) hz).1
    rcases S.par z.1 hz1 with y | y
    · exact Or.inl y
    · exact Or.inr ⟨y, PySem.W.cellsFrom_some _ _ _ (Or.inl y)⟩
  have lim0 : s.heap.NoLimit := e0.mod.nolimit.keeps fun b o z => (e0.bs b o z).1
  refine codeAny_call_function room.depth (inK _ _ look) rfl S.co S.gen rfl (PySem.W.codeRec_of inK code) (bi _ _ _ _ (wpAny_newFunctionEnv_cells S.kind kinds fun env' eq' s' st' => ?_))
  subst eq'
  obtain ⟨t, T⟩ := hbody cdv A outer s H E q hq (room.deeper _)
  refine ⟨lim0.keeps st'.toInCall.keep, codeAny_func (wpAny_mono ((T.ps (fun cls d _ H => E cls d H) (takes_of rfl rfl rfl rfl)).run [] s' (L2.start N vs) H _ (inv_startH S pin e0 lens val st') (body_d hm hnm (T.sem _) h)) (fun fl s2 z => ?_) fun _ _ z => z)⟩
  have out : ∀ {σ' : St2} {H' : Hp} {v : V} {u : Value}, Inv (cxE P w K mg base N qual (defScope st) g cdv A outer s H E q) [] σ' H' s2 → RelV v u → Q v H' → CE outer P w H s Q u s2 := fun {_ H' v _} J r y => ⟨v, H', J.os, J.bare, J.base, J.hok, r, y⟩
  match fl, z with
  | .ret u, ⟨v, σ', H', J, r, y⟩ => exact out J r y
  | .next, ⟨σ', H', J, y⟩ => exact out (v := V.non) (u := Value.none) J rfl y
  | .brk, ⟨_, _, _, y⟩ => exact y.elim
  | .cont, ⟨_, _, _, y⟩ => exact y.elim
end
section
variable {C : Cs} {X : Cx} {e : Expr} {es : List Expr} {tA : WX → TA} {fa : AG} {p pos : Pos} {x : Str}
theorem run_fnE {k : Nat} {g : Addr} {gd : FuncData} {ps : List Str} {sp : Addr × Obj → Sp} {E : St2 → XK} {q : Addr × Obj} {pins : List (Addr × Obj)} {σ : St2} {H : Hp} {s : Shared} {Q : VK} {us : List Value} {vs : List V} (F : FnE X.prog X.w X.K X.mg X.base k g gd ps sp) (hr : RoomH k X.A) (hq : q ∈ X.pn) (hv : isRec q) (hb : Binds X.K gd ps [])
    (hx : PassesAt (L2.CX X.prog X.w) X σ (E σ)) (I : Inv X pins σ H s) (r : Vals vs us) (h : sp q vs H Q (E σ)) : wpAny (model X.prog X.w) X.A (call (.ref g) us) (EP X pins σ Q) X.xe s := by
  have P1 := I.pin q (List.mem_append_left _ hq)
  have lens : us.length = ps.length := by rw [← r.length]; exact F.many q vs H Q (E σ) h
  have bs := hb s us I.kIn (by rw [List.append_nil]; exact lens)
  rw [List.append_nil] at bs
  have pin : PinOk X.stack H s q := by
    refine ⟨P1.1, P1.2.1, fun z => ?_, P1.2.2.2.2⟩
    rcases List.mem_cons.mp (I.stkSub q.1 z) with y | y
    · exact P1.2.2.1 y
    · exact P1.2.2.2.1 y
  refine wpAny_call (codeAny_mono (F.goes q X.A X.stack s H ⟨us, []⟩ us vs Q (E σ) hv hr pin I.env0 bs r h) fun res s' z => ?_)
  match res, z with
  | .error err, z => exact hx pins H s err s' I z
  | .ok (.ret u), z => exact I.after z
  | .ok .next, z => exact (show False from z).elim
  | .ok .brk, z => exact (show False from z).elim
  | .ok .cont, z => exact (show False from z).elim
theorem pe_callE {k : Nat} {g : Addr} {gd : FuncData} {ps : List Str} {sp : Addr × Obj → Sp} {E : St2 → XK} {q : Addr × Obj} {t : TA} (F : FnE X.prog X.w X.K X.mg X.base k g gd ps sp) (hr : RoomH k X.A) (hq : q ∈ X.pn) (hv : isRec q) (hm : X.mg x = some (.ref g)) (hk : PySem.W.keepIn X.K (.ref g) = true) (hb : Binds X.K gd ps [])
    (hx : ∀ σ, PassesAt (L2.CX X.prog X.w) X σ (E σ)) (ha : PA X (e :: es) t) (hg : Gl X x) (hdb : (x == ("__debug__" : Str)) = false) (he : starEach (e :: es) X.env = (false, eval e X.env) :: starEach es X.env) (hpl : (backTo pos (starEach es X.env)).any (·.1) = false) :
    PE X (.Call (.Name x p) (e :: es) [] pos) (tCallSD (sp q) [] E t) := by
  constructor
  intro pins s σ H Q I h
  refine wpAny_Call_Name_kw (ld_glob I hg hm ?_ hdb)
  refine PySem.W.callWith_K (h₀ := X.base) I.ok.mod.kin hk (thn (ha.run pos pins s σ H _ I h) fun us s1 ⟨vs, H1, I1, r, y⟩ => ⟨I1.kIn, ?_⟩) he hpl
  have y' : sp q (vs ++ []) H1 Q (E σ) := y
  rw [List.append_nil] at y'
  exact run_fnE F hr hq hv hb (hx σ) I1 r y'
/-- such a def, called in the suite -/
theorem ex_callE {K : PySem.W.Frag} {C0 : Nat → Addr} {k n : Nat} {g : Addr} {gd : FuncData} {ps : List Str} {φ : DF} {q : Addr × Obj} (G : FnE X.prog X.w X.K X.mg X.base k g gd ps (fun q => spD ⟨K, C.C, C.T, heldE C.C q.1 q.2.cls q.2.dict⟩ n false φ)) (hr : RoomH k X.A) (hq : q ∈ X.pn) (hv : isRec q) (hE : C.E = heldE C.C q.1 q.2.cls q.2.dict)
    (hm : X.mg x = some (.ref g)) (hk : PySem.W.keepIn X.K (.ref g) = true) (hb : Binds X.K gd ps [])
    (ha : AX C X (e :: es) tA fa) (hg : Gl X x := by rfl) (hdb : (x == ("__debug__" : Str)) = false := by decide) (he : starEach (e :: es) X.env = (false, eval e X.env) :: starEach es X.env := by rfl) (hpl : (backTo pos (starEach es X.env)).any (·.1) = false := by rfl) (hK : X.K = K := by rfl) :
    EX C X (.Call (.Name x p) (e :: es) [] pos) (fun W => tCallSD (spD ⟨K, C.C, C.T, C.E⟩ n false φ) [] (WE W) (tA W)) (xCall n φ fa) := by
  subst hK
  refine ⟨fun W tk => ?_, fun W => sx_calld (Γ := GX X C) (ha.sem W)⟩
  rw [hE]
  exact pe_callE G hr hq hv hm hk hb (fun σ => passAt tk σ) (ha.pa W tk) hg hdb he hpl
end
end MV

namespace MV
open PySem PySem.Spec PyProof.Rows L2
/-! ### own exceptions: made, raised -/
section
variable {X : Cx} {e : Expr} {es : List Expr} {ta : TA} {p1 p2 pos : Pos} {x : Str}
/-- what is asked of a base class M: its __init__ is ValueError's -/
structure VeC (K : PySem.W.Frag) (M : Addr) : Prop where
  rd : PySem.W.readsIn K M (.type "type") = true
  ga : PySem.W.specialIn K (.ref M) "__getattribute__" = some (some (.builtin "type.__getattribute__"))
  at_ : PySem.W.findCls K (.ref M) (.type "type") "__init__" = some (.val (.builtin "ValueError.__init__"))
/-- M.__init__(self, ..), M a class of the text -/
theorem pe_minit {pl : Sem Bool} {M : Addr} (T : VeC X.K M) (hg : Gl X x) (hm : X.mg x = some (.ref M)) (ha : PA X (e :: es) ta) (hdb : (x == ("__debug__" : Str)) = false)
    (hc : eval (.Call (.Attribute (.Name x p1) "__init__" p2) (e :: es) [] pos) X.env = (do
      let ov ← eval (.Name x p1) X.env
      standAt p2.atName
      let (f, first) ← holding [ov] (getMethod ov "__init__" pl)
      callWith pos f first (backTo pos (starEach (e :: es) X.env)) (backToKw pos (keywordEach [] X.env))))
    (he : starEach (e :: es) X.env = (false, eval e X.env) :: starEach es X.env) (hpl : (backTo pos (starEach es X.env)).any (·.1) = false) :
    PE X (.Call (.Attribute (.Name x p1) "__init__" p2) (e :: es) [] pos) (tVeI X.K ta) := by
  constructor
  intro pins s σ H Q I h
  refine PySem.W.methodCall_KW (ld_glob I hg hm ?_ hdb) hc
  refine PySem.W.method_cls I.kIn T.ga (PySem.W.cls_value I.kIn T.rd T.at_ (by decide +kernel) ?_)
  refine PyProof.Rows.callWith_method1 (thn (ha.run pos pins _ σ H _ (I.tok _) h) fun us s1 ⟨vs, H1, I1, r1, a, C, ws, ev, hl, TC, ea, q⟩ => ?_) he hpl
  rw [ev] at r1
  obtain ⟨u0, ur, eu, r0, rr⟩ : ∃ u0 ur, us = u0 :: ur ∧ RelV (.ref a) u0 ∧ Vals ws ur := by
    cases r1 with
    | cons y z => exact ⟨_, _, rfl, y, z⟩
  have e0 : u0 = .ref a := r0
  rw [eu, e0]
  have small : ur.length ≤ sizeLine := by
    have e1 : ur.length = ws.length := (Paired.length rr).symm
    have e2 := sizeLine_eq
    omega
  exact oinit_ok TC I1 ea small fun s' J => ⟨.non, H1, J, rfl, q⟩
end
/-- what the __init__ of the class at A0 promises: the fields, the last one first -/
def spI (K : PySem.W.Frag) (C : Addr) (ns : List Str) : Sp := fun vs H Q E => ∃ (a : Addr) (ws : List V), vs = .ref a :: ws ∧ ws.length = ns.length ∧ OexC K C ∧ H a = some (exo a C none) ∧
  ∀ (dx : Addr) (H' : Hp), H dx = none → dx ≠ a → H' a = some (exo a C (some dx)) → H' dx = some (exd dx (ns.zip ws.reverse)) → (∀ b, b ≠ a → b ≠ dx → H' b = H b) → Q .non H'
def sRaise (c : Nat) (ns : List Str) (f : AG) : SG := fun e => match f e with
  | .ok ds e1 => if ds.length = ns.length ∧ ds.length ≤ 900 then .exc c ns ds.reverse e1 else .bad
  | .exc c ns fs e1 => .exc c ns fs e1
  | .bad => .bad
theorem ss_raise {Γ : Gm} {io : Bool} {W : WX} {c : Nat} {ns : List Str} {ta : TA} {f : AG} (hT : OexC Γ.K (Γ.C c)) (hf : SemA Γ W ta f) :
    SemS Γ W io (fun _ σ H => tMkO (Γ.C c) (spI Γ.K (Γ.C c) ns) [] ta σ H fun cls d H' => W cls d σ H') (sRaise c ns f) := by
  intro Z H σ e F D E P
  refine hf Z H σ e F _ E ?_
  unfold sRaise at P
  cases q1 : f e with
  | bad => rw [q1] at P; exact P
  | exc c' ns' fs' e1 => rw [q1] at P; exact EPost.of P
  | ok ds e1 =>
    rw [q1] at P
    intro Z1 H1 vs F1 E1 R1 S1
    by_cases hl : ds.length = ns.length ∧ ds.length ≤ 900
    · simp only [if_pos hl] at P
      refine ⟨by rw [R1.len]; omega, fun a na => ?_⟩
      rw [List.append_nil]
      refine ⟨a, vs, rfl, by rw [R1.len]; exact hl.1, hT, upd_same, fun dx H2 hdx hne h1 h2 h3 => ⟨rfl, dx, _, h1, h2, ?_, ?_⟩⟩
      · rw [upd_ne hne] at hdx; exact hdx
      · have ndx : H1 dx = none := by rw [upd_ne hne] at hdx; exact hdx
        have ed : (upd (del H2 a) dx (.xd (ns.zip vs.reverse))) dx = some (.xd (ns.zip vs.reverse)) := upd_same
        have eo : ∀ b, b ≠ dx → (upd (del H2 a) dx (.xd (ns.zip vs.reverse))) b = H1 b := fun b hb => by
          rw [upd_ne hb]
          by_cases hba : b = a
          · rw [hba, del_same, na]
          · rw [del_ne hba, h3 b hba hb, upd_ne hba]
        generalize (upd (del H2 a) dx (.xd (ns.zip vs.reverse))) = H3 at ed eo
        have ex : Ex H1 H3 := fun b o h => by
          have hb : b ≠ dx := fun z => by rw [z, ndx] at h; cases h
          rw [eo b hb]; exact h
        have zd : Z1 dx = none := E1.zh.none ndx
        have zx : Ex Z1 (addZ Z1 H3 [dx]) := addZ_ex fun b hb => by
          have eb : b = dx := by simpa using hb
          rw [eb]; exact zd
        have fd : ∀ b ∈ F1, b ≠ dx := fun b hb z => (E1.fresh ndx).1 (z ▸ hb)
        have E3 : EOK Γ (addZ Z1 H3 [dx]) H3 σ e1 F1 := ⟨addZ_sub (fun b o h => ex b o (E1.zh b o h)), E1.own.mono zx (fun b _ o _ h => ex b o h), E1.nd, fun b hb => by
            rw [addZ_out (by simpa using fd b hb)]
            exact E1.dis b hb,
          addZ_nt E1.ntz (fun b hb o h => by
            have eb : b = dx := by simpa using hb
            rw [eb, ed] at h
            cases h
            exact fun ps z => nomatch z), E1.tabs.ext ex⟩
        have S3 : Step H1 Z1 F1 H3 (addZ Z1 H3 [dx]) F1 := ⟨fun b o _ h _ => ex b o h, zx, fun b h => .inl h, fun b h => by
            by_cases hb : b = dx
            · rw [hb]; exact .inr (.inr ndx)
            · rw [addZ_out (by simpa using hb)] at h; exact .inl h, fun b h => ex.none h⟩
        have xa : ExcAt Γ (addZ Z1 H3 [dx]) H3 ns ds.reverse dx := ⟨vs.reverse, by rw [List.length_reverse, R1.len]; exact hl.1.symm, by rw [addZ_in (List.mem_singleton.mpr rfl)]; exact ed, (R1.reverse).mono zx (fun b hb => absurd hb (by simp))⟩
        exact P _ H3 σ F1 dx E3 (S1.trans S3) Pin.refl xa
    · simp only [if_neg hl] at P; exact P.elim
/-- the class, its __init__ -/
structure Mk (P : Program) (w : World) (K : PySem.W.Frag) (mg : Str → Option Value) (base : Heap) (k : Nat) (x : Str) (C : Addr) (ns : List Str) : Prop where
  cls : OexC K C
  gm : mg x = some (.ref C)
  ini : ∃ (g : Addr) (gd : FuncData) (ps : List Str), PySem.W.findIn K (.ref C) "__init__" = some (some (.ref g)) ∧ PySem.W.typeIn K (.ref g) = some (.type "function") ∧ FnOk P w K mg base (L2.CX P w) k g gd ps (spI K C ns) ∧ Binds K gd ps []
theorem passes_false {X : Cx} : Passes (L2.CX X.prog X.w) X (fun _ _ _ => False) := fun _ _ _ _ _ _ _ c => by
  obtain ⟨_, _, _, _, _, _, _, _, _, _, _, _, z⟩ := c
  exact z.elim
theorem sx_raise {C : Cs} {io : Bool} {X : Cx} {K : PySem.W.Frag} {k c : Nat} {ns : List Str} {x : Str} {e : Expr} {es : List Expr} {tA : WX → TA} {fa : AG} {p pos pos2 : Pos} (T : Mk X.prog X.w X.K X.mg X.base k x (C.C c) ns) (hr : Room (k + 1) X.A) (ha : AX C X (e :: es) tA fa)
    (hc : X.calm = true := by rfl) (hg : Gl X x := by rfl) (hdb : (x == ("__debug__" : Str)) = false := by decide) (he : starEach (e :: es) X.env = (false, eval e X.env) :: starEach es X.env := by rfl) (hpl : (backTo pos (starEach es X.env)).any (·.1) = false := by rfl) (hK : X.K = K := by rfl) :
    SX C io X (.Raise (some (.Call (.Name x p) (e :: es) [] pos)) none pos2) (fun W _ σ H => tMkO (C.C c) (spI K (C.C c) ns) [] (tA W) σ H fun cls d H' => W cls d σ H') (sRaise c ns fa) := by
  subst hK
  obtain ⟨g, gd, ps, h1, h2, h3, h4⟩ := T.ini
  exact ⟨fun W tk => ps_raise hc tk (pmk_oex T.cls h1 h2 h3 hr h4 .nil passes_false hg T.gm (ha.pa W tk) hdb he hpl), fun W => ss_raise (Γ := GX X C) T.cls (ha.sem W)⟩
/-! ### the walk of such an __init__ -/
/-- the state of the fields that are set -/
def Set1 (C : Addr) (H : Hp) (a : Addr) (fs : List (Str × V)) (H' : Hp) : Prop := match fs with
  | [] => H' = H
  | fs => ∃ dx, H dx = none ∧ dx ≠ a ∧ H' a = some (exo a C (some dx)) ∧ H' dx = some (exd dx fs) ∧ ∀ b, b ≠ a → b ≠ dx → H' b = H b
theorem ost_step {K : PySem.W.Frag} {C : Addr} {f : Str} {to te : TE} {D : Ends} {σ : L2.St} {H H1 : Hp} {a : Addr} {fs : List (Str × V)} {y : V} (T : OexC K C) (hn : PySem.W.findIn K (.ref C) f = some none) (h0 : H a = some (exo a C none)) (hs : Set1 C H a fs H1) (hl : fs.length ≤ 900)
    (he : ∀ Q : VK, Q y H1 → te σ H1 Q) (ho : ∀ Q : VK, Q (.ref a) H1 → to σ H1 Q) (h : ∀ H2, Set1 C H a ((f, y) :: fs) H2 → D.nx σ H2) : tOst K f to te D σ H1 := by
  refine he _ (ho _ ⟨a, C, rfl, T, hn, ?_⟩)
  cases fs with
  | nil =>
    have e1 : H1 = H := hs
    subst e1
    exact .inl ⟨h0, fun dx n ne => h _ ⟨dx, n, ne, upd_same, by rw [upd_ne ne]; exact upd_same, fun b h1 h2 => by rw [upd_ne h1, upd_ne h2]⟩⟩
  | cons g fs =>
    obtain ⟨dx, n, ne, h1, h2, h3⟩ := hs
    exact .inr ⟨dx, g :: fs, h1, h2, hl, h _ ⟨dx, n, ne, by rw [upd_ne (Ne.symm ne)]; exact h1, upd_same, fun b k1 k2 => by rw [upd_ne k2]; exact h3 b k1 k2⟩⟩
/-- self.f = p, one after the other -/
def tOsts (K : PySem.W.Frag) : List (Str × Nat) → TS
  | [] => tNext
  | (f, i) :: r => tSeq (tOst K f (tVar 0) (tVar i)) (tOsts K r)
theorem osts_ok {K : PySem.W.Frag} {C : Addr} {D : Ends} {σ : L2.St} {H : Hp} {a : Addr} (T : OexC K C) (h0 : H a = some (exo a C none)) (hσ : σ[0]? = some (some (.ref a))) :
    ∀ (rest : List (Str × Nat × V)) (done : List (Str × V)) (H1 : Hp), Set1 C H a done H1 → done.length + rest.length ≤ 900 → (∀ p ∈ rest, PySem.W.findIn K (.ref C) p.1 = some none ∧ σ[p.2.1]? = some (some p.2.2)) →
      (∀ H2, Set1 C H a ((rest.map fun p => (p.1, p.2.2)).reverse ++ done) H2 → D.nx σ H2) → tOsts K (rest.map fun p => (p.1, p.2.1)) D σ H1
  | [], done, H1, hs, _, _, k => k H1 hs
  | (f, i, y) :: r, done, H1, hs, hl, hr, k => by
    obtain ⟨n1, n2⟩ := hr (f, i, y) List.mem_cons_self
    rw [List.length_cons] at hl
    refine ost_step (D := { D with nx := tOsts K (r.map fun p => (p.1, p.2.1)) D }) (y := y) T n1 h0 hs (by omega) (fun Q q => ⟨y, n2, q⟩) (fun Q q => ⟨.ref a, hσ, q⟩) fun H2 s2 => ?_
    refine osts_ok T h0 hσ r ((f, y) :: done) H2 s2 (by rw [List.length_cons]; omega) (fun p hp => hr p (List.mem_cons_of_mem _ hp)) fun H3 s3 => k H3 ?_
    rw [List.map_cons, List.reverse_cons, List.append_assoc]
    exact s3
theorem zip_rev {α β : Type} : ∀ {l : List α} {r : List β}, l.length = r.length → (l.zip r).reverse = l.reverse.zip r.reverse := fun {l r} h => by
  unfold List.zip
  exact List.reverse_zipWith h
theorem fields_split (σ : L2.St) (K : PySem.W.Frag) (C : Addr) : ∀ (fs : List Str) (ws : List V) (i : Nat), fs.length = ws.length → (∀ f ∈ fs, PySem.W.findIn K (.ref C) f = some none) → (∀ j v, ws[j]? = some v → σ[i + j]? = some (some v)) →
    ∃ rest : List (Str × Nat × V), (rest.map fun p => (p.1, p.2.1)) = fs.zip (List.range' i fs.length) ∧ (rest.map fun p => (p.1, p.2.2)) = fs.zip ws ∧ rest.length = fs.length ∧ ∀ p ∈ rest, PySem.W.findIn K (.ref C) p.1 = some none ∧ σ[p.2.1]? = some (some p.2.2)
  | [], ws, i, _, _, _ => ⟨[], rfl, rfl, rfl, fun p hp => absurd hp (by simp)⟩
  | f :: fs, [], i, h, _, _ => by simp at h
  | f :: fs, v :: ws, i, h, hf, hw => by
    obtain ⟨rest, h1, h2, h3, h4⟩ := fields_split σ K C fs ws (i + 1) (by simpa using h) (fun g hg => hf g (List.mem_cons_of_mem _ hg)) fun j v' hj => by
      have q := hw (j + 1) v' (by simpa using hj)
      rw [show i + 1 + j = i + (j + 1) from by omega]
      exact q
    refine ⟨(f, i, v) :: rest, ?_, ?_, by rw [List.length_cons, List.length_cons, h3], fun p hp => ?_⟩
    · rw [List.map_cons, h1, List.length_cons, List.range'_succ, List.zip_cons_cons]
    · rw [List.map_cons, h2, List.zip_cons_cons]
    · rcases List.mem_cons.mp hp with e | e
      · rw [e]; exact ⟨hf f List.mem_cons_self, hw 0 v rfl⟩
      · exact h4 p e
theorem fn_init {P : Program} {w : World} {K : PySem.W.Frag} {mg : Str → Option Value} {base : Heap} {x qual : Str} {st : Stmt} {g C : Addr} {gd : FuncData} {ps : List Str} {k : Nat} (F : Fun K x qual st g gd) (S : FnScope ps ps (defScope st)) (fs : List Str) (txt : Str) (hps : ps.length = fs.length + 1) (hne : fs ≠ []) (hl : fs.length ≤ 900)
    (hf : ∀ f ∈ fs, PySem.W.findIn K (.ref C) f = some none)
    (hbody : ∀ (cdv : Value) (A : Around) (outer : List PySem.Env) (s : Shared) (H : Hp) (E : XK), PSs (cxOf (L2.CX P w) P w K mg base ps qual (defScope st) g cdv A outer s H E) (defBody st) (tSeq (tDrop (tVeI K (tCons (tVar 0) (tCons (tC (.str txt)) tNil)))) (tOsts K (fs.zip (List.range' 1 fs.length))))) :
    FnOk P w K mg base (L2.CX P w) (k + 1) g gd ps (spI K C fs.reverse) := by
  refine F.okX S (fun vs H Q E h => ?_) (fun cdv A outer s H vs Q E hr h => ⟨_, hbody cdv A outer s H E, ?_⟩)
  · obtain ⟨a, ws, rfl, h1, _⟩ := h
    rw [hps, List.length_cons, h1, List.length_reverse]
  · obtain ⟨a, ws, rfl, h1, T, h0, k'⟩ := h
    rw [List.length_reverse] at h1
    have hσ : (L2.start ps (.ref a :: ws))[0]? = some (some (.ref a)) := rfl
    obtain ⟨rest, r1, r2, r3, r4⟩ := fields_split (L2.start ps (.ref a :: ws)) K C fs ws 1 h1.symm hf fun j v hj => by
      rw [Nat.add_comm]
      show ((ws.map some) ++ _)[j]? = _
      rw [List.getElem?_append_left (by rw [List.length_map]; exact (List.getElem?_eq_some_iff.mp hj).1), List.getElem?_map, hj]
      rfl
    refine ⟨.ref a, hσ, a, C, [.str txt], rfl, by simp, T, h0, ?_⟩
    rw [← r1]
    refine osts_ok T h0 hσ rest [] H rfl (by simp only [List.length_nil]; omega) r4 fun H2 s2 => ?_
    rw [List.append_nil, r2, zip_rev h1.symm] at s2
    cases q : fs.reverse.zip ws.reverse with
    | nil =>
      have e1 : (fs.reverse.zip ws.reverse).length = fs.length := by rw [List.length_zip, List.length_reverse, List.length_reverse, h1, Nat.min_self]
      rw [q] at e1
      exact absurd (List.length_eq_zero_iff.mp e1.symm) hne
    | cons p l =>
      rw [q] at s2
      obtain ⟨dx, n, ne, e1, e2, e3⟩ := s2
      exact k' dx H2 n ne e1 (by rw [e2, q]) e3
end MV

namespace MV
open PySem PySem.Spec PyProof.Rows L2 LamX
/-! ### a lambda, handed to a def that calls it and catches -/
section
variable {X : Cx} {pins : List (Addr × Obj)} {σ : L2.St} {H : Hp} {s : Shared}
abbrev lamQ (X : Cx) : Str := X.env.qual ++ "<lambda>"
/-- the lambda is made; what the tables say may grow, no place is lost -/
theorem lam_make3 {T : List (Addr × Str)} {cc tb : Addr} {pr : Arguments} {bd : Expr} {sc : Scope} {pos : Pos} {Ex : Value → Shared → Prop} {Q : Value → Shared → Prop} (I : Inv X pins σ H s) (TB : TabB X.base X.mg cc tb) (code : X.env.code = .ref cc)
    (inT : (tb, lamQ X) ∈ T) (one : ∀ p ∈ T, p.1 = tb → p.2 = lamQ X) (tT : Tabs T H) (noD : defaultsOf pr X.env = ([], [])) (fr : ∀ y ∈ sc.names, y.2 = .free → ∃ z, X.env.cells.lookup y.1 = some z)
    (k : ∀ (f c' : Addr) (pm ctv : Value) (H1 : Hp) (s' : Shared), Inv X pins σ H1 s' → ExtN H H1 → (∀ b, H1 b = none → H b = none) → Tabs T H1 →
      s'.heap.get? f = some (PySem.W.kla_obj "<lambda>" (lamQ X) pr bd sc (cloFrom X.env.cells sc.names []) pm c' ctv) → H1 f = none → f ∉ frs X.stack → H1 c' = some (CodeO c' (lamQ X)) → Q (.ref f) s') :
    wpAny (model X.prog X.w) X.A (eval (.Lambda pr bd sc pos) X.env) Q Ex s := by
  obtain ⟨ps, isT, tri, knows⟩ := tT _ inT
  have nofr : ∀ g, s.heap.objs.size ≤ g → g ∉ frs X.stack := by
    intro g hg hm
    rcases List.mem_cons.mp (I.stkSub _ hm) with y | y
    · have lt := I.lt
      rw [← y] at lt
      exact absurd (Nat.lt_of_lt_of_le lt hg) (Nat.lt_irrefl _)
    · exact absurd y (I.nofs hg)
  have inH : s.heap.get? tb = some { cls := .none, data := .fields ps } := I.hok tb _ isT
  have bm : s.heap.BuiltinsAt X.mg tb := TB.bm.keeps I.bk
  refine PySem.W.kla_eval noD ?_
  cases among : codeAmong pos ps.toList with
  | some cv =>
    obtain ⟨c', ecv, isC⟩ := knows pos cv among
    rw [ecv] at among
    refine PySem.W.kla_makeFunctionHit (mg := X.mg) (c := cc) (P := tb) (ps := ps) (closure_ok fr) I.ok.glob (I.mod.glob.keeps I.bk) code (TB.code.keeps I.bk) inH tri among bm fun ctv h' tk old big => ?_
    refine k h'.objs.size c' ((X.mg "__name__").getD .none) ctv H _ (I.kept fun b o z => Heap.get?_push_of_some _ (old b o z)) (ExtN.refl H) (fun _ z => z) tT (Heap.get?_push_size _ rfl) (I.hok.fresh big) (nofr _ big) isC
  | none =>
    refine PySem.W.kla_makeFunction (mg := X.mg) (c := cc) (P := tb) (ps := ps) (closure_ok fr) I.ok.glob (I.mod.glob.keeps I.bk) code (TB.code.keeps I.bk) inH tri among TB.gP bm fun c' ctv h' tk old big lt rec_ written => ?_
    obtain ⟨c2, oc, vs, t, e2, goc, doc, voc⟩ := rec_
    have e3 : c' = c2 := Value.ref.inj e2
    rw [← e3] at goc
    have nC : H c' = none := I.hok.fresh big
    have size : s.heap.objs.size ≤ h'.objs.size := by omega
    have I1 := inv_table (t' := tk) (more := #[rawInt pos.line, rawInt pos.col, .ref c']) (h' := h'.push (PySem.W.kla_obj "<lambda>" (lamQ X) pr bd sc (cloFrom X.env.cells sc.names []) ((X.mg "__name__").getD .none) c' ctv)) I isT
      (fun b o nb z => Heap.get?_push_of_some _ (old b o nb z)) (Heap.get?_push_of_some _ written) big ⟨oc, vs, t, Heap.get?_push_of_some _ goc, doc, voc⟩
    have grow : ExtN H (upd (upd H tb (.tbl (ps ++ #[rawInt pos.line, rawInt pos.col, .ref c']))) c' (CodeO c' (lamQ X))) := by
      intro b o z nt'
      have n1 : b ≠ c' := ne_of_none z nC
      have n2 : b ≠ tb := fun y => nt' ps (by rw [y, isT] at z; exact (Option.some.inj z).symm)
      rw [upd_ne n1, upd_ne n2]
      exact z
    have lost : ∀ b, (upd (upd H tb (.tbl (ps ++ #[rawInt pos.line, rawInt pos.col, .ref c']))) c' (CodeO c' (lamQ X))) b = none → H b = none := by
      intro b z
      by_cases n1 : b = c'
      · rw [n1]; exact nC
      · rw [upd_ne n1] at z
        by_cases n2 : b = tb
        · rw [n2, upd_same] at z; cases z
        · rw [upd_ne n2] at z; exact z
    have list : (ps ++ #[rawInt pos.line, rawInt pos.col, .ref c']).toList = ps.toList ++ [rawInt pos.line, rawInt pos.col, .ref c'] := by simp
    refine k h'.objs.size c' ((X.mg "__name__").getD .none) ctv _ _ I1 grow lost (fun p hp => ?_) (Heap.get?_push_size _ rfl) ?_ (nofr _ size) upd_same
    · by_cases here : p.1 = tb
      · rw [one p hp here, here]
        refine ⟨ps ++ #[rawInt pos.line, rawInt pos.col, .ref c'], ?_, ?_, fun pos' cv hcv => ?_⟩
        · rw [upd_ne (ne_of_none isT nC)]; exact upd_same
        · rw [list]; exact PySem.TriplesOk_snoc _ _ _ _ tri
        · rw [list] at hcv
          rcases among_app _ tri hcv with z | z
          · obtain ⟨c0, y1, y2⟩ := knows pos' cv z
            exact ⟨c0, y1, grow _ _ y2 codeO_ne⟩
          · exact ⟨c', z, upd_same⟩
      · obtain ⟨qs, y1, y2, y3⟩ := tT p hp
        refine ⟨qs, ?_, y2, fun pos' cv hcv => ?_⟩
        · rw [upd_ne (ne_of_none y1 nC), upd_ne here]; exact y1
        · obtain ⟨c0, z1, z2⟩ := y3 pos' cv hcv
          exact ⟨c0, z1, grow _ _ z2 codeO_ne⟩
    · have n1 : h'.objs.size ≠ c' := Nat.ne_of_gt lt
      have n2 : h'.objs.size ≠ tb := Nat.ne_of_gt (Nat.lt_of_lt_of_le (Heap.lt_size inH) size)
      rw [upd_ne n1, upd_ne n2]
      exact I.hok.fresh size
end
section
variable {X : Cx} {pins : List (Addr × Obj)} {σ : L2.St} {H HZ : Hp} {s s1 : Shared}
/-- a(), in the def that got the lambda, its exceptions told of the caller's slots -/
theorem pe_act2 {Eg : XK} {Ng : List Str} {qg : Str} {sg : Scope} {g f c' : Addr} {cdg pm ctv : Value} {pr : Arguments} {bd : Expr} {sc : Scope} {k i : Nat} {a : Str} {pn : List (Addr × Obj)} {xe : Value → Shared → Prop} {W : WX} {tb : XK → TE} {p1 p2 : Pos} {CXg : CXT}
    (I : Inv X pins σ H s) (L : LamS X.env.scope sc) (isF : s.heap.get? f = some (PySem.W.kla_obj "<lambda>" (lamQ X) pr bd sc (cloFrom X.env.cells sc.names []) pm c' ctv)) (nF : H f = none) (nfr : f ∉ frs X.stack)
    (bind : bindArgs (PySem.W.kla_fn "<lambda>" (lamQ X) pr bd sc (cloFrom X.env.cells sc.names []) pm (.ref c') ctv) ⟨[], []⟩ = pure [])
    (tk : Takes ((cxOf CXg X.prog X.w X.K X.mg X.base Ng qg sg g cdg X.A X.stack s H Eg).tr pn xe) W) (room : Room (k + 1) (X.A.deeper (envOfC qg sg s.heap.objs.size g cdg)))
    (body : ∀ (A : Around) (outer : List PySem.Env) (s : Shared) (H : Hp) (E : XK), Room k (A.deeper (lamEnv X sc s.heap.objs.size f c')) → PE (lamCx X A outer s H E sc f c') bd (tb E))
    (hN : Ng[i]? = some a) (hv : Vis sg a) (hd : (a == ("__debug__" : Str)) = false) (hcd : (a == ("__classdict__" : Str)) = false) :
    PE ((cxOf CXg X.prog X.w X.K X.mg X.base Ng qg sg g cdg X.A X.stack s H Eg).tr pn xe) (.Call (.Name a p1) [] [] p2)
      (fun τ HZ Q => τ[i]? = some (some (.ref f)) ∧ HZ c' = some (CodeO c' (lamQ X)) ∧ tb (WE W τ) σ HZ Q) := by
  constructor
  intro pins2 s2 τ HZ Q J hyp
  obtain ⟨hs, hc, ht⟩ := hyp
  refine wpAny_Call_Name_kw (thn ((pe_var (pos := p1) (i := i) hN hv hd hcd).run pins2 s2 τ HZ (fun v H1 => v = .ref f ∧ H1 = HZ) J ⟨.ref f, hs, rfl, rfl⟩) fun u s1 ⟨v, H1, J1, r1, y1, y2⟩ => ?_)
  rw [y1] at r1
  rw [y2] at J1
  have eu : u = Value.ref f := r1
  rw [eu]
  have there : s1.heap.get? f = some (PySem.W.kla_obj "<lambda>" (lamQ X) pr bd sc (cloFrom X.env.cells sc.names []) pm c' ctv) := J1.base.keep f _ isF nF nfr (fun z => nomatch (show f ∈ ([] : List Addr) from z))
  refine PySem.W.callWith_F0 ⟨_, _, _, _, there⟩ ?_
  have un : Un (frs X.stack) [] H HZ s.heap s1.heap := J1.base
  obtain ⟨⟨oc, vs, t, goc, doc, voc⟩, _, _⟩ := J1.hok c' _ hc
  have run : codeAny (model X.prog X.w) (X.A.deeper (envOfC qg sg s.heap.objs.size g cdg)) (.call (.ref f) ⟨[], []⟩) (CR (L2.CX X.prog X.w) (envOfC qg sg s.heap.objs.size g cdg :: X.stack) X.prog X.w HZ s1 Q (WE W τ)) s1 := by
    refine PySem.W.kla_callFunE room.depth there rfl L.co L.gen rfl ⟨c', oc, vs, t, rfl, goc, doc, voc⟩ ?_
    rw [bind]
    refine wpAny_pure (wpAny_newFunctionEnv (fun y hy => (L.own y hy).2) (fun y hy => absurd hy (by simp)) (fun h₁ ns sb => ⟨J1.nolimit.fresh _ sb, ?_⟩) L.kind)
    show codeAny _ _ (.expr bd (lamEnv X sc s1.heap.objs.size f c')) _ _
    have old : ∀ b o, s1.heap.get? b = some o → h₁.get? b = some o := fun b o z => sb.extBut b o (Nat.ne_of_lt (Heap.lt_size z)) (Heap.get?_push_of_some _ z)
    have K0 : Inv (lamCx X (X.A.deeper (envOfC qg sg s.heap.objs.size g cdg)) (envOfC qg sg s.heap.objs.size g cdg :: X.stack) s1 HZ (WE W τ) sc f c') [] σ HZ { s1 with heap := h₁, toks := s1.toks + ([] : List (Str × Value)).length } :=
      lam_start2 I L J1.env0 room.hd un ns old
    refine PySem.W.kla_codeExpr (wpAny_mono ((body _ _ s1 HZ (WE W τ) (room.deeper _)).run [] _ _ HZ Q K0 ht) (fun v s' ⟨w', H', J', rv, y⟩ => ?_) fun _ _ y => y)
    exact ⟨w', H', J'.os, J'.bare, J'.base, J'.hok, rv, y⟩
  have goes := passAt tk τ
  refine wpAny_call (codeAny_mono run fun r s' y => ?_)
  match r, y with
  | .error er, y => exact goes pins2 HZ s1 er s' J1 y
  | .ok (.ret u), y => exact J1.after y
  | .ok .next, y => exact (show False from y).elim
  | .ok .brk, y => exact (show False from y).elim
  | .ok .cont, y => exact (show False from y).elim
/-- the def that calls what it got; TT: what it makes of the lambda's reading -/
def GivesS (X : Cx) (Ng : List Str) (x : Str) (sg : Scope) (g : Addr) (cdg : Value) (bg : List Stmt) (a : Str) (TT : (XK → Hp → VK → Prop) → Hp → VK → Prop) : Prop :=
  ∀ (f c' : Addr) (s : Shared) (H : Hp) (Q : VK) (tl : XK → Hp → VK → Prop), Room 1 (X.A.deeper (envOfC x sg s.heap.objs.size g cdg)) →
    (∀ (W : WX) (pn : List (Addr × Obj)) (xe : Value → Shared → Prop) (p1 p2 : Pos), Takes ((cxOf C8.CX0 X.prog X.w X.K X.mg X.base Ng x sg g cdg X.A X.stack s H C8.E0).tr pn xe) W →
      PE ((cxOf C8.CX0 X.prog X.w X.K X.mg X.base Ng x sg g cdg X.A X.stack s H C8.E0).tr pn xe) (.Call (.Name a p1) [] [] p2) (fun τ HZ Q => τ[0]? = some (some (.ref f)) ∧ HZ c' = some (CodeO c' (lamQ X)) ∧ tl (WE W τ) HZ Q)) →
    H c' = some (CodeO c' (lamQ X)) → TT tl H Q →
    ∃ t, PSs (cxOf C8.CX0 X.prog X.w X.K X.mg X.base Ng x sg g cdg X.A X.stack s H C8.E0).nox bg t ∧ t { nx := fun _ H' => Q .non H', rt := Q } (L2.start Ng [.ref f]) H
def tLamS (T : List (Addr × Str)) (TT : (XK → Hp → VK → Prop) → Hp → VK → Prop) (t : XK → TE) : TE := fun σ H Q => Tabs T H ∧ ∀ H1, ExtN H H1 → (∀ b, H1 b = none → H b = none) → Tabs T H1 → TT (fun E H' Q' => t E σ H' Q') H1 Q
theorem pe_lamS {T : List (Addr × Str)} {TT : (XK → Hp → VK → Prop) → Hp → VK → Prop} {x a : Str} {g cc tb : Addr} {k : Nat} {pg : Arguments} {bg : List Stmt} {sg : Scope} {dV kV doc pm cdv ct oc : Value} {an od : Option Addr} {osl : Array (Option Value)} {Ng : List Str}
    {pr : Arguments} {bd : Expr} {sc : Scope} {t : XK → TE} {p lpos pos : Pos} (hg : Gl X x) (hm : X.mg x = some (.ref g)) (hk : PySem.W.keepIn X.K (.ref g) = true)
    (lk : X.K.lookup g = some ⟨oc, od, .func (PySem.W.fnOf x x pg bg sg dV kV doc pm an cdv ct), osl⟩) (hcg : PySem.W.codeIn X.K cdv x = true) (hb : L2.Binds X.K (PySem.W.fnOf x x pg bg sg dV kV doc pm an cdv ct) [a] []) (Sg : FnScope Ng [a] sg) (hNg : Ng[0]? = some a) (hva : Vis sg a)
    (hG : GivesS X Ng x sg g cdv bg a TT)
    (TB : TabB X.base X.mg cc tb) (code : X.env.code = .ref cc) (inT : (tb, lamQ X) ∈ T) (one : ∀ p ∈ T, p.1 = tb → p.2 = lamQ X) (hr : Room (k + 2) X.A) (hk1 : 1 ≤ k) (L : LamS X.env.scope sc) (noD : defaultsOf pr X.env = ([], []))
    (bind : ∀ (q : Str) (cl : List (Str × Addr)) (pm cv ctv : Value), bindArgs (PySem.W.kla_fn "<lambda>" q pr bd sc cl pm cv ctv) ⟨[], []⟩ = pure [])
    (body : ∀ (A : Around) (outer : List PySem.Env) (s : Shared) (H : Hp) (E : XK) (f c' : Addr), Room k (A.deeper (lamEnv X sc s.heap.objs.size f c')) → PE (lamCx X A outer s H E sc f c') bd (t E))
    (hdb : (x == ("__debug__" : Str)) = false) (hd : (a == ("__debug__" : Str)) = false) (hcd : (a == ("__classdict__" : Str)) = false) :
    PE X (.Call (.Name x p) [.Lambda pr bd sc lpos] [] pos) (tLamS T TT t) := by
  constructor
  intro pins s σ H Q I hyp
  obtain ⟨tT, hyp⟩ := hyp
  refine wpAny_Call_Name_kw (ld_glob I hg hm ?_ hdb)
  refine PySem.W.callWith_K (h₀ := X.base) I.ok.mod.kin hk ?_ (by rfl) (by rfl)
  show wpAny _ _ (spliced ((false, eval (.Lambda pr bd sc lpos) X.env) :: backTo pos (starEach [] X.env))) _ _ s
  refine Calls.spliced_cons (lam_make3 I TB code inT one tT noD (L.has I.ok) fun f c' pm' ctv H1 s' I1 grow lost T1 isF nF nfr isC => ?_)
  refine Calls.spliced_nil ⟨I1.kIn, ?_⟩
  have run : codeAny (model X.prog X.w) X.A (.call (.ref g) ⟨[.ref f], []⟩) (CR C8.CX0 X.stack X.prog X.w H1 s' Q C8.E0) s' := by
    refine run_ofS (N := Ng) (ps := [a]) (us := [.ref f]) (vs := [.ref f]) lk hcg Sg hr I1.env0 (hb s' [.ref f] I1.kIn rfl) (.cons rfl .nil) rfl fun room => ?_
    obtain ⟨t', ht', q'⟩ := hG f c' s' H1 Q (fun E H' Q' => t E σ H' Q') (room.mono (by omega)) (fun W pn xe p1 p2 tk => pe_act2 (i := 0) (tb := t) I1 L isF nF nfr (bind _ _ _ _ _) tk room (fun A outer s H E r2 => body A outer s H E f c' r2) hNg hva hd hcd) isC (hyp H1 grow lost T1)
    exact ⟨t', ht'.nox, q'⟩
  refine wpAny_call (codeAny_mono run fun r s2 y => ?_)
  match r, y with
  | .error er, y => exact (show False from y).elim
  | .ok (.ret u), y => exact I1.after y
  | .ok .next, y => exact (show False from y).elim
  | .ok .brk, y => exact (show False from y).elim
  | .ok .cont, y => exact (show False from y).elim
end
end MV

namespace MV
open PySem PySem.Spec PyProof.Rows L2 L2H LamX
/-! ### found = ('none',); try: deed() except M as e: found = word(e); return found -/
def errO (word : DF) (okc : Nat → Option Bool) : XO → XO
  | .ok _ e1 => .ok (.nd true .tup [.str "none"]) e1
  | .exc c ns fs e1 => (match okc c with
    | some true => (match word [.exn c ns fs] with
      | .ok d _ => if cl d = true ∧ noXL fs = true then .ok d e1 else .bad
      | .exc _ _ _ _ => .bad
      | .bad => .bad)
    | _ => .bad)
  | .bad => .bad
def TErr (Γ : Gm) (word : DF) (okc : Nat → Option Bool) : (XK → Hp → VK → Prop) → Hp → VK → Prop := fun tl H Q => ∃ Z σ e F o, EOK Γ Z H σ e F ∧
  (∀ E H2 Q2, EOK Γ Z H2 σ e F → XPost Γ (fun cls d _ H' => E cls d H') σ Z H2 F Q2 o → tl E H2 Q2) ∧ XPost Γ W00 σ Z H F Q (errO word okc o)
theorem noX_of_cl : ∀ {d : D}, cl d = true → noX d = true := by
  have key : (∀ d : D, cl d = true → noX d = true) := fun d => by
    refine D.rec (motive_1 := fun d => cl d = true → noX d = true) (motive_2 := fun ds => clL ds = true → noXL ds = true) ?_ ?_ ?_ ?_ ?_ ?_ ?_ ?_ ?_ d
    · exact fun _ => rfl
    · exact fun _ _ => rfl
    · exact fun _ _ => rfl
    · exact fun _ _ => rfl
    · exact fun _ _ => rfl
    · intro c ns fs _ h
      simp [cl] at h
    · intro o k xs ih h
      have h' : o = true ∧ clL xs = true := by simpa [cl] using h
      simpa [noX] using ih h'.2
    · exact fun _ => rfl
    · intro d ds h1 h2 h
      have h' : cl d = true ∧ clL ds = true := by simpa [clL] using h
      simp [noXL, h1 h'.1, h2 h'.2]
  exact fun {d} => key d
/-- what a statement of data says of the caller behind a call that only makes new things -/
theorem EOK.past {Γ : Gm} {Z H Z' H' : Hp} {σ : St} {e : Env} {F Fr : List Addr} (E : EOK Γ Z H σ e F) (t : Tabs Γ.T H') (s : Step H Z [] H' Z' Fr) : EOK Γ Z H' σ e F ∧ Step H Z F H' Z (Fr ++ F) ∧ ∀ a ∈ Fr, H a = none := by
  have fr : ∀ a ∈ Fr, H a = none := fun a ha => (s.own a ha).elim (fun z => absurd z (by simp)) id
  have xn : ExN H H' := fun a o n h => s.frame a o n h (by simp)
  exact ⟨E.allocN xn t, Step.allocN xn s.dom fr, fr⟩
section
variable {X : Cx} {C : Cs}
theorem err_gives {x ME WD : Str} {sg : Scope} {g gw : Addr} {gd : FuncData} {ps : List Str} {cdg cv : Value} {word : DF} {okc : Nat → Option Bool} {j1 j2 : Nat} {p1 p2 p3 p4 p5 p6 p7 p8 p9 p10 p11 p12 p13 p14 p15 p16 p17 : Pos}
    (h1 : sg.names.lookup ("deed" : Str) = some .local) (h2 : sg.names.lookup ("found" : Str) = some .local) (h3 : sg.names.lookup ("e" : Str) = some .local) (h4 : sg.names.lookup ME = some .globalImplicit) (h5 : sg.names.lookup WD = some .globalImplicit)
    (hME : X.mg ME = some cv) (dME : (ME == ("__debug__" : Str)) = false) (dWD : (WD == ("__debug__" : Str)) = false) (hx : ∀ c b, okc c = some b → PySem.W.exmOne X.K (.ref (C.C c)) cv = some b)
    (G : FnE X.prog X.w X.K X.mg X.base 1 gw gd ps (fun q => spD ⟨X.K, C.C, C.T, heldE C.C q.1 q.2.cls q.2.dict⟩ 1 false word)) (gWD : X.mg WD = some (.ref gw)) (kWD : PySem.W.keepIn X.K (.ref gw) = true) (bWD : Binds X.K gd ps []) :
    GivesS X ["deed", "found", "e"] x sg g cdg [.Assign [.Name "found" p1] (.Tuple [.Constant (.str "none") j1 p2] j2 p3) p4,
      .Try [.Expr (.Call (.Name "deed" p5) [] [] p6) p7] [.ExceptHandler (some (.Name ME p8)) (some "e") [.Assign [.Name "found" p9] (.Call (.Name WD p10) [.Name "e" p11] [] p12) p13] p14] [] [] p15,
      .Return (some (.Name "found" p16)) p17] "deed" (TErr (GX X C) word okc) := by
  intro f c' s H Q tl room act hc ⟨Z, σ, e, F, o, E, run, post⟩
  have nd : (["deed", "found", "e"] : List Str).Nodup := by decide
  have gl1 : Gl (cxOf C8.CX0 X.prog X.w X.K X.mg X.base ["deed", "found", "e"] x sg g cdg X.A X.stack s H C8.E0).nox ME := h4
  let ts : Addr → Value → Option Addr → TS := fun a cls d => tAsg (tCallSD (spD ⟨X.K, C.C, C.T, heldE C.C a cls d⟩ 1 false word) [] (WE W00) (tCons (tVar 2) tNil)) (gName 1)
  let tb : WX → TS := fun W => tDrop (fun τ HZ Q => τ[0]? = some (some (.ref f)) ∧ HZ c' = some (CodeO c' (lamQ X)) ∧ tl (WE W τ) HZ Q)
  refine ⟨tSeq (tAsg (tTup (tCons (tC (.str "none")) tNil)) (gName 1)) (tSeq (fun D σ H => tb (wAs X.K cv 2 ts W00 D) D σ H) (tRet (tVar 1))), ?_, ?_⟩
  · refine pss_cons (ps_set (i := 1) nd rfl (Or.inl h2) (pe_tup (pa_cons pe_str pa_nil)) (by rfl) (Or.inr h2)) (pss_cons (ps_try_as (X := (cxOf C8.CX0 X.prog X.w X.K X.mg X.base ["deed", "found", "e"] x sg g cdg X.A X.stack s H C8.E0).nox) (i := 2) (n := "e") (tb := tb) (ts := ts) (Wout := W00) rfl rfl nd rfl h3 ⟨gl1, dME, .inl hME⟩ L2.takes0 (fun W pn xe tk _ => pss_one (ps_expr (act W pn xe p5 p6 tk))) (fun a oe cls d pn hz hv => ?_)) (pss_one (ps_ret (pe_var (i := 1) rfl (Or.inl h2)))))
    refine pss_one (ps_set (i := 1) nd rfl (Or.inl h2) ?_ (by rfl) (Or.inr h2))
    have hq : (a, oe) ∈ (((cxOf C8.CX0 X.prog X.w X.K X.mg X.base ["deed", "found", "e"] x sg g cdg X.A X.stack s H C8.E0).nox).suite a ((a, oe) :: pn)).pn := List.mem_cons_self
    have eE : heldE C.C a cls d = heldE C.C (a, oe).1 (a, oe).2.cls (a, oe).2.dict := by rw [hz.1, hz.2]
    rw [eE]
    exact pe_callE (X := ((cxOf C8.CX0 X.prog X.w X.K X.mg X.base ["deed", "found", "e"] x sg g cdg X.A X.stack s H C8.E0).nox).suite a ((a, oe) :: pn)) (q := (a, oe)) G ⟨room.dp, room.un⟩ hq hv gWD kWD bWD (fun σ => passAt L2.takes0 σ) (pa_cons (pe_var (i := 2) rfl (Or.inl h3)) pa_nil) h5 dWD rfl rfl
  · refine ⟨by show 1 ≤ sizeLine; decide, fun p hp => ?_⟩
    have ex : Ex H (upd H p (.tup [.str "none"])) := Ex.new hp
    have E2 := E.alloc ex
    have hc2 : upd H p (.tup [.str "none"]) c' = some (CodeO c' (lamQ X)) := ex _ _ hc
    have hp2 : upd H p (.tup [.str "none"]) p = some (.tup [.str "none"]) := upd_same
    have S2 : Step H Z F (upd H p (.tup [.str "none"])) Z ([p] ++ F) := Step.alloc ex fun a ha => by
      have ea : a = p := by simpa using ha
      rw [ea]; exact hp
    have np := E.fresh hp
    generalize upd H p (.tup [.str "none"]) = H2 at ex E2 hc2 hp2 S2
    refine ⟨rfl, hc2, run _ H2 _ E2 ?_⟩
    have pF : ∀ {Z' H' F'}, Step H2 Z F H' Z' F' → p ∉ F' := fun {Z' H' F'} st hm => (st.own p hm).elim np.1 fun z => by rw [hp2] at z; cases z
    have S3 : ∀ {Z' H' F'}, Step H2 Z F H' Z' F' → Step H Z F H' Z' ([p] ++ F') := fun {Z' H' F'} st => by
      refine ⟨fun a o n h hn => st.frame a o n (ex a o h) hn, st.zext, fun a ha => ?_, fun a ha => ?_, fun a ha => ex.none (st.dom a ha)⟩
      · rcases List.mem_append.mp ha with h | h
        · have ea : a = p := by simpa using h
          rw [ea]; exact .inr hp
        · exact (st.own a h).imp id ex.none
      · exact (st.zon a ha).imp id fun z => z.imp id ex.none
    cases o with
    | bad => exact post
    | ok d e1 =>
      intro Z' H' v Fd F' E' ow n z st
      have st' : Step H2 Z F H' Z' F' := st.less fun a ha => List.mem_append_right _ ha
      have kp : H' p = some (.tup [.str "none"]) := st.frame p _ (fun ps z => nomatch z) hp2 np.1
      have zp : Z' p = none := by
        cases q : Z' p with
        | none => rfl
        | some u =>
          rcases st.zon p (by rw [q]; exact fun z => nomatch z) with y | y | y
          · exact absurd np.2 y
          · exact absurd y np.1
          · rw [hp2] at y; cases y
      refine ⟨.ref p, rfl, post Z' H' (.ref p) [p] F' E' ⟨p, [.str "none"], .tup [.str "none"], [], rfl, kp, rfl, ⟨.str "none", [], [], [], rfl, ⟨rfl, rfl⟩, ⟨rfl, rfl⟩, .nil⟩, .refl _⟩ ?_ ?_ (S3 st')⟩
      · exact List.nodup_append.mpr ⟨by simp, E'.nd, fun a ha b hb y => by
          have ea : a = p := by simpa using ha
          rw [← y, ea] at hb
          exact pF st' hb⟩
      · intro a ha
        have ea : a = p := by simpa using ha
        rw [ea]; exact zp
    | exc c ns fs e1 =>
      intro Z' H' F' dd E' st xa
      unfold errO at post
      cases q1 : okc c with
      | none => simp only [q1] at post; exact post.elim
      | some b =>
        cases b with
        | false => simp only [q1] at post; exact post.elim
        | true =>
          simp only [q1] at post
          refine ⟨true, hx c true q1, fun _ a na => ?_, fun z => Bool.noConfusion z⟩
          cases q2 : word [.exn c ns fs] with
          | bad => simp only [q2] at post; exact post.elim
          | exc _ _ _ _ => simp only [q2] at post; exact post.elim
          | ok d sd =>
            simp only [q2] at post
            by_cases hd : cl d = true ∧ noXL fs = true
            · rw [if_pos hd] at post
              obtain ⟨vs, hl, hz, rv⟩ := xa
              refine ⟨.ref a, rfl, ?_⟩
              refine ⟨rfl, [.exn c ns fs], Z', [], E'.zh, List.nodup_nil, fun b hb => absurd hb (by simp), E'.ntz, E'.tabs, ⟨RpL.cons (d := .exn c ns fs) ⟨rfl, a, dd, vs, rfl, ⟨rfl, rfl, rfl⟩, hl, hz, OwnL.chE (Γ := GX X C) hd.2 rv⟩ RpL.nil, rfl⟩, ?_⟩
              rw [q2]
              intro Z2 H3 v Fr Fs x2 nz tb2 ow os n z st2
              have os' : Fs = [] := os
              rw [os', List.append_nil] at n z st2
              obtain ⟨E3, S4, fr⟩ := E'.past tb2 st2
              have ow2 : Own (GX X C) d Z' H3 v Fr := Own.cl hd.1 (Own.chE (Γ := ⟨X.K, C.C, C.T, heldE C.C a (.ref (C.C c)) (some dd)⟩) (E' := C.E) (noX_of_cl hd.1) ow)
              have st3 : Step H Z F H3 Z' (Fr ++ F') := ((S3 st).less fun b hb => List.mem_append_right _ hb).trans S4
              exact ⟨v, rfl, post Z' H3 v Fr F' E3 ow2 (E'.nodup fr n) (fun b hb => E'.zh.none (fr b hb)) st3⟩
            · rw [if_neg hd] at post; exact post.elim
end
end MV

namespace MV
open PySem PySem.Spec PyProof.Rows L2 L2H LamX
theorem errO_or (word : DF) (okc : Nat → Option Bool) (o : XO) : (∃ d e1, errO word okc o = .ok d e1) ∨ errO word okc o = .bad := by
  cases o with
  | ok d e1 => exact .inl ⟨_, _, rfl⟩
  | bad => exact .inr rfl
  | exc c ns fs e1 =>
    cases q1 : okc c with
    | none => exact .inr (by simp only [errO, q1])
    | some b =>
      cases b with
      | false => exact .inr (by simp only [errO, q1])
      | true =>
        cases q : word [.exn c ns fs] with
        | bad => exact .inr (by simp only [errO, q1, q])
        | exc _ _ _ _ => exact .inr (by simp only [errO, q1, q])
        | ok d s =>
          by_cases h : cl d = true ∧ noXL fs = true
          · exact .inl ⟨d, e1, by simp only [errO, q1, q, if_pos h]⟩
          · exact .inr (by simp only [errO, q1, q, if_neg h])
theorem sx_lamS {Γ : Gm} {W : WX} {word : DF} {okc : Nat → Option Bool} {t : XK → TE} {g : XG} (hg : ∀ E, SemX Γ (fun cls d _ H' => E cls d H') (t E) g) : SemX Γ W (tLamS Γ.T (TErr Γ word okc) t) (fun e => errO word okc (g e)) := by
  intro Z H σ e F Q E P
  refine ⟨E.tabs, fun H1 grow lost T1 => ⟨Z, σ, e, F, g e, E.allocN (fun a o n h => grow a o h n) T1, fun E' H2 Q2 E2 P2 => hg E' Z H2 σ e F Q2 E2 P2, ?_⟩⟩
  have st : Step H Z F H1 Z ([] ++ F) := Step.allocN (fun a o n h => grow a o h n) lost fun a ha => absurd ha (by simp)
  rw [List.nil_append] at st
  have P' : XPost Γ W σ Z H F Q (errO word okc (g e)) := P
  show XPost Γ W00 σ Z H1 F Q (errO word okc (g e))
  rcases errO_or word okc (g e) with ⟨d, e1, q⟩ | q
  · rw [q] at P' ⊢
    exact XPost.after (W := W) (o := .ok d e1) st P'
  · rw [q] at P' ⊢
    exact P'
/-- a def whose code object is known -/
structure FunC (K : PySem.W.Frag) (x qual : Str) (st : Stmt) (f : Addr) (fd : FuncData) (cc : Addr) : Prop where
  ex : ∃ (oc : Value) (od : Option Addr) (kV doc pm : Value) (an : Option Addr) (ct : Value) (osl : Array (Option Value)),
    fd = PySem.W.fnOf x qual (defArgs st) (defBody st) (defScope st) .none kV doc pm an (.ref cc) ct ∧ K.lookup f = some ⟨oc, od, .func fd, osl⟩ ∧ PySem.W.codeIn K (.ref cc) qual = true
section
variable {P : Program} {w : World} {K : PySem.W.Frag} {mg : Str → Option Value} {base : Heap} {C : Cs}
theorem fn_dC {x qual : Str} {st : Stmt} {f : Addr} {fd : FuncData} {cc : Addr} {N ps : List Str} {k : Nat} (F : FunC K x qual st f fd cc) (S : FnScope N ps (defScope st)) (io : Bool) {b : SG} (n m : Nat) (hn : ps.length = n) (hm : N.length = m) (hnm : n ≤ m)
    (hbody : ∀ (A : Around) (outer : List PySem.Env) (s : Shared) (H : Hp) (E : XK), Room k (A.deeper (envOfC qual (defScope st) s.heap.objs.size f (.ref cc))) →
      ∃ t, SSX C io (cxOf (L2.CX P w) P w K mg base N qual (defScope st) f (.ref cc) A outer s H E) (defBody st) t b) :
    FnOk P w K mg base (L2.CX P w) (k + 1) f fd ps (spD ⟨K, C.C, C.T, C.E⟩ n io (runB m io b)) := by
  obtain ⟨oc, od, kV, doc, pm, an, ct, osl, rfl, lk, hcd⟩ := F.ex
  refine fn_of lk hcd S (fun vs H Q E h => by rw [hn]; exact h.1) (fun A outer s H vs Q E hr h => ?_)
  obtain ⟨t, ht⟩ := hbody A outer s H E hr
  exact ⟨t fun cls d _ H => E cls d H, ht.ps _ (takes_of rfl rfl rfl rfl), body_d hm hnm (ht.sem _) h⟩
end
section
variable {X : Cx} {C : Cs}
theorem ex_lamS {K : PySem.W.Frag} {word : DF} {okc : Nat → Option Bool} {x a : Str} {st : Stmt} {g cc tb : Addr} {gd : FuncData} {k : Nat} {Ng : List Str} {pr : Arguments} {bd : Expr} {sc : Scope} {tB : WX → TE} {gB : XG} {p lpos pos : Pos}
    (hm : X.mg x = some (.ref g)) (F : Fun K x x st g gd) (hb : L2.Binds K gd [a] []) (Sg : FnScope Ng [a] (defScope st)) (hG : ∀ cdv, GivesS X Ng x (defScope st) g cdv (defBody st) a (TErr ⟨K, C.C, C.T, C.E⟩ word okc))
    (TB : TabB X.base X.mg cc tb) (inT : (tb, lamQ X) ∈ C.T) (one : ∀ p ∈ C.T, p.1 = tb → p.2 = lamQ X) (hr : Room (k + 2) X.A) (hk1 : 1 ≤ k)
    (body : ∀ (A : Around) (outer : List PySem.Env) (s : Shared) (H : Hp) (E : XK) (f c' : Addr), Room k (A.deeper (lamEnv X sc s.heap.objs.size f c')) → EX C (lamCx X A outer s H E sc f c') bd tB gB)
    (code : X.env.code = .ref cc := by rfl) (L : LamS X.env.scope sc := by exact LamX.lamS_by rfl) (noD : defaultsOf pr X.env = ([], []) := by rfl) (hg : Gl X x := by rfl) (hNg : Ng[0]? = some a := by rfl) (hva : Vis (defScope st) a := by exact Or.inl rfl)
    (bind : ∀ (q : Str) (cl : List (Str × Addr)) (pm cv ctv : Value), bindArgs (PySem.W.kla_fn "<lambda>" q pr bd sc cl pm cv ctv) ⟨[], []⟩ = pure [] := by intro _ _ _ _ _; rfl)
    (hdb : (x == ("__debug__" : Str)) = false := by decide) (hd : (a == ("__debug__" : Str)) = false := by decide) (hcd : (a == ("__classdict__" : Str)) = false := by decide) (hK : X.K = K := by rfl) :
    EX C X (.Call (.Name x p) [.Lambda pr bd sc lpos] [] pos) (fun _ => tLamS C.T (TErr ⟨K, C.C, C.T, C.E⟩ word okc) (fun E => tB fun cls d _ H' => E cls d H')) (fun e => errO word okc (gB e)) := by
  subst hK
  obtain ⟨oc, od, kV, doc, pm, an, cdv, ct, osl, rfl, lk, hcg⟩ := F.ex
  refine ⟨fun W _ => pe_lamS hg hm F.kp lk hcg hb Sg hNg hva (hG cdv) TB code inT one hr hk1 L noD bind (fun A outer s H E f c' r => (body A outer s H E f c' r).pe _ (takes_of rfl rfl rfl rfl)) hdb hd hcd, fun W => ?_⟩
  refine sx_lamS (Γ := GX X C) fun E => ?_
  exact (body X.A [] X.s_0 X.H_0 E 0 0 ((hr.deeper _).mono (by omega))).sem _
end
end MV

namespace MV
open PySem PySem.Spec PyProof.Rows L2 L2H LamX
/-- the i-th statement of a class's body -/
def clsAt (st : Stmt) (i : Nat) : Stmt := (C8.clsBody st).getD i (.Pass ⟨0, 0, 0, 0⟩)
theorem pinx_e {C : Cs} {X : Cx} {q : Addr × Obj} (hv : isRec q) (hm : q ∈ X.pn := by exact List.mem_singleton.mpr rfl) : PinX (heldP C q) X := fun a c dd ⟨e1, e2, e3⟩ => by
  subst e1
  exact ⟨q.2, hm, ⟨e2, e3⟩, hv⟩
theorem roomH_units {k : Nat} {A : Around} (r : RoomH k A) : A.units + 64 < cLine := by have := r.un; omega
/-- the base of the own exceptions -/
structure BaseT (K : PySem.W.Frag) (mg : Str → Option Value) (x : Str) (M : Addr) : Prop where
  gm : mg x = some (.ref M)
  ve : VeC K M
/-- an own exception class: its place, its __init__ -/
structure ExcT (K : PySem.W.Frag) (mg : Str → Option Value) (x qual : Str) (st : Stmt) (ps fs : List Str) (A : Addr) : Prop where
  cls : OexC K A
  gm : mg x = some (.ref A)
  ini : ∃ (g : Addr) (gd : FuncData), PySem.W.findIn K (.ref A) "__init__" = some (some (.ref g)) ∧ PySem.W.typeIn K (.ref g) = some (.type "function") ∧ Fun K "__init__" qual st g gd ∧ Binds K gd ps []
  nf : ∀ f ∈ fs, PySem.W.findIn K (.ref A) f = some none
  ec : L2.ExcC K A
theorem ExcT.xf {K : PySem.W.Frag} {mg : Str → Option Value} {x qual : Str} {st : Stmt} {ps fs : List Str} {A : Addr} (T : ExcT K mg x qual st ps fs A) : XfC K A := ⟨T.ec.hg, T.ec.hk, T.ec.hs, T.ec.hd⟩
theorem ExcT.made {P : Program} {w : World} {K : PySem.W.Frag} {mg : Str → Option Value} {base : Heap} {x qual : Str} {st : Stmt} {ps fs : List Str} {C : Nat → Addr} {c : Nat} (T : ExcT K mg x qual st ps fs (C c)) (S : FnScope ps ps (defScope st)) (txt : Str) (hps : ps.length = fs.length + 1) (hne : fs ≠ []) (hl : fs.length ≤ 900)
    (hbody : ∀ (g : Addr) (cdv : Value) (A : Around) (outer : List PySem.Env) (s : Shared) (H : Hp) (E : XK), PSs (cxOf (L2.CX P w) P w K mg base ps qual (defScope st) g cdv A outer s H E) (defBody st) (tSeq (tDrop (tVeI K (tCons (tVar 0) (tCons (tC (.str txt)) tNil)))) (tOsts K (fs.zip (List.range' 1 fs.length))))) :
    Mk P w K mg base 1 x (C c) fs.reverse := by
  obtain ⟨g, gd, h1, h2, F, B⟩ := T.ini
  exact ⟨T.cls, T.gm, g, gd, ps, h1, h2, fn_init F S fs txt hps hne hl T.nf (hbody g), B⟩
theorem exm_of {K : PySem.W.Frag} {D : Addr} {cls : Value} {b : Bool} (h1 : PySem.W.subIn K (.ref D) (.type "BaseException") = some true) (hd : PySem.W.hasDictIn K D = true) (ht : PySem.W.typeIn K (.ref D) = some (.type "type")) (h4 : PySem.W.subIn K cls (.ref D) = some b) : PySem.W.exmOne K cls (.ref D) = some b :=
  PySem.W.exm_ref h1 hd ht h4
/-- a promise that asks for nothing that ever is -/
theorem fn_bad {P : Program} {w : World} {K : PySem.W.Frag} {mg : Str → Option Value} {base : Heap} {f : Addr} {fd : FuncData} {ps : List Str} {Γ : Gm} {k n : Nat} {io : Bool} (hn : ps.length = n) : FnOk P w K mg base (L2.CX P w) k f fd ps (spD Γ n io fun _ => .bad) := by
  refine ⟨fun vs H Q E h => by rw [hn]; exact h.1, fun A outer s H args us vs Q E _ _ _ _ h => ?_⟩
  obtain ⟨_, _, _, _, _, _, _, _, _, _, z⟩ := h
  exact z.elim
end MV

namespace MV
open PySem PySem.Spec PyProof.Rows L2 L2H LamX
/-! ### the end -/
def oneZ (H : Hp) (a : Addr) : Hp := fun b => if b = a then H a else none
theorem oneZ_at {H : Hp} {a : Addr} : oneZ H a a = H a := if_pos rfl
theorem oneZ_val {H : Hp} {a b : Addr} {o : HO} (e : oneZ H a b = some o) : H a = some o := by
  unfold oneZ at e
  by_cases hb : b = a
  · rw [if_pos hb] at e; exact e
  · rw [if_neg hb] at e; cases e
theorem oneZ_ex {H : Hp} {a : Addr} : Ex (oneZ H a) H := fun b o e => by
  have q := e
  unfold oneZ at q
  by_cases hb : b = a
  · rw [if_pos hb] at q; rw [hb]; exact q
  · rw [if_neg hb] at q; cases q
theorem law_sp {Γ : Gm} {φ : DF} {H : Hp} {a : Addr} {ns : List Int} (hφ : ∃ s, φ [.scr ns] = .ok (.bl true) s) (hT : Tabs Γ.T H) (hS : SqL Γ.K H a (ns.map V.int)) : spD Γ 1 false φ [.ref a] H (fun v _ => v = .bl true) fun _ _ _ => False := by
  obtain ⟨s, hs⟩ := hφ
  have main : ∀ Z : Hp, Ex Z H → (∀ b o, Z b = some o → nt o) → SqL Γ.K Z a (ns.map V.int) → spD Γ 1 false φ [.ref a] H (fun v _ => v = .bl true) fun _ _ _ => False := fun Z zh zn zs => by
    refine ⟨rfl, [.scr ns], Z, [], zh, List.nodup_nil, fun b hb => absurd hb (by simp), zn, hT, ⟨RpL.cons (d := .scr ns) ⟨rfl, a, rfl, zs⟩ RpL.nil, rfl⟩, ?_⟩
    rw [hs]
    intro Z' H' v Fr Fs _ _ _ o _ _ _ _
    exact o.1
  rcases hS with (h | ⟨o, h⟩) | h
  · exact main (oneZ H a) oneZ_ex (fun b u e => by
      have q := oneZ_val e
      rw [h] at q
      cases q
      exact fun ps z => nomatch z) (.inl (.inl (oneZ_at.trans h)))
  · exact main (oneZ H a) oneZ_ex (fun b u e => by
      have q := oneZ_val e
      rw [h] at q
      cases q
      exact fun ps z => nomatch z) (.inl (.inr ⟨o, oneZ_at.trans h⟩))
  · exact main (fun _ => none) (fun b u e => nomatch e) (fun b u e => nomatch e) (.inr h)
theorem tabs_nil {T : List (Addr × Str)} {H : Hp} (h : ∀ p ∈ T, H p.1 = some (.tbl #[])) : Tabs T H := fun p hp => TabS.nil (h p hp)
theorem cx_none {P : Program} {w : World} {H : Hp} {s : Shared} {e : Value} {s' : Shared} (h : L2.CX P w [] H s (fun _ _ _ => False) e s') : False := by
  obtain ⟨_, _, _, _, _, _, _, _, _, _, _, _, z⟩ := h
  exact z.elim
theorem ec_mk {K : PySem.W.Frag} {A : Addr} (h1 : PySem.W.findIn K (.ref A) "__getattribute__" = some (some (.builtin "BaseException.__getattribute__"))) (h2 : PySem.W.findIn K (.ref A) "__getattr__" = some none) (h3 : PySem.W.subIn K (.ref A) (.type "BaseException") = some true) (h4 : PySem.W.hasDictIn K A = true)
    (h5 : PySem.W.findIn K (.ref A) "__class__" = some (some (.builtin "object.__class__"))) (h6 : PySem.W.specialIn K (.builtin "object.__class__") "__get__" = some (some (.builtin "getset_descriptor.__get__"))) (h7 : PySem.W.takesIn K (.builtin "object.__class__") = some true) (h8 : PySem.W.mroIn K A (.type "object") = some true) : L2.ExcC K A := ⟨h1, h2, h3, h4, h5, h6, h7, h8⟩
end MV

namespace MV
open PySem PySem.Spec PyProof.Rows L2
/-! ### evaluation: one step at a time -/
def bX (o : XO) (k : D → Env → XO) : XO := match o with
  | .ok d e => k d e
  | .exc c ns fs e => .exc c ns fs e
  | .bad => .bad
def bXS (o : XO) (k : D → Env → SO) : SO := match o with
  | .ok d e => k d e
  | .exc c ns fs e => .exc c ns fs e
  | .bad => .bad
def bXA (o : XO) (k : D → Env → AO) : AO := match o with
  | .ok d e => k d e
  | .exc c ns fs e => .exc c ns fs e
  | .bad => .bad
def bAX (o : AO) (k : List D → Env → XO) : XO := match o with
  | .ok d e => k d e
  | .exc c ns fs e => .exc c ns fs e
  | .bad => .bad
def bAA (o : AO) (k : List D → Env → AO) : AO := match o with
  | .ok d e => k d e
  | .exc c ns fs e => .exc c ns fs e
  | .bad => .bad
def bAS (o : AO) (k : List D → Env → SO) : SO := match o with
  | .ok d e => k d e
  | .exc c ns fs e => .exc c ns fs e
  | .bad => .bad
def bSS (o : SO) (k : Env → SO) : SO := match o with
  | .nx e => k e
  | o => o
def oX (r : Option D) (e : Env) : XO := match r with
  | some d => .ok d e
  | none => .bad
def oA (r : Option (List D)) (e : Env) : AO := match r with
  | some d => .ok d e
  | none => .bad
def oS (r : Option Env) : SO := match r with
  | some e => .nx e
  | none => .bad
def kIfX (f g : XG) (d : D) (e : Env) : XO := match d with
  | .bl true => f e
  | .bl false => g e
  | _ => .bad
def kIfS (f g : SG) (d : D) (e : Env) : SO := match d with
  | .bl true => f e
  | .bl false => g e
  | _ => .bad
section
variable {d d' : D} {e : Env} {c : Nat} {ns : List Str} {fs ds : List D} {b : Bool} {p : Prop} [Decidable p] {i n : Nat} {m : List Bool}
theorem bX_ok {k} : bX (.ok d e) k = k d e := rfl
theorem bX_exc {k} : bX (.exc c ns fs e) k = .exc c ns fs e := rfl
theorem bX_bad {k} : bX .bad k = .bad := rfl
theorem bXS_ok {k} : bXS (.ok d e) k = k d e := rfl
theorem bXS_exc {k} : bXS (.exc c ns fs e) k = .exc c ns fs e := rfl
theorem bXS_bad {k} : bXS .bad k = .bad := rfl
theorem bXA_ok {k} : bXA (.ok d e) k = k d e := rfl
theorem bXA_exc {k} : bXA (.exc c ns fs e) k = .exc c ns fs e := rfl
theorem bXA_bad {k} : bXA .bad k = .bad := rfl
theorem bAX_ok {k} : bAX (.ok ds e) k = k ds e := rfl
theorem bAX_exc {k} : bAX (.exc c ns fs e) k = .exc c ns fs e := rfl
theorem bAX_bad {k} : bAX .bad k = .bad := rfl
theorem bAA_ok {k} : bAA (.ok ds e) k = k ds e := rfl
theorem bAA_exc {k} : bAA (.exc c ns fs e) k = .exc c ns fs e := rfl
theorem bAA_bad {k} : bAA .bad k = .bad := rfl
theorem bAS_ok {k} : bAS (.ok ds e) k = k ds e := rfl
theorem bAS_exc {k} : bAS (.exc c ns fs e) k = .exc c ns fs e := rfl
theorem bAS_bad {k} : bAS .bad k = .bad := rfl
theorem bSS_nx {k} : bSS (.nx e) k = k e := rfl
theorem bSS_rt {k} : bSS (.rt d e) k = .rt d e := rfl
theorem bSS_bk {k} : bSS (.bk e) k = .bk e := rfl
theorem bSS_ct {k} : bSS (.ct e) k = .ct e := rfl
theorem bSS_exc {k} : bSS (.exc c ns fs e) k = .exc c ns fs e := rfl
theorem bSS_bad {k} : bSS .bad k = .bad := rfl
theorem bX_ite {x y k} : bX (if p then x else y) k = if p then bX x k else bX y k := by split <;> rfl
theorem bXS_ite {x y k} : bXS (if p then x else y) k = if p then bXS x k else bXS y k := by split <;> rfl
theorem bSS_ite {x y k} : bSS (if p then x else y) k = if p then bSS x k else bSS y k := by split <;> rfl
theorem oX_some : oX (some d) e = .ok d e := rfl
theorem oX_none : oX none e = .bad := rfl
theorem oA_some : oA (some ds) e = .ok ds e := rfl
theorem oA_none : oA none e = .bad := rfl
theorem oS_some : oS (some e) = .nx e := rfl
theorem oS_none : oS none = .bad := rfl
theorem kIfX_t {f g} : kIfX f g (.bl true) e = f e := rfl
theorem kIfX_f {f g} : kIfX f g (.bl false) e = g e := rfl
theorem kIfX_d {f g} : kIfX f g (.bl (decide p)) e = if p then f e else g e := by by_cases h : p <;> simp [h, kIfX]
theorem kIfS_t {f g} : kIfS f g (.bl true) e = f e := rfl
theorem kIfS_f {f g} : kIfS f g (.bl false) e = g e := rfl
theorem kIfS_d {f g} : kIfS f g (.bl (decide p)) e = if p then f e else g e := by by_cases h : p <;> simp [h, kIfS]
theorem kIfS_n {f g} : kIfS f g (.bl (!decide p)) e = if p then g e else f e := by by_cases h : p <;> simp [h, kIfS]
/-! the programs, given a state -/
theorem xC_ap : xC d e = .ok d e := rfl
theorem xVar_ap (h : e[i]? = some (some d)) : xVar i e = .ok (fz d) (e.set i (some (fz d))) := by unfold xVar; rw [h]
theorem xMove_ap (h : e[i]? = some (some d)) : xMove i e = .ok d (e.set i none) := by unfold xMove; rw [h]
theorem x2_ap {op f g} : x2 op f g e = bX (f e) fun d e1 => bX (g e1) fun d' e2 => oX (op (fz d) (fz d')) e2 := by
  unfold x2 bX
  cases f e with
  | ok d e1 => cases g e1 <;> first | rfl | (dsimp only; split <;> (rename_i q; simp [oX, q]))
  | exc => rfl
  | bad => rfl
theorem x1_ap {op f} : x1 op f e = bX (f e) fun d e1 => oX (op (fz d)) e1 := by
  unfold x1 bX
  cases f e with
  | ok d e1 => first | rfl | (dsimp only; split <;> (rename_i q; simp [oX, q]))
  | exc => rfl
  | bad => rfl
theorem xN_ap {op f} : xN op f e = bAX (f e) fun ds e1 => oX (op ds) e1 := by
  unfold xN bAX
  cases f e with
  | ok d e1 => first | rfl | (dsimp only; split <;> (rename_i q; simp [oX, q]))
  | exc => rfl
  | bad => rfl
theorem aNil_ap : aNil e = .ok [] e := rfl
theorem aCons_ap {f g} : aCons f g e = bXA (f e) fun d e1 => bAA (g e1) fun ds e2 => .ok (fz d :: ds) e2 := by
  unfold aCons bXA
  cases f e with
  | ok d e1 => cases g e1 <;> rfl
  | exc => rfl
  | bad => rfl
theorem xIf_ap {c f g} : xIf c f g e = bX (c e) (kIfX f g) := by
  unfold xIf bX kIfX
  cases c e with
  | ok d e1 => cases d <;> first | rfl | (rename_i b; cases b <;> rfl)
  | exc => rfl
  | bad => rfl
theorem xAnd_ap {f g} : xAnd f g e = bX (f e) (kIfX g (xC (.bl false))) := xIf_ap
theorem xOr_ap {f g} : xOr f g e = bX (f e) (kIfX (xC (.bl true)) g) := xIf_ap
theorem sNx_ap : sNx e = .nx e := rfl
theorem sBk_ap : sBk e = .bk e := rfl
theorem sCt_ap : sCt e = .ct e := rfl
theorem sRtN_ap : sRtN e = .rt .non e := rfl
theorem sSeq_ap {f g} : sSeq f g e = bSS (f e) g := by
  unfold sSeq bSS
  cases f e <;> rfl
theorem sDrop_ap {f} : sDrop f e = bXS (f e) fun _ e1 => .nx e1 := by
  unfold sDrop bXS
  cases f e <;> rfl
theorem sRt_ap {f} : sRt f e = bXS (f e) fun d e1 => .rt d e1 := by
  unfold sRt bXS
  cases f e <;> rfl
theorem sIf_ap {c f g} : sIf c f g e = bXS (c e) (kIfS f g) := by
  unfold sIf bXS kIfS
  cases c e with
  | ok d e1 => cases d <;> first | rfl | (rename_i b; cases b <;> rfl)
  | exc => rfl
  | bad => rfl
theorem sAsg_ap {f g} : sAsg f g e = bXS (f e) fun d e1 => oS (g d e1) := by
  unfold sAsg bXS oS
  cases f e with
  | ok d e1 => first | rfl | (dsimp only; split <;> (rename_i q; simp [q]))
  | exc => rfl
  | bad => rfl
theorem gNm_ap (h : i < e.length) : gNm i d e = some (e.set i (some d)) := if_pos h
theorem sFor_ap {f g b} : sFor f g b e = bAS (f e) fun ds e1 => runFor g b ds e1 := by
  unfold sFor bAS
  cases f e <;> rfl
theorem xDsp_ap {k f} : xDsp k f e = bAX (f e) fun ds e1 => if ds.length ≤ LIM then .ok (.nd true k ds) e1 else .bad := by
  unfold xDsp bAX
  cases f e <;> rfl
def borK (m : List Bool) (e : Env) (o : XO) : XO := match o with
  | .ok d _ => if cl d then .ok d e else .ok d (fzS m e)
  | .exc c ns fs _ => .exc c ns fs (fzS m e)
  | .bad => .bad
theorem xBor_ap {g} : xBor m g e = borK m e (g (view m e)) := rfl
theorem borK_int {z : Int} {e1} : borK m e (.ok (.int z) e1) = .ok (.int z) e := rfl
theorem borK_bl {z : Bool} {e1} : borK m e (.ok (.bl z) e1) = .ok (.bl z) e := rfl
theorem borK_str {z : Str} {e1} : borK m e (.ok (.str z) e1) = .ok (.str z) e := rfl
theorem borK_non {e1} : borK m e (.ok .non e1) = .ok .non e := rfl
theorem borK_cl {e1} (h : cl d = true) : borK m e (.ok d e1) = .ok d e := if_pos h
theorem borK_ncl {e1} (h : cl d = false) : borK m e (.ok d e1) = .ok d (fzS m e) := if_neg (by rw [h]; exact Bool.false_ne_true)
theorem borK_exc {e1} : borK m e (.exc c ns fs e1) = .exc c ns fs (fzS m e) := rfl
theorem borK_bad : borK m e .bad = .bad := rfl
theorem borK_ite {x y} : borK m e (if p then x else y) = if p then borK m e x else borK m e y := by split <;> rfl
theorem iRg_ap {g f} : iRg g f e = bAA (f e) fun ds e1 => oA (g ds) e1 := by
  unfold iRg bAA
  cases f e with
  | ok d e1 => first | rfl | (dsimp only; split <;> (rename_i q; simp [oA, q]))
  | exc => rfl
  | bad => rfl
theorem iL_ap {f} : iL f e = bXA (f e) fun d e1 => oA (listOf? (fz d)) e1 := by
  unfold iL bXA
  cases f e with
  | ok d e1 => first | rfl | (dsimp only; split <;> (rename_i q; simp [oA, q]))
  | exc => rfl
  | bad => rfl
/-- what a called def leaves -/
def foX (o : FO) (e : Env) : XO := match o with
  | .ok r _ => .ok r e
  | .exc c ns fs _ => .exc c ns fs e
  | .bad => .bad
theorem xCall_ap {φ f} : xCall n φ f e = bAX (f e) fun ds e1 => if ds.length = n then foX (φ ds) e1 else .bad := by
  unfold xCall bAX
  cases f e with
  | ok d e1 => first | rfl | (dsimp only; split <;> first | rfl | (cases φ d <;> rfl))
  | exc => rfl
  | bad => rfl
theorem foX_ok {r s} : foX (.ok r s) e = .ok r e := rfl
theorem foX_exc {s} : foX (.exc c ns fs s) e = .exc c ns fs e := rfl
theorem foX_bad : foX .bad e = .bad := rfl
theorem foX_ite {x y} : foX (if p then x else y) e = if p then foX x e else foX y e := by split <;> rfl
def foXi (i : Nat) (o : FO) (e : Env) : XO := match o with
  | .ok r s => .ok r (e.set i (some s))
  | .exc c ns fs s => .exc c ns fs (e.set i (some s))
  | .bad => .bad
def kIO (i n : Nat) (φ : DF) (ds : List D) (e1 : Env) : XO := if ds.length + 1 = n then (match e1[i]? with
  | some (some d) => foXi i (φ (d :: ds)) e1
  | _ => .bad) else .bad
def kIO0 (i n : Nat) (φ : DF) (f : AG) (e : Env) : XO := match e[i]? with
  | some (some _) => bAX (f e) (kIO i n φ)
  | _ => .bad
theorem foXi_ok {r s} : foXi i (.ok r s) e = .ok r (e.set i (some s)) := rfl
theorem xCallIO_ap {φ f} : xCallIO i n φ f e = kIO0 i n φ f e := by
  unfold xCallIO kIO0
  split
  · rename_i q
    try simp only [q]
    unfold bAX kIO
    cases f e with
    | ok ds e1 =>
      dsimp only
      split
      · split
        · rename_i q2
          try simp only [q2]
          unfold foXi
          cases φ _ <;> rfl
        · first
            | rfl
            | (rename_i q2; split <;> first | rfl | (rename_i q3; exact absurd q3 (q2 _)))
      · rfl
    | exc => rfl
    | bad => rfl
  · first
      | rfl
      | (rename_i q; split <;> first | rfl | (rename_i q2; exact absurd q2 (q _)))
theorem sRaise_ap {f} : sRaise c ns f e = bAS (f e) fun ds e1 => if ds.length = ns.length ∧ ds.length ≤ 900 then .exc c ns ds.reverse e1 else .bad := by
  unfold sRaise bAS
  cases f e <;> rfl
def kAsg (i : Nat) (op : D → D → Option D) (d d' : D) (e1 : Env) : SO := match op d (fz d') with
  | some r => if i < e1.length then .nx (e1.set i (some r)) else .bad
  | none => .bad
def kAsg0 (i : Nat) (op : D → D → Option D) (f : XG) (e : Env) : SO := match e[i]? with
  | some (some d) => if isS d then bXS (f e) (kAsg i op d) else .bad
  | _ => .bad
theorem sAug_ap {op f} : sAug i op f e = kAsg0 i op f e := by
  unfold sAug kAsg0
  split
  · rename_i q
    try simp only [q]
    split
    · unfold bXS kAsg
      cases f e <;> rfl
    · rfl
  · first
      | rfl
      | (rename_i q; split <;> first | rfl | (rename_i q2; exact absurd q2 (q _)))
/-- the end of a def -/
def endB (io : Bool) (o : SO) : FO := match o with
  | .nx e => (match slOf io e with
    | some s => .ok .non s
    | none => .bad)
  | .rt d e => (match slOf io e with
    | some s => .ok d s
    | none => .bad)
  | .exc c ns fs e => (match slOf io e with
    | some s => .exc c ns fs s
    | none => .bad)
  | _ => .bad
theorem runB_ap {io b} : runB n io b ds = endB io (b (ds.map some ++ List.replicate (n - ds.length) none)) := by
  unfold runB endB
  cases b (ds.map some ++ List.replicate (n - ds.length) none) <;> rfl
theorem endB_nx : endB false (.nx e) = .ok .non .non := rfl
theorem endB_rt : endB false (.rt d e) = .ok d .non := rfl
theorem endB_exc : endB false (.exc c ns fs e) = .exc c ns fs .non := rfl
theorem endB_io_rt {s} : endB true (.rt d (some s :: e)) = .ok d s := rfl
theorem endB_io_nx {s} : endB true (.nx (some s :: e)) = .ok .non s := rfl
theorem endB_ite {io x y} : endB io (if p then x else y) = if p then endB io x else endB io y := by split <;> rfl
/-! operations -/
theorem oAdd_i {a b : Int} : oAdd (.int a) (.int b) = some (.int (a + b)) := rfl
theorem oSub_i {a b : Int} : oSub (.int a) (.int b) = some (.int (a - b)) := rfl
theorem oMul_i {a b : Int} (h : mulOk a b = true) : oMul (.int a) (.int b) = some (.int (a * b)) := by simp [oMul, oOr, oIc, h]
theorem mulOk_l {a b : Int} (h : a.natAbs < 2 ^ 64) : mulOk a b = true := by simp [mulOk, h]
theorem mulOk_r {a b : Int} (h : b.natAbs < 2 ^ 64) : mulOk a b = true := by simp [mulOk, h]
theorem oDiv_i {a b : Int} (h : 0 < b) (h2 : b.natAbs < 2 ^ 4000) : oDiv (.int a) (.int b) = some (.int (a / b)) := by simp [oDiv, oIc, divOk, h, h2]
theorem oMod_i {a b : Int} (h : 0 < b) : oMod (.int a) (.int b) = some (.int (a % b)) := by simp [oMod, oIc, h]
theorem oLt_i {a b : Int} : oLt (.int a) (.int b) = some (.bl (decide (a < b))) := rfl
theorem oLe_i {a b : Int} : oLe (.int a) (.int b) = some (.bl (decide (a ≤ b))) := rfl
theorem oGt_i {a b : Int} : oGt (.int a) (.int b) = some (.bl (decide (b < a))) := rfl
theorem oGe_i {a b : Int} : oGe (.int a) (.int b) = some (.bl (decide (b ≤ a))) := rfl
theorem shaped_i (a : Int) : SeqAt.shaped (.int a) = true := rfl
theorem eqv_i (a b : Int) : PyData.eqv (.int a) (.int b) = decide (a = b) := by
  first | rfl | simp [PyData.eqv] | (unfold PyData.eqv; by_cases q : a = b <;> simp [q])
theorem eqv_s (a b : Str) : PyData.eqv (.str a) (.str b) = decide (a = b) := by
  first | rfl | simp [PyData.eqv] | (unfold PyData.eqv; by_cases q : a = b <;> simp [q])
theorem oEq_i {a b : Int} : oEq (.int a) (.int b) = some (.bl (decide (a = b))) := by
  unfold oEq oEqB
  simp only [toP, shaped_i, eqv_i, Bool.and_self, if_true, Bool.false_eq_true, if_false]
theorem oNe_i {a b : Int} : oNe (.int a) (.int b) = some (.bl (!decide (a = b))) := by
  unfold oNe oEqB
  simp only [toP, shaped_i, eqv_i, Bool.and_self, if_true]
theorem oEq_s {a b : Str} (h : SeqAt.shaped (.str a) = true) (h2 : SeqAt.shaped (.str b) = true) : oEq (.str a) (.str b) = some (.bl (decide (a = b))) := by
  unfold oEq oEqB
  simp only [toP, h, h2, eqv_s, Bool.and_self, if_true, Bool.false_eq_true, if_false]
/-! lists changed in place -/
def kSet2 (i : Nat) (d dj : D) (e2 : Env) : SO := match dj with
  | .int j => (match e2[i]? with
    | some (some (.nd true .lst xs)) => (match ixN xs.length j with
      | some m => .nx (e2.set i (some (.nd true .lst (xs.set m (fz d)))))
      | none => .bad)
    | _ => .bad)
  | _ => .bad
def kSet (i : Nat) (gi : XG) (d : D) (e1 : Env) : SO := match e1[i]? with
  | some (some (.nd _ .lst _)) => bXS (gi e1) (kSet2 i d)
  | _ => .bad
theorem sSet_ap {gv gi} : sSet i gv gi e = bXS (gv e) (kSet i gi) := by
  unfold sSet bXS kSet
  cases gv e with
  | ok d e1 =>
    dsimp only
    split
    · rename_i q
      try simp only [q]
      cases gi e1 with
      | ok dj e2 => cases dj <;> rfl
      | exc => rfl
      | bad => rfl
    · first
        | rfl
        | (rename_i q; split <;> first | rfl | (rename_i q2; exact absurd q2 (q _ _)))
  | exc => rfl
  | bad => rfl
def kAug (i m : Nat) (op : D → D → Option D) (xs : List D) (d : D) (d' : D) (e2 : Env) : SO := match op d (fz d'), e2[i]? with
  | some r, some (some (.nd true .lst ys)) => if sh r ∧ m < ys.length ∧ ys.length = xs.length then .nx (e2.set i (some (.nd true .lst (ys.set m r)))) else .bad
  | _, _ => .bad
theorem sAugIx_ap {op gi gv} {o : Bool} {xs0 xs : List D} {j : Int} {m : Nat} {e1 : Env} (h0 : e[i]? = some (some (.nd o .lst xs0))) (h1 : gi e = .ok (.int j) e1) (h2 : e1[i]? = some (some (.nd true .lst xs))) (h3 : ixN xs.length j = some m) (h4 : xs[m]? = some d) (h5 : isS d = true) :
    sAugIx i op gi gv e = bXS (gv e1) (kAug i m op xs d) := by
  unfold sAugIx bXS kAug
  simp only [h0, h1, h2, h3, h4, h5, if_true]
  all_goals (cases gv e1 <;> rfl)
def kAug1 (i : Nat) (op : D → D → Option D) (gv : XG) (dj : D) (e1 : Env) : SO := match dj with
  | .int j => (match e1[i]? with
    | some (some (.nd true .lst xs)) => (match ixN xs.length j with
      | some m => (match xs[m]? with
        | some d => if isS d then bXS (gv e1) (kAug i m op xs d) else .bad
        | none => .bad)
      | none => .bad)
    | _ => .bad)
  | _ => .bad
def kAug0 (i : Nat) (op : D → D → Option D) (gi gv : XG) (e : Env) : SO := match e[i]? with
  | some (some (.nd _ .lst _)) => bXS (gi e) (kAug1 i op gv)
  | _ => .bad
theorem sAugIx_k {op gi gv} : sAugIx i op gi gv e = kAug0 i op gi gv e := by
  unfold sAugIx kAug0
  split
  · rename_i q
    try simp only [q]
    unfold bXS kAug1
    cases gi e with
    | ok dj e1 =>
      cases dj with
      | int j =>
        dsimp only
        split
        · rename_i q2
          try simp only [q2]
          split
          · rename_i q3
            try simp only [q3]
            split
            · rename_i q4
              try simp only [q4]
              split
              · unfold bXS kAug
                cases gv e1 <;> rfl
              · rfl
            · rename_i q4
              try simp only [q4]
          · rename_i q3
            try simp only [q3]
        · first
            | rfl
            | (rename_i q2; split <;> first | rfl | (rename_i q3; exact absurd q3 (q2 _)))
      | _ => rfl
    | exc => rfl
    | bad => rfl
  · first
      | rfl
      | (rename_i q; split <;> first | rfl | (rename_i q2; exact absurd q2 (q _ _)))
theorem oAddI_i {a b : Int} : oAddI (.int a) (.int b) = some (.int (a + b)) := rfl
theorem oSubI_i {a b : Int} : oSubI (.int a) (.int b) = some (.int (a - b)) := rfl
theorem ixN_lit {n : Nat} {j : Int} (h : 0 ≤ j) (h2 : j.toNat < n) : ixN n j = some j.toNat := by
  unfold ixN
  rw [if_pos h, if_pos (by omega)]
theorem atI_nn {xs : List D} {j : Int} (h : 0 ≤ j) : atI xs j = xs[j.toNat]? := by
  unfold atI
  by_cases q : j.toNat < xs.length
  · rw [ixN_lit h q]; rfl
  · rw [List.getElem?_eq_none (by omega)]
    unfold ixN
    rw [if_pos h, if_neg (by omega)]; rfl
theorem oIx_l {o : Bool} {xs : List D} {j : Int} (h : 0 ≤ j) : oIx (.nd o .lst xs) (.int j) = xs[j.toNat]? := atI_nn h
theorem oIx_t {o : Bool} {xs : List D} {j : Int} (h : 0 ≤ j) : oIx (.nd o .tup xs) (.int j) = xs[j.toNat]? := atI_nn h
theorem runFor_inv {g : TGt} {b : SG} (P : Nat → Env → Prop) : ∀ (ds : List D) (i : Nat) (e : Env), P i e → (∀ j d e, ds[j]? = some d → P (i + j) e → ∃ e1 e2, g d e = some e1 ∧ (b e1 = .nx e2 ∨ b e1 = .ct e2) ∧ P (i + j + 1) e2) → ∃ e', runFor g b ds e = .nx e' ∧ P (i + ds.length) e'
  | [], i, e, h, _ => ⟨e, rfl, h⟩
  | d :: ds, i, e, h, hs => by
    obtain ⟨e1, e2, h1, h2, h3⟩ := hs 0 d e rfl h
    obtain ⟨e', h4, h5⟩ := runFor_inv P ds (i + 1) e2 h3 fun j d' e hj hp => by
      obtain ⟨x, y, a1, a2, a3⟩ := hs (j + 1) d' e hj (by rw [show i + (j + 1) = i + 1 + j from by omega]; exact hp)
      exact ⟨x, y, a1, a2, by rw [show i + 1 + j + 1 = i + (j + 1) + 1 from by omega]; exact a3⟩
    refine ⟨e', ?_, by rw [List.length_cons, show i + (ds.length + 1) = i + 1 + ds.length from by omega]; exact h5⟩
    rcases h2 with h2 | h2 <;> (unfold runFor; simp only [h1, h2]; exact h4)
theorem rgD_l {lo c : Int} {n : Nat} : (rgD lo c n).length = n := by unfold rgD; rw [List.length_map, List.length_range]
theorem rgD_g {lo c : Int} {n k : Nat} {d : D} (h : (rgD lo c n)[k]? = some d) : k < n ∧ d = .int (lo + k * c) := by
  have hk : k < n := by
    have q := (List.getElem?_eq_some_iff.mp h).1
    rw [rgD_l] at q; exact q
  unfold rgD at h
  rw [List.getElem?_map, List.getElem?_range hk] at h
  exact ⟨hk, (Option.some.inj h).symm⟩
theorem runFor_rg {g : TGt} {b : SG} {lo c : Int} (P : Nat → Env → Prop) (n : Nat) (e : Env) (h0 : P 0 e) (hs : ∀ k e, k < n → P k e → ∃ e1 e2, g (.int (lo + k * c)) e = some e1 ∧ (b e1 = .nx e2 ∨ b e1 = .ct e2) ∧ P (k + 1) e2) : ∃ e', runFor g b (rgD lo c n) e = .nx e' ∧ P n e' := by
  obtain ⟨e', h1, h2⟩ := runFor_inv (g := g) (b := b) P (rgD lo c n) 0 e h0 fun j d e hj hp => by
    obtain ⟨hk, rfl⟩ := rgD_g hj
    rw [Nat.zero_add] at hp ⊢
    exact hs j e hk hp
  rw [Nat.zero_add, rgD_l] at h2
  exact ⟨e', h1, h2⟩
theorem rg1_i {j : Int} (h : small62 j = true) : rg1 [.int j] = some (rgD 0 1 j.toNat) := if_pos h
theorem rg2_i {i j : Int} (h : small62 i = true) (h2 : small62 j = true) : rg2 [.int i, .int j] = some (rgD i 1 (j - i).toNat) := if_pos (by rw [h, h2]; rfl)
def kApp (i : Nat) (d : D) (e1 : Env) : XO := match e1[i]? with
  | some (some (.nd true .lst xs)) => if xs.length < LIM then .ok .non (e1.set i (some (.nd true .lst (xs ++ [d])))) else .bad
  | _ => .bad
def kApp0 (i : Nat) (g : XG) (e : Env) : XO := match e[i]? with
  | some (some (.nd _ .lst _)) => bX (g e) (kApp i)
  | _ => .bad
theorem xApp_ap {g} : xApp i g e = kApp0 i g e := by
  unfold xApp kApp0
  split
  · rename_i q
    try simp only [q]
    unfold bX kApp
    cases g e <;> rfl
  · first
      | rfl
      | (rename_i q; split <;> first | rfl | (rename_i q2; exact absurd q2 (q _ _)))
/-! isinstance of a built-in class -/
theorem isi_ib {a : Int} : oIsi "bool" (.int a) = some (.bl false) := rfl
theorem isi_ii {a : Int} : oIsi "int" (.int a) = some (.bl true) := rfl
theorem isi_is {a : Int} : oIsi "str" (.int a) = some (.bl false) := rfl
theorem isi_sb {a : Str} : oIsi "bool" (.str a) = some (.bl false) := rfl
theorem isi_si {a : Str} : oIsi "int" (.str a) = some (.bl false) := rfl
theorem isi_ss {a : Str} : oIsi "str" (.str a) = some (.bl true) := rfl
theorem isi_bb {a : Bool} : oIsi "bool" (.bl a) = some (.bl true) := rfl
theorem isi_lb {o : Bool} {xs : List D} : oIsi "bool" (.nd o .lst xs) = some (.bl false) := rfl
theorem isi_li {o : Bool} {xs : List D} : oIsi "int" (.nd o .lst xs) = some (.bl false) := rfl
theorem isi_ls {o : Bool} {xs : List D} : oIsi "str" (.nd o .lst xs) = some (.bl false) := rfl
theorem isi_lt {o : Bool} {xs : List D} : oIsi "tuple" (.nd o .lst xs) = some (.bl false) := rfl
theorem isi_ll {o : Bool} {xs : List D} : oIsi "list" (.nd o .lst xs) = some (.bl true) := rfl
theorem isi_tb {o : Bool} {xs : List D} : oIsi "bool" (.nd o .tup xs) = some (.bl false) := rfl
theorem isi_ti {o : Bool} {xs : List D} : oIsi "int" (.nd o .tup xs) = some (.bl false) := rfl
theorem isi_ts {o : Bool} {xs : List D} : oIsi "str" (.nd o .tup xs) = some (.bl false) := rfl
theorem isi_tt {o : Bool} {xs : List D} : oIsi "tuple" (.nd o .tup xs) = some (.bl true) := rfl
theorem isi_tl {o : Bool} {xs : List D} : oIsi "list" (.nd o .tup xs) = some (.bl false) := rfl
theorem isN_n : oIsN .non .non = some (.bl true) := rfl
theorem isN_i {a : Int} : oIsN (.int a) .non = some (.bl false) := rfl
theorem isN_s {a : Str} : oIsN (.str a) .non = some (.bl false) := rfl
theorem isN_b {a : Bool} : oIsN (.bl a) .non = some (.bl false) := rfl
theorem isN_d {o : Bool} {k : Kd} {xs : List D} : oIsN (.nd o k xs) .non = some (.bl false) := rfl
end
/-! data that answer themselves -/
def selfy : Nat → D → Bool
  | _, .int _ => true
  | _, .non => true
  | _, .bl _ => true
  | _, .str s => SeqAt.shaped (.str s)
  | n + 1, .nd false .lst xs => xs.all (selfy n) && decide (xs.length ≤ 100000)
  | n + 1, .nd false .tup xs => xs.all (selfy n) && decide (xs.length ≤ 100000)
  | _, _ => false
theorem selfy_fz : ∀ {n : Nat} {d : D}, selfy n d = true → fz d = d
  | _, .int _, _ => rfl
  | _, .non, _ => rfl
  | _, .bl _, _ => rfl
  | _, .str _, _ => rfl
  | 0, .nd o k xs, h => by simp [selfy] at h
  | n + 1, .nd true k xs, h => by cases k <;> simp [selfy] at h
  | n + 1, .nd false .lst xs, h => by
    simp only [selfy, Bool.and_eq_true, List.all_eq_true] at h
    simp only [fz, fzL_map]
    rw [show xs.map fz = xs from (List.map_congr_left (f := fz) (g := fun x => x) fun x hx => selfy_fz (h.1 x hx)).trans (List.map_id' xs)]
  | n + 1, .nd false .tup xs, h => by
    simp only [selfy, Bool.and_eq_true, List.all_eq_true] at h
    simp only [fz, fzL_map]
    rw [show xs.map fz = xs from (List.map_congr_left (f := fz) (g := fun x => x) fun x hx => selfy_fz (h.1 x hx)).trans (List.map_id' xs)]
  | 0, .scr _, h => by simp [selfy] at h
  | 0, .exn _ _ _, h => by simp [selfy] at h
  | n + 1, .scr _, h => by simp [selfy] at h
  | n + 1, .exn _ _ _, h => by simp [selfy] at h
  | n + 1, .nd false (.ins _ _) xs, h => by simp [selfy] at h
  | n + 1, .nd false (.dic _) xs, h => by simp [selfy] at h
/-! comprehensions -/
def kLc (vs : List Nat) (g : TGt) (t el : XG) (ds : List D) (e1 : Env) : XO := match runLc vs g t el ds [] (wipeE e1 vs) with
  | some (acc, e2) => .ok (.nd true .lst acc) (backE e1 e2 vs)
  | none => .bad
theorem xLc_ap {vs : List Nat} {src : AG} {g : TGt} {t el : XG} {e : Env} : xLc vs src g t el e = bAX (src e) (kLc vs g t el) := by
  unfold xLc bAX kLc
  cases src e <;> rfl
theorem runLc_map {vs : List Nat} {g : TGt} {t el : XG} (e : Env) (F : D → D) : ∀ (ds acc : List D), (∀ d ∈ ds, ∃ e1 e2 e3, g d e = some e1 ∧ t e1 = .ok (.bl true) e2 ∧ el e2 = .ok (F d) e3 ∧ wipeE e3 vs = e) → acc.length + ds.length ≤ LIM → runLc vs g t el ds acc e = some (acc ++ ds.map F, e)
  | [], acc, _, _ => by rw [runLc, List.map_nil, List.append_nil]
  | d :: ds, acc, h, hl => by
    obtain ⟨e1, e2, e3, h1, h2, h3, h4⟩ := h d List.mem_cons_self
    rw [List.length_cons] at hl
    have ih := runLc_map e F ds (acc ++ [F d]) (fun d' hd => h d' (List.mem_cons_of_mem _ hd)) (by rw [List.length_append, List.length_singleton]; omega)
    unfold runLc
    simp only [h1, h2, h3, h4, if_pos (show acc.length < LIM by omega), ih]
    rw [List.map_cons, List.append_assoc, List.singleton_append]
theorem kLc_map {vs : List Nat} {g : TGt} {t el : XG} {e1 : Env} (F : D → D) {ds : List D} (h : ∀ d ∈ ds, ∃ a b c, g d (wipeE e1 vs) = some a ∧ t a = .ok (.bl true) b ∧ el b = .ok (F d) c ∧ wipeE c vs = wipeE e1 vs) (hl : ds.length ≤ LIM) :
    kLc vs g t el ds e1 = .ok (.nd true .lst (ds.map F)) (backE e1 (wipeE e1 vs) vs) := by
  unfold kLc
  rw [runLc_map (wipeE e1 vs) F ds [] h (by simpa using hl)]
  rfl
theorem mulOk_b {a b : Int} (h : a.natAbs < 2 ^ 4000) (h2 : b.natAbs < 2 ^ 4000) : mulOk a b = true := by
  unfold mulOk
  rw [decide_eq_true h, decide_eq_true h2]
  simp
/-! slices -/
def kInt (d : D) (e : Env) : XO := match d with
  | .int i => .ok (.int i) e
  | _ => .bad
theorem xInt_ap {f : XG} {e : Env} : xInt f e = bX (f e) kInt := by
  unfold xInt bX kInt
  cases f e with
  | ok d e1 => cases d <;> rfl
  | exc => rfl
  | bad => rfl
def kSl2 (d : D) (i : Option Int) (b : D) (e3 : Env) : XO := match oPart b with
  | some j => (match listOf? (fz d) with
    | some xs => .ok (.nd true .lst (cutD xs i j)) e3
    | none => .bad)
  | none => .bad
def kSl1 (hi : XG) (d a : D) (e2 : Env) : XO := match oPart a with
  | some i => bX (hi e2) (kSl2 d i)
  | none => .bad
theorem xSl_ap {f lo hi : XG} {e : Env} : xSl f lo hi e = bX (f e) fun d e1 => bX (lo e1) (kSl1 hi d) := by
  unfold xSl bX
  cases f e with
  | ok d e1 =>
    dsimp only
    cases lo e1 with
    | ok a e2 =>
      dsimp only
      unfold kSl1 bX kSl2
      cases oPart a with
      | none => rfl
      | some i => first | rfl | (dsimp only; cases hi e2 <;> rfl)
    | exc => rfl
    | bad => rfl
  | exc => rfl
  | bad => rfl
theorem xRev_ap {f : XG} {e : Env} : xRev f e = bX (f e) fun d e1 => oX ((listOf? (fz d)).map fun xs => OL xs.reverse) e1 := x1_ap
end MV

set_option maxHeartbeats 4000000
set_option exponentiation.threshold 10000
namespace LW
open PySem PySem.Spec PyProof.Rows L2 MV
def topS (i : Nat) : Stmt := PySem.Challenge.pw_withinmoves_k34_numbers_of_nights.main.body.getD i (.Pass ⟨0, 0, 0, 0⟩)
abbrev s__law_purse : Stmt := topS 25
abbrev N__law_purse : List Str := ["script", "at", "cell", "size", "one"]
theorem sc__law_purse : FnScope N__law_purse ["script", "at"] (defScope s__law_purse) := ⟨rfl, rfl, rfl, by decide +kernel, rfl, by decide +kernel, by decide +kernel⟩
abbrev s__law_sums : Stmt := topS 28
abbrev N__law_sums : List Str := ["stacks", "orders", "found", "turn"]
theorem sc__law_sums : FnScope N__law_sums ["stacks", "orders"] (defScope s__law_sums) := ⟨rfl, rfl, rfl, by decide +kernel, rfl, by decide +kernel, by decide +kernel⟩
abbrev s__law_draw : Stmt := topS 26
abbrev N__law_draw : List Str := ["purse", "many", "found"]
theorem sc__law_draw : FnScope N__law_draw ["purse", "many"] (defScope s__law_draw) := ⟨rfl, rfl, rfl, by decide +kernel, rfl, by decide +kernel, by decide +kernel⟩
abbrev s__law_size : Stmt := topS 29
abbrev N__law_size : List Str := ["purse", "most", "size"]
theorem sc__law_size : FnScope N__law_size ["purse", "most"] (defScope s__law_size) := ⟨rfl, rfl, rfl, by decide +kernel, rfl, by decide +kernel, by decide +kernel⟩
abbrev s_check_most : Stmt := topS 10
abbrev N_check_most : List Str := ["what", "number", "most"]
theorem sc_check_most : FnScope N_check_most ["what", "number", "most"] (defScope s_check_most) := ⟨rfl, rfl, rfl, by decide +kernel, rfl, by decide +kernel, by decide +kernel⟩
abbrev s_check_bounds : Stmt := topS 15
abbrev N_check_bounds : List Str := ["stacks", "m", "orders", "number"]
theorem sc_check_bounds : FnScope N_check_bounds ["stacks", "m", "orders", "number"] (defScope s_check_bounds) := ⟨rfl, rfl, rfl, by decide +kernel, rfl, by decide +kernel, by decide +kernel⟩
abbrev s_check_days : Stmt := topS 14
abbrev N_check_days : List Str := ["m", "orders", "what", "number"]
theorem sc_check_days : FnScope N_check_days ["m", "orders", "what", "number"] (defScope s_check_days) := ⟨rfl, rfl, rfl, by decide +kernel, rfl, by decide +kernel, by decide +kernel⟩
abbrev s_check_numbers : Stmt := topS 16
abbrev N_check_numbers : List Str := ["stacks", "m", "orders", "what", "number"]
theorem sc_check_numbers : FnScope N_check_numbers ["stacks", "m", "orders", "what", "number"] (defScope s_check_numbers) := ⟨rfl, rfl, rfl, by decide +kernel, rfl, by decide +kernel, by decide +kernel⟩
abbrev s_powers : Stmt := topS 13
abbrev N_powers : List Str := ["others", "many", "found", "summand", "turn"]
theorem sc_powers : FnScope N_powers ["others", "many"] (defScope s_powers) := ⟨rfl, rfl, rfl, by decide +kernel, rfl, by decide +kernel, by decide +kernel⟩
abbrev s_nights_worth : Stmt := topS 17
abbrev N_nights_worth : List Str := ["stacks", "m", "orders", "free", "by_nights", "by_days"]
theorem sc_nights_worth : FnScope N_nights_worth ["stacks", "m", "orders", "free"] (defScope s_nights_worth) := ⟨rfl, rfl, rfl, by decide +kernel, rfl, by decide +kernel, by decide +kernel⟩
abbrev s__law_matches : Stmt := topS 27
abbrev N__law_matches : List Str := ["answer", "due", "at"]
theorem sc__law_matches : FnScope N__law_matches ["answer", "due"] (defScope s__law_matches) := ⟨rfl, rfl, rfl, by decide +kernel, rfl, by decide +kernel, by decide +kernel⟩
abbrev s_night_need : Stmt := topS 18
abbrev N_night_need : List Str := ["stacks", "orders", "xi"]
theorem sc_night_need : FnScope N_night_need ["stacks", "orders", "xi"] (defScope s_night_need) := ⟨rfl, rfl, rfl, by decide +kernel, rfl, by decide +kernel, by decide +kernel⟩
abbrev s_caps_of : Stmt := topS 19
abbrev N_caps_of : List Str := ["stacks", "m", "orders", "xi", "place"]
theorem sc_caps_of : FnScope N_caps_of ["stacks", "m", "orders", "xi"] (defScope s_caps_of) := ⟨rfl, rfl, rfl, by decide +kernel, rfl, by decide +kernel, by decide +kernel⟩
abbrev s_night_caps : Stmt := topS 20
abbrev N_night_caps : List Str := ["stacks", "m", "orders", "xi"]
theorem sc_night_caps : FnScope N_night_caps ["stacks", "m", "orders", "xi"] (defScope s_night_caps) := ⟨rfl, rfl, rfl, by decide +kernel, rfl, by decide +kernel, by decide +kernel⟩
abbrev s__law_numbers_right : Stmt := topS 30
abbrev N__law_numbers_right : List Str := ["purse", "stacks", "orders", "sums", "by_night", "by_day", "xi", "m", "free", "bought", "one"]
theorem sc__law_numbers_right : FnScope N__law_numbers_right ["purse"] (defScope s__law_numbers_right) := ⟨rfl, rfl, rfl, by decide +kernel, rfl, by decide +kernel, by decide +kernel⟩
abbrev s__law_pick : Stmt := topS 24
abbrev N__law_pick : List Str := ["purse", "things"]
theorem sc__law_pick : FnScope N__law_pick ["purse", "things"] (defScope s__law_pick) := ⟨rfl, rfl, rfl, by decide +kernel, rfl, by decide +kernel, by decide +kernel⟩
abbrev s__law_due : Stmt := topS 31
abbrev N__law_due : List Str := ["stacks", "m", "orders", "what", "last"]
theorem sc__law_due : FnScope N__law_due ["stacks", "m", "orders", "what", "last"] (defScope s__law_due) := ⟨rfl, rfl, rfl, by decide +kernel, rfl, by decide +kernel, by decide +kernel⟩
abbrev s__law_error_word : Stmt := topS 22
abbrev N__law_error_word : List Str := ["e", "words"]
theorem sc__law_error_word : FnScope N__law_error_word ["e"] (defScope s__law_error_word) := ⟨rfl, rfl, rfl, by decide +kernel, rfl, by decide +kernel, by decide +kernel⟩
abbrev s__law_wrong_right : Stmt := topS 32
abbrev N__law_wrong_right : List Str := ["purse", "stacks", "m", "orders", "last", "due"]
theorem sc__law_wrong_right : FnScope N__law_wrong_right ["purse"] (defScope s__law_wrong_right) := ⟨rfl, rfl, rfl, by decide +kernel, rfl, by decide +kernel, by decide +kernel⟩
abbrev s_law : Stmt := topS 33
abbrev N_law : List Str := ["script", "purse", "turn"]
theorem sc_law : FnScope N_law ["script"] (defScope s_law) := ⟨rfl, rfl, rfl, by decide +kernel, rfl, by decide +kernel, by decide +kernel⟩
abbrev s__law_error : Stmt := topS 23
abbrev N__law_error : List Str := ["deed", "found", "e"]
theorem sc__law_error : FnScope N__law_error ["deed"] (defScope s__law_error) := ⟨rfl, rfl, rfl, by decide +kernel, rfl, by decide +kernel, by decide +kernel⟩
abbrev si_TooMany : Stmt := clsAt (topS 2) 0
theorem sci_TooMany : FnScope ["self", "what"] ["self", "what"] (defScope si_TooMany) := ⟨rfl, rfl, rfl, by decide +kernel, rfl, by decide +kernel, by decide +kernel⟩
abbrev si_BadRoom : Stmt := clsAt (topS 3) 0
theorem sci_BadRoom : FnScope ["self", "what"] ["self", "what"] (defScope si_BadRoom) := ⟨rfl, rfl, rfl, by decide +kernel, rfl, by decide +kernel, by decide +kernel⟩
abbrev si_BadCourse : Stmt := clsAt (topS 4) 0
theorem sci_BadCourse : FnScope ["self", "what"] ["self", "what"] (defScope si_BadCourse) := ⟨rfl, rfl, rfl, by decide +kernel, rfl, by decide +kernel, by decide +kernel⟩
abbrev si_BadNumbers : Stmt := clsAt (topS 5) 0
theorem sci_BadNumbers : FnScope ["self", "what"] ["self", "what"] (defScope si_BadNumbers) := ⟨rfl, rfl, rfl, by decide +kernel, rfl, by decide +kernel, by decide +kernel⟩
def k_DAYS : Int := 40
def k_FREE : Int := 1000000000000000000000000000000
def k_NIGHT_MOVES : Int := 1000000000000000000000000000000
def k_STACKS : Int := 8
def isc_BadCourse : Nat → Option Bool
  | 0 => some false
  | 1 => some false
  | 2 => some true
  | 3 => some false
  | _ => none
def isc_BadNumbers : Nat → Option Bool
  | 0 => some false
  | 1 => some false
  | 2 => some false
  | 3 => some true
  | _ => none
def isc_BadRoom : Nat → Option Bool
  | 0 => some false
  | 1 => some true
  | 2 => some false
  | 3 => some false
  | _ => none
def isc_TooMany : Nat → Option Bool
  | 0 => some true
  | 1 => some false
  | 2 => some false
  | 3 => some false
  | _ => none
def isM : Nat → Option Bool
  | 0 => some true
  | 1 => some true
  | 2 => some true
  | 3 => some true
  | _ => none
def okx_what (c : Nat) : Bool := c == 0 || c == 1 || c == 2 || c == 3
def b__law_purse : SG :=
    (sSeq (sAsg (xBor [true, true, false, false, true] (xIf (xBor [true, true] (x2 oLt (xVar 1) (xN fLen (aCons (xVar 0) aNil)))) (xN fInt (aCons (x2 oIx (xVar 0) (xVar 1)) aNil)) (x2 oMul (xC (.int 31)) (xN fSumI (aCons (xLc [4] (iL (xBor [true] (xSl (xVar 0) (xC .non) (xInt (xC (.int 4)))))) (gNm 4) (xC (.bl true)) (xBor [false, false, false, false, true] (xN fInt (aCons (xVar 4) aNil)))) aNil))))) (gNm 2))
    (sSeq (sAsg (xBor [false, false, true] (x2 oAdd (x2 oMul (xC (.int 2)) (xN fAbs (aCons (xVar 2) aNil))) (xIf (xBor [false, false, true] (x2 oLt (xVar 2) (xC (.int 0)))) (xC (.int 1)) (xC (.int 0))))) (gNm 3))
    (sRt (xBor [false, true, false, true] (xDsp .lst (aCons (xIf (xBor [false, false, false, true] (x2 oGe (xVar 3) (x2 oPow (xC (.int 10)) (xC (.int 18))))) (xVar 3) (xC (.int 0))) (aCons (x2 oMod (xN fInt (aCons (x2 oAdd (x2 oAdd (xVar 3) (x2 oMul (xVar 1) (xC (.int 104729)))) (xC (.int 12345))) aNil)) (xC (.int 2147483629))) (aCons (xVar 1) aNil))))))))
def f__law_purse : DF := runB 5 false b__law_purse
def b__law_sums : SG :=
    (sSeq (sAsg (xDsp .lst (aCons (xC (.int 0)) aNil)) (gNm 2))
    (sSeq (sFor (iRg rg1 (aCons (xVar 1) aNil)) (gNm 3)
    (sDrop (xApp 2 (xBor [true, false, true, true] (x2 oAdd (x2 oMul (x2 oIx (xVar 2) (xVar 3)) (x2 oSub (xVar 0) (xC (.int 1)))) (xC (.int 1)))))))
    (sRt (xMove 2))))
def f__law_sums : DF := runB 4 false b__law_sums
def b__law_draw : SG :=
    (sSeq (sIf (xBor [true] (x2 oGt (x2 oIx (xVar 0) (xC (.int 0))) (xC (.int 0))))
    (sSeq (sAsg (xBor [true, true] (x2 oMod (xN fInt (aCons (x2 oIx (xVar 0) (xC (.int 0))) aNil)) (xVar 1))) (gNm 2))
    (sSeq (sSet 0 (xBor [true, true] (x2 oDiv (x2 oIx (xVar 0) (xC (.int 0))) (xVar 1))) (xC (.int 0)))
    (sRt (xMove 2))))
    sNx)
    (sSeq (sAugIx 0 oAddI (xC (.int 2)) (xC (.int 1)))
    (sSeq (sSet 0 (xBor [true] (x2 oMod (xN fInt (aCons (x2 oAdd (x2 oMul (x2 oIx (xVar 0) (xC (.int 1))) (xC (.int 48271))) (x2 oMul (x2 oIx (xVar 0) (xC (.int 2))) (xC (.int 69621)))) aNil)) (xC (.int 2147483647)))) (xC (.int 1)))
    (sRt (xBor [true, true] (x2 oMod (x2 oDiv (x2 oMod (xN fInt (aCons (x2 oAdd (x2 oMul (x2 oIx (xVar 0) (xC (.int 1))) (xC (.int 16807))) (x2 oMul (x2 oIx (xVar 0) (xC (.int 2))) (xC (.int 7919)))) aNil)) (xC (.int 2147483629))) (xC (.int 8))) (xVar 1)))))))
def f__law_draw : DF := runB 3 true b__law_draw
def b__law_size : SG :=
    (sSeq (sAsg (x2 oIx (xBor [false, true] (xDsp .lst (aCons (xC (.int 10)) (aCons (xC (.int 100)) (aCons (x2 oPow (xC (.int 10)) (xC (.int 9))) (aCons (xVar 1) aNil)))))) (xCallIO 0 2 f__law_draw (aCons (xC (.int 4)) aNil))) (gNm 2))
    (sRt (xIf (x2 oEq (xCallIO 0 2 f__law_draw (aCons (xC (.int 12)) aNil)) (xC (.int 0))) (xVar 1) (xCallIO 0 2 f__law_draw (aCons (xBor [false, false, true] (x2 oAdd (xVar 2) (xC (.int 1)))) aNil)))))
def f__law_size : DF := runB 3 true b__law_size
def b_check_most : SG :=
    (sIf (xBor [false, true, true] (x2 oGt (xVar 1) (xVar 2)))
    (sRaise 0 ["what"] (aCons (xVar 0) aNil))
    sNx)
def f_check_most : DF := runB 3 false b_check_most
def b_check_bounds : SG :=
    (sSeq (sDrop (xBor [true] (xCall 3 f_check_most (aCons (xC (.str "stacks")) (aCons (xVar 0) (aCons (xC (.int k_STACKS)) aNil))))))
    (sSeq (sDrop (xBor [false, true] (xCall 3 f_check_most (aCons (xC (.str "moves")) (aCons (xVar 1) (aCons (xC (.int k_NIGHT_MOVES)) aNil))))))
    (sSeq (sDrop (xBor [false, false, true] (xCall 3 f_check_most (aCons (xC (.str "days")) (aCons (xVar 2) (aCons (xC (.int k_DAYS)) aNil))))))
    (sDrop (xBor [false, false, false, true] (xCall 3 f_check_most (aCons (xC (.str "free")) (aCons (xVar 3) (aCons (xC (.int k_FREE)) aNil)))))))))
def f_check_bounds : DF := runB 4 false b_check_bounds
def b_check_days : SG :=
    (sSeq (sIf (xBor [true] (x2 oLt (xVar 0) (xC (.int 0))))
    (sRaise 1 ["what"] (aCons (xC (.str "many")) aNil))
    sNx)
    (sSeq (sIf (xBor [false, true] (x2 oLt (xVar 1) (xC (.int 1))))
    (sRaise 3 ["what"] (aCons (xC (.str "orders")) aNil))
    sNx)
    (sIf (xBor [false, false, false, true] (x2 oLt (xVar 3) (xC (.int 0))))
    (sRaise 3 ["what"] (aCons (xVar 2) aNil))
    sNx)))
def f_check_days : DF := runB 4 false b_check_days
def b_check_numbers : SG :=
    (sSeq (sDrop (xBor [true, true, true, false, true] (xCall 4 f_check_bounds (aCons (xVar 0) (aCons (xVar 1) (aCons (xVar 2) (aCons (xVar 4) aNil)))))))
    (sSeq (sIf (xBor [true] (x2 oLt (xVar 0) (xC (.int 2))))
    (sRaise 3 ["what"] (aCons (xC (.str "stacks")) aNil))
    sNx)
    (sDrop (xBor [false, true, true, true, true] (xCall 4 f_check_days (aCons (xVar 1) (aCons (xVar 2) (aCons (xVar 3) (aCons (xVar 4) aNil)))))))))
def f_check_numbers : DF := runB 5 false b_check_numbers
def b_powers : SG :=
    (sSeq (sAsg (xC (.int 0)) (gNm 2))
    (sSeq (sAsg (xC (.int 1)) (gNm 3))
    (sSeq (sFor (iRg rg1 (aCons (xVar 1) aNil)) (gNm 4)
    (sSeq (sAug 2 oAddI (xVar 3))
    (sAsg (xBor [true, false, false, true] (x2 oMul (xVar 3) (xVar 0))) (gNm 3))))
    (sRt (xMove 2)))))
def f_powers : DF := runB 5 false b_powers
def b_nights_worth : SG :=
    (sSeq (sDrop (xBor [true, true, true, true] (xCall 5 f_check_numbers (aCons (xVar 0) (aCons (xVar 1) (aCons (xVar 2) (aCons (xC (.str "free")) (aCons (xVar 3) aNil))))))))
    (sSeq (sAsg (xBor [true, false, true, true] (x2 oDiv (xVar 3) (xCall 2 f_powers (aCons (x2 oSub (xVar 0) (xC (.int 1))) (aCons (xVar 2) aNil))))) (gNm 4))
    (sSeq (sAsg (xBor [true, true, true] (x2 oDiv (xVar 1) (x2 oAdd (xC (.int 1)) (x2 oMul (xVar 0) (xCall 2 f_powers (aCons (x2 oSub (xVar 0) (xC (.int 1))) (aCons (x2 oSub (xVar 2) (xC (.int 1))) aNil))))))) (gNm 5))
    (sRt (xBor [false, false, false, false, true, true] (xN fMinL (aCons (xVar 4) (aCons (xVar 5) aNil))))))))
def f_nights_worth : DF := runB 6 false b_nights_worth
def b__law_matches (self : DF) : SG :=
    (sSeq (sIf (xOr (xBor [false, true] (x2 oIsN (xVar 1) (xC .non))) (xBor [true] (x2 oIsN (xVar 0) (xC .non))))
    (sRt (xBor [true, true] (xIf (x2 oIsN (xVar 1) (xC .non)) (x2 oIsN (xVar 0) (xC .non)) (xC (.bl false)))))
    sNx)
    (sSeq (sIf (xOr (xBor [false, true] (x1 (oIsi "bool") (xVar 1))) (xBor [true] (x1 (oIsi "bool") (xVar 0))))
    (sRt (xBor [true, true] (xIf (x1 (oIsi "bool") (xVar 1)) (xIf (x1 (oIsi "bool") (xVar 0)) (x2 oEq (xVar 0) (xVar 1)) (xC (.bl false))) (xC (.bl false)))))
    sNx)
    (sSeq (sIf (xBor [false, true] (x1 (oIsi "int") (xVar 1)))
    (sRt (xBor [true, true] (xIf (x1 (oIsi "int") (xVar 0)) (x2 oEq (xVar 0) (xVar 1)) (xC (.bl false)))))
    sNx)
    (sSeq (sIf (xBor [false, true] (x1 (oIsi "str") (xVar 1)))
    (sRt (xBor [true, true] (xIf (x1 (oIsi "str") (xVar 0)) (x2 oEq (xVar 0) (xVar 1)) (xC (.bl false)))))
    sNx)
    (sSeq (sIf (xAnd (xBor [false, true] (x1 (oIsi "tuple") (xVar 1))) (x1 bNot (xBor [true] (x1 (oIsi "tuple") (xVar 0)))))
    (sRt (xC (.bl false)))
    sNx)
    (sSeq (sIf (xAnd (xBor [false, true] (x1 (oIsi "list") (xVar 1))) (x1 bNot (xBor [true] (x1 (oIsi "list") (xVar 0)))))
    (sRt (xC (.bl false)))
    sNx)
    (sSeq (sIf (xBor [true, true] (x2 oNe (xN fLen (aCons (xVar 0) aNil)) (xN fLen (aCons (xVar 1) aNil))))
    (sRt (xC (.bl false)))
    sNx)
    (sSeq (sFor (iRg rg1 (aCons (xBor [false, true] (xN fLen (aCons (xVar 1) aNil))) aNil)) (gNm 2)
    (sIf (x1 bNot (xBor [true, true, true] (xCall 2 self (aCons (x2 oIx (xVar 0) (xVar 2)) (aCons (x2 oIx (xVar 1) (xVar 2)) aNil)))))
    (sRt (xC (.bl false)))
    sNx))
    (sRt (xC (.bl true)))))))))))
def f__law_matches : Nat → DF
  | 0 => fun _ => .bad
  | n + 1 => runB 3 false (b__law_matches (f__law_matches n))
def b_night_need : SG :=
    (sSeq (sDrop (xBor [true, true, true] (xCall 5 f_check_numbers (aCons (xVar 0) (aCons (xC (.int 0)) (aCons (xVar 1) (aCons (xC (.str "xi")) (aCons (xVar 2) aNil))))))))
    (sRt (xBor [true, true, true] (xDsp .tup (aCons (x2 oMul (xVar 2) (xCall 2 f_powers (aCons (x2 oSub (xVar 0) (xC (.int 1))) (aCons (xVar 1) aNil)))) (aCons (x2 oMul (xVar 2) (x2 oAdd (xC (.int 1)) (x2 oMul (xVar 0) (xCall 2 f_powers (aCons (x2 oSub (xVar 0) (xC (.int 1))) (aCons (x2 oSub (xVar 1) (xC (.int 1))) aNil)))))) aNil))))))
def f_night_need : DF := runB 3 false b_night_need
def b_caps_of : SG :=
    (sRt (xBor [true, true, true, true, true] (xLc [4] (iRg rg2 (aCons (xC (.int 1)) (aCons (xBor [false, false, true] (x2 oAdd (xVar 2) (xC (.int 1)))) aNil))) (gNm 4) (xC (.bl true)) (xBor [true, true, true, true, true] (x2 oSub (xVar 1) (x2 oMul (xVar 3) (xCall 2 f_powers (aCons (x2 oSub (xVar 0) (xC (.int 1))) (aCons (x2 oSub (xVar 2) (xVar 4)) aNil)))))))))
def f_caps_of : DF := runB 5 false b_caps_of
def b_night_caps : SG :=
    (sSeq (sDrop (xBor [true, true, true, true] (xCall 5 f_check_numbers (aCons (xVar 0) (aCons (xVar 1) (aCons (xVar 2) (aCons (xC (.str "xi")) (aCons (xVar 3) aNil))))))))
    (sRt (xBor [true, true, true, true] (xCall 4 f_caps_of (aCons (xVar 0) (aCons (xVar 1) (aCons (xVar 2) (aCons (xVar 3) aNil))))))))
def f_night_caps : DF := runB 4 false b_night_caps
def b__law_numbers_right : SG :=
    (sSeq (sAsg (x2 oAdd (xC (.int 2)) (xCallIO 0 2 f__law_draw (aCons (xC (.int 7)) aNil))) (gNm 1))
    (sSeq (sAsg (x2 oAdd (xC (.int 1)) (xCallIO 0 2 f__law_draw (aCons (x2 oIx (xDsp .lst (aCons (xC (.int 3)) (aCons (xC (.int 3)) (aCons (xC (.int 40)) aNil)))) (xCallIO 0 2 f__law_draw (aCons (xC (.int 3)) aNil))) aNil))) (gNm 2))
    (sSeq (sAsg (xBor [false, true, true] (xCall 2 f__law_sums (aCons (xVar 1) (aCons (xVar 2) aNil)))) (gNm 3))
    (sSeq (sAsg (xBor [false, false, true, true] (x2 oIx (xVar 3) (xVar 2))) (gNm 4))
    (sSeq (sAsg (xBor [false, true, true, true] (x2 oAdd (xC (.int 1)) (x2 oMul (xVar 1) (x2 oIx (xVar 3) (x2 oSub (xVar 2) (xC (.int 1))))))) (gNm 5))
    (sSeq (sAsg (xCallIO 0 2 f__law_size (aCons (x2 oPow (xC (.int 10)) (xC (.int 30))) aNil)) (gNm 6))
    (sSeq (sIf (x1 bNot (xBor [false, true, true, false, true, true, true] (xCall 2 (f__law_matches 4) (aCons (xCall 3 f_night_need (aCons (xVar 1) (aCons (xVar 2) (aCons (xVar 6) aNil)))) (aCons (xDsp .tup (aCons (x2 oMul (xVar 6) (xVar 4)) (aCons (x2 oMul (xVar 6) (xVar 5)) aNil))) aNil)))))
    (sRt (xC (.bl false)))
    sNx)
    (sSeq (sAsg (xCallIO 0 2 f__law_size (aCons (x2 oPow (xC (.int 10)) (xC (.int 30))) aNil)) (gNm 7))
    (sSeq (sIf (x1 bNot (xBor [false, true, true, true, false, false, true, true, false, false, true] (xCall 2 (f__law_matches 4) (aCons (xCall 4 f_night_caps (aCons (xVar 1) (aCons (xVar 7) (aCons (xVar 2) (aCons (xVar 6) aNil))))) (aCons (xLc [10] (iL (xBor [false, false, true, true] (xRev (xSl (xVar 3) (xC .non) (xInt (xVar 2)))))) (gNm 10) (xC (.bl true)) (xBor [false, false, false, false, false, false, true, true, false, false, true] (x2 oSub (xVar 7) (x2 oMul (xVar 6) (xVar 10))))) aNil)))))
    (sRt (xC (.bl false)))
    sNx)
    (sSeq (sAsg (xCallIO 0 2 f__law_size (aCons (x2 oPow (xC (.int 10)) (xC (.int 30))) aNil)) (gNm 8))
    (sSeq (sIf (xAnd (x2 oEq (xCallIO 0 2 f__law_draw (aCons (xC (.int 3)) aNil)) (xC (.int 0))) (xBor [false, false, false, false, true] (x2 oLt (xVar 4) (x2 oPow (xC (.int 10)) (xC (.int 28))))))
    (sAsg (x2 oAdd (x2 oSub (x2 oMul (xVar 4) (xCallIO 0 2 f__law_draw (aCons (xC (.int 60)) aNil))) (xCallIO 0 2 f__law_draw (aCons (xC (.int 2)) aNil))) (xC (.int 1))) (gNm 8))
    sNx)
    (sSeq (sIf (xAnd (x2 oEq (xCallIO 0 2 f__law_draw (aCons (xC (.int 3)) aNil)) (xC (.int 0))) (xBor [false, false, false, false, false, true] (x2 oLt (xVar 5) (x2 oPow (xC (.int 10)) (xC (.int 28))))))
    (sAsg (x2 oAdd (x2 oSub (x2 oMul (xVar 5) (xCallIO 0 2 f__law_draw (aCons (xC (.int 60)) aNil))) (xCallIO 0 2 f__law_draw (aCons (xC (.int 2)) aNil))) (xC (.int 1))) (gNm 7))
    sNx)
    (sSeq (sAsg (xBor [false, true, true, false, false, false, false, true, true] (xCall 4 f_nights_worth (aCons (xVar 1) (aCons (xVar 7) (aCons (xVar 2) (aCons (xVar 8) aNil)))))) (gNm 9))
    (sSeq (sIf (xOr (x1 bNot (xBor [false, false, false, false, false, false, false, false, false, true] (x1 (oIsi "int") (xVar 9)))) (xOr (xBor [false, false, false, false, false, false, false, false, false, true] (x1 (oIsi "bool") (xVar 9))) (xBor [false, false, false, false, false, false, false, false, false, true] (x2 oLt (xVar 9) (xC (.int 0))))))
    (sRt (xC (.bl false)))
    sNx)
    (sSeq (sIf (xOr (xBor [false, false, false, false, true, false, false, false, true, true] (x2 oGt (x2 oMul (xVar 9) (xVar 4)) (xVar 8))) (xBor [false, false, false, false, false, true, false, true, false, true] (x2 oGt (x2 oMul (xVar 9) (xVar 5)) (xVar 7))))
    (sRt (xC (.bl false)))
    sNx)
    (sRt (xBor [false, false, false, false, true, true, false, true, true, true] (xIf (x2 oGt (x2 oMul (x2 oAdd (xVar 9) (xC (.int 1))) (xVar 4)) (xVar 8)) (xC (.bl true)) (x2 oGt (x2 oMul (x2 oAdd (xVar 9) (xC (.int 1))) (xVar 5)) (xVar 7))))))))))))))))))))
def f__law_numbers_right : DF := runB 11 true b__law_numbers_right
def b__law_pick : SG :=
    (sRt (x2 oIx (xVar 1) (xCallIO 0 2 f__law_draw (aCons (xBor [false, true] (xN fLen (aCons (xVar 1) aNil))) aNil))))
def f__law_pick : DF := runB 2 true b__law_pick
def b__law_due : SG :=
    (sSeq (sIf (xBor [true] (x2 oGt (xVar 0) (xC (.int 8))))
    (sRt (xDsp .tup (aCons (xC (.str "many")) (aCons (xC (.str "stacks")) aNil))))
    sNx)
    (sSeq (sIf (xBor [false, true] (x2 oGt (xVar 1) (x2 oPow (xC (.int 10)) (xC (.int 30)))))
    (sRt (xDsp .tup (aCons (xC (.str "many")) (aCons (xC (.str "moves")) aNil))))
    sNx)
    (sSeq (sIf (xBor [false, false, true] (x2 oGt (xVar 2) (xC (.int 40))))
    (sRt (xDsp .tup (aCons (xC (.str "many")) (aCons (xC (.str "days")) aNil))))
    sNx)
    (sSeq (sIf (xBor [false, false, false, false, true] (x2 oGt (xVar 4) (x2 oPow (xC (.int 10)) (xC (.int 30)))))
    (sRt (xDsp .tup (aCons (xC (.str "many")) (aCons (xC (.str "free")) aNil))))
    sNx)
    (sSeq (sIf (xBor [true] (x2 oLt (xVar 0) (xC (.int 2))))
    (sRt (xDsp .tup (aCons (xC (.str "numbers")) (aCons (xC (.str "stacks")) aNil))))
    sNx)
    (sSeq (sIf (xBor [false, true] (x2 oLt (xVar 1) (xC (.int 0))))
    (sRt (xDsp .tup (aCons (xC (.str "room")) (aCons (xC (.str "many")) aNil))))
    sNx)
    (sSeq (sIf (xBor [false, false, true] (x2 oLt (xVar 2) (xC (.int 1))))
    (sRt (xDsp .tup (aCons (xC (.str "numbers")) (aCons (xC (.str "orders")) aNil))))
    sNx)
    (sSeq (sIf (xBor [false, false, false, false, true] (x2 oLt (xVar 4) (xC (.int 0))))
    (sRt (xBor [false, false, false, true] (xDsp .tup (aCons (xC (.str "numbers")) (aCons (xVar 3) aNil)))))
    sNx)
    (sRt (xDsp .tup (aCons (xC (.str "none")) aNil)))))))))))
def f__law_due : DF := runB 5 false b__law_due
def b__law_error_word : SG :=
    (sSeq (sAsg (xDsp .lst aNil) (gNm 1))
    (sSeq (sIf (xBor [true] (x1 (oIsE isc_TooMany) (xVar 0)))
    (sDrop (xApp 1 (xC (.str "many"))))
    sNx)
    (sSeq (sIf (xBor [true] (x1 (oIsE isc_BadRoom) (xVar 0)))
    (sDrop (xApp 1 (xC (.str "room"))))
    sNx)
    (sSeq (sIf (xBor [true] (x1 (oIsE isc_BadNumbers) (xVar 0)))
    (sDrop (xApp 1 (xC (.str "numbers"))))
    sNx)
    (sSeq (sIf (xBor [true] (x1 (oIsE isc_BadCourse) (xVar 0)))
    (sDrop (xApp 1 (xC (.str "course"))))
    sNx)
    (sSeq (sIf (xBor [false, true] (x2 oNe (xN fLen (aCons (xVar 1) aNil)) (xC (.int 1))))
    (sRt (xDsp .tup (aCons (xC (.str "other")) aNil)))
    sNx)
    (sRt (xBor [true, true] (xDsp .tup (aCons (x2 oIx (xVar 1) (xC (.int 0))) (aCons (x1 (oFld okx_what "what") (xVar 0)) aNil)))))))))))
def f__law_error_word : DF := runB 2 false b__law_error_word
def b__law_wrong_right : SG :=
    (sSeq (sAsg (xCallIO 0 2 f__law_pick (aCons (xDsp .lst (aCons (xC (.int 2)) (aCons (xC (.int 2)) (aCons (xC (.int 5)) (aCons (xC (.int 8)) (aCons (xC (.int 9)) (aCons (xC (.int 1)) (aCons (xC (.int 0)) (aCons (x1 oNeg (xC (.int 3))) aNil))))))))) aNil)) (gNm 1))
    (sSeq (sAsg (xCallIO 0 2 f__law_pick (aCons (xDsp .lst (aCons (xC (.int 0)) (aCons (xC (.int 7)) (aCons (xC (.int 7)) (aCons (x2 oPow (xC (.int 10)) (xC (.int 30))) (aCons (x2 oAdd (x2 oPow (xC (.int 10)) (xC (.int 30))) (xC (.int 1))) (aCons (x1 oNeg (xC (.int 1))) aNil))))))) aNil)) (gNm 2))
    (sSeq (sAsg (xCallIO 0 2 f__law_pick (aCons (xDsp .lst (aCons (xC (.int 1)) (aCons (xC (.int 1)) (aCons (xC (.int 4)) (aCons (xC (.int 40)) (aCons (xC (.int 41)) (aCons (xC (.int 0)) (aCons (x1 oNeg (xC (.int 1))) aNil)))))))) aNil)) (gNm 3))
    (sSeq (sAsg (xCallIO 0 2 f__law_pick (aCons (xDsp .lst (aCons (xC (.int 0)) (aCons (xC (.int 5)) (aCons (xC (.int 5)) (aCons (x2 oPow (xC (.int 10)) (xC (.int 30))) (aCons (x2 oAdd (x2 oPow (xC (.int 10)) (xC (.int 30))) (xC (.int 1))) (aCons (x1 oNeg (xC (.int 1))) aNil))))))) aNil)) (gNm 4))
    (sSeq (sAsg (xBor [false, true, true, true, true] (xCall 5 f__law_due (aCons (xVar 1) (aCons (xVar 2) (aCons (xVar 3) (aCons (xC (.str "free")) (aCons (xVar 4) aNil))))))) (gNm 5))
    (sSeq (sIf (x1 bNot (xBor [false, true, true, true, true, true] (xCall 2 (f__law_matches 4) (aCons (fun e => errO f__law_error_word isM ((xBor [false, true, true, true, true] (xCall 4 f_nights_worth (aCons (xVar 1) (aCons (xVar 2) (aCons (xVar 3) (aCons (xVar 4) aNil)))))) e)) (aCons (xVar 5) aNil)))))
    (sRt (xC (.bl false)))
    sNx)
    (sSeq (sAsg (xBor [false, true, true, true, true] (xCall 5 f__law_due (aCons (xVar 1) (aCons (xVar 2) (aCons (xVar 3) (aCons (xC (.str "xi")) (aCons (xVar 4) aNil))))))) (gNm 5))
    (sSeq (sIf (x1 bNot (xBor [false, true, true, true, true, true] (xCall 2 (f__law_matches 4) (aCons (fun e => errO f__law_error_word isM ((xBor [false, true, true, true, true] (xCall 4 f_night_caps (aCons (xVar 1) (aCons (xVar 2) (aCons (xVar 3) (aCons (xVar 4) aNil)))))) e)) (aCons (xVar 5) aNil)))))
    (sRt (xC (.bl false)))
    sNx)
    (sSeq (sAsg (xBor [false, true, false, true, true] (xCall 5 f__law_due (aCons (xVar 1) (aCons (xC (.int 0)) (aCons (xVar 3) (aCons (xC (.str "xi")) (aCons (xVar 4) aNil))))))) (gNm 5))
    (sRt (xBor [false, true, false, true, true, true] (xCall 2 (f__law_matches 4) (aCons (fun e => errO f__law_error_word isM ((xBor [false, true, false, true, true] (xCall 3 f_night_need (aCons (xVar 1) (aCons (xVar 3) (aCons (xVar 4) aNil))))) e)) (aCons (xVar 5) aNil))))))))))))))
def f__law_wrong_right : DF := runB 6 true b__law_wrong_right
def b_law : SG :=
    (sSeq (sAsg (xBor [true] (xCall 2 f__law_purse (aCons (xVar 0) (aCons (xC (.int 0)) aNil)))) (gNm 1))
    (sSeq (sFor (iRg rg1 (aCons (xC (.int 12)) aNil)) (gNm 2)
    (sIf (x1 bNot (xCallIO 1 1 f__law_numbers_right aNil))
    (sRt (xC (.bl false)))
    sNx))
    (sSeq (sAsg (xBor [true] (xCall 2 f__law_purse (aCons (xVar 0) (aCons (xC (.int 1)) aNil)))) (gNm 1))
    (sSeq (sFor (iRg rg1 (aCons (xC (.int 16)) aNil)) (gNm 2)
    (sIf (x1 bNot (xCallIO 1 1 f__law_wrong_right aNil))
    (sRt (xC (.bl false)))
    sNx))
    (sRt (xC (.bl true)))))))
def f_law : DF := runB 3 false b_law

abbrev pz (a b c : Int) : D := .nd true .lst [.int a, .int b, .int c]
theorem draw_ev (a b c m : Int) (hm : 0 < m) (hs : m.natAbs < 2 ^ 4000) : ∃ r a' b' c', f__law_draw [pz a b c, .int m] = .ok (.int r) (pz a' b' c') ∧ 0 ≤ r ∧ r < m := by
  have nl : 0 ≤ (a % m) ∧ a % m < m := ⟨Int.emod_nonneg _ (by omega), Int.emod_lt_of_pos _ hm⟩
  by_cases ha : 0 < a
  · refine ⟨a % m, a / m, b, c, ?_, nl.1, nl.2⟩
    unfold f__law_draw b__law_draw
    simp [runB_ap, sSeq_ap, sIf_ap, sAsg_ap, sDrop_ap, sRt_ap, sNx_ap, sBk_ap, sCt_ap, sRtN_ap, sFor_ap, sRaise_ap, sSet_ap, kSet, kSet2, xLc_ap, xInt_ap, kInt, xSl_ap, kSl1, kSl2, oPart, xRev_ap, listOf?, xCallIO_ap, kIO0, kIO, foXi_ok, xApp_ap, kApp0, kApp, isi_ib, isi_ii, isi_is, isi_sb, isi_si, isi_ss, isi_bb, isi_lb, isi_li, isi_ls, isi_lt, isi_ll, isi_tb, isi_ti, isi_ts, isi_tt, isi_tl, isN_n, isN_i, isN_s, isN_b, isN_d, sAug_ap, kAsg0, kAsg, sAugIx_k, kAug0, kAug1, kAug, oAddI_i, oSubI_i, xBor_ap, view, fzS, x2_ap, x1_ap, xN_ap, xC_ap, xVar_ap, xMove_ap, xIf_ap, xAnd_ap, xOr_ap, xDsp_ap,
    aCons_ap, aNil_ap, iRg_ap, iL_ap, xCall_ap, foX_ok, foX_exc, foX_ite, bX_ok, bX_exc, bX_ite, bXS_ok, bXS_exc, bXS_ite, bXA_ok, bXA_exc, bAX_ok, bAX_exc, bAA_ok, bAA_exc, bAS_ok, bAS_exc, bSS_nx, bSS_rt, bSS_bk, bSS_ct, bSS_exc, bSS_ite,
    oX_some, oA_some, oS_some, kIfX_t, kIfX_f, kIfX_d, kIfS_t, kIfS_f, kIfS_d, kIfS_n, borK_int, borK_bl, borK_str, borK_non, borK_exc, borK_ite, gNm_ap, fz, fzL, fzL_map, cl, clL,
    endB_nx, endB_rt, endB_exc, endB_ite, endB_io_rt, endB_io_nx, oAdd_i, oSub_i, oLt_i, oLe_i, oGt_i, oGe_i, oEq_i, oNe_i, oIx_l, oIx_t, ixN_lit, fInt, fAbs, fLen, itemsOf, oNeg, bNot, isS, sh, ha, oMod_i, oDiv_i, hm, hs]
  · refine ⟨((b * 48271 + (c + 1) * 69621) % 2147483647 * 16807 + (c + 1) * 7919) % 2147483629 / 8 % m, a, (b * 48271 + (c + 1) * 69621) % 2147483647, c + 1, ?_, Int.emod_nonneg _ (by omega), Int.emod_lt_of_pos _ hm⟩
    unfold f__law_draw b__law_draw
    simp [runB_ap, sSeq_ap, sIf_ap, sAsg_ap, sDrop_ap, sRt_ap, sNx_ap, sBk_ap, sCt_ap, sRtN_ap, sFor_ap, sRaise_ap, sSet_ap, kSet, kSet2, xLc_ap, xInt_ap, kInt, xSl_ap, kSl1, kSl2, oPart, xRev_ap, listOf?, xCallIO_ap, kIO0, kIO, foXi_ok, xApp_ap, kApp0, kApp, isi_ib, isi_ii, isi_is, isi_sb, isi_si, isi_ss, isi_bb, isi_lb, isi_li, isi_ls, isi_lt, isi_ll, isi_tb, isi_ti, isi_ts, isi_tt, isi_tl, isN_n, isN_i, isN_s, isN_b, isN_d, sAug_ap, kAsg0, kAsg, sAugIx_k, kAug0, kAug1, kAug, oAddI_i, oSubI_i, xBor_ap, view, fzS, x2_ap, x1_ap, xN_ap, xC_ap, xVar_ap, xMove_ap, xIf_ap, xAnd_ap, xOr_ap, xDsp_ap,
    aCons_ap, aNil_ap, iRg_ap, iL_ap, xCall_ap, foX_ok, foX_exc, foX_ite, bX_ok, bX_exc, bX_ite, bXS_ok, bXS_exc, bXS_ite, bXA_ok, bXA_exc, bAX_ok, bAX_exc, bAA_ok, bAA_exc, bAS_ok, bAS_exc, bSS_nx, bSS_rt, bSS_bk, bSS_ct, bSS_exc, bSS_ite,
    oX_some, oA_some, oS_some, kIfX_t, kIfX_f, kIfX_d, kIfS_t, kIfS_f, kIfS_d, kIfS_n, borK_int, borK_bl, borK_str, borK_non, borK_exc, borK_ite, gNm_ap, fz, fzL, fzL_map, cl, clL,
    endB_nx, endB_rt, endB_exc, endB_ite, endB_io_rt, endB_io_nx, oAdd_i, oSub_i, oLt_i, oLe_i, oGt_i, oGe_i, oEq_i, oNe_i, oIx_l, oIx_t, ixN_lit, fInt, fAbs, fLen, itemsOf, oNeg, bNot, isS, sh, ha, oMod_i, oDiv_i, hm, hs, oMul_i, mulOk_r]

def pw (o : Int) : Nat → Int
  | 0 => 0
  | n + 1 => pw o n + o ^ n
theorem powers_ev (o : Int) (n : Nat) (ho : o.natAbs < 2 ^ 64) (hn : n ≤ 1000) : f_powers [.int o, .int n] = .ok (.int (pw o n)) .non := by
  obtain ⟨e', h1, h2⟩ := runFor_rg (g := gNm 4) (b := (sSeq (sAug 2 oAddI (xVar 3)) (sAsg (xBor [true, false, false, true] (x2 oMul (xVar 3) (xVar 0))) (gNm 3)))) (lo := 0) (c := 1)
    (fun k e => ∃ x, e = [some (.int o), some (.int n), some (.int (pw o k)), some (.int (o ^ k)), x]) n [some (.int o), some (.int n), some (.int 0), some (.int 1), none] ⟨none, by simp [pw]⟩ (fun k e hk ⟨x, he⟩ => by
      subst he
      exact ⟨_, _, gNm_ap (by simp), Or.inl (by simp [runB_ap, sSeq_ap, sIf_ap, sAsg_ap, sDrop_ap, sRt_ap, sNx_ap, sBk_ap, sCt_ap, sRtN_ap, sFor_ap, sRaise_ap, sSet_ap, kSet, kSet2, xLc_ap, xInt_ap, kInt, xSl_ap, kSl1, kSl2, oPart, xRev_ap, listOf?, xCallIO_ap, kIO0, kIO, foXi_ok, xApp_ap, kApp0, kApp, isi_ib, isi_ii, isi_is, isi_sb, isi_si, isi_ss, isi_bb, isi_lb, isi_li, isi_ls, isi_lt, isi_ll, isi_tb, isi_ti, isi_ts, isi_tt, isi_tl, isN_n, isN_i, isN_s, isN_b, isN_d, sAug_ap, kAsg0, kAsg, sAugIx_k, kAug0, kAug1, kAug, oAddI_i, oSubI_i, xBor_ap, view, fzS, x2_ap, x1_ap, xN_ap, xC_ap, xVar_ap, xMove_ap, xIf_ap, xAnd_ap, xOr_ap, xDsp_ap,
    aCons_ap, aNil_ap, iRg_ap, iL_ap, xCall_ap, foX_ok, foX_exc, foX_ite, bX_ok, bX_exc, bX_ite, bXS_ok, bXS_exc, bXS_ite, bXA_ok, bXA_exc, bAX_ok, bAX_exc, bAA_ok, bAA_exc, bAS_ok, bAS_exc, bSS_nx, bSS_rt, bSS_bk, bSS_ct, bSS_exc, bSS_ite,
    oX_some, oA_some, oS_some, kIfX_t, kIfX_f, kIfX_d, kIfS_t, kIfS_f, kIfS_d, kIfS_n, borK_int, borK_bl, borK_str, borK_non, borK_exc, borK_ite, gNm_ap, fz, fzL, fzL_map, cl, clL,
    endB_nx, endB_rt, endB_exc, endB_ite, endB_io_rt, endB_io_nx, oAdd_i, oSub_i, oLt_i, oLe_i, oGt_i, oGe_i, oEq_i, oNe_i, oIx_l, oIx_t, ixN_lit, fInt, fAbs, fLen, itemsOf, oNeg, bNot, isS, sh, oMul_i, mulOk_r, ho]; rfl), ⟨_, by simp [pw, Int.pow_succ]; rfl⟩⟩)
  obtain ⟨x, rfl⟩ := h2
  have hs : small62 (n : Int) = true := by unfold small62; simp; omega
  unfold f_powers b_powers
  simp [runB_ap, sSeq_ap, sIf_ap, sAsg_ap, sDrop_ap, sRt_ap, sNx_ap, sBk_ap, sCt_ap, sRtN_ap, sFor_ap, sRaise_ap, sSet_ap, kSet, kSet2, xLc_ap, xInt_ap, kInt, xSl_ap, kSl1, kSl2, oPart, xRev_ap, listOf?, xCallIO_ap, kIO0, kIO, foXi_ok, xApp_ap, kApp0, kApp, isi_ib, isi_ii, isi_is, isi_sb, isi_si, isi_ss, isi_bb, isi_lb, isi_li, isi_ls, isi_lt, isi_ll, isi_tb, isi_ti, isi_ts, isi_tt, isi_tl, isN_n, isN_i, isN_s, isN_b, isN_d, sAug_ap, kAsg0, kAsg, sAugIx_k, kAug0, kAug1, kAug, oAddI_i, oSubI_i, xBor_ap, view, fzS, x2_ap, x1_ap, xN_ap, xC_ap, xVar_ap, xMove_ap, xIf_ap, xAnd_ap, xOr_ap, xDsp_ap,
    aCons_ap, aNil_ap, iRg_ap, iL_ap, xCall_ap, foX_ok, foX_exc, foX_ite, bX_ok, bX_exc, bX_ite, bXS_ok, bXS_exc, bXS_ite, bXA_ok, bXA_exc, bAX_ok, bAX_exc, bAA_ok, bAA_exc, bAS_ok, bAS_exc, bSS_nx, bSS_rt, bSS_bk, bSS_ct, bSS_exc, bSS_ite,
    oX_some, oA_some, oS_some, kIfX_t, kIfX_f, kIfX_d, kIfS_t, kIfS_f, kIfS_d, kIfS_n, borK_int, borK_bl, borK_str, borK_non, borK_exc, borK_ite, gNm_ap, fz, fzL, fzL_map, cl, clL,
    endB_nx, endB_rt, endB_exc, endB_ite, endB_io_rt, endB_io_nx, oAdd_i, oSub_i, oLt_i, oLe_i, oGt_i, oGe_i, oEq_i, oNe_i, oIx_l, oIx_t, ixN_lit, fInt, fAbs, fLen, itemsOf, oNeg, bNot, isS, sh, rg1_i, hs, h1]

theorem pw_h (o : Int) : ∀ n : Nat, pw o (n + 1) = pw o n * o + 1
  | 0 => by simp [pw]
  | n + 1 => by
    have ih := pw_h o n
    have e : pw o (n + 1) = pw o n + o ^ n := rfl
    show pw o (n + 1) + o ^ (n + 1) = pw o (n + 1) * o + 1
    rw [show pw o (n + 1) * o = pw o n * o + o ^ (n + 1) by rw [e, Int.add_mul, ← Int.pow_succ], ih]
    omega
def sm (s : Int) (n : Nat) : List D := (List.range (n + 1)).map fun k => .int (pw (s - 1) k)
theorem sums_ev (s : Int) (n : Nat) (hs : (s - 1).natAbs < 2 ^ 64) (hn : n ≤ 1000) : f__law_sums [.int s, .int n] = .ok (.nd true .lst (sm s n)) .non := by
  obtain ⟨e', h1, h2⟩ := runFor_rg (g := gNm 3) (b := (sDrop (xApp 2 (xBor [true, false, true, true] (x2 oAdd (x2 oMul (x2 oIx (xVar 2) (xVar 3)) (x2 oSub (xVar 0) (xC (.int 1)))) (xC (.int 1))))))) (lo := 0) (c := 1)
    (fun k e => ∃ x, e = [some (.int s), some (.int n), some (.nd true .lst (sm s k)), x]) n [some (.int s), some (.int n), some (.nd true .lst [.int 0]), none] ⟨none, by simp [sm, pw]⟩ (fun k e hk ⟨x, he⟩ => by
      subst he
      refine ⟨_, _, gNm_ap (by simp), Or.inl ?_, ⟨some (.int k), rfl⟩⟩
      have hl : k + 1 < LIM := by unfold LIM; omega
      simp [runB_ap, sSeq_ap, sIf_ap, sAsg_ap, sDrop_ap, sRt_ap, sNx_ap, sBk_ap, sCt_ap, sRtN_ap, sFor_ap, sRaise_ap, sSet_ap, kSet, kSet2, xLc_ap, xInt_ap, kInt, xSl_ap, kSl1, kSl2, oPart, xRev_ap, listOf?, xCallIO_ap, kIO0, kIO, foXi_ok, xApp_ap, kApp0, kApp, isi_ib, isi_ii, isi_is, isi_sb, isi_si, isi_ss, isi_bb, isi_lb, isi_li, isi_ls, isi_lt, isi_ll, isi_tb, isi_ti, isi_ts, isi_tt, isi_tl, isN_n, isN_i, isN_s, isN_b, isN_d, sAug_ap, kAsg0, kAsg, sAugIx_k, kAug0, kAug1, kAug, oAddI_i, oSubI_i, xBor_ap, view, fzS, x2_ap, x1_ap, xN_ap, xC_ap, xVar_ap, xMove_ap, xIf_ap, xAnd_ap, xOr_ap, xDsp_ap,
    aCons_ap, aNil_ap, iRg_ap, iL_ap, xCall_ap, foX_ok, foX_exc, foX_ite, bX_ok, bX_exc, bX_ite, bXS_ok, bXS_exc, bXS_ite, bXA_ok, bXA_exc, bAX_ok, bAX_exc, bAA_ok, bAA_exc, bAS_ok, bAS_exc, bSS_nx, bSS_rt, bSS_bk, bSS_ct, bSS_exc, bSS_ite,
    oX_some, oA_some, oS_some, kIfX_t, kIfX_f, kIfX_d, kIfS_t, kIfS_f, kIfS_d, kIfS_n, borK_int, borK_bl, borK_str, borK_non, borK_exc, borK_ite, gNm_ap, fz, fzL, fzL_map, cl, clL,
    endB_nx, endB_rt, endB_exc, endB_ite, endB_io_rt, endB_io_nx, oAdd_i, oSub_i, oLt_i, oLe_i, oGt_i, oGe_i, oEq_i, oNe_i, oIx_l, oIx_t, ixN_lit, fInt, fAbs, fLen, itemsOf, oNeg, bNot, isS, sh, oMul_i, mulOk_r, hs, sm, List.range_succ, hl, pw_h])
  obtain ⟨x, rfl⟩ := h2
  have h62 : small62 (n : Int) = true := by unfold small62; simp; omega
  have hL : 1 ≤ LIM := by decide
  unfold f__law_sums b__law_sums
  simp [runB_ap, sSeq_ap, sIf_ap, sAsg_ap, sDrop_ap, sRt_ap, sNx_ap, sBk_ap, sCt_ap, sRtN_ap, sFor_ap, sRaise_ap, sSet_ap, kSet, kSet2, xLc_ap, xInt_ap, kInt, xSl_ap, kSl1, kSl2, oPart, xRev_ap, listOf?, xCallIO_ap, kIO0, kIO, foXi_ok, xApp_ap, kApp0, kApp, isi_ib, isi_ii, isi_is, isi_sb, isi_si, isi_ss, isi_bb, isi_lb, isi_li, isi_ls, isi_lt, isi_ll, isi_tb, isi_ti, isi_ts, isi_tt, isi_tl, isN_n, isN_i, isN_s, isN_b, isN_d, sAug_ap, kAsg0, kAsg, sAugIx_k, kAug0, kAug1, kAug, oAddI_i, oSubI_i, xBor_ap, view, fzS, x2_ap, x1_ap, xN_ap, xC_ap, xVar_ap, xMove_ap, xIf_ap, xAnd_ap, xOr_ap, xDsp_ap,
    aCons_ap, aNil_ap, iRg_ap, iL_ap, xCall_ap, foX_ok, foX_exc, foX_ite, bX_ok, bX_exc, bX_ite, bXS_ok, bXS_exc, bXS_ite, bXA_ok, bXA_exc, bAX_ok, bAX_exc, bAA_ok, bAA_exc, bAS_ok, bAS_exc, bSS_nx, bSS_rt, bSS_bk, bSS_ct, bSS_exc, bSS_ite,
    oX_some, oA_some, oS_some, kIfX_t, kIfX_f, kIfX_d, kIfS_t, kIfS_f, kIfS_d, kIfS_n, borK_int, borK_bl, borK_str, borK_non, borK_exc, borK_ite, gNm_ap, fz, fzL, fzL_map, cl, clL,
    endB_nx, endB_rt, endB_exc, endB_ite, endB_io_rt, endB_io_nx, oAdd_i, oSub_i, oLt_i, oLe_i, oGt_i, oGe_i, oEq_i, oNe_i, oIx_l, oIx_t, ixN_lit, fInt, fAbs, fLen, itemsOf, oNeg, bNot, isS, sh, rg1_i, h62, h1, hL]
theorem check_most_ev (what : Str) (a b : Int) : f_check_most [.str what, .int a, .int b] = if b < a then .exc 0 ["what"] [.str what] .non else .ok .non .non := by
  unfold f_check_most b_check_most
  simp [runB_ap, sSeq_ap, sIf_ap, sAsg_ap, sDrop_ap, sRt_ap, sNx_ap, sBk_ap, sCt_ap, sRtN_ap, sFor_ap, sRaise_ap, sSet_ap, kSet, kSet2, xLc_ap, xInt_ap, kInt, xSl_ap, kSl1, kSl2, oPart, xRev_ap, listOf?, xCallIO_ap, kIO0, kIO, foXi_ok, xApp_ap, kApp0, kApp, isi_ib, isi_ii, isi_is, isi_sb, isi_si, isi_ss, isi_bb, isi_lb, isi_li, isi_ls, isi_lt, isi_ll, isi_tb, isi_ti, isi_ts, isi_tt, isi_tl, isN_n, isN_i, isN_s, isN_b, isN_d, sAug_ap, kAsg0, kAsg, sAugIx_k, kAug0, kAug1, kAug, oAddI_i, oSubI_i, xBor_ap, view, fzS, x2_ap, x1_ap, xN_ap, xC_ap, xVar_ap, xMove_ap, xIf_ap, xAnd_ap, xOr_ap, xDsp_ap,
    aCons_ap, aNil_ap, iRg_ap, iL_ap, xCall_ap, foX_ok, foX_exc, foX_ite, bX_ok, bX_exc, bX_ite, bXS_ok, bXS_exc, bXS_ite, bXA_ok, bXA_exc, bAX_ok, bAX_exc, bAA_ok, bAA_exc, bAS_ok, bAS_exc, bSS_nx, bSS_rt, bSS_bk, bSS_ct, bSS_exc, bSS_ite,
    oX_some, oA_some, oS_some, kIfX_t, kIfX_f, kIfX_d, kIfS_t, kIfS_f, kIfS_d, kIfS_n, borK_int, borK_bl, borK_str, borK_non, borK_exc, borK_ite, gNm_ap, fz, fzL, fzL_map, cl, clL,
    endB_nx, endB_rt, endB_exc, endB_ite, endB_io_rt, endB_io_nx, oAdd_i, oSub_i, oLt_i, oLe_i, oGt_i, oGe_i, oEq_i, oNe_i, oIx_l, oIx_t, ixN_lit, fInt, fAbs, fLen, itemsOf, oNeg, bNot, isS, sh]
/-- what check_numbers lets out -/
def bad? (s m o n : Int) (what : Str) : Option (Nat × Str) :=
  if 8 < s then some (0, "stacks") else if 10 ^ 30 < m then some (0, "moves") else if 40 < o then some (0, "days") else if 10 ^ 30 < n then some (0, "free")
  else if s < 2 then some (3, "stacks") else if m < 0 then some (1, "many") else if o < 1 then some (3, "orders") else if n < 0 then some (3, what) else none
def exF (x : Option (Nat × Str)) : FO := match x with
  | some (c, w) => .exc c ["what"] [.str w] .non
  | none => .ok .non .non
theorem check_numbers_ev (s m o n : Int) (what : Str) : f_check_numbers [.int s, .int m, .int o, .str what, .int n] = exF (bad? s m o n what) := by
  unfold f_check_numbers b_check_numbers f_check_bounds b_check_bounds f_check_days b_check_days bad?
  by_cases h1 : 8 < s
  · simp [runB_ap, sSeq_ap, sIf_ap, sAsg_ap, sDrop_ap, sRt_ap, sNx_ap, sBk_ap, sCt_ap, sRtN_ap, sFor_ap, sRaise_ap, sSet_ap, kSet, kSet2, xLc_ap, xInt_ap, kInt, xSl_ap, kSl1, kSl2, oPart, xRev_ap, listOf?, xCallIO_ap, kIO0, kIO, foXi_ok, xApp_ap, kApp0, kApp, isi_ib, isi_ii, isi_is, isi_sb, isi_si, isi_ss, isi_bb, isi_lb, isi_li, isi_ls, isi_lt, isi_ll, isi_tb, isi_ti, isi_ts, isi_tt, isi_tl, isN_n, isN_i, isN_s, isN_b, isN_d, sAug_ap, kAsg0, kAsg, sAugIx_k, kAug0, kAug1, kAug, oAddI_i, oSubI_i, xBor_ap, view, fzS, x2_ap, x1_ap, xN_ap, xC_ap, xVar_ap, xMove_ap, xIf_ap, xAnd_ap, xOr_ap, xDsp_ap,
    aCons_ap, aNil_ap, iRg_ap, iL_ap, xCall_ap, foX_ok, foX_exc, foX_ite, bX_ok, bX_exc, bX_ite, bXS_ok, bXS_exc, bXS_ite, bXA_ok, bXA_exc, bAX_ok, bAX_exc, bAA_ok, bAA_exc, bAS_ok, bAS_exc, bSS_nx, bSS_rt, bSS_bk, bSS_ct, bSS_exc, bSS_ite,
    oX_some, oA_some, oS_some, kIfX_t, kIfX_f, kIfX_d, kIfS_t, kIfS_f, kIfS_d, kIfS_n, borK_int, borK_bl, borK_str, borK_non, borK_exc, borK_ite, gNm_ap, fz, fzL, fzL_map, cl, clL,
    endB_nx, endB_rt, endB_exc, endB_ite, endB_io_rt, endB_io_nx, oAdd_i, oSub_i, oLt_i, oLe_i, oGt_i, oGe_i, oEq_i, oNe_i, oIx_l, oIx_t, ixN_lit, fInt, fAbs, fLen, itemsOf, oNeg, bNot, isS, sh, check_most_ev, k_STACKS, h1, exF]
  by_cases h2 : (1000000000000000000000000000000 : Int) < m
  · simp [runB_ap, sSeq_ap, sIf_ap, sAsg_ap, sDrop_ap, sRt_ap, sNx_ap, sBk_ap, sCt_ap, sRtN_ap, sFor_ap, sRaise_ap, sSet_ap, kSet, kSet2, xLc_ap, xInt_ap, kInt, xSl_ap, kSl1, kSl2, oPart, xRev_ap, listOf?, xCallIO_ap, kIO0, kIO, foXi_ok, xApp_ap, kApp0, kApp, isi_ib, isi_ii, isi_is, isi_sb, isi_si, isi_ss, isi_bb, isi_lb, isi_li, isi_ls, isi_lt, isi_ll, isi_tb, isi_ti, isi_ts, isi_tt, isi_tl, isN_n, isN_i, isN_s, isN_b, isN_d, sAug_ap, kAsg0, kAsg, sAugIx_k, kAug0, kAug1, kAug, oAddI_i, oSubI_i, xBor_ap, view, fzS, x2_ap, x1_ap, xN_ap, xC_ap, xVar_ap, xMove_ap, xIf_ap, xAnd_ap, xOr_ap, xDsp_ap,
    aCons_ap, aNil_ap, iRg_ap, iL_ap, xCall_ap, foX_ok, foX_exc, foX_ite, bX_ok, bX_exc, bX_ite, bXS_ok, bXS_exc, bXS_ite, bXA_ok, bXA_exc, bAX_ok, bAX_exc, bAA_ok, bAA_exc, bAS_ok, bAS_exc, bSS_nx, bSS_rt, bSS_bk, bSS_ct, bSS_exc, bSS_ite,
    oX_some, oA_some, oS_some, kIfX_t, kIfX_f, kIfX_d, kIfS_t, kIfS_f, kIfS_d, kIfS_n, borK_int, borK_bl, borK_str, borK_non, borK_exc, borK_ite, gNm_ap, fz, fzL, fzL_map, cl, clL,
    endB_nx, endB_rt, endB_exc, endB_ite, endB_io_rt, endB_io_nx, oAdd_i, oSub_i, oLt_i, oLe_i, oGt_i, oGe_i, oEq_i, oNe_i, oIx_l, oIx_t, ixN_lit, fInt, fAbs, fLen, itemsOf, oNeg, bNot, isS, sh, check_most_ev, k_STACKS, k_NIGHT_MOVES, h1, h2, exF]
  by_cases h3 : 40 < o
  · simp [runB_ap, sSeq_ap, sIf_ap, sAsg_ap, sDrop_ap, sRt_ap, sNx_ap, sBk_ap, sCt_ap, sRtN_ap, sFor_ap, sRaise_ap, sSet_ap, kSet, kSet2, xLc_ap, xInt_ap, kInt, xSl_ap, kSl1, kSl2, oPart, xRev_ap, listOf?, xCallIO_ap, kIO0, kIO, foXi_ok, xApp_ap, kApp0, kApp, isi_ib, isi_ii, isi_is, isi_sb, isi_si, isi_ss, isi_bb, isi_lb, isi_li, isi_ls, isi_lt, isi_ll, isi_tb, isi_ti, isi_ts, isi_tt, isi_tl, isN_n, isN_i, isN_s, isN_b, isN_d, sAug_ap, kAsg0, kAsg, sAugIx_k, kAug0, kAug1, kAug, oAddI_i, oSubI_i, xBor_ap, view, fzS, x2_ap, x1_ap, xN_ap, xC_ap, xVar_ap, xMove_ap, xIf_ap, xAnd_ap, xOr_ap, xDsp_ap,
    aCons_ap, aNil_ap, iRg_ap, iL_ap, xCall_ap, foX_ok, foX_exc, foX_ite, bX_ok, bX_exc, bX_ite, bXS_ok, bXS_exc, bXS_ite, bXA_ok, bXA_exc, bAX_ok, bAX_exc, bAA_ok, bAA_exc, bAS_ok, bAS_exc, bSS_nx, bSS_rt, bSS_bk, bSS_ct, bSS_exc, bSS_ite,
    oX_some, oA_some, oS_some, kIfX_t, kIfX_f, kIfX_d, kIfS_t, kIfS_f, kIfS_d, kIfS_n, borK_int, borK_bl, borK_str, borK_non, borK_exc, borK_ite, gNm_ap, fz, fzL, fzL_map, cl, clL,
    endB_nx, endB_rt, endB_exc, endB_ite, endB_io_rt, endB_io_nx, oAdd_i, oSub_i, oLt_i, oLe_i, oGt_i, oGe_i, oEq_i, oNe_i, oIx_l, oIx_t, ixN_lit, fInt, fAbs, fLen, itemsOf, oNeg, bNot, isS, sh, check_most_ev, k_STACKS, k_NIGHT_MOVES, k_DAYS, h1, h2, h3, exF]
  by_cases h4 : (1000000000000000000000000000000 : Int) < n
  · simp [runB_ap, sSeq_ap, sIf_ap, sAsg_ap, sDrop_ap, sRt_ap, sNx_ap, sBk_ap, sCt_ap, sRtN_ap, sFor_ap, sRaise_ap, sSet_ap, kSet, kSet2, xLc_ap, xInt_ap, kInt, xSl_ap, kSl1, kSl2, oPart, xRev_ap, listOf?, xCallIO_ap, kIO0, kIO, foXi_ok, xApp_ap, kApp0, kApp, isi_ib, isi_ii, isi_is, isi_sb, isi_si, isi_ss, isi_bb, isi_lb, isi_li, isi_ls, isi_lt, isi_ll, isi_tb, isi_ti, isi_ts, isi_tt, isi_tl, isN_n, isN_i, isN_s, isN_b, isN_d, sAug_ap, kAsg0, kAsg, sAugIx_k, kAug0, kAug1, kAug, oAddI_i, oSubI_i, xBor_ap, view, fzS, x2_ap, x1_ap, xN_ap, xC_ap, xVar_ap, xMove_ap, xIf_ap, xAnd_ap, xOr_ap, xDsp_ap,
    aCons_ap, aNil_ap, iRg_ap, iL_ap, xCall_ap, foX_ok, foX_exc, foX_ite, bX_ok, bX_exc, bX_ite, bXS_ok, bXS_exc, bXS_ite, bXA_ok, bXA_exc, bAX_ok, bAX_exc, bAA_ok, bAA_exc, bAS_ok, bAS_exc, bSS_nx, bSS_rt, bSS_bk, bSS_ct, bSS_exc, bSS_ite,
    oX_some, oA_some, oS_some, kIfX_t, kIfX_f, kIfX_d, kIfS_t, kIfS_f, kIfS_d, kIfS_n, borK_int, borK_bl, borK_str, borK_non, borK_exc, borK_ite, gNm_ap, fz, fzL, fzL_map, cl, clL,
    endB_nx, endB_rt, endB_exc, endB_ite, endB_io_rt, endB_io_nx, oAdd_i, oSub_i, oLt_i, oLe_i, oGt_i, oGe_i, oEq_i, oNe_i, oIx_l, oIx_t, ixN_lit, fInt, fAbs, fLen, itemsOf, oNeg, bNot, isS, sh, check_most_ev, k_STACKS, k_NIGHT_MOVES, k_DAYS, k_FREE, h1, h2, h3, h4, exF]
  by_cases h5 : s < 2
  · simp [runB_ap, sSeq_ap, sIf_ap, sAsg_ap, sDrop_ap, sRt_ap, sNx_ap, sBk_ap, sCt_ap, sRtN_ap, sFor_ap, sRaise_ap, sSet_ap, kSet, kSet2, xLc_ap, xInt_ap, kInt, xSl_ap, kSl1, kSl2, oPart, xRev_ap, listOf?, xCallIO_ap, kIO0, kIO, foXi_ok, xApp_ap, kApp0, kApp, isi_ib, isi_ii, isi_is, isi_sb, isi_si, isi_ss, isi_bb, isi_lb, isi_li, isi_ls, isi_lt, isi_ll, isi_tb, isi_ti, isi_ts, isi_tt, isi_tl, isN_n, isN_i, isN_s, isN_b, isN_d, sAug_ap, kAsg0, kAsg, sAugIx_k, kAug0, kAug1, kAug, oAddI_i, oSubI_i, xBor_ap, view, fzS, x2_ap, x1_ap, xN_ap, xC_ap, xVar_ap, xMove_ap, xIf_ap, xAnd_ap, xOr_ap, xDsp_ap,
    aCons_ap, aNil_ap, iRg_ap, iL_ap, xCall_ap, foX_ok, foX_exc, foX_ite, bX_ok, bX_exc, bX_ite, bXS_ok, bXS_exc, bXS_ite, bXA_ok, bXA_exc, bAX_ok, bAX_exc, bAA_ok, bAA_exc, bAS_ok, bAS_exc, bSS_nx, bSS_rt, bSS_bk, bSS_ct, bSS_exc, bSS_ite,
    oX_some, oA_some, oS_some, kIfX_t, kIfX_f, kIfX_d, kIfS_t, kIfS_f, kIfS_d, kIfS_n, borK_int, borK_bl, borK_str, borK_non, borK_exc, borK_ite, gNm_ap, fz, fzL, fzL_map, cl, clL,
    endB_nx, endB_rt, endB_exc, endB_ite, endB_io_rt, endB_io_nx, oAdd_i, oSub_i, oLt_i, oLe_i, oGt_i, oGe_i, oEq_i, oNe_i, oIx_l, oIx_t, ixN_lit, fInt, fAbs, fLen, itemsOf, oNeg, bNot, isS, sh, check_most_ev, k_STACKS, k_NIGHT_MOVES, k_DAYS, k_FREE, h1, h2, h3, h4, h5, exF]
  by_cases h6 : m < 0
  · simp [runB_ap, sSeq_ap, sIf_ap, sAsg_ap, sDrop_ap, sRt_ap, sNx_ap, sBk_ap, sCt_ap, sRtN_ap, sFor_ap, sRaise_ap, sSet_ap, kSet, kSet2, xLc_ap, xInt_ap, kInt, xSl_ap, kSl1, kSl2, oPart, xRev_ap, listOf?, xCallIO_ap, kIO0, kIO, foXi_ok, xApp_ap, kApp0, kApp, isi_ib, isi_ii, isi_is, isi_sb, isi_si, isi_ss, isi_bb, isi_lb, isi_li, isi_ls, isi_lt, isi_ll, isi_tb, isi_ti, isi_ts, isi_tt, isi_tl, isN_n, isN_i, isN_s, isN_b, isN_d, sAug_ap, kAsg0, kAsg, sAugIx_k, kAug0, kAug1, kAug, oAddI_i, oSubI_i, xBor_ap, view, fzS, x2_ap, x1_ap, xN_ap, xC_ap, xVar_ap, xMove_ap, xIf_ap, xAnd_ap, xOr_ap, xDsp_ap,
    aCons_ap, aNil_ap, iRg_ap, iL_ap, xCall_ap, foX_ok, foX_exc, foX_ite, bX_ok, bX_exc, bX_ite, bXS_ok, bXS_exc, bXS_ite, bXA_ok, bXA_exc, bAX_ok, bAX_exc, bAA_ok, bAA_exc, bAS_ok, bAS_exc, bSS_nx, bSS_rt, bSS_bk, bSS_ct, bSS_exc, bSS_ite,
    oX_some, oA_some, oS_some, kIfX_t, kIfX_f, kIfX_d, kIfS_t, kIfS_f, kIfS_d, kIfS_n, borK_int, borK_bl, borK_str, borK_non, borK_exc, borK_ite, gNm_ap, fz, fzL, fzL_map, cl, clL,
    endB_nx, endB_rt, endB_exc, endB_ite, endB_io_rt, endB_io_nx, oAdd_i, oSub_i, oLt_i, oLe_i, oGt_i, oGe_i, oEq_i, oNe_i, oIx_l, oIx_t, ixN_lit, fInt, fAbs, fLen, itemsOf, oNeg, bNot, isS, sh, check_most_ev, k_STACKS, k_NIGHT_MOVES, k_DAYS, k_FREE, h1, h2, h3, h4, h5, h6, exF]
  by_cases h7 : o < 1
  · simp [runB_ap, sSeq_ap, sIf_ap, sAsg_ap, sDrop_ap, sRt_ap, sNx_ap, sBk_ap, sCt_ap, sRtN_ap, sFor_ap, sRaise_ap, sSet_ap, kSet, kSet2, xLc_ap, xInt_ap, kInt, xSl_ap, kSl1, kSl2, oPart, xRev_ap, listOf?, xCallIO_ap, kIO0, kIO, foXi_ok, xApp_ap, kApp0, kApp, isi_ib, isi_ii, isi_is, isi_sb, isi_si, isi_ss, isi_bb, isi_lb, isi_li, isi_ls, isi_lt, isi_ll, isi_tb, isi_ti, isi_ts, isi_tt, isi_tl, isN_n, isN_i, isN_s, isN_b, isN_d, sAug_ap, kAsg0, kAsg, sAugIx_k, kAug0, kAug1, kAug, oAddI_i, oSubI_i, xBor_ap, view, fzS, x2_ap, x1_ap, xN_ap, xC_ap, xVar_ap, xMove_ap, xIf_ap, xAnd_ap, xOr_ap, xDsp_ap,
    aCons_ap, aNil_ap, iRg_ap, iL_ap, xCall_ap, foX_ok, foX_exc, foX_ite, bX_ok, bX_exc, bX_ite, bXS_ok, bXS_exc, bXS_ite, bXA_ok, bXA_exc, bAX_ok, bAX_exc, bAA_ok, bAA_exc, bAS_ok, bAS_exc, bSS_nx, bSS_rt, bSS_bk, bSS_ct, bSS_exc, bSS_ite,
    oX_some, oA_some, oS_some, kIfX_t, kIfX_f, kIfX_d, kIfS_t, kIfS_f, kIfS_d, kIfS_n, borK_int, borK_bl, borK_str, borK_non, borK_exc, borK_ite, gNm_ap, fz, fzL, fzL_map, cl, clL,
    endB_nx, endB_rt, endB_exc, endB_ite, endB_io_rt, endB_io_nx, oAdd_i, oSub_i, oLt_i, oLe_i, oGt_i, oGe_i, oEq_i, oNe_i, oIx_l, oIx_t, ixN_lit, fInt, fAbs, fLen, itemsOf, oNeg, bNot, isS, sh, check_most_ev, k_STACKS, k_NIGHT_MOVES, k_DAYS, k_FREE, h1, h2, h3, h4, h5, h6, h7, exF]
  by_cases h8 : n < 0
  · simp [runB_ap, sSeq_ap, sIf_ap, sAsg_ap, sDrop_ap, sRt_ap, sNx_ap, sBk_ap, sCt_ap, sRtN_ap, sFor_ap, sRaise_ap, sSet_ap, kSet, kSet2, xLc_ap, xInt_ap, kInt, xSl_ap, kSl1, kSl2, oPart, xRev_ap, listOf?, xCallIO_ap, kIO0, kIO, foXi_ok, xApp_ap, kApp0, kApp, isi_ib, isi_ii, isi_is, isi_sb, isi_si, isi_ss, isi_bb, isi_lb, isi_li, isi_ls, isi_lt, isi_ll, isi_tb, isi_ti, isi_ts, isi_tt, isi_tl, isN_n, isN_i, isN_s, isN_b, isN_d, sAug_ap, kAsg0, kAsg, sAugIx_k, kAug0, kAug1, kAug, oAddI_i, oSubI_i, xBor_ap, view, fzS, x2_ap, x1_ap, xN_ap, xC_ap, xVar_ap, xMove_ap, xIf_ap, xAnd_ap, xOr_ap, xDsp_ap,
    aCons_ap, aNil_ap, iRg_ap, iL_ap, xCall_ap, foX_ok, foX_exc, foX_ite, bX_ok, bX_exc, bX_ite, bXS_ok, bXS_exc, bXS_ite, bXA_ok, bXA_exc, bAX_ok, bAX_exc, bAA_ok, bAA_exc, bAS_ok, bAS_exc, bSS_nx, bSS_rt, bSS_bk, bSS_ct, bSS_exc, bSS_ite,
    oX_some, oA_some, oS_some, kIfX_t, kIfX_f, kIfX_d, kIfS_t, kIfS_f, kIfS_d, kIfS_n, borK_int, borK_bl, borK_str, borK_non, borK_exc, borK_ite, gNm_ap, fz, fzL, fzL_map, cl, clL,
    endB_nx, endB_rt, endB_exc, endB_ite, endB_io_rt, endB_io_nx, oAdd_i, oSub_i, oLt_i, oLe_i, oGt_i, oGe_i, oEq_i, oNe_i, oIx_l, oIx_t, ixN_lit, fInt, fAbs, fLen, itemsOf, oNeg, bNot, isS, sh, check_most_ev, k_STACKS, k_NIGHT_MOVES, k_DAYS, k_FREE, h1, h2, h3, h4, h5, h6, h7, h8, exF]
  · simp [runB_ap, sSeq_ap, sIf_ap, sAsg_ap, sDrop_ap, sRt_ap, sNx_ap, sBk_ap, sCt_ap, sRtN_ap, sFor_ap, sRaise_ap, sSet_ap, kSet, kSet2, xLc_ap, xInt_ap, kInt, xSl_ap, kSl1, kSl2, oPart, xRev_ap, listOf?, xCallIO_ap, kIO0, kIO, foXi_ok, xApp_ap, kApp0, kApp, isi_ib, isi_ii, isi_is, isi_sb, isi_si, isi_ss, isi_bb, isi_lb, isi_li, isi_ls, isi_lt, isi_ll, isi_tb, isi_ti, isi_ts, isi_tt, isi_tl, isN_n, isN_i, isN_s, isN_b, isN_d, sAug_ap, kAsg0, kAsg, sAugIx_k, kAug0, kAug1, kAug, oAddI_i, oSubI_i, xBor_ap, view, fzS, x2_ap, x1_ap, xN_ap, xC_ap, xVar_ap, xMove_ap, xIf_ap, xAnd_ap, xOr_ap, xDsp_ap,
    aCons_ap, aNil_ap, iRg_ap, iL_ap, xCall_ap, foX_ok, foX_exc, foX_ite, bX_ok, bX_exc, bX_ite, bXS_ok, bXS_exc, bXS_ite, bXA_ok, bXA_exc, bAX_ok, bAX_exc, bAA_ok, bAA_exc, bAS_ok, bAS_exc, bSS_nx, bSS_rt, bSS_bk, bSS_ct, bSS_exc, bSS_ite,
    oX_some, oA_some, oS_some, kIfX_t, kIfX_f, kIfX_d, kIfS_t, kIfS_f, kIfS_d, kIfS_n, borK_int, borK_bl, borK_str, borK_non, borK_exc, borK_ite, gNm_ap, fz, fzL, fzL_map, cl, clL,
    endB_nx, endB_rt, endB_exc, endB_ite, endB_io_rt, endB_io_nx, oAdd_i, oSub_i, oLt_i, oLe_i, oGt_i, oGe_i, oEq_i, oNe_i, oIx_l, oIx_t, ixN_lit, fInt, fAbs, fLen, itemsOf, oNeg, bNot, isS, sh, check_most_ev, k_STACKS, k_NIGHT_MOVES, k_DAYS, k_FREE, h1, h2, h3, h4, h5, h6, h7, h8, exF]
def wd (c : Nat) : Str := match c with
  | 0 => "many"
  | 1 => "room"
  | 2 => "course"
  | _ => "numbers"
/-- what _law_due gives, what _law_error gives -/
def dueD (x : Option (Nat × Str)) : List D := match x with
  | some (c, w) => [.str (wd c), .str w]
  | none => [.str "none"]
theorem due_ev (s m o n : Int) (what : Str) : f__law_due [.int s, .int m, .int o, .str what, .int n] = .ok (.nd true .tup (dueD (bad? s m o n what))) .non := by
  have hL : 2 ≤ LIM := by decide
  have hL1 : 1 ≤ LIM := by decide
  have p30 : oPow (.int 10) (.int 30) = some (.int 1000000000000000000000000000000) := by rfl
  unfold f__law_due b__law_due bad?
  by_cases h1 : 8 < s
  · simp [runB_ap, sSeq_ap, sIf_ap, sAsg_ap, sDrop_ap, sRt_ap, sNx_ap, sBk_ap, sCt_ap, sRtN_ap, sFor_ap, sRaise_ap, sSet_ap, kSet, kSet2, xLc_ap, xInt_ap, kInt, xSl_ap, kSl1, kSl2, oPart, xRev_ap, listOf?, xCallIO_ap, kIO0, kIO, foXi_ok, xApp_ap, kApp0, kApp, isi_ib, isi_ii, isi_is, isi_sb, isi_si, isi_ss, isi_bb, isi_lb, isi_li, isi_ls, isi_lt, isi_ll, isi_tb, isi_ti, isi_ts, isi_tt, isi_tl, isN_n, isN_i, isN_s, isN_b, isN_d, sAug_ap, kAsg0, kAsg, sAugIx_k, kAug0, kAug1, kAug, oAddI_i, oSubI_i, xBor_ap, view, fzS, x2_ap, x1_ap, xN_ap, xC_ap, xVar_ap, xMove_ap, xIf_ap, xAnd_ap, xOr_ap, xDsp_ap,
    aCons_ap, aNil_ap, iRg_ap, iL_ap, xCall_ap, foX_ok, foX_exc, foX_ite, bX_ok, bX_exc, bX_ite, bXS_ok, bXS_exc, bXS_ite, bXA_ok, bXA_exc, bAX_ok, bAX_exc, bAA_ok, bAA_exc, bAS_ok, bAS_exc, bSS_nx, bSS_rt, bSS_bk, bSS_ct, bSS_exc, bSS_ite,
    oX_some, oA_some, oS_some, kIfX_t, kIfX_f, kIfX_d, kIfS_t, kIfS_f, kIfS_d, kIfS_n, borK_int, borK_bl, borK_str, borK_non, borK_exc, borK_ite, gNm_ap, fz, fzL, fzL_map, cl, clL,
    endB_nx, endB_rt, endB_exc, endB_ite, endB_io_rt, endB_io_nx, oAdd_i, oSub_i, oLt_i, oLe_i, oGt_i, oGe_i, oEq_i, oNe_i, oIx_l, oIx_t, ixN_lit, fInt, fAbs, fLen, itemsOf, oNeg, bNot, isS, sh, h1, dueD, wd, hL]
  by_cases h2 : (1000000000000000000000000000000 : Int) < m
  · simp [runB_ap, sSeq_ap, sIf_ap, sAsg_ap, sDrop_ap, sRt_ap, sNx_ap, sBk_ap, sCt_ap, sRtN_ap, sFor_ap, sRaise_ap, sSet_ap, kSet, kSet2, xLc_ap, xInt_ap, kInt, xSl_ap, kSl1, kSl2, oPart, xRev_ap, listOf?, xCallIO_ap, kIO0, kIO, foXi_ok, xApp_ap, kApp0, kApp, isi_ib, isi_ii, isi_is, isi_sb, isi_si, isi_ss, isi_bb, isi_lb, isi_li, isi_ls, isi_lt, isi_ll, isi_tb, isi_ti, isi_ts, isi_tt, isi_tl, isN_n, isN_i, isN_s, isN_b, isN_d, sAug_ap, kAsg0, kAsg, sAugIx_k, kAug0, kAug1, kAug, oAddI_i, oSubI_i, xBor_ap, view, fzS, x2_ap, x1_ap, xN_ap, xC_ap, xVar_ap, xMove_ap, xIf_ap, xAnd_ap, xOr_ap, xDsp_ap,
    aCons_ap, aNil_ap, iRg_ap, iL_ap, xCall_ap, foX_ok, foX_exc, foX_ite, bX_ok, bX_exc, bX_ite, bXS_ok, bXS_exc, bXS_ite, bXA_ok, bXA_exc, bAX_ok, bAX_exc, bAA_ok, bAA_exc, bAS_ok, bAS_exc, bSS_nx, bSS_rt, bSS_bk, bSS_ct, bSS_exc, bSS_ite,
    oX_some, oA_some, oS_some, kIfX_t, kIfX_f, kIfX_d, kIfS_t, kIfS_f, kIfS_d, kIfS_n, borK_int, borK_bl, borK_str, borK_non, borK_exc, borK_ite, gNm_ap, fz, fzL, fzL_map, cl, clL,
    endB_nx, endB_rt, endB_exc, endB_ite, endB_io_rt, endB_io_nx, oAdd_i, oSub_i, oLt_i, oLe_i, oGt_i, oGe_i, oEq_i, oNe_i, oIx_l, oIx_t, ixN_lit, fInt, fAbs, fLen, itemsOf, oNeg, bNot, isS, sh, h1, h2, p30, dueD, wd, hL]
  by_cases h3 : 40 < o
  · simp [runB_ap, sSeq_ap, sIf_ap, sAsg_ap, sDrop_ap, sRt_ap, sNx_ap, sBk_ap, sCt_ap, sRtN_ap, sFor_ap, sRaise_ap, sSet_ap, kSet, kSet2, xLc_ap, xInt_ap, kInt, xSl_ap, kSl1, kSl2, oPart, xRev_ap, listOf?, xCallIO_ap, kIO0, kIO, foXi_ok, xApp_ap, kApp0, kApp, isi_ib, isi_ii, isi_is, isi_sb, isi_si, isi_ss, isi_bb, isi_lb, isi_li, isi_ls, isi_lt, isi_ll, isi_tb, isi_ti, isi_ts, isi_tt, isi_tl, isN_n, isN_i, isN_s, isN_b, isN_d, sAug_ap, kAsg0, kAsg, sAugIx_k, kAug0, kAug1, kAug, oAddI_i, oSubI_i, xBor_ap, view, fzS, x2_ap, x1_ap, xN_ap, xC_ap, xVar_ap, xMove_ap, xIf_ap, xAnd_ap, xOr_ap, xDsp_ap,
    aCons_ap, aNil_ap, iRg_ap, iL_ap, xCall_ap, foX_ok, foX_exc, foX_ite, bX_ok, bX_exc, bX_ite, bXS_ok, bXS_exc, bXS_ite, bXA_ok, bXA_exc, bAX_ok, bAX_exc, bAA_ok, bAA_exc, bAS_ok, bAS_exc, bSS_nx, bSS_rt, bSS_bk, bSS_ct, bSS_exc, bSS_ite,
    oX_some, oA_some, oS_some, kIfX_t, kIfX_f, kIfX_d, kIfS_t, kIfS_f, kIfS_d, kIfS_n, borK_int, borK_bl, borK_str, borK_non, borK_exc, borK_ite, gNm_ap, fz, fzL, fzL_map, cl, clL,
    endB_nx, endB_rt, endB_exc, endB_ite, endB_io_rt, endB_io_nx, oAdd_i, oSub_i, oLt_i, oLe_i, oGt_i, oGe_i, oEq_i, oNe_i, oIx_l, oIx_t, ixN_lit, fInt, fAbs, fLen, itemsOf, oNeg, bNot, isS, sh, h1, h2, h3, p30, dueD, wd, hL]
  by_cases h4 : (1000000000000000000000000000000 : Int) < n
  · simp [runB_ap, sSeq_ap, sIf_ap, sAsg_ap, sDrop_ap, sRt_ap, sNx_ap, sBk_ap, sCt_ap, sRtN_ap, sFor_ap, sRaise_ap, sSet_ap, kSet, kSet2, xLc_ap, xInt_ap, kInt, xSl_ap, kSl1, kSl2, oPart, xRev_ap, listOf?, xCallIO_ap, kIO0, kIO, foXi_ok, xApp_ap, kApp0, kApp, isi_ib, isi_ii, isi_is, isi_sb, isi_si, isi_ss, isi_bb, isi_lb, isi_li, isi_ls, isi_lt, isi_ll, isi_tb, isi_ti, isi_ts, isi_tt, isi_tl, isN_n, isN_i, isN_s, isN_b, isN_d, sAug_ap, kAsg0, kAsg, sAugIx_k, kAug0, kAug1, kAug, oAddI_i, oSubI_i, xBor_ap, view, fzS, x2_ap, x1_ap, xN_ap, xC_ap, xVar_ap, xMove_ap, xIf_ap, xAnd_ap, xOr_ap, xDsp_ap,
    aCons_ap, aNil_ap, iRg_ap, iL_ap, xCall_ap, foX_ok, foX_exc, foX_ite, bX_ok, bX_exc, bX_ite, bXS_ok, bXS_exc, bXS_ite, bXA_ok, bXA_exc, bAX_ok, bAX_exc, bAA_ok, bAA_exc, bAS_ok, bAS_exc, bSS_nx, bSS_rt, bSS_bk, bSS_ct, bSS_exc, bSS_ite,
    oX_some, oA_some, oS_some, kIfX_t, kIfX_f, kIfX_d, kIfS_t, kIfS_f, kIfS_d, kIfS_n, borK_int, borK_bl, borK_str, borK_non, borK_exc, borK_ite, gNm_ap, fz, fzL, fzL_map, cl, clL,
    endB_nx, endB_rt, endB_exc, endB_ite, endB_io_rt, endB_io_nx, oAdd_i, oSub_i, oLt_i, oLe_i, oGt_i, oGe_i, oEq_i, oNe_i, oIx_l, oIx_t, ixN_lit, fInt, fAbs, fLen, itemsOf, oNeg, bNot, isS, sh, h1, h2, h3, h4, p30, dueD, wd, hL]
  by_cases h5 : s < 2
  · simp [runB_ap, sSeq_ap, sIf_ap, sAsg_ap, sDrop_ap, sRt_ap, sNx_ap, sBk_ap, sCt_ap, sRtN_ap, sFor_ap, sRaise_ap, sSet_ap, kSet, kSet2, xLc_ap, xInt_ap, kInt, xSl_ap, kSl1, kSl2, oPart, xRev_ap, listOf?, xCallIO_ap, kIO0, kIO, foXi_ok, xApp_ap, kApp0, kApp, isi_ib, isi_ii, isi_is, isi_sb, isi_si, isi_ss, isi_bb, isi_lb, isi_li, isi_ls, isi_lt, isi_ll, isi_tb, isi_ti, isi_ts, isi_tt, isi_tl, isN_n, isN_i, isN_s, isN_b, isN_d, sAug_ap, kAsg0, kAsg, sAugIx_k, kAug0, kAug1, kAug, oAddI_i, oSubI_i, xBor_ap, view, fzS, x2_ap, x1_ap, xN_ap, xC_ap, xVar_ap, xMove_ap, xIf_ap, xAnd_ap, xOr_ap, xDsp_ap,
    aCons_ap, aNil_ap, iRg_ap, iL_ap, xCall_ap, foX_ok, foX_exc, foX_ite, bX_ok, bX_exc, bX_ite, bXS_ok, bXS_exc, bXS_ite, bXA_ok, bXA_exc, bAX_ok, bAX_exc, bAA_ok, bAA_exc, bAS_ok, bAS_exc, bSS_nx, bSS_rt, bSS_bk, bSS_ct, bSS_exc, bSS_ite,
    oX_some, oA_some, oS_some, kIfX_t, kIfX_f, kIfX_d, kIfS_t, kIfS_f, kIfS_d, kIfS_n, borK_int, borK_bl, borK_str, borK_non, borK_exc, borK_ite, gNm_ap, fz, fzL, fzL_map, cl, clL,
    endB_nx, endB_rt, endB_exc, endB_ite, endB_io_rt, endB_io_nx, oAdd_i, oSub_i, oLt_i, oLe_i, oGt_i, oGe_i, oEq_i, oNe_i, oIx_l, oIx_t, ixN_lit, fInt, fAbs, fLen, itemsOf, oNeg, bNot, isS, sh, h1, h2, h3, h4, h5, p30, dueD, wd, hL]
  by_cases h6 : m < 0
  · simp [runB_ap, sSeq_ap, sIf_ap, sAsg_ap, sDrop_ap, sRt_ap, sNx_ap, sBk_ap, sCt_ap, sRtN_ap, sFor_ap, sRaise_ap, sSet_ap, kSet, kSet2, xLc_ap, xInt_ap, kInt, xSl_ap, kSl1, kSl2, oPart, xRev_ap, listOf?, xCallIO_ap, kIO0, kIO, foXi_ok, xApp_ap, kApp0, kApp, isi_ib, isi_ii, isi_is, isi_sb, isi_si, isi_ss, isi_bb, isi_lb, isi_li, isi_ls, isi_lt, isi_ll, isi_tb, isi_ti, isi_ts, isi_tt, isi_tl, isN_n, isN_i, isN_s, isN_b, isN_d, sAug_ap, kAsg0, kAsg, sAugIx_k, kAug0, kAug1, kAug, oAddI_i, oSubI_i, xBor_ap, view, fzS, x2_ap, x1_ap, xN_ap, xC_ap, xVar_ap, xMove_ap, xIf_ap, xAnd_ap, xOr_ap, xDsp_ap,
    aCons_ap, aNil_ap, iRg_ap, iL_ap, xCall_ap, foX_ok, foX_exc, foX_ite, bX_ok, bX_exc, bX_ite, bXS_ok, bXS_exc, bXS_ite, bXA_ok, bXA_exc, bAX_ok, bAX_exc, bAA_ok, bAA_exc, bAS_ok, bAS_exc, bSS_nx, bSS_rt, bSS_bk, bSS_ct, bSS_exc, bSS_ite,
    oX_some, oA_some, oS_some, kIfX_t, kIfX_f, kIfX_d, kIfS_t, kIfS_f, kIfS_d, kIfS_n, borK_int, borK_bl, borK_str, borK_non, borK_exc, borK_ite, gNm_ap, fz, fzL, fzL_map, cl, clL,
    endB_nx, endB_rt, endB_exc, endB_ite, endB_io_rt, endB_io_nx, oAdd_i, oSub_i, oLt_i, oLe_i, oGt_i, oGe_i, oEq_i, oNe_i, oIx_l, oIx_t, ixN_lit, fInt, fAbs, fLen, itemsOf, oNeg, bNot, isS, sh, h1, h2, h3, h4, h5, h6, p30, dueD, wd, hL]
  by_cases h7 : o < 1
  · simp [runB_ap, sSeq_ap, sIf_ap, sAsg_ap, sDrop_ap, sRt_ap, sNx_ap, sBk_ap, sCt_ap, sRtN_ap, sFor_ap, sRaise_ap, sSet_ap, kSet, kSet2, xLc_ap, xInt_ap, kInt, xSl_ap, kSl1, kSl2, oPart, xRev_ap, listOf?, xCallIO_ap, kIO0, kIO, foXi_ok, xApp_ap, kApp0, kApp, isi_ib, isi_ii, isi_is, isi_sb, isi_si, isi_ss, isi_bb, isi_lb, isi_li, isi_ls, isi_lt, isi_ll, isi_tb, isi_ti, isi_ts, isi_tt, isi_tl, isN_n, isN_i, isN_s, isN_b, isN_d, sAug_ap, kAsg0, kAsg, sAugIx_k, kAug0, kAug1, kAug, oAddI_i, oSubI_i, xBor_ap, view, fzS, x2_ap, x1_ap, xN_ap, xC_ap, xVar_ap, xMove_ap, xIf_ap, xAnd_ap, xOr_ap, xDsp_ap,
    aCons_ap, aNil_ap, iRg_ap, iL_ap, xCall_ap, foX_ok, foX_exc, foX_ite, bX_ok, bX_exc, bX_ite, bXS_ok, bXS_exc, bXS_ite, bXA_ok, bXA_exc, bAX_ok, bAX_exc, bAA_ok, bAA_exc, bAS_ok, bAS_exc, bSS_nx, bSS_rt, bSS_bk, bSS_ct, bSS_exc, bSS_ite,
    oX_some, oA_some, oS_some, kIfX_t, kIfX_f, kIfX_d, kIfS_t, kIfS_f, kIfS_d, kIfS_n, borK_int, borK_bl, borK_str, borK_non, borK_exc, borK_ite, gNm_ap, fz, fzL, fzL_map, cl, clL,
    endB_nx, endB_rt, endB_exc, endB_ite, endB_io_rt, endB_io_nx, oAdd_i, oSub_i, oLt_i, oLe_i, oGt_i, oGe_i, oEq_i, oNe_i, oIx_l, oIx_t, ixN_lit, fInt, fAbs, fLen, itemsOf, oNeg, bNot, isS, sh, h1, h2, h3, h4, h5, h6, h7, p30, dueD, wd, hL]
  by_cases h8 : n < 0
  · simp [runB_ap, sSeq_ap, sIf_ap, sAsg_ap, sDrop_ap, sRt_ap, sNx_ap, sBk_ap, sCt_ap, sRtN_ap, sFor_ap, sRaise_ap, sSet_ap, kSet, kSet2, xLc_ap, xInt_ap, kInt, xSl_ap, kSl1, kSl2, oPart, xRev_ap, listOf?, xCallIO_ap, kIO0, kIO, foXi_ok, xApp_ap, kApp0, kApp, isi_ib, isi_ii, isi_is, isi_sb, isi_si, isi_ss, isi_bb, isi_lb, isi_li, isi_ls, isi_lt, isi_ll, isi_tb, isi_ti, isi_ts, isi_tt, isi_tl, isN_n, isN_i, isN_s, isN_b, isN_d, sAug_ap, kAsg0, kAsg, sAugIx_k, kAug0, kAug1, kAug, oAddI_i, oSubI_i, xBor_ap, view, fzS, x2_ap, x1_ap, xN_ap, xC_ap, xVar_ap, xMove_ap, xIf_ap, xAnd_ap, xOr_ap, xDsp_ap,
    aCons_ap, aNil_ap, iRg_ap, iL_ap, xCall_ap, foX_ok, foX_exc, foX_ite, bX_ok, bX_exc, bX_ite, bXS_ok, bXS_exc, bXS_ite, bXA_ok, bXA_exc, bAX_ok, bAX_exc, bAA_ok, bAA_exc, bAS_ok, bAS_exc, bSS_nx, bSS_rt, bSS_bk, bSS_ct, bSS_exc, bSS_ite,
    oX_some, oA_some, oS_some, kIfX_t, kIfX_f, kIfX_d, kIfS_t, kIfS_f, kIfS_d, kIfS_n, borK_int, borK_bl, borK_str, borK_non, borK_exc, borK_ite, gNm_ap, fz, fzL, fzL_map, cl, clL,
    endB_nx, endB_rt, endB_exc, endB_ite, endB_io_rt, endB_io_nx, oAdd_i, oSub_i, oLt_i, oLe_i, oGt_i, oGe_i, oEq_i, oNe_i, oIx_l, oIx_t, ixN_lit, fInt, fAbs, fLen, itemsOf, oNeg, bNot, isS, sh, h1, h2, h3, h4, h5, h6, h7, h8, p30, dueD, wd, hL, borK_cl]
  · simp [runB_ap, sSeq_ap, sIf_ap, sAsg_ap, sDrop_ap, sRt_ap, sNx_ap, sBk_ap, sCt_ap, sRtN_ap, sFor_ap, sRaise_ap, sSet_ap, kSet, kSet2, xLc_ap, xInt_ap, kInt, xSl_ap, kSl1, kSl2, oPart, xRev_ap, listOf?, xCallIO_ap, kIO0, kIO, foXi_ok, xApp_ap, kApp0, kApp, isi_ib, isi_ii, isi_is, isi_sb, isi_si, isi_ss, isi_bb, isi_lb, isi_li, isi_ls, isi_lt, isi_ll, isi_tb, isi_ti, isi_ts, isi_tt, isi_tl, isN_n, isN_i, isN_s, isN_b, isN_d, sAug_ap, kAsg0, kAsg, sAugIx_k, kAug0, kAug1, kAug, oAddI_i, oSubI_i, xBor_ap, view, fzS, x2_ap, x1_ap, xN_ap, xC_ap, xVar_ap, xMove_ap, xIf_ap, xAnd_ap, xOr_ap, xDsp_ap,
    aCons_ap, aNil_ap, iRg_ap, iL_ap, xCall_ap, foX_ok, foX_exc, foX_ite, bX_ok, bX_exc, bX_ite, bXS_ok, bXS_exc, bXS_ite, bXA_ok, bXA_exc, bAX_ok, bAX_exc, bAA_ok, bAA_exc, bAS_ok, bAS_exc, bSS_nx, bSS_rt, bSS_bk, bSS_ct, bSS_exc, bSS_ite,
    oX_some, oA_some, oS_some, kIfX_t, kIfX_f, kIfX_d, kIfS_t, kIfS_f, kIfS_d, kIfS_n, borK_int, borK_bl, borK_str, borK_non, borK_exc, borK_ite, gNm_ap, fz, fzL, fzL_map, cl, clL,
    endB_nx, endB_rt, endB_exc, endB_ite, endB_io_rt, endB_io_nx, oAdd_i, oSub_i, oLt_i, oLe_i, oGt_i, oGe_i, oEq_i, oNe_i, oIx_l, oIx_t, ixN_lit, fInt, fAbs, fLen, itemsOf, oNeg, bNot, isS, sh, h1, h2, h3, h4, h5, h6, h7, h8, p30, dueD, wd, hL1]
theorem word_ev (c : Nat) (hc : c < 4) (w : Str) : f__law_error_word [.exn c ["what"] [.str w]] = .ok (.nd true .tup [.str (wd c), .str w]) .non := by
  have hL : 2 ≤ LIM := by decide
  have hL0 : 0 < LIM := by decide
  unfold f__law_error_word b__law_error_word
  match c, hc with
  | 0, _ => simp [runB_ap, sSeq_ap, sIf_ap, sAsg_ap, sDrop_ap, sRt_ap, sNx_ap, sBk_ap, sCt_ap, sRtN_ap, sFor_ap, sRaise_ap, sSet_ap, kSet, kSet2, xLc_ap, xInt_ap, kInt, xSl_ap, kSl1, kSl2, oPart, xRev_ap, listOf?, xCallIO_ap, kIO0, kIO, foXi_ok, xApp_ap, kApp0, kApp, isi_ib, isi_ii, isi_is, isi_sb, isi_si, isi_ss, isi_bb, isi_lb, isi_li, isi_ls, isi_lt, isi_ll, isi_tb, isi_ti, isi_ts, isi_tt, isi_tl, isN_n, isN_i, isN_s, isN_b, isN_d, sAug_ap, kAsg0, kAsg, sAugIx_k, kAug0, kAug1, kAug, oAddI_i, oSubI_i, xBor_ap, view, fzS, x2_ap, x1_ap, xN_ap, xC_ap, xVar_ap, xMove_ap, xIf_ap, xAnd_ap, xOr_ap, xDsp_ap,
    aCons_ap, aNil_ap, iRg_ap, iL_ap, xCall_ap, foX_ok, foX_exc, foX_ite, bX_ok, bX_exc, bX_ite, bXS_ok, bXS_exc, bXS_ite, bXA_ok, bXA_exc, bAX_ok, bAX_exc, bAA_ok, bAA_exc, bAS_ok, bAS_exc, bSS_nx, bSS_rt, bSS_bk, bSS_ct, bSS_exc, bSS_ite,
    oX_some, oA_some, oS_some, kIfX_t, kIfX_f, kIfX_d, kIfS_t, kIfS_f, kIfS_d, kIfS_n, borK_int, borK_bl, borK_str, borK_non, borK_exc, borK_ite, gNm_ap, fz, fzL, fzL_map, cl, clL,
    endB_nx, endB_rt, endB_exc, endB_ite, endB_io_rt, endB_io_nx, oAdd_i, oSub_i, oLt_i, oLe_i, oGt_i, oGe_i, oEq_i, oNe_i, oIx_l, oIx_t, ixN_lit, fInt, fAbs, fLen, itemsOf, oNeg, bNot, isS, sh, oIsE, oFld, isc_TooMany, isc_BadRoom, isc_BadCourse, isc_BadNumbers, okx_what, wd, hL, hL0, borK_cl]
  | 1, _ => simp [runB_ap, sSeq_ap, sIf_ap, sAsg_ap, sDrop_ap, sRt_ap, sNx_ap, sBk_ap, sCt_ap, sRtN_ap, sFor_ap, sRaise_ap, sSet_ap, kSet, kSet2, xLc_ap, xInt_ap, kInt, xSl_ap, kSl1, kSl2, oPart, xRev_ap, listOf?, xCallIO_ap, kIO0, kIO, foXi_ok, xApp_ap, kApp0, kApp, isi_ib, isi_ii, isi_is, isi_sb, isi_si, isi_ss, isi_bb, isi_lb, isi_li, isi_ls, isi_lt, isi_ll, isi_tb, isi_ti, isi_ts, isi_tt, isi_tl, isN_n, isN_i, isN_s, isN_b, isN_d, sAug_ap, kAsg0, kAsg, sAugIx_k, kAug0, kAug1, kAug, oAddI_i, oSubI_i, xBor_ap, view, fzS, x2_ap, x1_ap, xN_ap, xC_ap, xVar_ap, xMove_ap, xIf_ap, xAnd_ap, xOr_ap, xDsp_ap,
    aCons_ap, aNil_ap, iRg_ap, iL_ap, xCall_ap, foX_ok, foX_exc, foX_ite, bX_ok, bX_exc, bX_ite, bXS_ok, bXS_exc, bXS_ite, bXA_ok, bXA_exc, bAX_ok, bAX_exc, bAA_ok, bAA_exc, bAS_ok, bAS_exc, bSS_nx, bSS_rt, bSS_bk, bSS_ct, bSS_exc, bSS_ite,
    oX_some, oA_some, oS_some, kIfX_t, kIfX_f, kIfX_d, kIfS_t, kIfS_f, kIfS_d, kIfS_n, borK_int, borK_bl, borK_str, borK_non, borK_exc, borK_ite, gNm_ap, fz, fzL, fzL_map, cl, clL,
    endB_nx, endB_rt, endB_exc, endB_ite, endB_io_rt, endB_io_nx, oAdd_i, oSub_i, oLt_i, oLe_i, oGt_i, oGe_i, oEq_i, oNe_i, oIx_l, oIx_t, ixN_lit, fInt, fAbs, fLen, itemsOf, oNeg, bNot, isS, sh, oIsE, oFld, isc_TooMany, isc_BadRoom, isc_BadCourse, isc_BadNumbers, okx_what, wd, hL, hL0, borK_cl]
  | 2, _ => simp [runB_ap, sSeq_ap, sIf_ap, sAsg_ap, sDrop_ap, sRt_ap, sNx_ap, sBk_ap, sCt_ap, sRtN_ap, sFor_ap, sRaise_ap, sSet_ap, kSet, kSet2, xLc_ap, xInt_ap, kInt, xSl_ap, kSl1, kSl2, oPart, xRev_ap, listOf?, xCallIO_ap, kIO0, kIO, foXi_ok, xApp_ap, kApp0, kApp, isi_ib, isi_ii, isi_is, isi_sb, isi_si, isi_ss, isi_bb, isi_lb, isi_li, isi_ls, isi_lt, isi_ll, isi_tb, isi_ti, isi_ts, isi_tt, isi_tl, isN_n, isN_i, isN_s, isN_b, isN_d, sAug_ap, kAsg0, kAsg, sAugIx_k, kAug0, kAug1, kAug, oAddI_i, oSubI_i, xBor_ap, view, fzS, x2_ap, x1_ap, xN_ap, xC_ap, xVar_ap, xMove_ap, xIf_ap, xAnd_ap, xOr_ap, xDsp_ap,
    aCons_ap, aNil_ap, iRg_ap, iL_ap, xCall_ap, foX_ok, foX_exc, foX_ite, bX_ok, bX_exc, bX_ite, bXS_ok, bXS_exc, bXS_ite, bXA_ok, bXA_exc, bAX_ok, bAX_exc, bAA_ok, bAA_exc, bAS_ok, bAS_exc, bSS_nx, bSS_rt, bSS_bk, bSS_ct, bSS_exc, bSS_ite,
    oX_some, oA_some, oS_some, kIfX_t, kIfX_f, kIfX_d, kIfS_t, kIfS_f, kIfS_d, kIfS_n, borK_int, borK_bl, borK_str, borK_non, borK_exc, borK_ite, gNm_ap, fz, fzL, fzL_map, cl, clL,
    endB_nx, endB_rt, endB_exc, endB_ite, endB_io_rt, endB_io_nx, oAdd_i, oSub_i, oLt_i, oLe_i, oGt_i, oGe_i, oEq_i, oNe_i, oIx_l, oIx_t, ixN_lit, fInt, fAbs, fLen, itemsOf, oNeg, bNot, isS, sh, oIsE, oFld, isc_TooMany, isc_BadRoom, isc_BadCourse, isc_BadNumbers, okx_what, wd, hL, hL0, borK_cl]
  | 3, _ => simp [runB_ap, sSeq_ap, sIf_ap, sAsg_ap, sDrop_ap, sRt_ap, sNx_ap, sBk_ap, sCt_ap, sRtN_ap, sFor_ap, sRaise_ap, sSet_ap, kSet, kSet2, xLc_ap, xInt_ap, kInt, xSl_ap, kSl1, kSl2, oPart, xRev_ap, listOf?, xCallIO_ap, kIO0, kIO, foXi_ok, xApp_ap, kApp0, kApp, isi_ib, isi_ii, isi_is, isi_sb, isi_si, isi_ss, isi_bb, isi_lb, isi_li, isi_ls, isi_lt, isi_ll, isi_tb, isi_ti, isi_ts, isi_tt, isi_tl, isN_n, isN_i, isN_s, isN_b, isN_d, sAug_ap, kAsg0, kAsg, sAugIx_k, kAug0, kAug1, kAug, oAddI_i, oSubI_i, xBor_ap, view, fzS, x2_ap, x1_ap, xN_ap, xC_ap, xVar_ap, xMove_ap, xIf_ap, xAnd_ap, xOr_ap, xDsp_ap,
    aCons_ap, aNil_ap, iRg_ap, iL_ap, xCall_ap, foX_ok, foX_exc, foX_ite, bX_ok, bX_exc, bX_ite, bXS_ok, bXS_exc, bXS_ite, bXA_ok, bXA_exc, bAX_ok, bAX_exc, bAA_ok, bAA_exc, bAS_ok, bAS_exc, bSS_nx, bSS_rt, bSS_bk, bSS_ct, bSS_exc, bSS_ite,
    oX_some, oA_some, oS_some, kIfX_t, kIfX_f, kIfX_d, kIfS_t, kIfS_f, kIfS_d, kIfS_n, borK_int, borK_bl, borK_str, borK_non, borK_exc, borK_ite, gNm_ap, fz, fzL, fzL_map, cl, clL,
    endB_nx, endB_rt, endB_exc, endB_ite, endB_io_rt, endB_io_nx, oAdd_i, oSub_i, oLt_i, oLe_i, oGt_i, oGe_i, oEq_i, oNe_i, oIx_l, oIx_t, ixN_lit, fInt, fAbs, fLen, itemsOf, oNeg, bNot, isS, sh, oIsE, oFld, isc_TooMany, isc_BadRoom, isc_BadCourse, isc_BadNumbers, okx_what, wd, hL, hL0, borK_cl]

theorem size_ev (a b c : Int) : ∃ r a' b' c', f__law_size [pz a b c, .int 1000000000000000000000000000000] = .ok (.int r) (pz a' b' c') ∧ 0 ≤ r ∧ r ≤ 1000000000000000000000000000000 := by
  obtain ⟨r1, a1, b1, c1, e1, p1, q1⟩ := draw_ev a b c 4 (by decide) (by decide)
  obtain ⟨r2, a2, b2, c2, e2, p2, q2⟩ := draw_ev a1 b1 c1 12 (by decide) (by decide)
  have p9 : oPow (.int 10) (.int 9) = some (.int 1000000000) := by rfl
  have hL : 4 ≤ LIM := by decide
  have hsz : ∃ z : Int, [D.int 10, D.int 100, D.int 1000000000, D.int 1000000000000000000000000000000][r1.toNat]? = some (.int z) ∧ 0 ≤ z ∧ z ≤ 1000000000000000000000000000000 := by
    have : r1 = 0 ∨ r1 = 1 ∨ r1 = 2 ∨ r1 = 3 := by omega
    rcases this with rfl | rfl | rfl | rfl <;> exact ⟨_, rfl, by decide, by decide⟩
  obtain ⟨z, hz, z0, z1⟩ := hsz
  obtain ⟨r3, a3, b3, c3, e3, p3, q3⟩ := draw_ev a2 b2 c2 (z + 1) (by omega) (Nat.lt_of_le_of_lt (by omega : (z + 1).natAbs ≤ 10 ^ 40) (by decide))
  unfold f__law_size b__law_size
  by_cases h : r2 = 0
  · refine ⟨1000000000000000000000000000000, a2, b2, c2, ?_, by decide, by decide⟩
    simp [runB_ap, sSeq_ap, sIf_ap, sAsg_ap, sDrop_ap, sRt_ap, sNx_ap, sBk_ap, sCt_ap, sRtN_ap, sFor_ap, sRaise_ap, sSet_ap, kSet, kSet2, xLc_ap, xInt_ap, kInt, xSl_ap, kSl1, kSl2, oPart, xRev_ap, listOf?, xCallIO_ap, kIO0, kIO, foXi_ok, xApp_ap, kApp0, kApp, isi_ib, isi_ii, isi_is, isi_sb, isi_si, isi_ss, isi_bb, isi_lb, isi_li, isi_ls, isi_lt, isi_ll, isi_tb, isi_ti, isi_ts, isi_tt, isi_tl, isN_n, isN_i, isN_s, isN_b, isN_d, sAug_ap, kAsg0, kAsg, sAugIx_k, kAug0, kAug1, kAug, oAddI_i, oSubI_i, xBor_ap, view, fzS, x2_ap, x1_ap, xN_ap, xC_ap, xVar_ap, xMove_ap, xIf_ap, xAnd_ap, xOr_ap, xDsp_ap,
    aCons_ap, aNil_ap, iRg_ap, iL_ap, xCall_ap, foX_ok, foX_exc, foX_ite, bX_ok, bX_exc, bX_ite, bXS_ok, bXS_exc, bXS_ite, bXA_ok, bXA_exc, bAX_ok, bAX_exc, bAA_ok, bAA_exc, bAS_ok, bAS_exc, bSS_nx, bSS_rt, bSS_bk, bSS_ct, bSS_exc, bSS_ite,
    oX_some, oA_some, oS_some, kIfX_t, kIfX_f, kIfX_d, kIfS_t, kIfS_f, kIfS_d, kIfS_n, borK_int, borK_bl, borK_str, borK_non, borK_exc, borK_ite, gNm_ap, fz, fzL, fzL_map, cl, clL,
    endB_nx, endB_rt, endB_exc, endB_ite, endB_io_rt, endB_io_nx, oAdd_i, oSub_i, oLt_i, oLe_i, oGt_i, oGe_i, oEq_i, oNe_i, oIx_l, oIx_t, ixN_lit, fInt, fAbs, fLen, itemsOf, oNeg, bNot, isS, sh, e1, e2, p9, hL, borK_cl, hz, p1, h]
  · refine ⟨r3, a3, b3, c3, ?_, p3, by omega⟩
    simp [runB_ap, sSeq_ap, sIf_ap, sAsg_ap, sDrop_ap, sRt_ap, sNx_ap, sBk_ap, sCt_ap, sRtN_ap, sFor_ap, sRaise_ap, sSet_ap, kSet, kSet2, xLc_ap, xInt_ap, kInt, xSl_ap, kSl1, kSl2, oPart, xRev_ap, listOf?, xCallIO_ap, kIO0, kIO, foXi_ok, xApp_ap, kApp0, kApp, isi_ib, isi_ii, isi_is, isi_sb, isi_si, isi_ss, isi_bb, isi_lb, isi_li, isi_ls, isi_lt, isi_ll, isi_tb, isi_ti, isi_ts, isi_tt, isi_tl, isN_n, isN_i, isN_s, isN_b, isN_d, sAug_ap, kAsg0, kAsg, sAugIx_k, kAug0, kAug1, kAug, oAddI_i, oSubI_i, xBor_ap, view, fzS, x2_ap, x1_ap, xN_ap, xC_ap, xVar_ap, xMove_ap, xIf_ap, xAnd_ap, xOr_ap, xDsp_ap,
    aCons_ap, aNil_ap, iRg_ap, iL_ap, xCall_ap, foX_ok, foX_exc, foX_ite, bX_ok, bX_exc, bX_ite, bXS_ok, bXS_exc, bXS_ite, bXA_ok, bXA_exc, bAX_ok, bAX_exc, bAA_ok, bAA_exc, bAS_ok, bAS_exc, bSS_nx, bSS_rt, bSS_bk, bSS_ct, bSS_exc, bSS_ite,
    oX_some, oA_some, oS_some, kIfX_t, kIfX_f, kIfX_d, kIfS_t, kIfS_f, kIfS_d, kIfS_n, borK_int, borK_bl, borK_str, borK_non, borK_exc, borK_ite, gNm_ap, fz, fzL, fzL_map, cl, clL,
    endB_nx, endB_rt, endB_exc, endB_ite, endB_io_rt, endB_io_nx, oAdd_i, oSub_i, oLt_i, oLe_i, oGt_i, oGe_i, oEq_i, oNe_i, oIx_l, oIx_t, ixN_lit, fInt, fAbs, fLen, itemsOf, oNeg, bNot, isS, sh, e1, e2, p9, hL, borK_cl, hz, p1, h, e3]

theorem pick_ev (a b c : Int) (ns : List Int) (h0 : 0 < ns.length) (h1 : ns.length ≤ 100000) : ∃ (z a' b' c' : Int), f__law_pick [pz a b c, .nd false .lst (ns.map D.int)] = .ok (.int z) (pz a' b' c') ∧ z ∈ ns := by
  obtain ⟨r, a1, b1, c1, e1, p1, q1⟩ := draw_ev a b c ns.length (by omega) (Nat.lt_of_le_of_lt (by omega : ((ns.length : Int)).natAbs ≤ 10 ^ 10) (by decide))
  have hr : r.toNat < ns.length := by omega
  refine ⟨ns[r.toNat], a1, b1, c1, ?_, List.getElem_mem hr⟩
  unfold f__law_pick b__law_pick
  simp [runB_ap, sSeq_ap, sIf_ap, sAsg_ap, sDrop_ap, sRt_ap, sNx_ap, sBk_ap, sCt_ap, sRtN_ap, sFor_ap, sRaise_ap, sSet_ap, kSet, kSet2, xLc_ap, xInt_ap, kInt, xSl_ap, kSl1, kSl2, oPart, xRev_ap, listOf?, xCallIO_ap, kIO0, kIO, foXi_ok, xApp_ap, kApp0, kApp, isi_ib, isi_ii, isi_is, isi_sb, isi_si, isi_ss, isi_bb, isi_lb, isi_li, isi_ls, isi_lt, isi_ll, isi_tb, isi_ti, isi_ts, isi_tt, isi_tl, isN_n, isN_i, isN_s, isN_b, isN_d, sAug_ap, kAsg0, kAsg, sAugIx_k, kAug0, kAug1, kAug, oAddI_i, oSubI_i, xBor_ap, view, fzS, x2_ap, x1_ap, xN_ap, xC_ap, xVar_ap, xMove_ap, xIf_ap, xAnd_ap, xOr_ap, xDsp_ap,
    aCons_ap, aNil_ap, iRg_ap, iL_ap, xCall_ap, foX_ok, foX_exc, foX_ite, bX_ok, bX_exc, bX_ite, bXS_ok, bXS_exc, bXS_ite, bXA_ok, bXA_exc, bAX_ok, bAX_exc, bAA_ok, bAA_exc, bAS_ok, bAS_exc, bSS_nx, bSS_rt, bSS_bk, bSS_ct, bSS_exc, bSS_ite,
    oX_some, oA_some, oS_some, kIfX_t, kIfX_f, kIfX_d, kIfS_t, kIfS_f, kIfS_d, kIfS_n, borK_int, borK_bl, borK_str, borK_non, borK_exc, borK_ite, gNm_ap, fz, fzL, fzL_map, cl, clL,
    endB_nx, endB_rt, endB_exc, endB_ite, endB_io_rt, endB_io_nx, oAdd_i, oSub_i, oLt_i, oLe_i, oGt_i, oGe_i, oEq_i, oNe_i, oIx_l, oIx_t, ixN_lit, fInt, fAbs, fLen, itemsOf, oNeg, bNot, isS, sh, e1, p1, List.getElem?_map, List.getElem?_eq_getElem hr]
theorem pw_b {o : Int} (h0 : 0 ≤ o) (h7 : o ≤ 7) : ∀ n : Nat, 0 ≤ pw o n ∧ pw o n ≤ 8 ^ n
  | 0 => by simp [pw]
  | n + 1 => by
    obtain ⟨h1, h2⟩ := pw_b h0 h7 n
    rw [pw_h]
    have h3 : 0 ≤ pw o n * o := Int.mul_nonneg h1 h0
    have h4 : pw o n * o ≤ pw o n * 7 := Int.mul_le_mul_of_nonneg_left h7 h1
    have h5 : (8 : Int) ^ (n + 1) = 8 ^ n * 8 := Int.pow_succ ..
    have h6 : (1 : Int) ≤ 8 ^ n := by
      have : (0 : Int) < 8 ^ n := Int.pow_pos (by decide)
      omega
    omega
theorem pw_40 {o : Int} (h0 : 0 ≤ o) (h7 : o ≤ 7) {n : Nat} (hn : n ≤ 40) : 0 ≤ pw o n ∧ (pw o n).natAbs < 2 ^ 121 := by
  obtain ⟨h1, h2⟩ := pw_b h0 h7 n
  refine ⟨h1, ?_⟩
  have h3 : (8 : Int) ^ n ≤ 8 ^ 40 := by
    have := Nat.pow_le_pow_right (by decide : 8 > 0) hn
    exact_mod_cast this
  have h4 : (8 : Int) ^ 40 < 2 ^ 121 := by decide
  omega
theorem pw_1 {o : Int} (h0 : 0 ≤ o) (h7 : o ≤ 7) {n : Nat} (hn : 1 ≤ n) : 1 ≤ pw o n := by
  obtain ⟨k, rfl⟩ : ∃ k, n = k + 1 := ⟨n - 1, by omega⟩
  rw [pw_h]
  have := Int.mul_nonneg (pw_b h0 h7 k).1 h0
  omega

theorem tiny {z : Int} (h : z.natAbs < 2 ^ 3000) : z.natAbs < 2 ^ 4000 := Nat.lt_of_lt_of_le h (Nat.pow_le_pow_right (by decide) (by decide))
theorem big_b {z : Int} (h0 : 0 ≤ z) (h : z ≤ 1000000000000000000000000000000) : z.natAbs < 2 ^ 4000 := tiny (Nat.lt_of_le_of_lt (by omega : z.natAbs ≤ 10 ^ 30) (by decide))
theorem pw_big {o : Int} (h0 : 0 ≤ o) (h7 : o ≤ 7) {n : Nat} (hn : n ≤ 40) : (pw o n).natAbs < 2 ^ 4000 := tiny (Nat.lt_of_lt_of_le (pw_40 h0 h7 hn).2 (Nat.pow_le_pow_right (by decide) (by decide)))
theorem day_big {s : Int} (h2 : 2 ≤ s) (h8 : s ≤ 8) {n : Nat} (hn : n ≤ 40) : 1 ≤ 1 + s * pw (s - 1) n ∧ (1 + s * pw (s - 1) n).natAbs < 2 ^ 4000 := by
  obtain ⟨h1, h3⟩ := pw_40 (o := s - 1) (by omega) (by omega) hn
  have h4 : 0 ≤ s * pw (s - 1) n := Int.mul_nonneg (by omega) h1
  have h5 : s * pw (s - 1) n ≤ 8 * pw (s - 1) n := Int.mul_le_mul_of_nonneg_right h8 h1
  refine ⟨by omega, tiny (Nat.lt_of_le_of_lt (by omega : (1 + s * pw (s - 1) n).natAbs ≤ 2 ^ 125) (by decide))⟩
theorem ok_of_bad {s m o n : Int} {what : Str} (h : bad? s m o n what = none) : 2 ≤ s ∧ s ≤ 8 ∧ 0 ≤ m ∧ m ≤ 1000000000000000000000000000000 ∧ 1 ≤ o ∧ o ≤ 40 ∧ 0 ≤ n ∧ n ≤ 1000000000000000000000000000000 := by
  unfold bad? at h
  repeat' split at h <;> try cases h
  omega
theorem bad_of_ok {s m o n : Int} {what : Str} (h1 : 2 ≤ s) (h2 : s ≤ 8) (h3 : 0 ≤ m) (h4 : m ≤ 1000000000000000000000000000000) (h5 : 1 ≤ o) (h6 : o ≤ 40) (h7 : 0 ≤ n) (h8 : n ≤ 1000000000000000000000000000000) : bad? s m o n what = none := by
  unfold bad?
  repeat' split
  all_goals first | rfl | omega
def needD (s xi : Int) (n : Nat) : List D := [.int (xi * pw (s - 1) n), .int (xi * (1 + s * pw (s - 1) (n - 1)))]
theorem need_ev (s : Int) (n : Nat) (xi : Int) (h : bad? s 0 n xi "xi" = none) : f_night_need [.int s, .int n, .int xi] = .ok (.nd true .tup (needD s xi n)) .non := by
  obtain ⟨h1, h2, _, _, h5, h6, h7, h8⟩ := ok_of_bad h
  have hp := powers_ev (s - 1) n (by omega) (by omega)
  have hp1 := powers_ev (s - 1) (n - 1) (by omega) (by omega)
  have ec : ((n : Int) - 1) = ((n - 1 : Nat) : Int) := by omega
  have m1 : mulOk xi (pw (s - 1) n) = true := mulOk_b (big_b h7 h8) (pw_big (by omega) (by omega) (by omega))
  have m2 : mulOk xi (1 + s * pw (s - 1) (n - 1)) = true := mulOk_b (big_b h7 h8) (day_big h1 h2 (by omega)).2
  have m3 : mulOk s (pw (s - 1) (n - 1)) = true := mulOk_l (by omega)
  have hL : 2 ≤ LIM := by decide
  unfold f_night_need b_night_need
  simp [runB_ap, sSeq_ap, sIf_ap, sAsg_ap, sDrop_ap, sRt_ap, sNx_ap, sBk_ap, sCt_ap, sRtN_ap, sFor_ap, sRaise_ap, sSet_ap, kSet, kSet2, xLc_ap, xInt_ap, kInt, xSl_ap, kSl1, kSl2, oPart, xRev_ap, listOf?, xCallIO_ap, kIO0, kIO, foXi_ok, xApp_ap, kApp0, kApp, isi_ib, isi_ii, isi_is, isi_sb, isi_si, isi_ss, isi_bb, isi_lb, isi_li, isi_ls, isi_lt, isi_ll, isi_tb, isi_ti, isi_ts, isi_tt, isi_tl, isN_n, isN_i, isN_s, isN_b, isN_d, sAug_ap, kAsg0, kAsg, sAugIx_k, kAug0, kAug1, kAug, oAddI_i, oSubI_i, xBor_ap, view, fzS, x2_ap, x1_ap, xN_ap, xC_ap, xVar_ap, xMove_ap, xIf_ap, xAnd_ap, xOr_ap, xDsp_ap,
    aCons_ap, aNil_ap, iRg_ap, iL_ap, xCall_ap, foX_ok, foX_exc, foX_ite, bX_ok, bX_exc, bX_ite, bXS_ok, bXS_exc, bXS_ite, bXA_ok, bXA_exc, bAX_ok, bAX_exc, bAA_ok, bAA_exc, bAS_ok, bAS_exc, bSS_nx, bSS_rt, bSS_bk, bSS_ct, bSS_exc, bSS_ite,
    oX_some, oA_some, oS_some, kIfX_t, kIfX_f, kIfX_d, kIfS_t, kIfS_f, kIfS_d, kIfS_n, borK_int, borK_bl, borK_str, borK_non, borK_exc, borK_ite, gNm_ap, fz, fzL, fzL_map, cl, clL,
    endB_nx, endB_rt, endB_exc, endB_ite, endB_io_rt, endB_io_nx, oAdd_i, oSub_i, oLt_i, oLe_i, oGt_i, oGe_i, oEq_i, oNe_i, oIx_l, oIx_t, ixN_lit, fInt, fAbs, fLen, itemsOf, oNeg, bNot, isS, sh, check_numbers_ev, h, exF, ec, hp, hp1, oMul_i, m1, m2, m3, hL, borK_cl, needD]
theorem need_bad (s o xi : Int) (c : Nat) (w : Str) (h : bad? s 0 o xi "xi" = some (c, w)) : f_night_need [.int s, .int o, .int xi] = .exc c ["what"] [.str w] .non := by
  unfold f_night_need b_night_need
  simp [runB_ap, sSeq_ap, sIf_ap, sAsg_ap, sDrop_ap, sRt_ap, sNx_ap, sBk_ap, sCt_ap, sRtN_ap, sFor_ap, sRaise_ap, sSet_ap, kSet, kSet2, xLc_ap, xInt_ap, kInt, xSl_ap, kSl1, kSl2, oPart, xRev_ap, listOf?, xCallIO_ap, kIO0, kIO, foXi_ok, xApp_ap, kApp0, kApp, isi_ib, isi_ii, isi_is, isi_sb, isi_si, isi_ss, isi_bb, isi_lb, isi_li, isi_ls, isi_lt, isi_ll, isi_tb, isi_ti, isi_ts, isi_tt, isi_tl, isN_n, isN_i, isN_s, isN_b, isN_d, sAug_ap, kAsg0, kAsg, sAugIx_k, kAug0, kAug1, kAug, oAddI_i, oSubI_i, xBor_ap, view, fzS, x2_ap, x1_ap, xN_ap, xC_ap, xVar_ap, xMove_ap, xIf_ap, xAnd_ap, xOr_ap, xDsp_ap,
    aCons_ap, aNil_ap, iRg_ap, iL_ap, xCall_ap, foX_ok, foX_exc, foX_ite, bX_ok, bX_exc, bX_ite, bXS_ok, bXS_exc, bXS_ite, bXA_ok, bXA_exc, bAX_ok, bAX_exc, bAA_ok, bAA_exc, bAS_ok, bAS_exc, bSS_nx, bSS_rt, bSS_bk, bSS_ct, bSS_exc, bSS_ite,
    oX_some, oA_some, oS_some, kIfX_t, kIfX_f, kIfX_d, kIfS_t, kIfS_f, kIfS_d, kIfS_n, borK_int, borK_bl, borK_str, borK_non, borK_exc, borK_ite, gNm_ap, fz, fzL, fzL_map, cl, clL,
    endB_nx, endB_rt, endB_exc, endB_ite, endB_io_rt, endB_io_nx, oAdd_i, oSub_i, oLt_i, oLe_i, oGt_i, oGe_i, oEq_i, oNe_i, oIx_l, oIx_t, ixN_lit, fInt, fAbs, fLen, itemsOf, oNeg, bNot, isS, sh, check_numbers_ev, h, exF]
theorem worth_ev (s m : Int) (n : Nat) (fr : Int) (h : bad? s m n fr "free" = none) : f_nights_worth [.int s, .int m, .int n, .int fr] = .ok (.int (min (fr / pw (s - 1) n) (m / (1 + s * pw (s - 1) (n - 1))))) .non := by
  obtain ⟨h1, h2, _, _, h5, h6, h7, h8⟩ := ok_of_bad h
  have hp := powers_ev (s - 1) n (by omega) (by omega)
  have hp1 := powers_ev (s - 1) (n - 1) (by omega) (by omega)
  have ec : ((n : Int) - 1) = ((n - 1 : Nat) : Int) := by omega
  have m3 : mulOk s (pw (s - 1) (n - 1)) = true := mulOk_l (by omega)
  have d1 := pw_1 (o := s - 1) (by omega) (by omega) (n := n) (by omega)
  have d2 := pw_big (o := s - 1) (by omega) (by omega) (n := n) (by omega)
  obtain ⟨d3, d4⟩ := day_big h1 h2 (n := n - 1) (by omega)
  have v1 : oDiv (.int fr) (.int (pw (s - 1) n)) = some (.int (fr / pw (s - 1) n)) := oDiv_i (by omega) d2
  have v2 : oDiv (.int m) (.int (1 + s * pw (s - 1) (n - 1))) = some (.int (m / (1 + s * pw (s - 1) (n - 1)))) := oDiv_i (by omega) d4
  unfold f_nights_worth b_nights_worth
  simp [runB_ap, sSeq_ap, sIf_ap, sAsg_ap, sDrop_ap, sRt_ap, sNx_ap, sBk_ap, sCt_ap, sRtN_ap, sFor_ap, sRaise_ap, sSet_ap, kSet, kSet2, xLc_ap, xInt_ap, kInt, xSl_ap, kSl1, kSl2, oPart, xRev_ap, listOf?, xCallIO_ap, kIO0, kIO, foXi_ok, xApp_ap, kApp0, kApp, isi_ib, isi_ii, isi_is, isi_sb, isi_si, isi_ss, isi_bb, isi_lb, isi_li, isi_ls, isi_lt, isi_ll, isi_tb, isi_ti, isi_ts, isi_tt, isi_tl, isN_n, isN_i, isN_s, isN_b, isN_d, sAug_ap, kAsg0, kAsg, sAugIx_k, kAug0, kAug1, kAug, oAddI_i, oSubI_i, xBor_ap, view, fzS, x2_ap, x1_ap, xN_ap, xC_ap, xVar_ap, xMove_ap, xIf_ap, xAnd_ap, xOr_ap, xDsp_ap,
    aCons_ap, aNil_ap, iRg_ap, iL_ap, xCall_ap, foX_ok, foX_exc, foX_ite, bX_ok, bX_exc, bX_ite, bXS_ok, bXS_exc, bXS_ite, bXA_ok, bXA_exc, bAX_ok, bAX_exc, bAA_ok, bAA_exc, bAS_ok, bAS_exc, bSS_nx, bSS_rt, bSS_bk, bSS_ct, bSS_exc, bSS_ite,
    oX_some, oA_some, oS_some, kIfX_t, kIfX_f, kIfX_d, kIfS_t, kIfS_f, kIfS_d, kIfS_n, borK_int, borK_bl, borK_str, borK_non, borK_exc, borK_ite, gNm_ap, fz, fzL, fzL_map, cl, clL,
    endB_nx, endB_rt, endB_exc, endB_ite, endB_io_rt, endB_io_nx, oAdd_i, oSub_i, oLt_i, oLe_i, oGt_i, oGe_i, oEq_i, oNe_i, oIx_l, oIx_t, ixN_lit, fInt, fAbs, fLen, itemsOf, oNeg, bNot, isS, sh, check_numbers_ev, h, exF, ec, hp, hp1, oMul_i, m3, v1, v2, fMinL]
theorem worth_bad (s m o fr : Int) (c : Nat) (w : Str) (h : bad? s m o fr "free" = some (c, w)) : f_nights_worth [.int s, .int m, .int o, .int fr] = .exc c ["what"] [.str w] .non := by
  unfold f_nights_worth b_nights_worth
  simp [runB_ap, sSeq_ap, sIf_ap, sAsg_ap, sDrop_ap, sRt_ap, sNx_ap, sBk_ap, sCt_ap, sRtN_ap, sFor_ap, sRaise_ap, sSet_ap, kSet, kSet2, xLc_ap, xInt_ap, kInt, xSl_ap, kSl1, kSl2, oPart, xRev_ap, listOf?, xCallIO_ap, kIO0, kIO, foXi_ok, xApp_ap, kApp0, kApp, isi_ib, isi_ii, isi_is, isi_sb, isi_si, isi_ss, isi_bb, isi_lb, isi_li, isi_ls, isi_lt, isi_ll, isi_tb, isi_ti, isi_ts, isi_tt, isi_tl, isN_n, isN_i, isN_s, isN_b, isN_d, sAug_ap, kAsg0, kAsg, sAugIx_k, kAug0, kAug1, kAug, oAddI_i, oSubI_i, xBor_ap, view, fzS, x2_ap, x1_ap, xN_ap, xC_ap, xVar_ap, xMove_ap, xIf_ap, xAnd_ap, xOr_ap, xDsp_ap,
    aCons_ap, aNil_ap, iRg_ap, iL_ap, xCall_ap, foX_ok, foX_exc, foX_ite, bX_ok, bX_exc, bX_ite, bXS_ok, bXS_exc, bXS_ite, bXA_ok, bXA_exc, bAX_ok, bAX_exc, bAA_ok, bAA_exc, bAS_ok, bAS_exc, bSS_nx, bSS_rt, bSS_bk, bSS_ct, bSS_exc, bSS_ite,
    oX_some, oA_some, oS_some, kIfX_t, kIfX_f, kIfX_d, kIfS_t, kIfS_f, kIfS_d, kIfS_n, borK_int, borK_bl, borK_str, borK_non, borK_exc, borK_ite, gNm_ap, fz, fzL, fzL_map, cl, clL,
    endB_nx, endB_rt, endB_exc, endB_ite, endB_io_rt, endB_io_nx, oAdd_i, oSub_i, oLt_i, oLe_i, oGt_i, oGe_i, oEq_i, oNe_i, oIx_l, oIx_t, ixN_lit, fInt, fAbs, fLen, itemsOf, oNeg, bNot, isS, sh, check_numbers_ev, h, exF]

def capF (s m xi : Int) (n : Nat) : D → D
  | .int p => .int (m - xi * pw (s - 1) (n - p).toNat)
  | _ => .non
def capD (s m xi : Int) (n : Nat) : List D := (rgD 1 1 n).map (capF s m xi n)
theorem caps_it (s m : Int) (n : Nat) (xi : Int) (x : Option D) (h : bad? s m n xi "xi" = none) :
    kLc [4] (gNm 4) (xC (.bl true)) (xBor [true, true, true, true, true] (x2 oSub (xVar 1) (x2 oMul (xVar 3) (xCall 2 f_powers (aCons (x2 oSub (xVar 0) (xC (.int 1))) (aCons (x2 oSub (xVar 2) (xVar 4)) aNil)))))) (rgD 1 1 n) [some (.int s), some (.int m), some (.int n), some (.int xi), x]
      = .ok (.nd true .lst (capD s m xi n)) (backE [some (.int s), some (.int m), some (.int n), some (.int xi), x] [some (.int s), some (.int m), some (.int n), some (.int xi), none] [4]) := by
  obtain ⟨h1, h2, _, _, h5, h6, h7, h8⟩ := ok_of_bad h
  refine kLc_map (capF s m xi n) (fun d hd => ?_) (by rw [rgD_len]; unfold LIM; omega)
  obtain ⟨k, hk⟩ := List.getElem?_of_mem hd
  obtain ⟨hk, rfl⟩ := rgD_get hk
  have hp := powers_ev (s - 1) (n - (k + 1)) (by omega) (by omega)
  have e0 : (1 : Int) + k * 1 = 1 + k := by omega
  have e1 : ((n : Int) - (1 + k)) = ((n - (k + 1) : Nat) : Int) := by omega
  have m1 : mulOk xi (pw (s - 1) (n - (k + 1))) = true := mulOk_b (big_b h7 h8) (pw_big (by omega) (by omega) (by omega))
  refine ⟨[some (.int s), some (.int m), some (.int n), some (.int xi), some (.int (1 + k * 1))], _, [some (.int s), some (.int m), some (.int n), some (.int xi), some (.int (1 + k * 1))], gNm_ap (by simp [wipeE]), xC_ap, ?_, rfl⟩
  rw [e0]
  simp only [capF]
  rw [e1, Int.toNat_natCast]
  simp [runB_ap, sSeq_ap, sIf_ap, sAsg_ap, sDrop_ap, sRt_ap, sNx_ap, sBk_ap, sCt_ap, sRtN_ap, sFor_ap, sRaise_ap, sSet_ap, kSet, kSet2, xLc_ap, xInt_ap, kInt, xSl_ap, kSl1, kSl2, oPart, xRev_ap, listOf?, xCallIO_ap, kIO0, kIO, foXi_ok, xApp_ap, kApp0, kApp, isi_ib, isi_ii, isi_is, isi_sb, isi_si, isi_ss, isi_bb, isi_lb, isi_li, isi_ls, isi_lt, isi_ll, isi_tb, isi_ti, isi_ts, isi_tt, isi_tl, isN_n, isN_i, isN_s, isN_b, isN_d, sAug_ap, kAsg0, kAsg, sAugIx_k, kAug0, kAug1, kAug, oAddI_i, oSubI_i, xBor_ap, view, fzS, x2_ap, x1_ap, xN_ap, xC_ap, xVar_ap, xMove_ap, xIf_ap, xAnd_ap, xOr_ap, xDsp_ap,
    aCons_ap, aNil_ap, iRg_ap, iL_ap, xCall_ap, foX_ok, foX_exc, foX_ite, bX_ok, bX_exc, bX_ite, bXS_ok, bXS_exc, bXS_ite, bXA_ok, bXA_exc, bAX_ok, bAX_exc, bAA_ok, bAA_exc, bAS_ok, bAS_exc, bSS_nx, bSS_rt, bSS_bk, bSS_ct, bSS_exc, bSS_ite,
    oX_some, oA_some, oS_some, kIfX_t, kIfX_f, kIfX_d, kIfS_t, kIfS_f, kIfS_d, kIfS_n, borK_int, borK_bl, borK_str, borK_non, borK_exc, borK_ite, gNm_ap, fz, fzL, fzL_map, cl, clL,
    endB_nx, endB_rt, endB_exc, endB_ite, endB_io_rt, endB_io_nx, oAdd_i, oSub_i, oLt_i, oLe_i, oGt_i, oGe_i, oEq_i, oNe_i, oIx_l, oIx_t, ixN_lit, fInt, fAbs, fLen, itemsOf, oNeg, bNot, isS, sh, e1, hp, oMul_i, m1]
theorem caps_cl (s m xi : Int) (n : Nat) : clL (capD s m xi n) = true := by
  unfold capD rgD
  rw [List.map_map]
  induction List.range n with
  | nil => rfl
  | cons x l ih => rw [List.map_cons, clL, ih]; rfl
theorem caps_ev (s m : Int) (n : Nat) (xi : Int) (h : bad? s m n xi "xi" = none) : f_caps_of [.int s, .int m, .int n, .int xi] = .ok (.nd true .lst (capD s m xi n)) .non := by
  obtain ⟨h1, h2, _, _, h5, h6, h7, h8⟩ := ok_of_bad h
  have s62 : small62 ((n : Int) + 1) = true := by unfold small62; simp; omega
  have s1 : small62 1 = true := by decide
  have hc := caps_cl s m xi n
  unfold f_caps_of b_caps_of
  simp [runB_ap, sSeq_ap, sIf_ap, sAsg_ap, sDrop_ap, sRt_ap, sNx_ap, sBk_ap, sCt_ap, sRtN_ap, sFor_ap, sRaise_ap, sSet_ap, kSet, kSet2, xLc_ap, xInt_ap, kInt, xSl_ap, kSl1, kSl2, oPart, xRev_ap, listOf?, xCallIO_ap, kIO0, kIO, foXi_ok, xApp_ap, kApp0, kApp, isi_ib, isi_ii, isi_is, isi_sb, isi_si, isi_ss, isi_bb, isi_lb, isi_li, isi_ls, isi_lt, isi_ll, isi_tb, isi_ti, isi_ts, isi_tt, isi_tl, isN_n, isN_i, isN_s, isN_b, isN_d, sAug_ap, kAsg0, kAsg, sAugIx_k, kAug0, kAug1, kAug, oAddI_i, oSubI_i, xBor_ap, view, fzS, x2_ap, x1_ap, xN_ap, xC_ap, xVar_ap, xMove_ap, xIf_ap, xAnd_ap, xOr_ap, xDsp_ap,
    aCons_ap, aNil_ap, iRg_ap, iL_ap, xCall_ap, foX_ok, foX_exc, foX_ite, bX_ok, bX_exc, bX_ite, bXS_ok, bXS_exc, bXS_ite, bXA_ok, bXA_exc, bAX_ok, bAX_exc, bAA_ok, bAA_exc, bAS_ok, bAS_exc, bSS_nx, bSS_rt, bSS_bk, bSS_ct, bSS_exc, bSS_ite,
    oX_some, oA_some, oS_some, kIfX_t, kIfX_f, kIfX_d, kIfS_t, kIfS_f, kIfS_d, kIfS_n, borK_int, borK_bl, borK_str, borK_non, borK_exc, borK_ite, gNm_ap, fz, fzL, fzL_map, cl, clL,
    endB_nx, endB_rt, endB_exc, endB_ite, endB_io_rt, endB_io_nx, oAdd_i, oSub_i, oLt_i, oLe_i, oGt_i, oGe_i, oEq_i, oNe_i, oIx_l, oIx_t, ixN_lit, fInt, fAbs, fLen, itemsOf, oNeg, bNot, isS, sh, rg2_i, s62, s1, caps_it s m n xi none h, borK_cl, hc]
theorem night_caps_ev (s m : Int) (n : Nat) (xi : Int) (h : bad? s m n xi "xi" = none) : f_night_caps [.int s, .int m, .int n, .int xi] = .ok (.nd true .lst (capD s m xi n)) .non := by
  have hc := caps_cl s m xi n
  unfold f_night_caps b_night_caps
  simp [runB_ap, sSeq_ap, sIf_ap, sAsg_ap, sDrop_ap, sRt_ap, sNx_ap, sBk_ap, sCt_ap, sRtN_ap, sFor_ap, sRaise_ap, sSet_ap, kSet, kSet2, xLc_ap, xInt_ap, kInt, xSl_ap, kSl1, kSl2, oPart, xRev_ap, listOf?, xCallIO_ap, kIO0, kIO, foXi_ok, xApp_ap, kApp0, kApp, isi_ib, isi_ii, isi_is, isi_sb, isi_si, isi_ss, isi_bb, isi_lb, isi_li, isi_ls, isi_lt, isi_ll, isi_tb, isi_ti, isi_ts, isi_tt, isi_tl, isN_n, isN_i, isN_s, isN_b, isN_d, sAug_ap, kAsg0, kAsg, sAugIx_k, kAug0, kAug1, kAug, oAddI_i, oSubI_i, xBor_ap, view, fzS, x2_ap, x1_ap, xN_ap, xC_ap, xVar_ap, xMove_ap, xIf_ap, xAnd_ap, xOr_ap, xDsp_ap,
    aCons_ap, aNil_ap, iRg_ap, iL_ap, xCall_ap, foX_ok, foX_exc, foX_ite, bX_ok, bX_exc, bX_ite, bXS_ok, bXS_exc, bXS_ite, bXA_ok, bXA_exc, bAX_ok, bAX_exc, bAA_ok, bAA_exc, bAS_ok, bAS_exc, bSS_nx, bSS_rt, bSS_bk, bSS_ct, bSS_exc, bSS_ite,
    oX_some, oA_some, oS_some, kIfX_t, kIfX_f, kIfX_d, kIfS_t, kIfS_f, kIfS_d, kIfS_n, borK_int, borK_bl, borK_str, borK_non, borK_exc, borK_ite, gNm_ap, fz, fzL, fzL_map, cl, clL,
    endB_nx, endB_rt, endB_exc, endB_ite, endB_io_rt, endB_io_nx, oAdd_i, oSub_i, oLt_i, oLe_i, oGt_i, oGe_i, oEq_i, oNe_i, oIx_l, oIx_t, ixN_lit, fInt, fAbs, fLen, itemsOf, oNeg, bNot, isS, sh, check_numbers_ev, h, exF, caps_ev s m n xi h, borK_cl, hc]
theorem night_caps_bad (s m o xi : Int) (c : Nat) (w : Str) (h : bad? s m o xi "xi" = some (c, w)) : f_night_caps [.int s, .int m, .int o, .int xi] = .exc c ["what"] [.str w] .non := by
  unfold f_night_caps b_night_caps
  simp [runB_ap, sSeq_ap, sIf_ap, sAsg_ap, sDrop_ap, sRt_ap, sNx_ap, sBk_ap, sCt_ap, sRtN_ap, sFor_ap, sRaise_ap, sSet_ap, kSet, kSet2, xLc_ap, xInt_ap, kInt, xSl_ap, kSl1, kSl2, oPart, xRev_ap, listOf?, xCallIO_ap, kIO0, kIO, foXi_ok, xApp_ap, kApp0, kApp, isi_ib, isi_ii, isi_is, isi_sb, isi_si, isi_ss, isi_bb, isi_lb, isi_li, isi_ls, isi_lt, isi_ll, isi_tb, isi_ti, isi_ts, isi_tt, isi_tl, isN_n, isN_i, isN_s, isN_b, isN_d, sAug_ap, kAsg0, kAsg, sAugIx_k, kAug0, kAug1, kAug, oAddI_i, oSubI_i, xBor_ap, view, fzS, x2_ap, x1_ap, xN_ap, xC_ap, xVar_ap, xMove_ap, xIf_ap, xAnd_ap, xOr_ap, xDsp_ap,
    aCons_ap, aNil_ap, iRg_ap, iL_ap, xCall_ap, foX_ok, foX_exc, foX_ite, bX_ok, bX_exc, bX_ite, bXS_ok, bXS_exc, bXS_ite, bXA_ok, bXA_exc, bAX_ok, bAX_exc, bAA_ok, bAA_exc, bAS_ok, bAS_exc, bSS_nx, bSS_rt, bSS_bk, bSS_ct, bSS_exc, bSS_ite,
    oX_some, oA_some, oS_some, kIfX_t, kIfX_f, kIfX_d, kIfS_t, kIfS_f, kIfS_d, kIfS_n, borK_int, borK_bl, borK_str, borK_non, borK_exc, borK_ite, gNm_ap, fz, fzL, fzL_map, cl, clL,
    endB_nx, endB_rt, endB_exc, endB_ite, endB_io_rt, endB_io_nx, oAdd_i, oSub_i, oLt_i, oLe_i, oGt_i, oGe_i, oEq_i, oNe_i, oIx_l, oIx_t, ixN_lit, fInt, fAbs, fLen, itemsOf, oNeg, bNot, isS, sh, check_numbers_ev, h, exF]

theorem matches_refl : ∀ (n : Nat) (d : D), selfy n d = true → f__law_matches (n + 1) [d, d] = .ok (.bl true) .non
  | n, .int z, h => by
    unfold f__law_matches b__law_matches
    simp [runB_ap, sSeq_ap, sIf_ap, sAsg_ap, sDrop_ap, sRt_ap, sNx_ap, sBk_ap, sCt_ap, sRtN_ap, sFor_ap, sRaise_ap, sSet_ap, kSet, kSet2, xLc_ap, xInt_ap, kInt, xSl_ap, kSl1, kSl2, oPart, xRev_ap, listOf?, xCallIO_ap, kIO0, kIO, foXi_ok, xApp_ap, kApp0, kApp, isi_ib, isi_ii, isi_is, isi_sb, isi_si, isi_ss, isi_bb, isi_lb, isi_li, isi_ls, isi_lt, isi_ll, isi_tb, isi_ti, isi_ts, isi_tt, isi_tl, isN_n, isN_i, isN_s, isN_b, isN_d, sAug_ap, kAsg0, kAsg, sAugIx_k, kAug0, kAug1, kAug, oAddI_i, oSubI_i, xBor_ap, view, fzS, x2_ap, x1_ap, xN_ap, xC_ap, xVar_ap, xMove_ap, xIf_ap, xAnd_ap, xOr_ap, xDsp_ap,
    aCons_ap, aNil_ap, iRg_ap, iL_ap, xCall_ap, foX_ok, foX_exc, foX_ite, bX_ok, bX_exc, bX_ite, bXS_ok, bXS_exc, bXS_ite, bXA_ok, bXA_exc, bAX_ok, bAX_exc, bAA_ok, bAA_exc, bAS_ok, bAS_exc, bSS_nx, bSS_rt, bSS_bk, bSS_ct, bSS_exc, bSS_ite,
    oX_some, oA_some, oS_some, kIfX_t, kIfX_f, kIfX_d, kIfS_t, kIfS_f, kIfS_d, kIfS_n, borK_int, borK_bl, borK_str, borK_non, borK_exc, borK_ite, gNm_ap, fz, fzL, fzL_map, cl, clL,
    endB_nx, endB_rt, endB_exc, endB_ite, endB_io_rt, endB_io_nx, oAdd_i, oSub_i, oLt_i, oLe_i, oGt_i, oGe_i, oEq_i, oNe_i, oIx_l, oIx_t, ixN_lit, fInt, fAbs, fLen, itemsOf, oNeg, bNot, isS, sh]
  | n, .str z, h => by
    have hs : SeqAt.shaped (.str z) = true := by
      cases n <;> simpa [selfy] using h
    unfold f__law_matches b__law_matches
    simp [runB_ap, sSeq_ap, sIf_ap, sAsg_ap, sDrop_ap, sRt_ap, sNx_ap, sBk_ap, sCt_ap, sRtN_ap, sFor_ap, sRaise_ap, sSet_ap, kSet, kSet2, xLc_ap, xInt_ap, kInt, xSl_ap, kSl1, kSl2, oPart, xRev_ap, listOf?, xCallIO_ap, kIO0, kIO, foXi_ok, xApp_ap, kApp0, kApp, isi_ib, isi_ii, isi_is, isi_sb, isi_si, isi_ss, isi_bb, isi_lb, isi_li, isi_ls, isi_lt, isi_ll, isi_tb, isi_ti, isi_ts, isi_tt, isi_tl, isN_n, isN_i, isN_s, isN_b, isN_d, sAug_ap, kAsg0, kAsg, sAugIx_k, kAug0, kAug1, kAug, oAddI_i, oSubI_i, xBor_ap, view, fzS, x2_ap, x1_ap, xN_ap, xC_ap, xVar_ap, xMove_ap, xIf_ap, xAnd_ap, xOr_ap, xDsp_ap,
    aCons_ap, aNil_ap, iRg_ap, iL_ap, xCall_ap, foX_ok, foX_exc, foX_ite, bX_ok, bX_exc, bX_ite, bXS_ok, bXS_exc, bXS_ite, bXA_ok, bXA_exc, bAX_ok, bAX_exc, bAA_ok, bAA_exc, bAS_ok, bAS_exc, bSS_nx, bSS_rt, bSS_bk, bSS_ct, bSS_exc, bSS_ite,
    oX_some, oA_some, oS_some, kIfX_t, kIfX_f, kIfX_d, kIfS_t, kIfS_f, kIfS_d, kIfS_n, borK_int, borK_bl, borK_str, borK_non, borK_exc, borK_ite, gNm_ap, fz, fzL, fzL_map, cl, clL,
    endB_nx, endB_rt, endB_exc, endB_ite, endB_io_rt, endB_io_nx, oAdd_i, oSub_i, oLt_i, oLe_i, oGt_i, oGe_i, oEq_i, oNe_i, oIx_l, oIx_t, ixN_lit, fInt, fAbs, fLen, itemsOf, oNeg, bNot, isS, sh, oEq_s hs hs]
  | n, .non, h => by
    unfold f__law_matches b__law_matches
    simp [runB_ap, sSeq_ap, sIf_ap, sAsg_ap, sDrop_ap, sRt_ap, sNx_ap, sBk_ap, sCt_ap, sRtN_ap, sFor_ap, sRaise_ap, sSet_ap, kSet, kSet2, xLc_ap, xInt_ap, kInt, xSl_ap, kSl1, kSl2, oPart, xRev_ap, listOf?, xCallIO_ap, kIO0, kIO, foXi_ok, xApp_ap, kApp0, kApp, isi_ib, isi_ii, isi_is, isi_sb, isi_si, isi_ss, isi_bb, isi_lb, isi_li, isi_ls, isi_lt, isi_ll, isi_tb, isi_ti, isi_ts, isi_tt, isi_tl, isN_n, isN_i, isN_s, isN_b, isN_d, sAug_ap, kAsg0, kAsg, sAugIx_k, kAug0, kAug1, kAug, oAddI_i, oSubI_i, xBor_ap, view, fzS, x2_ap, x1_ap, xN_ap, xC_ap, xVar_ap, xMove_ap, xIf_ap, xAnd_ap, xOr_ap, xDsp_ap,
    aCons_ap, aNil_ap, iRg_ap, iL_ap, xCall_ap, foX_ok, foX_exc, foX_ite, bX_ok, bX_exc, bX_ite, bXS_ok, bXS_exc, bXS_ite, bXA_ok, bXA_exc, bAX_ok, bAX_exc, bAA_ok, bAA_exc, bAS_ok, bAS_exc, bSS_nx, bSS_rt, bSS_bk, bSS_ct, bSS_exc, bSS_ite,
    oX_some, oA_some, oS_some, kIfX_t, kIfX_f, kIfX_d, kIfS_t, kIfS_f, kIfS_d, kIfS_n, borK_int, borK_bl, borK_str, borK_non, borK_exc, borK_ite, gNm_ap, fz, fzL, fzL_map, cl, clL,
    endB_nx, endB_rt, endB_exc, endB_ite, endB_io_rt, endB_io_nx, oAdd_i, oSub_i, oLt_i, oLe_i, oGt_i, oGe_i, oEq_i, oNe_i, oIx_l, oIx_t, ixN_lit, fInt, fAbs, fLen, itemsOf, oNeg, bNot, isS, sh]
  | n, .bl z, h => by
    have e : oEq (.bl z) (.bl z) = some (.bl true) := by cases z <;> rfl
    unfold f__law_matches b__law_matches
    simp [runB_ap, sSeq_ap, sIf_ap, sAsg_ap, sDrop_ap, sRt_ap, sNx_ap, sBk_ap, sCt_ap, sRtN_ap, sFor_ap, sRaise_ap, sSet_ap, kSet, kSet2, xLc_ap, xInt_ap, kInt, xSl_ap, kSl1, kSl2, oPart, xRev_ap, listOf?, xCallIO_ap, kIO0, kIO, foXi_ok, xApp_ap, kApp0, kApp, isi_ib, isi_ii, isi_is, isi_sb, isi_si, isi_ss, isi_bb, isi_lb, isi_li, isi_ls, isi_lt, isi_ll, isi_tb, isi_ti, isi_ts, isi_tt, isi_tl, isN_n, isN_i, isN_s, isN_b, isN_d, sAug_ap, kAsg0, kAsg, sAugIx_k, kAug0, kAug1, kAug, oAddI_i, oSubI_i, xBor_ap, view, fzS, x2_ap, x1_ap, xN_ap, xC_ap, xVar_ap, xMove_ap, xIf_ap, xAnd_ap, xOr_ap, xDsp_ap,
    aCons_ap, aNil_ap, iRg_ap, iL_ap, xCall_ap, foX_ok, foX_exc, foX_ite, bX_ok, bX_exc, bX_ite, bXS_ok, bXS_exc, bXS_ite, bXA_ok, bXA_exc, bAX_ok, bAX_exc, bAA_ok, bAA_exc, bAS_ok, bAS_exc, bSS_nx, bSS_rt, bSS_bk, bSS_ct, bSS_exc, bSS_ite,
    oX_some, oA_some, oS_some, kIfX_t, kIfX_f, kIfX_d, kIfS_t, kIfS_f, kIfS_d, kIfS_n, borK_int, borK_bl, borK_str, borK_non, borK_exc, borK_ite, gNm_ap, fz, fzL, fzL_map, cl, clL,
    endB_nx, endB_rt, endB_exc, endB_ite, endB_io_rt, endB_io_nx, oAdd_i, oSub_i, oLt_i, oLe_i, oGt_i, oGe_i, oEq_i, oNe_i, oIx_l, oIx_t, ixN_lit, fInt, fAbs, fLen, itemsOf, oNeg, bNot, isS, sh, e]
  | 0, .nd o k xs, h => by simp [selfy] at h
  | n + 1, .nd true k xs, h => by cases k <;> simp [selfy] at h
  | n + 1, .nd false .lst xs, h => by
    have hf := selfy_fz h
    simp only [selfy, Bool.and_eq_true, List.all_eq_true, decide_eq_true_eq] at h
    have hm : xs.map fz = xs := by
      rw [fz, fzL_map] at hf
      injection hf
    have hl : small62 (xs.length : Int) = true := by unfold small62; simp; omega
    obtain ⟨e', h1, x, rfl⟩ := runFor_rg (g := gNm 2) (b := (sIf (x1 bNot (xBor [true, true, true] (xCall 2 (f__law_matches (n + 1)) (aCons (x2 oIx (xVar 0) (xVar 2)) (aCons (x2 oIx (xVar 1) (xVar 2)) aNil))))) (sRt (xC (.bl false))) sNx)) (lo := 0) (c := 1)
      (fun k e => ∃ x, e = [some (.nd false .lst xs), some (.nd false .lst xs), x]) xs.length [some (.nd false .lst xs), some (.nd false .lst xs), none] ⟨none, rfl⟩ (fun k e hk ⟨x, he⟩ => by
        subst he
        have hx := h.1 xs[k] (List.getElem_mem hk)
        have ih := matches_refl n xs[k] hx
        refine ⟨_, _, gNm_ap (by simp), Or.inl ?_, ⟨some (.int k), rfl⟩⟩
        simp [runB_ap, sSeq_ap, sIf_ap, sAsg_ap, sDrop_ap, sRt_ap, sNx_ap, sBk_ap, sCt_ap, sRtN_ap, sFor_ap, sRaise_ap, sSet_ap, kSet, kSet2, xLc_ap, xInt_ap, kInt, xSl_ap, kSl1, kSl2, oPart, xRev_ap, listOf?, xCallIO_ap, kIO0, kIO, foXi_ok, xApp_ap, kApp0, kApp, isi_ib, isi_ii, isi_is, isi_sb, isi_si, isi_ss, isi_bb, isi_lb, isi_li, isi_ls, isi_lt, isi_ll, isi_tb, isi_ti, isi_ts, isi_tt, isi_tl, isN_n, isN_i, isN_s, isN_b, isN_d, sAug_ap, kAsg0, kAsg, sAugIx_k, kAug0, kAug1, kAug, oAddI_i, oSubI_i, xBor_ap, view, fzS, x2_ap, x1_ap, xN_ap, xC_ap, xVar_ap, xMove_ap, xIf_ap, xAnd_ap, xOr_ap, xDsp_ap,
    aCons_ap, aNil_ap, iRg_ap, iL_ap, xCall_ap, foX_ok, foX_exc, foX_ite, bX_ok, bX_exc, bX_ite, bXS_ok, bXS_exc, bXS_ite, bXA_ok, bXA_exc, bAX_ok, bAX_exc, bAA_ok, bAA_exc, bAS_ok, bAS_exc, bSS_nx, bSS_rt, bSS_bk, bSS_ct, bSS_exc, bSS_ite,
    oX_some, oA_some, oS_some, kIfX_t, kIfX_f, kIfX_d, kIfS_t, kIfS_f, kIfS_d, kIfS_n, borK_int, borK_bl, borK_str, borK_non, borK_exc, borK_ite, gNm_ap, fz, fzL, fzL_map, cl, clL,
    endB_nx, endB_rt, endB_exc, endB_ite, endB_io_rt, endB_io_nx, oAdd_i, oSub_i, oLt_i, oLe_i, oGt_i, oGe_i, oEq_i, oNe_i, oIx_l, oIx_t, ixN_lit, fInt, fAbs, fLen, itemsOf, oNeg, bNot, isS, sh, hm, List.getElem?_eq_getElem hk, selfy_fz hx, ih])
    unfold f__law_matches b__law_matches
    simp [runB_ap, sSeq_ap, sIf_ap, sAsg_ap, sDrop_ap, sRt_ap, sNx_ap, sBk_ap, sCt_ap, sRtN_ap, sFor_ap, sRaise_ap, sSet_ap, kSet, kSet2, xLc_ap, xInt_ap, kInt, xSl_ap, kSl1, kSl2, oPart, xRev_ap, listOf?, xCallIO_ap, kIO0, kIO, foXi_ok, xApp_ap, kApp0, kApp, isi_ib, isi_ii, isi_is, isi_sb, isi_si, isi_ss, isi_bb, isi_lb, isi_li, isi_ls, isi_lt, isi_ll, isi_tb, isi_ti, isi_ts, isi_tt, isi_tl, isN_n, isN_i, isN_s, isN_b, isN_d, sAug_ap, kAsg0, kAsg, sAugIx_k, kAug0, kAug1, kAug, oAddI_i, oSubI_i, xBor_ap, view, fzS, x2_ap, x1_ap, xN_ap, xC_ap, xVar_ap, xMove_ap, xIf_ap, xAnd_ap, xOr_ap, xDsp_ap,
    aCons_ap, aNil_ap, iRg_ap, iL_ap, xCall_ap, foX_ok, foX_exc, foX_ite, bX_ok, bX_exc, bX_ite, bXS_ok, bXS_exc, bXS_ite, bXA_ok, bXA_exc, bAX_ok, bAX_exc, bAA_ok, bAA_exc, bAS_ok, bAS_exc, bSS_nx, bSS_rt, bSS_bk, bSS_ct, bSS_exc, bSS_ite,
    oX_some, oA_some, oS_some, kIfX_t, kIfX_f, kIfX_d, kIfS_t, kIfS_f, kIfS_d, kIfS_n, borK_int, borK_bl, borK_str, borK_non, borK_exc, borK_ite, gNm_ap, fz, fzL, fzL_map, cl, clL,
    endB_nx, endB_rt, endB_exc, endB_ite, endB_io_rt, endB_io_nx, oAdd_i, oSub_i, oLt_i, oLe_i, oGt_i, oGe_i, oEq_i, oNe_i, oIx_l, oIx_t, ixN_lit, fInt, fAbs, fLen, itemsOf, oNeg, bNot, isS, sh, hm, rg1_i hl, h1]
  | n + 1, .nd false .tup xs, h => by
    have hf := selfy_fz h
    simp only [selfy, Bool.and_eq_true, List.all_eq_true, decide_eq_true_eq] at h
    have hm : xs.map fz = xs := by
      rw [fz, fzL_map] at hf
      injection hf
    have hl : small62 (xs.length : Int) = true := by unfold small62; simp; omega
    obtain ⟨e', h1, x, rfl⟩ := runFor_rg (g := gNm 2) (b := (sIf (x1 bNot (xBor [true, true, true] (xCall 2 (f__law_matches (n + 1)) (aCons (x2 oIx (xVar 0) (xVar 2)) (aCons (x2 oIx (xVar 1) (xVar 2)) aNil))))) (sRt (xC (.bl false))) sNx)) (lo := 0) (c := 1)
      (fun k e => ∃ x, e = [some (.nd false .tup xs), some (.nd false .tup xs), x]) xs.length [some (.nd false .tup xs), some (.nd false .tup xs), none] ⟨none, rfl⟩ (fun k e hk ⟨x, he⟩ => by
        subst he
        have hx := h.1 xs[k] (List.getElem_mem hk)
        have ih := matches_refl n xs[k] hx
        refine ⟨_, _, gNm_ap (by simp), Or.inl ?_, ⟨some (.int k), rfl⟩⟩
        simp [runB_ap, sSeq_ap, sIf_ap, sAsg_ap, sDrop_ap, sRt_ap, sNx_ap, sBk_ap, sCt_ap, sRtN_ap, sFor_ap, sRaise_ap, sSet_ap, kSet, kSet2, xLc_ap, xInt_ap, kInt, xSl_ap, kSl1, kSl2, oPart, xRev_ap, listOf?, xCallIO_ap, kIO0, kIO, foXi_ok, xApp_ap, kApp0, kApp, isi_ib, isi_ii, isi_is, isi_sb, isi_si, isi_ss, isi_bb, isi_lb, isi_li, isi_ls, isi_lt, isi_ll, isi_tb, isi_ti, isi_ts, isi_tt, isi_tl, isN_n, isN_i, isN_s, isN_b, isN_d, sAug_ap, kAsg0, kAsg, sAugIx_k, kAug0, kAug1, kAug, oAddI_i, oSubI_i, xBor_ap, view, fzS, x2_ap, x1_ap, xN_ap, xC_ap, xVar_ap, xMove_ap, xIf_ap, xAnd_ap, xOr_ap, xDsp_ap,
    aCons_ap, aNil_ap, iRg_ap, iL_ap, xCall_ap, foX_ok, foX_exc, foX_ite, bX_ok, bX_exc, bX_ite, bXS_ok, bXS_exc, bXS_ite, bXA_ok, bXA_exc, bAX_ok, bAX_exc, bAA_ok, bAA_exc, bAS_ok, bAS_exc, bSS_nx, bSS_rt, bSS_bk, bSS_ct, bSS_exc, bSS_ite,
    oX_some, oA_some, oS_some, kIfX_t, kIfX_f, kIfX_d, kIfS_t, kIfS_f, kIfS_d, kIfS_n, borK_int, borK_bl, borK_str, borK_non, borK_exc, borK_ite, gNm_ap, fz, fzL, fzL_map, cl, clL,
    endB_nx, endB_rt, endB_exc, endB_ite, endB_io_rt, endB_io_nx, oAdd_i, oSub_i, oLt_i, oLe_i, oGt_i, oGe_i, oEq_i, oNe_i, oIx_l, oIx_t, ixN_lit, fInt, fAbs, fLen, itemsOf, oNeg, bNot, isS, sh, hm, List.getElem?_eq_getElem hk, selfy_fz hx, ih])
    unfold f__law_matches b__law_matches
    simp [runB_ap, sSeq_ap, sIf_ap, sAsg_ap, sDrop_ap, sRt_ap, sNx_ap, sBk_ap, sCt_ap, sRtN_ap, sFor_ap, sRaise_ap, sSet_ap, kSet, kSet2, xLc_ap, xInt_ap, kInt, xSl_ap, kSl1, kSl2, oPart, xRev_ap, listOf?, xCallIO_ap, kIO0, kIO, foXi_ok, xApp_ap, kApp0, kApp, isi_ib, isi_ii, isi_is, isi_sb, isi_si, isi_ss, isi_bb, isi_lb, isi_li, isi_ls, isi_lt, isi_ll, isi_tb, isi_ti, isi_ts, isi_tt, isi_tl, isN_n, isN_i, isN_s, isN_b, isN_d, sAug_ap, kAsg0, kAsg, sAugIx_k, kAug0, kAug1, kAug, oAddI_i, oSubI_i, xBor_ap, view, fzS, x2_ap, x1_ap, xN_ap, xC_ap, xVar_ap, xMove_ap, xIf_ap, xAnd_ap, xOr_ap, xDsp_ap,
    aCons_ap, aNil_ap, iRg_ap, iL_ap, xCall_ap, foX_ok, foX_exc, foX_ite, bX_ok, bX_exc, bX_ite, bXS_ok, bXS_exc, bXS_ite, bXA_ok, bXA_exc, bAX_ok, bAX_exc, bAA_ok, bAA_exc, bAS_ok, bAS_exc, bSS_nx, bSS_rt, bSS_bk, bSS_ct, bSS_exc, bSS_ite,
    oX_some, oA_some, oS_some, kIfX_t, kIfX_f, kIfX_d, kIfS_t, kIfS_f, kIfS_d, kIfS_n, borK_int, borK_bl, borK_str, borK_non, borK_exc, borK_ite, gNm_ap, fz, fzL, fzL_map, cl, clL,
    endB_nx, endB_rt, endB_exc, endB_ite, endB_io_rt, endB_io_nx, oAdd_i, oSub_i, oLt_i, oLe_i, oGt_i, oGe_i, oEq_i, oNe_i, oIx_l, oIx_t, ixN_lit, fInt, fAbs, fLen, itemsOf, oNeg, bNot, isS, sh, hm, rg1_i hl, h1]
  | 0, .scr _, h => by simp [selfy] at h
  | 0, .exn _ _ _, h => by simp [selfy] at h
  | n + 1, .scr _, h => by simp [selfy] at h
  | n + 1, .exn _ _ _, h => by simp [selfy] at h
  | n + 1, .nd false (.ins _ _) xs, h => by simp [selfy] at h
  | n + 1, .nd false (.dic _) xs, h => by simp [selfy] at h

def Tru (g : SG) (e : MV.Env) : Prop := ∃ a b c rest, g e = .rt (.bl true) (some (pz a b c) :: rest)
theorem T_seq {f g : SG} {e : MV.Env} (Inv : MV.Env → Prop) (h : ∃ e1, f e = .nx e1 ∧ Inv e1) (k : ∀ e1, Inv e1 → Tru g e1) : Tru (sSeq f g) e := by
  obtain ⟨e1, h1, h2⟩ := h
  obtain ⟨a, b, c, r, h3⟩ := k e1 h2
  exact ⟨a, b, c, r, by rw [sSeq_ap, h1]; exact h3⟩
theorem T_nx {f g : SG} {e e1 : MV.Env} (h : f e = .nx e1) (k : Tru g e1) : Tru (sSeq f g) e := T_seq (fun x => x = e1) ⟨e1, h, rfl⟩ fun _ q => q ▸ k
theorem T_fn {b : SG} {n : Nat} {p : D} (h : Tru b ([p].map some ++ List.replicate (n - [p].length) none)) : ∃ a b' c, runB n true b [p] = .ok (.bl true) (pz a b' c) := by
  obtain ⟨a, b', c, r, h⟩ := h
  exact ⟨a, b', c, by rw [runB_ap, h]; rfl⟩
theorem sm_get (s : Int) (n k : Nat) (h : k ≤ n) : (sm s n)[k]? = some (.int (pw (s - 1) k)) := by
  unfold sm
  rw [List.getElem?_map, List.getElem?_range (by omega)]; rfl
theorem sm_fz (s : Int) (n : Nat) : (sm s n).map fz = sm s n := by
  unfold sm
  rw [List.map_map]; rfl
theorem sm_len (s : Int) (n : Nat) : (sm s n).length = n + 1 := by unfold sm; simp
def dueF (m xi : Int) : D → D
  | .int z => .int (m - xi * z)
  | _ => .non
theorem caps_due (s m xi : Int) (n : Nat) : ((sm s n).take n).reverse.map (dueF m xi) = capD s m xi n := by
  apply List.ext_getElem?
  intro i
  unfold capD rgD
  rw [List.map_map, List.getElem?_map, List.getElem?_map]
  by_cases hi : i < n
  · rw [List.getElem?_reverse (by rw [List.length_take, sm_len]; omega), List.getElem?_take_of_lt (by rw [List.length_take, sm_len]; omega), sm_get _ _ _ (by rw [List.length_take, sm_len]; omega), List.getElem?_range hi]
    simp only [Option.map_some, List.length_take, sm_len, dueF, Function.comp, capF]
    rw [show min n (n + 1) - 1 - i = n - 1 - i by omega, show ((n : Int) - (1 + i * 1)).toNat = n - 1 - i by omega]
  · rw [List.getElem?_eq_none (by simp [sm_len]; omega), List.getElem?_eq_none (by simp; omega)]; rfl
theorem due_it (s : Int) (n : Nat) (m xi : Int) (s2 : 2 ≤ s) (s8 : s ≤ 8) (n40 : n ≤ 40) (x0 : 0 ≤ xi) (x1 : xi ≤ 1000000000000000000000000000000) :
    kLc [10] (gNm 10) (xC (.bl true)) (xBor [false, false, false, false, false, false, true, true, false, false, true] (x2 oSub (xVar 7) (x2 oMul (xVar 6) (xVar 10)))) ((sm s n).take n).reverse
      [none, some (.int s), some (.int n), some (.nd false .lst (sm s n)), none, none, some (.int xi), some (.int m), none, none, none]
      = .ok (.nd true .lst (capD s m xi n)) (backE [none, some (.int s), some (.int n), some (.nd false .lst (sm s n)), none, none, some (.int xi), some (.int m), none, none, none] [none, some (.int s), some (.int n), some (.nd false .lst (sm s n)), none, none, some (.int xi), some (.int m), none, none, none] [10]) := by
  rw [← caps_due s m xi n]
  refine kLc_map (dueF m xi) (fun d hd => ?_) (by rw [List.length_reverse, List.length_take, sm_len]; unfold LIM; omega)
  rw [List.mem_reverse] at hd
  obtain ⟨k, hk⟩ := List.getElem?_of_mem (List.mem_of_mem_take hd)
  have hk' : k ≤ n := by
    have := (List.getElem?_eq_some_iff.mp hk).1
    rw [sm_len] at this; omega
  rw [sm_get s n k hk'] at hk
  obtain rfl := Option.some.inj hk
  have m1 : mulOk xi (pw (s - 1) k) = true := mulOk_b (big_b x0 x1) (pw_big (by omega) (by omega) (by omega))
  refine ⟨[none, some (.int s), some (.int n), some (.nd false .lst (sm s n)), none, none, some (.int xi), some (.int m), none, none, some (.int (pw (s - 1) k))], _, [none, some (.int s), some (.int n), some (.nd false .lst (sm s n)), none, none, some (.int xi), some (.int m), none, none, some (.int (pw (s - 1) k))], gNm_ap (by simp [wipeE]), xC_ap, ?_, rfl⟩
  simp [runB_ap, sSeq_ap, sIf_ap, sAsg_ap, sDrop_ap, sRt_ap, sNx_ap, sBk_ap, sCt_ap, sRtN_ap, sFor_ap, sRaise_ap, sSet_ap, kSet, kSet2, xLc_ap, xInt_ap, kInt, xSl_ap, kSl1, kSl2, oPart, xRev_ap, listOf?, xCallIO_ap, kIO0, kIO, foXi_ok, xApp_ap, kApp0, kApp, isi_ib, isi_ii, isi_is, isi_sb, isi_si, isi_ss, isi_bb, isi_lb, isi_li, isi_ls, isi_lt, isi_ll, isi_tb, isi_ti, isi_ts, isi_tt, isi_tl, isN_n, isN_i, isN_s, isN_b, isN_d, sAug_ap, kAsg0, kAsg, sAugIx_k, kAug0, kAug1, kAug, oAddI_i, oSubI_i, xBor_ap, view, fzS, x2_ap, x1_ap, xN_ap, xC_ap, xVar_ap, xMove_ap, xIf_ap, xAnd_ap, xOr_ap, xDsp_ap,
    aCons_ap, aNil_ap, iRg_ap, iL_ap, xCall_ap, foX_ok, foX_exc, foX_ite, bX_ok, bX_exc, bX_ite, bXS_ok, bXS_exc, bXS_ite, bXA_ok, bXA_exc, bAX_ok, bAX_exc, bAA_ok, bAA_exc, bAS_ok, bAS_exc, bSS_nx, bSS_rt, bSS_bk, bSS_ct, bSS_exc, bSS_ite,
    oX_some, oA_some, oS_some, kIfX_t, kIfX_f, kIfX_d, kIfS_t, kIfS_f, kIfS_d, kIfS_n, borK_int, borK_bl, borK_str, borK_non, borK_exc, borK_ite, gNm_ap, fz, fzL, fzL_map, cl, clL,
    endB_nx, endB_rt, endB_exc, endB_ite, endB_io_rt, endB_io_nx, oAdd_i, oSub_i, oLt_i, oLe_i, oGt_i, oGe_i, oEq_i, oNe_i, oIx_l, oIx_t, ixN_lit, fInt, fAbs, fLen, itemsOf, oNeg, bNot, isS, sh, oMul_i, m1, dueF]
theorem clL_all : ∀ xs : List D, clL xs = xs.all cl
  | [] => rfl
  | x :: xs => by rw [clL, List.all_cons, clL_all xs]
theorem numbers_right_ev (a b c : Int) : ∃ a' b' c', f__law_numbers_right [pz a b c] = .ok (.bl true) (pz a' b' c') := by
  obtain ⟨r1, a1, b1, c1, e1, p1, q1⟩ := draw_ev a b c 7 (by decide) (by decide)
  obtain ⟨r2, a2, b2, c2, e2, p2, q2⟩ := draw_ev a1 b1 c1 3 (by decide) (by decide)
  obtain ⟨cp, hcp, h40⟩ : ∃ cp : Int, [D.int 3, D.int 3, D.int 40][r2.toNat]? = some (.int cp) ∧ 1 ≤ cp ∧ cp ≤ 40 := by
    have : r2 = 0 ∨ r2 = 1 ∨ r2 = 2 := by omega
    rcases this with rfl | rfl | rfl <;> exact ⟨_, rfl, by decide, by decide⟩
  obtain ⟨r3, a3, b3, c3, e3, p3, q3⟩ := draw_ev a2 b2 c2 cp (by omega) (tiny (Nat.lt_of_le_of_lt (by omega : cp.natAbs ≤ 40) (by decide)))
  obtain ⟨s, hs⟩ : ∃ s, s = 2 + r1 := ⟨_, rfl⟩
  obtain ⟨n, hn⟩ : ∃ n : Nat, (n : Int) = 1 + r3 := ⟨(1 + r3).toNat, by omega⟩
  have s2 : 2 ≤ s := by omega
  have s8 : s ≤ 8 := by omega
  have n1 : 1 ≤ n := by omega
  have n40 : n ≤ 40 := by omega
  obtain ⟨xi, a4, b4, c4, e4, x0, x1⟩ := size_ev a3 b3 c3
  obtain ⟨m, a5, b5, c5, e5, m0, m1⟩ := size_ev a4 b4 c4
  obtain ⟨fr, a6, b6, c6, e6, f0, f1⟩ := size_ev a5 b5 c5
  have p30 : oPow (.int 10) (.int 30) = some (.int 1000000000000000000000000000000) := by rfl
  have p28 : oPow (.int 10) (.int 28) = some (.int 10000000000000000000000000000) := by rfl
  have hL3 : 3 ≤ LIM := by decide
  have hL2 : 2 ≤ LIM := by decide
  have hsm := sums_ev s n (by omega) (by omega)
  have hbn := sm_get s n n (Nat.le_refl _)
  have hbd := sm_get s n (n - 1) (by omega)
  have ec : ((n : Int) - 1) = ((n - 1 : Nat) : Int) := by omega
  have mS : mulOk s (pw (s - 1) (n - 1)) = true := mulOk_l (by omega)
  have bN := pw_big (o := s - 1) (by omega) (by omega) n40
  have bD := day_big s2 s8 (n := n - 1) (by omega)
  have bX := big_b x0 x1
  have hneed := need_ev s n xi (bad_of_ok s2 s8 (by decide) (by decide) (by omega) (by omega) x0 x1)
  have hcaps := night_caps_ev s m n xi (bad_of_ok s2 s8 m0 m1 (by omega) (by omega) x0 x1)
  have mt1 := matches_refl 3 (.nd false .tup (needD s xi n)) (by simp [selfy, needD])
  have clS : clL (sm s n) = true := by
    unfold sm
    induction List.range (n + 1) with
    | nil => rfl
    | cons x l ih => rw [List.map_cons, clL, ih]; rfl
  refine T_fn ?_
  unfold b__law_numbers_right
  refine T_nx (e1 := [some (pz a1 b1 c1), some (.int s), none, none, none, none, none, none, none, none, none]) (by simp [runB_ap, sSeq_ap, sIf_ap, sAsg_ap, sDrop_ap, sRt_ap, sNx_ap, sBk_ap, sCt_ap, sRtN_ap, sFor_ap, sRaise_ap, sSet_ap, kSet, kSet2, xLc_ap, xInt_ap, kInt, xSl_ap, kSl1, kSl2, oPart, xRev_ap, listOf?, xCallIO_ap, kIO0, kIO, foXi_ok, xApp_ap, kApp0, kApp, isi_ib, isi_ii, isi_is, isi_sb, isi_si, isi_ss, isi_bb, isi_lb, isi_li, isi_ls, isi_lt, isi_ll, isi_tb, isi_ti, isi_ts, isi_tt, isi_tl, isN_n, isN_i, isN_s, isN_b, isN_d, sAug_ap, kAsg0, kAsg, sAugIx_k, kAug0, kAug1, kAug, oAddI_i, oSubI_i, xBor_ap, view, fzS, x2_ap, x1_ap, xN_ap, xC_ap, xVar_ap, xMove_ap, xIf_ap, xAnd_ap, xOr_ap, xDsp_ap,
    aCons_ap, aNil_ap, iRg_ap, iL_ap, xCall_ap, foX_ok, foX_exc, foX_ite, bX_ok, bX_exc, bX_ite, bXS_ok, bXS_exc, bXS_ite, bXA_ok, bXA_exc, bAX_ok, bAX_exc, bAA_ok, bAA_exc, bAS_ok, bAS_exc, bSS_nx, bSS_rt, bSS_bk, bSS_ct, bSS_exc, bSS_ite,
    oX_some, oA_some, oS_some, kIfX_t, kIfX_f, kIfX_d, kIfS_t, kIfS_f, kIfS_d, kIfS_n, borK_int, borK_bl, borK_str, borK_non, borK_exc, borK_ite, gNm_ap, fz, fzL, fzL_map, cl, clL,
    endB_nx, endB_rt, endB_exc, endB_ite, endB_io_rt, endB_io_nx, oAdd_i, oSub_i, oLt_i, oLe_i, oGt_i, oGe_i, oEq_i, oNe_i, oIx_l, oIx_t, ixN_lit, fInt, fAbs, fLen, itemsOf, oNeg, bNot, isS, sh, e1, hs]) ?_
  refine T_nx (e1 := [some (pz a3 b3 c3), some (.int s), some (.int n), none, none, none, none, none, none, none, none]) (by simp [runB_ap, sSeq_ap, sIf_ap, sAsg_ap, sDrop_ap, sRt_ap, sNx_ap, sBk_ap, sCt_ap, sRtN_ap, sFor_ap, sRaise_ap, sSet_ap, kSet, kSet2, xLc_ap, xInt_ap, kInt, xSl_ap, kSl1, kSl2, oPart, xRev_ap, listOf?, xCallIO_ap, kIO0, kIO, foXi_ok, xApp_ap, kApp0, kApp, isi_ib, isi_ii, isi_is, isi_sb, isi_si, isi_ss, isi_bb, isi_lb, isi_li, isi_ls, isi_lt, isi_ll, isi_tb, isi_ti, isi_ts, isi_tt, isi_tl, isN_n, isN_i, isN_s, isN_b, isN_d, sAug_ap, kAsg0, kAsg, sAugIx_k, kAug0, kAug1, kAug, oAddI_i, oSubI_i, xBor_ap, view, fzS, x2_ap, x1_ap, xN_ap, xC_ap, xVar_ap, xMove_ap, xIf_ap, xAnd_ap, xOr_ap, xDsp_ap,
    aCons_ap, aNil_ap, iRg_ap, iL_ap, xCall_ap, foX_ok, foX_exc, foX_ite, bX_ok, bX_exc, bX_ite, bXS_ok, bXS_exc, bXS_ite, bXA_ok, bXA_exc, bAX_ok, bAX_exc, bAA_ok, bAA_exc, bAS_ok, bAS_exc, bSS_nx, bSS_rt, bSS_bk, bSS_ct, bSS_exc, bSS_ite,
    oX_some, oA_some, oS_some, kIfX_t, kIfX_f, kIfX_d, kIfS_t, kIfS_f, kIfS_d, kIfS_n, borK_int, borK_bl, borK_str, borK_non, borK_exc, borK_ite, gNm_ap, fz, fzL, fzL_map, cl, clL,
    endB_nx, endB_rt, endB_exc, endB_ite, endB_io_rt, endB_io_nx, oAdd_i, oSub_i, oLt_i, oLe_i, oGt_i, oGe_i, oEq_i, oNe_i, oIx_l, oIx_t, ixN_lit, fInt, fAbs, fLen, itemsOf, oNeg, bNot, isS, sh, e2, hL3, p2, hcp, e3, hn]) ?_
  refine T_nx (e1 := [some (pz a3 b3 c3), some (.int s), some (.int n), some (.nd true .lst (sm s n)), none, none, none, none, none, none, none]) (by simp [runB_ap, sSeq_ap, sIf_ap, sAsg_ap, sDrop_ap, sRt_ap, sNx_ap, sBk_ap, sCt_ap, sRtN_ap, sFor_ap, sRaise_ap, sSet_ap, kSet, kSet2, xLc_ap, xInt_ap, kInt, xSl_ap, kSl1, kSl2, oPart, xRev_ap, listOf?, xCallIO_ap, kIO0, kIO, foXi_ok, xApp_ap, kApp0, kApp, isi_ib, isi_ii, isi_is, isi_sb, isi_si, isi_ss, isi_bb, isi_lb, isi_li, isi_ls, isi_lt, isi_ll, isi_tb, isi_ti, isi_ts, isi_tt, isi_tl, isN_n, isN_i, isN_s, isN_b, isN_d, sAug_ap, kAsg0, kAsg, sAugIx_k, kAug0, kAug1, kAug, oAddI_i, oSubI_i, xBor_ap, view, fzS, x2_ap, x1_ap, xN_ap, xC_ap, xVar_ap, xMove_ap, xIf_ap, xAnd_ap, xOr_ap, xDsp_ap,
    aCons_ap, aNil_ap, iRg_ap, iL_ap, xCall_ap, foX_ok, foX_exc, foX_ite, bX_ok, bX_exc, bX_ite, bXS_ok, bXS_exc, bXS_ite, bXA_ok, bXA_exc, bAX_ok, bAX_exc, bAA_ok, bAA_exc, bAS_ok, bAS_exc, bSS_nx, bSS_rt, bSS_bk, bSS_ct, bSS_exc, bSS_ite,
    oX_some, oA_some, oS_some, kIfX_t, kIfX_f, kIfX_d, kIfS_t, kIfS_f, kIfS_d, kIfS_n, borK_int, borK_bl, borK_str, borK_non, borK_exc, borK_ite, gNm_ap, fz, fzL, fzL_map, cl, clL,
    endB_nx, endB_rt, endB_exc, endB_ite, endB_io_rt, endB_io_nx, oAdd_i, oSub_i, oLt_i, oLe_i, oGt_i, oGe_i, oEq_i, oNe_i, oIx_l, oIx_t, ixN_lit, fInt, fAbs, fLen, itemsOf, oNeg, bNot, isS, sh, hsm, clS, borK_cl]) ?_
  refine T_nx (e1 := [some (pz a3 b3 c3), some (.int s), some (.int n), some (.nd true .lst (sm s n)), some (.int (pw (s - 1) n)), none, none, none, none, none, none]) (by simp [runB_ap, sSeq_ap, sIf_ap, sAsg_ap, sDrop_ap, sRt_ap, sNx_ap, sBk_ap, sCt_ap, sRtN_ap, sFor_ap, sRaise_ap, sSet_ap, kSet, kSet2, xLc_ap, xInt_ap, kInt, xSl_ap, kSl1, kSl2, oPart, xRev_ap, listOf?, xCallIO_ap, kIO0, kIO, foXi_ok, xApp_ap, kApp0, kApp, isi_ib, isi_ii, isi_is, isi_sb, isi_si, isi_ss, isi_bb, isi_lb, isi_li, isi_ls, isi_lt, isi_ll, isi_tb, isi_ti, isi_ts, isi_tt, isi_tl, isN_n, isN_i, isN_s, isN_b, isN_d, sAug_ap, kAsg0, kAsg, sAugIx_k, kAug0, kAug1, kAug, oAddI_i, oSubI_i, xBor_ap, view, fzS, x2_ap, x1_ap, xN_ap, xC_ap, xVar_ap, xMove_ap, xIf_ap, xAnd_ap, xOr_ap, xDsp_ap,
    aCons_ap, aNil_ap, iRg_ap, iL_ap, xCall_ap, foX_ok, foX_exc, foX_ite, bX_ok, bX_exc, bX_ite, bXS_ok, bXS_exc, bXS_ite, bXA_ok, bXA_exc, bAX_ok, bAX_exc, bAA_ok, bAA_exc, bAS_ok, bAS_exc, bSS_nx, bSS_rt, bSS_bk, bSS_ct, bSS_exc, bSS_ite,
    oX_some, oA_some, oS_some, kIfX_t, kIfX_f, kIfX_d, kIfS_t, kIfS_f, kIfS_d, kIfS_n, borK_int, borK_bl, borK_str, borK_non, borK_exc, borK_ite, gNm_ap, fz, fzL, fzL_map, cl, clL,
    endB_nx, endB_rt, endB_exc, endB_ite, endB_io_rt, endB_io_nx, oAdd_i, oSub_i, oLt_i, oLe_i, oGt_i, oGe_i, oEq_i, oNe_i, oIx_l, oIx_t, ixN_lit, fInt, fAbs, fLen, itemsOf, oNeg, bNot, isS, sh, sm_fz, hbn]) ?_
  refine T_nx (e1 := [some (pz a3 b3 c3), some (.int s), some (.int n), some (.nd true .lst (sm s n)), some (.int (pw (s - 1) n)), some (.int (1 + s * pw (s - 1) (n - 1))), none, none, none, none, none]) (by simp [runB_ap, sSeq_ap, sIf_ap, sAsg_ap, sDrop_ap, sRt_ap, sNx_ap, sBk_ap, sCt_ap, sRtN_ap, sFor_ap, sRaise_ap, sSet_ap, kSet, kSet2, xLc_ap, xInt_ap, kInt, xSl_ap, kSl1, kSl2, oPart, xRev_ap, listOf?, xCallIO_ap, kIO0, kIO, foXi_ok, xApp_ap, kApp0, kApp, isi_ib, isi_ii, isi_is, isi_sb, isi_si, isi_ss, isi_bb, isi_lb, isi_li, isi_ls, isi_lt, isi_ll, isi_tb, isi_ti, isi_ts, isi_tt, isi_tl, isN_n, isN_i, isN_s, isN_b, isN_d, sAug_ap, kAsg0, kAsg, sAugIx_k, kAug0, kAug1, kAug, oAddI_i, oSubI_i, xBor_ap, view, fzS, x2_ap, x1_ap, xN_ap, xC_ap, xVar_ap, xMove_ap, xIf_ap, xAnd_ap, xOr_ap, xDsp_ap,
    aCons_ap, aNil_ap, iRg_ap, iL_ap, xCall_ap, foX_ok, foX_exc, foX_ite, bX_ok, bX_exc, bX_ite, bXS_ok, bXS_exc, bXS_ite, bXA_ok, bXA_exc, bAX_ok, bAX_exc, bAA_ok, bAA_exc, bAS_ok, bAS_exc, bSS_nx, bSS_rt, bSS_bk, bSS_ct, bSS_exc, bSS_ite,
    oX_some, oA_some, oS_some, kIfX_t, kIfX_f, kIfX_d, kIfS_t, kIfS_f, kIfS_d, kIfS_n, borK_int, borK_bl, borK_str, borK_non, borK_exc, borK_ite, gNm_ap, fz, fzL, fzL_map, cl, clL,
    endB_nx, endB_rt, endB_exc, endB_ite, endB_io_rt, endB_io_nx, oAdd_i, oSub_i, oLt_i, oLe_i, oGt_i, oGe_i, oEq_i, oNe_i, oIx_l, oIx_t, ixN_lit, fInt, fAbs, fLen, itemsOf, oNeg, bNot, isS, sh, sm_fz, ec, hbd, oMul_i, mS]) ?_
  refine T_nx (e1 := [some (pz a4 b4 c4), some (.int s), some (.int n), some (.nd true .lst (sm s n)), some (.int (pw (s - 1) n)), some (.int (1 + s * pw (s - 1) (n - 1))), some (.int xi), none, none, none, none]) (by simp [runB_ap, sSeq_ap, sIf_ap, sAsg_ap, sDrop_ap, sRt_ap, sNx_ap, sBk_ap, sCt_ap, sRtN_ap, sFor_ap, sRaise_ap, sSet_ap, kSet, kSet2, xLc_ap, xInt_ap, kInt, xSl_ap, kSl1, kSl2, oPart, xRev_ap, listOf?, xCallIO_ap, kIO0, kIO, foXi_ok, xApp_ap, kApp0, kApp, isi_ib, isi_ii, isi_is, isi_sb, isi_si, isi_ss, isi_bb, isi_lb, isi_li, isi_ls, isi_lt, isi_ll, isi_tb, isi_ti, isi_ts, isi_tt, isi_tl, isN_n, isN_i, isN_s, isN_b, isN_d, sAug_ap, kAsg0, kAsg, sAugIx_k, kAug0, kAug1, kAug, oAddI_i, oSubI_i, xBor_ap, view, fzS, x2_ap, x1_ap, xN_ap, xC_ap, xVar_ap, xMove_ap, xIf_ap, xAnd_ap, xOr_ap, xDsp_ap,
    aCons_ap, aNil_ap, iRg_ap, iL_ap, xCall_ap, foX_ok, foX_exc, foX_ite, bX_ok, bX_exc, bX_ite, bXS_ok, bXS_exc, bXS_ite, bXA_ok, bXA_exc, bAX_ok, bAX_exc, bAA_ok, bAA_exc, bAS_ok, bAS_exc, bSS_nx, bSS_rt, bSS_bk, bSS_ct, bSS_exc, bSS_ite,
    oX_some, oA_some, oS_some, kIfX_t, kIfX_f, kIfX_d, kIfS_t, kIfS_f, kIfS_d, kIfS_n, borK_int, borK_bl, borK_str, borK_non, borK_exc, borK_ite, gNm_ap, fz, fzL, fzL_map, cl, clL,
    endB_nx, endB_rt, endB_exc, endB_ite, endB_io_rt, endB_io_nx, oAdd_i, oSub_i, oLt_i, oLe_i, oGt_i, oGe_i, oEq_i, oNe_i, oIx_l, oIx_t, ixN_lit, fInt, fAbs, fLen, itemsOf, oNeg, bNot, isS, sh, p30, e4]) ?_
  refine T_nx (e1 := [some (pz a4 b4 c4), some (.int s), some (.int n), some (.nd true .lst (sm s n)), some (.int (pw (s - 1) n)), some (.int (1 + s * pw (s - 1) (n - 1))), some (.int xi), none, none, none, none]) (by
    have k1 : mulOk xi (pw (s - 1) n) = true := mulOk_b bX bN
    have k2 : mulOk xi (1 + s * pw (s - 1) (n - 1)) = true := mulOk_b bX bD.2
    simp only [needD] at hneed mt1
    simp [runB_ap, sSeq_ap, sIf_ap, sAsg_ap, sDrop_ap, sRt_ap, sNx_ap, sBk_ap, sCt_ap, sRtN_ap, sFor_ap, sRaise_ap, sSet_ap, kSet, kSet2, xLc_ap, xInt_ap, kInt, xSl_ap, kSl1, kSl2, oPart, xRev_ap, listOf?, xCallIO_ap, kIO0, kIO, foXi_ok, xApp_ap, kApp0, kApp, isi_ib, isi_ii, isi_is, isi_sb, isi_si, isi_ss, isi_bb, isi_lb, isi_li, isi_ls, isi_lt, isi_ll, isi_tb, isi_ti, isi_ts, isi_tt, isi_tl, isN_n, isN_i, isN_s, isN_b, isN_d, sAug_ap, kAsg0, kAsg, sAugIx_k, kAug0, kAug1, kAug, oAddI_i, oSubI_i, xBor_ap, view, fzS, x2_ap, x1_ap, xN_ap, xC_ap, xVar_ap, xMove_ap, xIf_ap, xAnd_ap, xOr_ap, xDsp_ap,
    aCons_ap, aNil_ap, iRg_ap, iL_ap, xCall_ap, foX_ok, foX_exc, foX_ite, bX_ok, bX_exc, bX_ite, bXS_ok, bXS_exc, bXS_ite, bXA_ok, bXA_exc, bAX_ok, bAX_exc, bAA_ok, bAA_exc, bAS_ok, bAS_exc, bSS_nx, bSS_rt, bSS_bk, bSS_ct, bSS_exc, bSS_ite,
    oX_some, oA_some, oS_some, kIfX_t, kIfX_f, kIfX_d, kIfS_t, kIfS_f, kIfS_d, kIfS_n, borK_int, borK_bl, borK_str, borK_non, borK_exc, borK_ite, gNm_ap, fz, fzL, fzL_map, cl, clL,
    endB_nx, endB_rt, endB_exc, endB_ite, endB_io_rt, endB_io_nx, oAdd_i, oSub_i, oLt_i, oLe_i, oGt_i, oGe_i, oEq_i, oNe_i, oIx_l, oIx_t, ixN_lit, fInt, fAbs, fLen, itemsOf, oNeg, bNot, isS, sh, hneed, needD, oMul_i, k1, k2, hL2, mt1]) ?_
  have hcut : cutD (sm s n) none (some (n : Int)) = (sm s n).take n := by
    unfold MV.cutD
    rw [HT.sIx_nat]
    simp [HT.sIx, sm_len]
  have hfz : ((sm s n).take n).map fz = (sm s n).take n := by rw [List.map_take, sm_fz]
  have clT : clL ((sm s n).take n).reverse = true := by
    rw [clL_all] at clS ⊢
    rw [List.all_eq_true] at clS ⊢
    exact fun x hx => clS x (List.mem_of_mem_take (List.mem_reverse.mp hx))
  have hdue := due_it s n m xi s2 s8 n40 x0 x1
  have clC := caps_cl s m xi n
  have mt2 := matches_refl 3 (.nd false .lst (capD s m xi n)) (by
    simp only [selfy, Bool.and_eq_true, List.all_eq_true, decide_eq_true_eq]
    refine ⟨fun d hd => ?_, by unfold capD rgD; simp; omega⟩
    unfold capD rgD at hd
    rw [List.map_map] at hd
    obtain ⟨k, _, rfl⟩ := List.mem_map.mp hd
    rfl)
  have fzC : (capD s m xi n).map fz = capD s m xi n := by
    unfold capD rgD
    simp only [List.map_map]; rfl
  refine T_nx (e1 := [some (pz a5 b5 c5), some (.int s), some (.int n), some (.nd true .lst (sm s n)), some (.int (pw (s - 1) n)), some (.int (1 + s * pw (s - 1) (n - 1))), some (.int xi), some (.int m), none, none, none]) (by simp [runB_ap, sSeq_ap, sIf_ap, sAsg_ap, sDrop_ap, sRt_ap, sNx_ap, sBk_ap, sCt_ap, sRtN_ap, sFor_ap, sRaise_ap, sSet_ap, kSet, kSet2, xLc_ap, xInt_ap, kInt, xSl_ap, kSl1, kSl2, oPart, xRev_ap, listOf?, xCallIO_ap, kIO0, kIO, foXi_ok, xApp_ap, kApp0, kApp, isi_ib, isi_ii, isi_is, isi_sb, isi_si, isi_ss, isi_bb, isi_lb, isi_li, isi_ls, isi_lt, isi_ll, isi_tb, isi_ti, isi_ts, isi_tt, isi_tl, isN_n, isN_i, isN_s, isN_b, isN_d, sAug_ap, kAsg0, kAsg, sAugIx_k, kAug0, kAug1, kAug, oAddI_i, oSubI_i, xBor_ap, view, fzS, x2_ap, x1_ap, xN_ap, xC_ap, xVar_ap, xMove_ap, xIf_ap, xAnd_ap, xOr_ap, xDsp_ap,
    aCons_ap, aNil_ap, iRg_ap, iL_ap, xCall_ap, foX_ok, foX_exc, foX_ite, bX_ok, bX_exc, bX_ite, bXS_ok, bXS_exc, bXS_ite, bXA_ok, bXA_exc, bAX_ok, bAX_exc, bAA_ok, bAA_exc, bAS_ok, bAS_exc, bSS_nx, bSS_rt, bSS_bk, bSS_ct, bSS_exc, bSS_ite,
    oX_some, oA_some, oS_some, kIfX_t, kIfX_f, kIfX_d, kIfS_t, kIfS_f, kIfS_d, kIfS_n, borK_int, borK_bl, borK_str, borK_non, borK_exc, borK_ite, gNm_ap, fz, fzL, fzL_map, cl, clL,
    endB_nx, endB_rt, endB_exc, endB_ite, endB_io_rt, endB_io_nx, oAdd_i, oSub_i, oLt_i, oLe_i, oGt_i, oGe_i, oEq_i, oNe_i, oIx_l, oIx_t, ixN_lit, fInt, fAbs, fLen, itemsOf, oNeg, bNot, isS, sh, p30, e5]) ?_
  refine T_nx (e1 := [some (pz a5 b5 c5), some (.int s), some (.int n), some (.nd true .lst (sm s n)), some (.int (pw (s - 1) n)), some (.int (1 + s * pw (s - 1) (n - 1))), some (.int xi), some (.int m), none, none, none]) (by
    simp [runB_ap, sSeq_ap, sIf_ap, sAsg_ap, sDrop_ap, sRt_ap, sNx_ap, sBk_ap, sCt_ap, sRtN_ap, sFor_ap, sRaise_ap, sSet_ap, kSet, kSet2, xLc_ap, xInt_ap, kInt, xSl_ap, kSl1, kSl2, oPart, xRev_ap, listOf?, xCallIO_ap, kIO0, kIO, foXi_ok, xApp_ap, kApp0, kApp, isi_ib, isi_ii, isi_is, isi_sb, isi_si, isi_ss, isi_bb, isi_lb, isi_li, isi_ls, isi_lt, isi_ll, isi_tb, isi_ti, isi_ts, isi_tt, isi_tl, isN_n, isN_i, isN_s, isN_b, isN_d, sAug_ap, kAsg0, kAsg, sAugIx_k, kAug0, kAug1, kAug, oAddI_i, oSubI_i, xBor_ap, view, fzS, x2_ap, x1_ap, xN_ap, xC_ap, xVar_ap, xMove_ap, xIf_ap, xAnd_ap, xOr_ap, xDsp_ap,
    aCons_ap, aNil_ap, iRg_ap, iL_ap, xCall_ap, foX_ok, foX_exc, foX_ite, bX_ok, bX_exc, bX_ite, bXS_ok, bXS_exc, bXS_ite, bXA_ok, bXA_exc, bAX_ok, bAX_exc, bAA_ok, bAA_exc, bAS_ok, bAS_exc, bSS_nx, bSS_rt, bSS_bk, bSS_ct, bSS_exc, bSS_ite,
    oX_some, oA_some, oS_some, kIfX_t, kIfX_f, kIfX_d, kIfS_t, kIfS_f, kIfS_d, kIfS_n, borK_int, borK_bl, borK_str, borK_non, borK_exc, borK_ite, gNm_ap, fz, fzL, fzL_map, cl, clL,
    endB_nx, endB_rt, endB_exc, endB_ite, endB_io_rt, endB_io_nx, oAdd_i, oSub_i, oLt_i, oLe_i, oGt_i, oGe_i, oEq_i, oNe_i, oIx_l, oIx_t, ixN_lit, fInt, fAbs, fLen, itemsOf, oNeg, bNot, isS, sh, hcaps, sm_fz, hcut, hfz, clC, fzC, clT, OL, borK_cl, hdue, mt2]) ?_
  refine T_nx (e1 := [some (pz a6 b6 c6), some (.int s), some (.int n), some (.nd true .lst (sm s n)), some (.int (pw (s - 1) n)), some (.int (1 + s * pw (s - 1) (n - 1))), some (.int xi), some (.int m), some (.int fr), none, none]) (by simp [runB_ap, sSeq_ap, sIf_ap, sAsg_ap, sDrop_ap, sRt_ap, sNx_ap, sBk_ap, sCt_ap, sRtN_ap, sFor_ap, sRaise_ap, sSet_ap, kSet, kSet2, xLc_ap, xInt_ap, kInt, xSl_ap, kSl1, kSl2, oPart, xRev_ap, listOf?, xCallIO_ap, kIO0, kIO, foXi_ok, xApp_ap, kApp0, kApp, isi_ib, isi_ii, isi_is, isi_sb, isi_si, isi_ss, isi_bb, isi_lb, isi_li, isi_ls, isi_lt, isi_ll, isi_tb, isi_ti, isi_ts, isi_tt, isi_tl, isN_n, isN_i, isN_s, isN_b, isN_d, sAug_ap, kAsg0, kAsg, sAugIx_k, kAug0, kAug1, kAug, oAddI_i, oSubI_i, xBor_ap, view, fzS, x2_ap, x1_ap, xN_ap, xC_ap, xVar_ap, xMove_ap, xIf_ap, xAnd_ap, xOr_ap, xDsp_ap,
    aCons_ap, aNil_ap, iRg_ap, iL_ap, xCall_ap, foX_ok, foX_exc, foX_ite, bX_ok, bX_exc, bX_ite, bXS_ok, bXS_exc, bXS_ite, bXA_ok, bXA_exc, bAX_ok, bAX_exc, bAA_ok, bAA_exc, bAS_ok, bAS_exc, bSS_nx, bSS_rt, bSS_bk, bSS_ct, bSS_exc, bSS_ite,
    oX_some, oA_some, oS_some, kIfX_t, kIfX_f, kIfX_d, kIfS_t, kIfS_f, kIfS_d, kIfS_n, borK_int, borK_bl, borK_str, borK_non, borK_exc, borK_ite, gNm_ap, fz, fzL, fzL_map, cl, clL,
    endB_nx, endB_rt, endB_exc, endB_ite, endB_io_rt, endB_io_nx, oAdd_i, oSub_i, oLt_i, oLe_i, oGt_i, oGe_i, oEq_i, oNe_i, oIx_l, oIx_t, ixN_lit, fInt, fAbs, fLen, itemsOf, oNeg, bNot, isS, sh, p30, e6]) ?_
  have wn : 1 ≤ pw (s - 1) n := pw_1 (by omega) (by omega) n1
  -- the moves that are free
  refine T_seq (fun e => ∃ x y z fr', e = [some (pz x y z), some (.int s), some (.int n), some (.nd true .lst (sm s n)), some (.int (pw (s - 1) n)), some (.int (1 + s * pw (s - 1) (n - 1))), some (.int xi), some (.int m), some (.int fr'), none, none] ∧ 0 ≤ fr' ∧ fr' ≤ 1000000000000000000000000000000) ?_ ?_
  · obtain ⟨r7, a7, b7, c7, e7, p7, q7⟩ := draw_ev a6 b6 c6 3 (by decide) (by decide)
    obtain ⟨r8, a8, b8, c8, e8, p8, q8⟩ := draw_ev a7 b7 c7 60 (by decide) (by decide)
    obtain ⟨r9, a9, b9, c9, e9, p9, q9⟩ := draw_ev a8 b8 c8 2 (by decide) (by decide)
    have k8 : mulOk (pw (s - 1) n) r8 = true := mulOk_r (by omega)
    by_cases h7 : r7 = 0
    · by_cases hb : pw (s - 1) n < 10000000000000000000000000000
      · refine ⟨_, ?_, a9, b9, c9, pw (s - 1) n * r8 - r9 + 1, rfl, ?_, ?_⟩
        · simp [runB_ap, sSeq_ap, sIf_ap, sAsg_ap, sDrop_ap, sRt_ap, sNx_ap, sBk_ap, sCt_ap, sRtN_ap, sFor_ap, sRaise_ap, sSet_ap, kSet, kSet2, xLc_ap, xInt_ap, kInt, xSl_ap, kSl1, kSl2, oPart, xRev_ap, listOf?, xCallIO_ap, kIO0, kIO, foXi_ok, xApp_ap, kApp0, kApp, isi_ib, isi_ii, isi_is, isi_sb, isi_si, isi_ss, isi_bb, isi_lb, isi_li, isi_ls, isi_lt, isi_ll, isi_tb, isi_ti, isi_ts, isi_tt, isi_tl, isN_n, isN_i, isN_s, isN_b, isN_d, sAug_ap, kAsg0, kAsg, sAugIx_k, kAug0, kAug1, kAug, oAddI_i, oSubI_i, xBor_ap, view, fzS, x2_ap, x1_ap, xN_ap, xC_ap, xVar_ap, xMove_ap, xIf_ap, xAnd_ap, xOr_ap, xDsp_ap,
    aCons_ap, aNil_ap, iRg_ap, iL_ap, xCall_ap, foX_ok, foX_exc, foX_ite, bX_ok, bX_exc, bX_ite, bXS_ok, bXS_exc, bXS_ite, bXA_ok, bXA_exc, bAX_ok, bAX_exc, bAA_ok, bAA_exc, bAS_ok, bAS_exc, bSS_nx, bSS_rt, bSS_bk, bSS_ct, bSS_exc, bSS_ite,
    oX_some, oA_some, oS_some, kIfX_t, kIfX_f, kIfX_d, kIfS_t, kIfS_f, kIfS_d, kIfS_n, borK_int, borK_bl, borK_str, borK_non, borK_exc, borK_ite, gNm_ap, fz, fzL, fzL_map, cl, clL,
    endB_nx, endB_rt, endB_exc, endB_ite, endB_io_rt, endB_io_nx, oAdd_i, oSub_i, oLt_i, oLe_i, oGt_i, oGe_i, oEq_i, oNe_i, oIx_l, oIx_t, ixN_lit, fInt, fAbs, fLen, itemsOf, oNeg, bNot, isS, sh, e7, h7, p28, hb, e8, e9, oMul_i, k8]
        · have := Int.mul_nonneg (by omega : 0 ≤ pw (s - 1) n) p8
          omega
        · have h1 : pw (s - 1) n * r8 ≤ pw (s - 1) n * 59 := Int.mul_le_mul_of_nonneg_left (by omega) (by omega)
          omega
      · refine ⟨_, ?_, a7, b7, c7, fr, rfl, f0, f1⟩
        simp [runB_ap, sSeq_ap, sIf_ap, sAsg_ap, sDrop_ap, sRt_ap, sNx_ap, sBk_ap, sCt_ap, sRtN_ap, sFor_ap, sRaise_ap, sSet_ap, kSet, kSet2, xLc_ap, xInt_ap, kInt, xSl_ap, kSl1, kSl2, oPart, xRev_ap, listOf?, xCallIO_ap, kIO0, kIO, foXi_ok, xApp_ap, kApp0, kApp, isi_ib, isi_ii, isi_is, isi_sb, isi_si, isi_ss, isi_bb, isi_lb, isi_li, isi_ls, isi_lt, isi_ll, isi_tb, isi_ti, isi_ts, isi_tt, isi_tl, isN_n, isN_i, isN_s, isN_b, isN_d, sAug_ap, kAsg0, kAsg, sAugIx_k, kAug0, kAug1, kAug, oAddI_i, oSubI_i, xBor_ap, view, fzS, x2_ap, x1_ap, xN_ap, xC_ap, xVar_ap, xMove_ap, xIf_ap, xAnd_ap, xOr_ap, xDsp_ap,
    aCons_ap, aNil_ap, iRg_ap, iL_ap, xCall_ap, foX_ok, foX_exc, foX_ite, bX_ok, bX_exc, bX_ite, bXS_ok, bXS_exc, bXS_ite, bXA_ok, bXA_exc, bAX_ok, bAX_exc, bAA_ok, bAA_exc, bAS_ok, bAS_exc, bSS_nx, bSS_rt, bSS_bk, bSS_ct, bSS_exc, bSS_ite,
    oX_some, oA_some, oS_some, kIfX_t, kIfX_f, kIfX_d, kIfS_t, kIfS_f, kIfS_d, kIfS_n, borK_int, borK_bl, borK_str, borK_non, borK_exc, borK_ite, gNm_ap, fz, fzL, fzL_map, cl, clL,
    endB_nx, endB_rt, endB_exc, endB_ite, endB_io_rt, endB_io_nx, oAdd_i, oSub_i, oLt_i, oLe_i, oGt_i, oGe_i, oEq_i, oNe_i, oIx_l, oIx_t, ixN_lit, fInt, fAbs, fLen, itemsOf, oNeg, bNot, isS, sh, e7, h7, p28, hb]
    · refine ⟨_, ?_, a7, b7, c7, fr, rfl, f0, f1⟩
      simp [runB_ap, sSeq_ap, sIf_ap, sAsg_ap, sDrop_ap, sRt_ap, sNx_ap, sBk_ap, sCt_ap, sRtN_ap, sFor_ap, sRaise_ap, sSet_ap, kSet, kSet2, xLc_ap, xInt_ap, kInt, xSl_ap, kSl1, kSl2, oPart, xRev_ap, listOf?, xCallIO_ap, kIO0, kIO, foXi_ok, xApp_ap, kApp0, kApp, isi_ib, isi_ii, isi_is, isi_sb, isi_si, isi_ss, isi_bb, isi_lb, isi_li, isi_ls, isi_lt, isi_ll, isi_tb, isi_ti, isi_ts, isi_tt, isi_tl, isN_n, isN_i, isN_s, isN_b, isN_d, sAug_ap, kAsg0, kAsg, sAugIx_k, kAug0, kAug1, kAug, oAddI_i, oSubI_i, xBor_ap, view, fzS, x2_ap, x1_ap, xN_ap, xC_ap, xVar_ap, xMove_ap, xIf_ap, xAnd_ap, xOr_ap, xDsp_ap,
    aCons_ap, aNil_ap, iRg_ap, iL_ap, xCall_ap, foX_ok, foX_exc, foX_ite, bX_ok, bX_exc, bX_ite, bXS_ok, bXS_exc, bXS_ite, bXA_ok, bXA_exc, bAX_ok, bAX_exc, bAA_ok, bAA_exc, bAS_ok, bAS_exc, bSS_nx, bSS_rt, bSS_bk, bSS_ct, bSS_exc, bSS_ite,
    oX_some, oA_some, oS_some, kIfX_t, kIfX_f, kIfX_d, kIfS_t, kIfS_f, kIfS_d, kIfS_n, borK_int, borK_bl, borK_str, borK_non, borK_exc, borK_ite, gNm_ap, fz, fzL, fzL_map, cl, clL,
    endB_nx, endB_rt, endB_exc, endB_ite, endB_io_rt, endB_io_nx, oAdd_i, oSub_i, oLt_i, oLe_i, oGt_i, oGe_i, oEq_i, oNe_i, oIx_l, oIx_t, ixN_lit, fInt, fAbs, fLen, itemsOf, oNeg, bNot, isS, sh, e7, h7]
  rintro e ⟨a6, b6, c6, fr, rfl, f0, f1⟩
  -- the moves of the days
  refine T_seq (fun e => ∃ x y z m', e = [some (pz x y z), some (.int s), some (.int n), some (.nd true .lst (sm s n)), some (.int (pw (s - 1) n)), some (.int (1 + s * pw (s - 1) (n - 1))), some (.int xi), some (.int m'), some (.int fr), none, none] ∧ 0 ≤ m' ∧ m' ≤ 1000000000000000000000000000000) ?_ ?_
  · obtain ⟨r7, a7, b7, c7, e7, p7, q7⟩ := draw_ev a6 b6 c6 3 (by decide) (by decide)
    obtain ⟨r8, a8, b8, c8, e8, p8, q8⟩ := draw_ev a7 b7 c7 60 (by decide) (by decide)
    obtain ⟨r9, a9, b9, c9, e9, p9, q9⟩ := draw_ev a8 b8 c8 2 (by decide) (by decide)
    have k8 : mulOk (1 + s * pw (s - 1) (n - 1)) r8 = true := mulOk_r (by omega)
    by_cases h7 : r7 = 0
    · by_cases hb : 1 + s * pw (s - 1) (n - 1) < 10000000000000000000000000000
      · refine ⟨_, ?_, a9, b9, c9, (1 + s * pw (s - 1) (n - 1)) * r8 - r9 + 1, rfl, ?_, ?_⟩
        · simp [runB_ap, sSeq_ap, sIf_ap, sAsg_ap, sDrop_ap, sRt_ap, sNx_ap, sBk_ap, sCt_ap, sRtN_ap, sFor_ap, sRaise_ap, sSet_ap, kSet, kSet2, xLc_ap, xInt_ap, kInt, xSl_ap, kSl1, kSl2, oPart, xRev_ap, listOf?, xCallIO_ap, kIO0, kIO, foXi_ok, xApp_ap, kApp0, kApp, isi_ib, isi_ii, isi_is, isi_sb, isi_si, isi_ss, isi_bb, isi_lb, isi_li, isi_ls, isi_lt, isi_ll, isi_tb, isi_ti, isi_ts, isi_tt, isi_tl, isN_n, isN_i, isN_s, isN_b, isN_d, sAug_ap, kAsg0, kAsg, sAugIx_k, kAug0, kAug1, kAug, oAddI_i, oSubI_i, xBor_ap, view, fzS, x2_ap, x1_ap, xN_ap, xC_ap, xVar_ap, xMove_ap, xIf_ap, xAnd_ap, xOr_ap, xDsp_ap,
    aCons_ap, aNil_ap, iRg_ap, iL_ap, xCall_ap, foX_ok, foX_exc, foX_ite, bX_ok, bX_exc, bX_ite, bXS_ok, bXS_exc, bXS_ite, bXA_ok, bXA_exc, bAX_ok, bAX_exc, bAA_ok, bAA_exc, bAS_ok, bAS_exc, bSS_nx, bSS_rt, bSS_bk, bSS_ct, bSS_exc, bSS_ite,
    oX_some, oA_some, oS_some, kIfX_t, kIfX_f, kIfX_d, kIfS_t, kIfS_f, kIfS_d, kIfS_n, borK_int, borK_bl, borK_str, borK_non, borK_exc, borK_ite, gNm_ap, fz, fzL, fzL_map, cl, clL,
    endB_nx, endB_rt, endB_exc, endB_ite, endB_io_rt, endB_io_nx, oAdd_i, oSub_i, oLt_i, oLe_i, oGt_i, oGe_i, oEq_i, oNe_i, oIx_l, oIx_t, ixN_lit, fInt, fAbs, fLen, itemsOf, oNeg, bNot, isS, sh, e7, h7, p28, hb, e8, e9, oMul_i, k8]
        · have := Int.mul_nonneg (by omega : 0 ≤ 1 + s * pw (s - 1) (n - 1)) p8
          omega
        · have h1 : (1 + s * pw (s - 1) (n - 1)) * r8 ≤ (1 + s * pw (s - 1) (n - 1)) * 59 := Int.mul_le_mul_of_nonneg_left (by omega) (by omega)
          omega
      · refine ⟨_, ?_, a7, b7, c7, m, rfl, m0, m1⟩
        simp [runB_ap, sSeq_ap, sIf_ap, sAsg_ap, sDrop_ap, sRt_ap, sNx_ap, sBk_ap, sCt_ap, sRtN_ap, sFor_ap, sRaise_ap, sSet_ap, kSet, kSet2, xLc_ap, xInt_ap, kInt, xSl_ap, kSl1, kSl2, oPart, xRev_ap, listOf?, xCallIO_ap, kIO0, kIO, foXi_ok, xApp_ap, kApp0, kApp, isi_ib, isi_ii, isi_is, isi_sb, isi_si, isi_ss, isi_bb, isi_lb, isi_li, isi_ls, isi_lt, isi_ll, isi_tb, isi_ti, isi_ts, isi_tt, isi_tl, isN_n, isN_i, isN_s, isN_b, isN_d, sAug_ap, kAsg0, kAsg, sAugIx_k, kAug0, kAug1, kAug, oAddI_i, oSubI_i, xBor_ap, view, fzS, x2_ap, x1_ap, xN_ap, xC_ap, xVar_ap, xMove_ap, xIf_ap, xAnd_ap, xOr_ap, xDsp_ap,
    aCons_ap, aNil_ap, iRg_ap, iL_ap, xCall_ap, foX_ok, foX_exc, foX_ite, bX_ok, bX_exc, bX_ite, bXS_ok, bXS_exc, bXS_ite, bXA_ok, bXA_exc, bAX_ok, bAX_exc, bAA_ok, bAA_exc, bAS_ok, bAS_exc, bSS_nx, bSS_rt, bSS_bk, bSS_ct, bSS_exc, bSS_ite,
    oX_some, oA_some, oS_some, kIfX_t, kIfX_f, kIfX_d, kIfS_t, kIfS_f, kIfS_d, kIfS_n, borK_int, borK_bl, borK_str, borK_non, borK_exc, borK_ite, gNm_ap, fz, fzL, fzL_map, cl, clL,
    endB_nx, endB_rt, endB_exc, endB_ite, endB_io_rt, endB_io_nx, oAdd_i, oSub_i, oLt_i, oLe_i, oGt_i, oGe_i, oEq_i, oNe_i, oIx_l, oIx_t, ixN_lit, fInt, fAbs, fLen, itemsOf, oNeg, bNot, isS, sh, e7, h7, p28, hb]
    · refine ⟨_, ?_, a7, b7, c7, m, rfl, m0, m1⟩
      simp [runB_ap, sSeq_ap, sIf_ap, sAsg_ap, sDrop_ap, sRt_ap, sNx_ap, sBk_ap, sCt_ap, sRtN_ap, sFor_ap, sRaise_ap, sSet_ap, kSet, kSet2, xLc_ap, xInt_ap, kInt, xSl_ap, kSl1, kSl2, oPart, xRev_ap, listOf?, xCallIO_ap, kIO0, kIO, foXi_ok, xApp_ap, kApp0, kApp, isi_ib, isi_ii, isi_is, isi_sb, isi_si, isi_ss, isi_bb, isi_lb, isi_li, isi_ls, isi_lt, isi_ll, isi_tb, isi_ti, isi_ts, isi_tt, isi_tl, isN_n, isN_i, isN_s, isN_b, isN_d, sAug_ap, kAsg0, kAsg, sAugIx_k, kAug0, kAug1, kAug, oAddI_i, oSubI_i, xBor_ap, view, fzS, x2_ap, x1_ap, xN_ap, xC_ap, xVar_ap, xMove_ap, xIf_ap, xAnd_ap, xOr_ap, xDsp_ap,
    aCons_ap, aNil_ap, iRg_ap, iL_ap, xCall_ap, foX_ok, foX_exc, foX_ite, bX_ok, bX_exc, bX_ite, bXS_ok, bXS_exc, bXS_ite, bXA_ok, bXA_exc, bAX_ok, bAX_exc, bAA_ok, bAA_exc, bAS_ok, bAS_exc, bSS_nx, bSS_rt, bSS_bk, bSS_ct, bSS_exc, bSS_ite,
    oX_some, oA_some, oS_some, kIfX_t, kIfX_f, kIfX_d, kIfS_t, kIfS_f, kIfS_d, kIfS_n, borK_int, borK_bl, borK_str, borK_non, borK_exc, borK_ite, gNm_ap, fz, fzL, fzL_map, cl, clL,
    endB_nx, endB_rt, endB_exc, endB_ite, endB_io_rt, endB_io_nx, oAdd_i, oSub_i, oLt_i, oLe_i, oGt_i, oGe_i, oEq_i, oNe_i, oIx_l, oIx_t, ixN_lit, fInt, fAbs, fLen, itemsOf, oNeg, bNot, isS, sh, e7, h7]
  rintro e ⟨a6, b6, c6, m, rfl, m0, m1⟩
  have hw := worth_ev s m n fr (bad_of_ok s2 s8 m0 m1 (by omega) (by omega) f0 f1)
  obtain ⟨v, hv⟩ : ∃ v, v = min (fr / pw (s - 1) n) (m / (1 + s * pw (s - 1) (n - 1))) := ⟨_, rfl⟩
  rw [← hv] at hw
  have v0 : 0 ≤ v := by
    rw [hv]
    exact Int.le_min.mpr ⟨Int.ediv_nonneg f0 (by omega), Int.ediv_nonneg m0 (by omega)⟩
  have v1 : v * pw (s - 1) n ≤ fr := by
    have h1 : v ≤ fr / pw (s - 1) n := by rw [hv]; exact Int.min_le_left _ _
    exact Int.le_trans (Int.mul_le_mul_of_nonneg_right h1 (by omega)) (Int.ediv_mul_le _ (by omega))
  have v2 : v * (1 + s * pw (s - 1) (n - 1)) ≤ m := by
    have h1 : v ≤ m / (1 + s * pw (s - 1) (n - 1)) := by rw [hv]; exact Int.min_le_right _ _
    exact Int.le_trans (Int.mul_le_mul_of_nonneg_right h1 (by omega)) (Int.ediv_mul_le _ (by omega))
  have v3 : fr < (v + 1) * pw (s - 1) n ∨ m < (v + 1) * (1 + s * pw (s - 1) (n - 1)) := by
    rcases Int.le_total (fr / pw (s - 1) n) (m / (1 + s * pw (s - 1) (n - 1))) with h | h
    · left; rw [hv, Int.min_eq_left h]; exact Int.lt_ediv_add_one_mul_self _ (by omega)
    · right; rw [hv, Int.min_eq_right h]; exact Int.lt_ediv_add_one_mul_self _ (by omega)
  have vb : v.natAbs < 2 ^ 4000 := by
    have h1 : v * 1 ≤ v * pw (s - 1) n := Int.mul_le_mul_of_nonneg_left wn v0
    exact big_b v0 (by omega)
  have vb1 : (v + 1).natAbs < 2 ^ 4000 := by
    have h1 : v * 1 ≤ v * pw (s - 1) n := Int.mul_le_mul_of_nonneg_left wn v0
    exact tiny (Nat.lt_of_le_of_lt (by omega : (v + 1).natAbs ≤ 10 ^ 31) (by decide))
  have k1 : mulOk v (pw (s - 1) n) = true := mulOk_b vb bN
  have k2 : mulOk v (1 + s * pw (s - 1) (n - 1)) = true := mulOk_b vb bD.2
  have k3 : mulOk (v + 1) (pw (s - 1) n) = true := mulOk_b vb1 bN
  have k4 : mulOk (v + 1) (1 + s * pw (s - 1) (n - 1)) = true := mulOk_b vb1 bD.2
  refine T_nx (e1 := [some (pz a6 b6 c6), some (.int s), some (.int n), some (.nd true .lst (sm s n)), some (.int (pw (s - 1) n)), some (.int (1 + s * pw (s - 1) (n - 1))), some (.int xi), some (.int m), some (.int fr), some (.int v), none]) (by simp [runB_ap, sSeq_ap, sIf_ap, sAsg_ap, sDrop_ap, sRt_ap, sNx_ap, sBk_ap, sCt_ap, sRtN_ap, sFor_ap, sRaise_ap, sSet_ap, kSet, kSet2, xLc_ap, xInt_ap, kInt, xSl_ap, kSl1, kSl2, oPart, xRev_ap, listOf?, xCallIO_ap, kIO0, kIO, foXi_ok, xApp_ap, kApp0, kApp, isi_ib, isi_ii, isi_is, isi_sb, isi_si, isi_ss, isi_bb, isi_lb, isi_li, isi_ls, isi_lt, isi_ll, isi_tb, isi_ti, isi_ts, isi_tt, isi_tl, isN_n, isN_i, isN_s, isN_b, isN_d, sAug_ap, kAsg0, kAsg, sAugIx_k, kAug0, kAug1, kAug, oAddI_i, oSubI_i, xBor_ap, view, fzS, x2_ap, x1_ap, xN_ap, xC_ap, xVar_ap, xMove_ap, xIf_ap, xAnd_ap, xOr_ap, xDsp_ap,
    aCons_ap, aNil_ap, iRg_ap, iL_ap, xCall_ap, foX_ok, foX_exc, foX_ite, bX_ok, bX_exc, bX_ite, bXS_ok, bXS_exc, bXS_ite, bXA_ok, bXA_exc, bAX_ok, bAX_exc, bAA_ok, bAA_exc, bAS_ok, bAS_exc, bSS_nx, bSS_rt, bSS_bk, bSS_ct, bSS_exc, bSS_ite,
    oX_some, oA_some, oS_some, kIfX_t, kIfX_f, kIfX_d, kIfS_t, kIfS_f, kIfS_d, kIfS_n, borK_int, borK_bl, borK_str, borK_non, borK_exc, borK_ite, gNm_ap, fz, fzL, fzL_map, cl, clL,
    endB_nx, endB_rt, endB_exc, endB_ite, endB_io_rt, endB_io_nx, oAdd_i, oSub_i, oLt_i, oLe_i, oGt_i, oGe_i, oEq_i, oNe_i, oIx_l, oIx_t, ixN_lit, fInt, fAbs, fLen, itemsOf, oNeg, bNot, isS, sh, hw]) ?_
  refine T_nx (e1 := [some (pz a6 b6 c6), some (.int s), some (.int n), some (.nd true .lst (sm s n)), some (.int (pw (s - 1) n)), some (.int (1 + s * pw (s - 1) (n - 1))), some (.int xi), some (.int m), some (.int fr), some (.int v), none]) (by simp [runB_ap, sSeq_ap, sIf_ap, sAsg_ap, sDrop_ap, sRt_ap, sNx_ap, sBk_ap, sCt_ap, sRtN_ap, sFor_ap, sRaise_ap, sSet_ap, kSet, kSet2, xLc_ap, xInt_ap, kInt, xSl_ap, kSl1, kSl2, oPart, xRev_ap, listOf?, xCallIO_ap, kIO0, kIO, foXi_ok, xApp_ap, kApp0, kApp, isi_ib, isi_ii, isi_is, isi_sb, isi_si, isi_ss, isi_bb, isi_lb, isi_li, isi_ls, isi_lt, isi_ll, isi_tb, isi_ti, isi_ts, isi_tt, isi_tl, isN_n, isN_i, isN_s, isN_b, isN_d, sAug_ap, kAsg0, kAsg, sAugIx_k, kAug0, kAug1, kAug, oAddI_i, oSubI_i, xBor_ap, view, fzS, x2_ap, x1_ap, xN_ap, xC_ap, xVar_ap, xMove_ap, xIf_ap, xAnd_ap, xOr_ap, xDsp_ap,
    aCons_ap, aNil_ap, iRg_ap, iL_ap, xCall_ap, foX_ok, foX_exc, foX_ite, bX_ok, bX_exc, bX_ite, bXS_ok, bXS_exc, bXS_ite, bXA_ok, bXA_exc, bAX_ok, bAX_exc, bAA_ok, bAA_exc, bAS_ok, bAS_exc, bSS_nx, bSS_rt, bSS_bk, bSS_ct, bSS_exc, bSS_ite,
    oX_some, oA_some, oS_some, kIfX_t, kIfX_f, kIfX_d, kIfS_t, kIfS_f, kIfS_d, kIfS_n, borK_int, borK_bl, borK_str, borK_non, borK_exc, borK_ite, gNm_ap, fz, fzL, fzL_map, cl, clL,
    endB_nx, endB_rt, endB_exc, endB_ite, endB_io_rt, endB_io_nx, oAdd_i, oSub_i, oLt_i, oLe_i, oGt_i, oGe_i, oEq_i, oNe_i, oIx_l, oIx_t, ixN_lit, fInt, fAbs, fLen, itemsOf, oNeg, bNot, isS, sh, show ¬ v < 0 by omega]) ?_
  refine T_nx (e1 := [some (pz a6 b6 c6), some (.int s), some (.int n), some (.nd true .lst (sm s n)), some (.int (pw (s - 1) n)), some (.int (1 + s * pw (s - 1) (n - 1))), some (.int xi), some (.int m), some (.int fr), some (.int v), none]) (by
    simp [runB_ap, sSeq_ap, sIf_ap, sAsg_ap, sDrop_ap, sRt_ap, sNx_ap, sBk_ap, sCt_ap, sRtN_ap, sFor_ap, sRaise_ap, sSet_ap, kSet, kSet2, xLc_ap, xInt_ap, kInt, xSl_ap, kSl1, kSl2, oPart, xRev_ap, listOf?, xCallIO_ap, kIO0, kIO, foXi_ok, xApp_ap, kApp0, kApp, isi_ib, isi_ii, isi_is, isi_sb, isi_si, isi_ss, isi_bb, isi_lb, isi_li, isi_ls, isi_lt, isi_ll, isi_tb, isi_ti, isi_ts, isi_tt, isi_tl, isN_n, isN_i, isN_s, isN_b, isN_d, sAug_ap, kAsg0, kAsg, sAugIx_k, kAug0, kAug1, kAug, oAddI_i, oSubI_i, xBor_ap, view, fzS, x2_ap, x1_ap, xN_ap, xC_ap, xVar_ap, xMove_ap, xIf_ap, xAnd_ap, xOr_ap, xDsp_ap,
    aCons_ap, aNil_ap, iRg_ap, iL_ap, xCall_ap, foX_ok, foX_exc, foX_ite, bX_ok, bX_exc, bX_ite, bXS_ok, bXS_exc, bXS_ite, bXA_ok, bXA_exc, bAX_ok, bAX_exc, bAA_ok, bAA_exc, bAS_ok, bAS_exc, bSS_nx, bSS_rt, bSS_bk, bSS_ct, bSS_exc, bSS_ite,
    oX_some, oA_some, oS_some, kIfX_t, kIfX_f, kIfX_d, kIfS_t, kIfS_f, kIfS_d, kIfS_n, borK_int, borK_bl, borK_str, borK_non, borK_exc, borK_ite, gNm_ap, fz, fzL, fzL_map, cl, clL,
    endB_nx, endB_rt, endB_exc, endB_ite, endB_io_rt, endB_io_nx, oAdd_i, oSub_i, oLt_i, oLe_i, oGt_i, oGe_i, oEq_i, oNe_i, oIx_l, oIx_t, ixN_lit, fInt, fAbs, fLen, itemsOf, oNeg, bNot, isS, sh, oMul_i, k1, k2, show ¬ fr < v * pw (s - 1) n by omega, show ¬ m < v * (1 + s * pw (s - 1) (n - 1)) by omega]) ?_
  refine ⟨a6, b6, c6, [some (.int s), some (.int n), some (.nd true .lst (sm s n)), some (.int (pw (s - 1) n)), some (.int (1 + s * pw (s - 1) (n - 1))), some (.int xi), some (.int m), some (.int fr), some (.int v), none], ?_⟩
  by_cases hq : fr < (v + 1) * pw (s - 1) n
  · simp [runB_ap, sSeq_ap, sIf_ap, sAsg_ap, sDrop_ap, sRt_ap, sNx_ap, sBk_ap, sCt_ap, sRtN_ap, sFor_ap, sRaise_ap, sSet_ap, kSet, kSet2, xLc_ap, xInt_ap, kInt, xSl_ap, kSl1, kSl2, oPart, xRev_ap, listOf?, xCallIO_ap, kIO0, kIO, foXi_ok, xApp_ap, kApp0, kApp, isi_ib, isi_ii, isi_is, isi_sb, isi_si, isi_ss, isi_bb, isi_lb, isi_li, isi_ls, isi_lt, isi_ll, isi_tb, isi_ti, isi_ts, isi_tt, isi_tl, isN_n, isN_i, isN_s, isN_b, isN_d, sAug_ap, kAsg0, kAsg, sAugIx_k, kAug0, kAug1, kAug, oAddI_i, oSubI_i, xBor_ap, view, fzS, x2_ap, x1_ap, xN_ap, xC_ap, xVar_ap, xMove_ap, xIf_ap, xAnd_ap, xOr_ap, xDsp_ap,
    aCons_ap, aNil_ap, iRg_ap, iL_ap, xCall_ap, foX_ok, foX_exc, foX_ite, bX_ok, bX_exc, bX_ite, bXS_ok, bXS_exc, bXS_ite, bXA_ok, bXA_exc, bAX_ok, bAX_exc, bAA_ok, bAA_exc, bAS_ok, bAS_exc, bSS_nx, bSS_rt, bSS_bk, bSS_ct, bSS_exc, bSS_ite,
    oX_some, oA_some, oS_some, kIfX_t, kIfX_f, kIfX_d, kIfS_t, kIfS_f, kIfS_d, kIfS_n, borK_int, borK_bl, borK_str, borK_non, borK_exc, borK_ite, gNm_ap, fz, fzL, fzL_map, cl, clL,
    endB_nx, endB_rt, endB_exc, endB_ite, endB_io_rt, endB_io_nx, oAdd_i, oSub_i, oLt_i, oLe_i, oGt_i, oGe_i, oEq_i, oNe_i, oIx_l, oIx_t, ixN_lit, fInt, fAbs, fLen, itemsOf, oNeg, bNot, isS, sh, oMul_i, k3, k4, hq]
  · simp [runB_ap, sSeq_ap, sIf_ap, sAsg_ap, sDrop_ap, sRt_ap, sNx_ap, sBk_ap, sCt_ap, sRtN_ap, sFor_ap, sRaise_ap, sSet_ap, kSet, kSet2, xLc_ap, xInt_ap, kInt, xSl_ap, kSl1, kSl2, oPart, xRev_ap, listOf?, xCallIO_ap, kIO0, kIO, foXi_ok, xApp_ap, kApp0, kApp, isi_ib, isi_ii, isi_is, isi_sb, isi_si, isi_ss, isi_bb, isi_lb, isi_li, isi_ls, isi_lt, isi_ll, isi_tb, isi_ti, isi_ts, isi_tt, isi_tl, isN_n, isN_i, isN_s, isN_b, isN_d, sAug_ap, kAsg0, kAsg, sAugIx_k, kAug0, kAug1, kAug, oAddI_i, oSubI_i, xBor_ap, view, fzS, x2_ap, x1_ap, xN_ap, xC_ap, xVar_ap, xMove_ap, xIf_ap, xAnd_ap, xOr_ap, xDsp_ap,
    aCons_ap, aNil_ap, iRg_ap, iL_ap, xCall_ap, foX_ok, foX_exc, foX_ite, bX_ok, bX_exc, bX_ite, bXS_ok, bXS_exc, bXS_ite, bXA_ok, bXA_exc, bAX_ok, bAX_exc, bAA_ok, bAA_exc, bAS_ok, bAS_exc, bSS_nx, bSS_rt, bSS_bk, bSS_ct, bSS_exc, bSS_ite,
    oX_some, oA_some, oS_some, kIfX_t, kIfX_f, kIfX_d, kIfS_t, kIfS_f, kIfS_d, kIfS_n, borK_int, borK_bl, borK_str, borK_non, borK_exc, borK_ite, gNm_ap, fz, fzL, fzL_map, cl, clL,
    endB_nx, endB_rt, endB_exc, endB_ite, endB_io_rt, endB_io_nx, oAdd_i, oSub_i, oLt_i, oLe_i, oGt_i, oGe_i, oEq_i, oNe_i, oIx_l, oIx_t, ixN_lit, fInt, fAbs, fLen, itemsOf, oNeg, bNot, isS, sh, oMul_i, k3, k4, hq, v3.resolve_left hq]

theorem errO_e {word : DF} {okc : Nat → Option Bool} {c : Nat} {ns : List Str} {fs : List D} {e : MV.Env} {d sd : D} (h : okc c = some true) (hw : word [.exn c ns fs] = .ok d sd) (hc : cl d = true) (hn : noXL fs = true) : errO word okc (.exc c ns fs e) = .ok d e := by
  simp [errO, h, hw, hc, hn]
theorem errO_k {word : DF} {okc : Nat → Option Bool} {d : D} {e : MV.Env} : errO word okc (.ok d e) = .ok (.nd true .tup [.str "none"]) e := rfl
theorem bad_sel {s m o n : Int} {what : Str} {c : Nat} {w : Str} (hw : what = "free" ∨ what = "xi") (h : bad? s m o n what = some (c, w)) : c < 4 ∧ isM c = some true ∧ selfy 3 (.nd false .tup [.str (wd c), .str w]) = true := by
  unfold bad? at h
  repeat' split at h
  all_goals first
    | (cases h; exact ⟨by decide, rfl, by decide +kernel⟩)
    | (cases h; rcases hw with rfl | rfl <;> exact ⟨by decide, rfl, by decide +kernel⟩)
    | (cases h)
theorem due_cl (x : Option (Nat × Str)) : clL (dueD x) = true := by
  cases x with
  | none => rfl
  | some p => rfl
theorem due_fz (x : Option (Nat × Str)) : (dueD x).map fz = dueD x := by
  cases x with
  | none => rfl
  | some p => rfl
theorem nat_of {s m o n : Int} {what : Str} (h : bad? s m o n what = none) : ∃ k : Nat, o = k := ⟨o.toNat, by have := ok_of_bad h; omega⟩
theorem none_sel : selfy 3 (.nd false .tup [.str "none"]) = true := by decide +kernel
theorem wrong_right_ev (a b c : Int) : ∃ a' b' c', f__law_wrong_right [pz a b c] = .ok (.bl true) (pz a' b' c') := by
  obtain ⟨s, a1, b1, c1, e1, _⟩ := pick_ev a b c [2, 2, 5, 8, 9, 1, 0, -3] (by decide) (by decide)
  obtain ⟨m, a2, b2, c2, e2, _⟩ := pick_ev a1 b1 c1 [0, 7, 7, 1000000000000000000000000000000, 1000000000000000000000000000001, -1] (by decide) (by decide)
  obtain ⟨o, a3, b3, c3, e3, _⟩ := pick_ev a2 b2 c2 [1, 1, 4, 40, 41, 0, -1] (by decide) (by decide)
  obtain ⟨l, a4, b4, c4, e4, _⟩ := pick_ev a3 b3 c3 [0, 5, 5, 1000000000000000000000000000000, 1000000000000000000000000000001, -1] (by decide) (by decide)
  simp only [List.map_cons, List.map_nil] at e1 e2 e3 e4
  have p30 : oPow (.int 10) (.int 30) = some (.int 1000000000000000000000000000000) := by rfl
  have hL8 : 8 ≤ LIM := by decide
  have hL7 : 7 ≤ LIM := by decide
  have hL6 : 6 ≤ LIM := by decide
  refine T_fn ?_
  unfold b__law_wrong_right
  refine T_nx (e1 := [some (pz a1 b1 c1), some (.int s), none, none, none, none]) (by simp [runB_ap, sSeq_ap, sIf_ap, sAsg_ap, sDrop_ap, sRt_ap, sNx_ap, sBk_ap, sCt_ap, sRtN_ap, sFor_ap, sRaise_ap, sSet_ap, kSet, kSet2, xLc_ap, xInt_ap, kInt, xSl_ap, kSl1, kSl2, oPart, xRev_ap, listOf?, xCallIO_ap, kIO0, kIO, foXi_ok, xApp_ap, kApp0, kApp, isi_ib, isi_ii, isi_is, isi_sb, isi_si, isi_ss, isi_bb, isi_lb, isi_li, isi_ls, isi_lt, isi_ll, isi_tb, isi_ti, isi_ts, isi_tt, isi_tl, isN_n, isN_i, isN_s, isN_b, isN_d, sAug_ap, kAsg0, kAsg, sAugIx_k, kAug0, kAug1, kAug, oAddI_i, oSubI_i, xBor_ap, view, fzS, x2_ap, x1_ap, xN_ap, xC_ap, xVar_ap, xMove_ap, xIf_ap, xAnd_ap, xOr_ap, xDsp_ap,
    aCons_ap, aNil_ap, iRg_ap, iL_ap, xCall_ap, foX_ok, foX_exc, foX_ite, bX_ok, bX_exc, bX_ite, bXS_ok, bXS_exc, bXS_ite, bXA_ok, bXA_exc, bAX_ok, bAX_exc, bAA_ok, bAA_exc, bAS_ok, bAS_exc, bSS_nx, bSS_rt, bSS_bk, bSS_ct, bSS_exc, bSS_ite,
    oX_some, oA_some, oS_some, kIfX_t, kIfX_f, kIfX_d, kIfS_t, kIfS_f, kIfS_d, kIfS_n, borK_int, borK_bl, borK_str, borK_non, borK_exc, borK_ite, gNm_ap, fz, fzL, fzL_map, cl, clL,
    endB_nx, endB_rt, endB_exc, endB_ite, endB_io_rt, endB_io_nx, oAdd_i, oSub_i, oLt_i, oLe_i, oGt_i, oGe_i, oEq_i, oNe_i, oIx_l, oIx_t, ixN_lit, fInt, fAbs, fLen, itemsOf, oNeg, bNot, isS, sh, e1, hL8]) ?_
  refine T_nx (e1 := [some (pz a2 b2 c2), some (.int s), some (.int m), none, none, none]) (by simp [runB_ap, sSeq_ap, sIf_ap, sAsg_ap, sDrop_ap, sRt_ap, sNx_ap, sBk_ap, sCt_ap, sRtN_ap, sFor_ap, sRaise_ap, sSet_ap, kSet, kSet2, xLc_ap, xInt_ap, kInt, xSl_ap, kSl1, kSl2, oPart, xRev_ap, listOf?, xCallIO_ap, kIO0, kIO, foXi_ok, xApp_ap, kApp0, kApp, isi_ib, isi_ii, isi_is, isi_sb, isi_si, isi_ss, isi_bb, isi_lb, isi_li, isi_ls, isi_lt, isi_ll, isi_tb, isi_ti, isi_ts, isi_tt, isi_tl, isN_n, isN_i, isN_s, isN_b, isN_d, sAug_ap, kAsg0, kAsg, sAugIx_k, kAug0, kAug1, kAug, oAddI_i, oSubI_i, xBor_ap, view, fzS, x2_ap, x1_ap, xN_ap, xC_ap, xVar_ap, xMove_ap, xIf_ap, xAnd_ap, xOr_ap, xDsp_ap,
    aCons_ap, aNil_ap, iRg_ap, iL_ap, xCall_ap, foX_ok, foX_exc, foX_ite, bX_ok, bX_exc, bX_ite, bXS_ok, bXS_exc, bXS_ite, bXA_ok, bXA_exc, bAX_ok, bAX_exc, bAA_ok, bAA_exc, bAS_ok, bAS_exc, bSS_nx, bSS_rt, bSS_bk, bSS_ct, bSS_exc, bSS_ite,
    oX_some, oA_some, oS_some, kIfX_t, kIfX_f, kIfX_d, kIfS_t, kIfS_f, kIfS_d, kIfS_n, borK_int, borK_bl, borK_str, borK_non, borK_exc, borK_ite, gNm_ap, fz, fzL, fzL_map, cl, clL,
    endB_nx, endB_rt, endB_exc, endB_ite, endB_io_rt, endB_io_nx, oAdd_i, oSub_i, oLt_i, oLe_i, oGt_i, oGe_i, oEq_i, oNe_i, oIx_l, oIx_t, ixN_lit, fInt, fAbs, fLen, itemsOf, oNeg, bNot, isS, sh, e2, hL6, p30]) ?_
  refine T_nx (e1 := [some (pz a3 b3 c3), some (.int s), some (.int m), some (.int o), none, none]) (by simp [runB_ap, sSeq_ap, sIf_ap, sAsg_ap, sDrop_ap, sRt_ap, sNx_ap, sBk_ap, sCt_ap, sRtN_ap, sFor_ap, sRaise_ap, sSet_ap, kSet, kSet2, xLc_ap, xInt_ap, kInt, xSl_ap, kSl1, kSl2, oPart, xRev_ap, listOf?, xCallIO_ap, kIO0, kIO, foXi_ok, xApp_ap, kApp0, kApp, isi_ib, isi_ii, isi_is, isi_sb, isi_si, isi_ss, isi_bb, isi_lb, isi_li, isi_ls, isi_lt, isi_ll, isi_tb, isi_ti, isi_ts, isi_tt, isi_tl, isN_n, isN_i, isN_s, isN_b, isN_d, sAug_ap, kAsg0, kAsg, sAugIx_k, kAug0, kAug1, kAug, oAddI_i, oSubI_i, xBor_ap, view, fzS, x2_ap, x1_ap, xN_ap, xC_ap, xVar_ap, xMove_ap, xIf_ap, xAnd_ap, xOr_ap, xDsp_ap,
    aCons_ap, aNil_ap, iRg_ap, iL_ap, xCall_ap, foX_ok, foX_exc, foX_ite, bX_ok, bX_exc, bX_ite, bXS_ok, bXS_exc, bXS_ite, bXA_ok, bXA_exc, bAX_ok, bAX_exc, bAA_ok, bAA_exc, bAS_ok, bAS_exc, bSS_nx, bSS_rt, bSS_bk, bSS_ct, bSS_exc, bSS_ite,
    oX_some, oA_some, oS_some, kIfX_t, kIfX_f, kIfX_d, kIfS_t, kIfS_f, kIfS_d, kIfS_n, borK_int, borK_bl, borK_str, borK_non, borK_exc, borK_ite, gNm_ap, fz, fzL, fzL_map, cl, clL,
    endB_nx, endB_rt, endB_exc, endB_ite, endB_io_rt, endB_io_nx, oAdd_i, oSub_i, oLt_i, oLe_i, oGt_i, oGe_i, oEq_i, oNe_i, oIx_l, oIx_t, ixN_lit, fInt, fAbs, fLen, itemsOf, oNeg, bNot, isS, sh, e3, hL7]) ?_
  refine T_nx (e1 := [some (pz a4 b4 c4), some (.int s), some (.int m), some (.int o), some (.int l), none]) (by simp [runB_ap, sSeq_ap, sIf_ap, sAsg_ap, sDrop_ap, sRt_ap, sNx_ap, sBk_ap, sCt_ap, sRtN_ap, sFor_ap, sRaise_ap, sSet_ap, kSet, kSet2, xLc_ap, xInt_ap, kInt, xSl_ap, kSl1, kSl2, oPart, xRev_ap, listOf?, xCallIO_ap, kIO0, kIO, foXi_ok, xApp_ap, kApp0, kApp, isi_ib, isi_ii, isi_is, isi_sb, isi_si, isi_ss, isi_bb, isi_lb, isi_li, isi_ls, isi_lt, isi_ll, isi_tb, isi_ti, isi_ts, isi_tt, isi_tl, isN_n, isN_i, isN_s, isN_b, isN_d, sAug_ap, kAsg0, kAsg, sAugIx_k, kAug0, kAug1, kAug, oAddI_i, oSubI_i, xBor_ap, view, fzS, x2_ap, x1_ap, xN_ap, xC_ap, xVar_ap, xMove_ap, xIf_ap, xAnd_ap, xOr_ap, xDsp_ap,
    aCons_ap, aNil_ap, iRg_ap, iL_ap, xCall_ap, foX_ok, foX_exc, foX_ite, bX_ok, bX_exc, bX_ite, bXS_ok, bXS_exc, bXS_ite, bXA_ok, bXA_exc, bAX_ok, bAX_exc, bAA_ok, bAA_exc, bAS_ok, bAS_exc, bSS_nx, bSS_rt, bSS_bk, bSS_ct, bSS_exc, bSS_ite,
    oX_some, oA_some, oS_some, kIfX_t, kIfX_f, kIfX_d, kIfS_t, kIfS_f, kIfS_d, kIfS_n, borK_int, borK_bl, borK_str, borK_non, borK_exc, borK_ite, gNm_ap, fz, fzL, fzL_map, cl, clL,
    endB_nx, endB_rt, endB_exc, endB_ite, endB_io_rt, endB_io_nx, oAdd_i, oSub_i, oLt_i, oLe_i, oGt_i, oGe_i, oEq_i, oNe_i, oIx_l, oIx_t, ixN_lit, fInt, fAbs, fLen, itemsOf, oNeg, bNot, isS, sh, e4, hL6, p30]) ?_
  refine T_nx (e1 := [some (pz a4 b4 c4), some (.int s), some (.int m), some (.int o), some (.int l), some (.nd true .tup (dueD (bad? s m o l "free")))]) (by simp [runB_ap, sSeq_ap, sIf_ap, sAsg_ap, sDrop_ap, sRt_ap, sNx_ap, sBk_ap, sCt_ap, sRtN_ap, sFor_ap, sRaise_ap, sSet_ap, kSet, kSet2, xLc_ap, xInt_ap, kInt, xSl_ap, kSl1, kSl2, oPart, xRev_ap, listOf?, xCallIO_ap, kIO0, kIO, foXi_ok, xApp_ap, kApp0, kApp, isi_ib, isi_ii, isi_is, isi_sb, isi_si, isi_ss, isi_bb, isi_lb, isi_li, isi_ls, isi_lt, isi_ll, isi_tb, isi_ti, isi_ts, isi_tt, isi_tl, isN_n, isN_i, isN_s, isN_b, isN_d, sAug_ap, kAsg0, kAsg, sAugIx_k, kAug0, kAug1, kAug, oAddI_i, oSubI_i, xBor_ap, view, fzS, x2_ap, x1_ap, xN_ap, xC_ap, xVar_ap, xMove_ap, xIf_ap, xAnd_ap, xOr_ap, xDsp_ap,
    aCons_ap, aNil_ap, iRg_ap, iL_ap, xCall_ap, foX_ok, foX_exc, foX_ite, bX_ok, bX_exc, bX_ite, bXS_ok, bXS_exc, bXS_ite, bXA_ok, bXA_exc, bAX_ok, bAX_exc, bAA_ok, bAA_exc, bAS_ok, bAS_exc, bSS_nx, bSS_rt, bSS_bk, bSS_ct, bSS_exc, bSS_ite,
    oX_some, oA_some, oS_some, kIfX_t, kIfX_f, kIfX_d, kIfS_t, kIfS_f, kIfS_d, kIfS_n, borK_int, borK_bl, borK_str, borK_non, borK_exc, borK_ite, gNm_ap, fz, fzL, fzL_map, cl, clL,
    endB_nx, endB_rt, endB_exc, endB_ite, endB_io_rt, endB_io_nx, oAdd_i, oSub_i, oLt_i, oLe_i, oGt_i, oGe_i, oEq_i, oNe_i, oIx_l, oIx_t, ixN_lit, fInt, fAbs, fLen, itemsOf, oNeg, bNot, isS, sh, due_ev, due_cl, borK_cl]) ?_
  refine T_nx (e1 := [some (pz a4 b4 c4), some (.int s), some (.int m), some (.int o), some (.int l), some (.nd true .tup (dueD (bad? s m o l "free")))]) (by
    cases hb : bad? s m o l "free" with
    | none =>
      obtain ⟨n, rfl⟩ := nat_of hb
      simp [runB_ap, sSeq_ap, sIf_ap, sAsg_ap, sDrop_ap, sRt_ap, sNx_ap, sBk_ap, sCt_ap, sRtN_ap, sFor_ap, sRaise_ap, sSet_ap, kSet, kSet2, xLc_ap, xInt_ap, kInt, xSl_ap, kSl1, kSl2, oPart, xRev_ap, listOf?, xCallIO_ap, kIO0, kIO, foXi_ok, xApp_ap, kApp0, kApp, isi_ib, isi_ii, isi_is, isi_sb, isi_si, isi_ss, isi_bb, isi_lb, isi_li, isi_ls, isi_lt, isi_ll, isi_tb, isi_ti, isi_ts, isi_tt, isi_tl, isN_n, isN_i, isN_s, isN_b, isN_d, sAug_ap, kAsg0, kAsg, sAugIx_k, kAug0, kAug1, kAug, oAddI_i, oSubI_i, xBor_ap, view, fzS, x2_ap, x1_ap, xN_ap, xC_ap, xVar_ap, xMove_ap, xIf_ap, xAnd_ap, xOr_ap, xDsp_ap,
    aCons_ap, aNil_ap, iRg_ap, iL_ap, xCall_ap, foX_ok, foX_exc, foX_ite, bX_ok, bX_exc, bX_ite, bXS_ok, bXS_exc, bXS_ite, bXA_ok, bXA_exc, bAX_ok, bAX_exc, bAA_ok, bAA_exc, bAS_ok, bAS_exc, bSS_nx, bSS_rt, bSS_bk, bSS_ct, bSS_exc, bSS_ite,
    oX_some, oA_some, oS_some, kIfX_t, kIfX_f, kIfX_d, kIfS_t, kIfS_f, kIfS_d, kIfS_n, borK_int, borK_bl, borK_str, borK_non, borK_exc, borK_ite, gNm_ap, fz, fzL, fzL_map, cl, clL,
    endB_nx, endB_rt, endB_exc, endB_ite, endB_io_rt, endB_io_nx, oAdd_i, oSub_i, oLt_i, oLe_i, oGt_i, oGe_i, oEq_i, oNe_i, oIx_l, oIx_t, ixN_lit, fInt, fAbs, fLen, itemsOf, oNeg, bNot, isS, sh, worth_ev s m n l hb, errO_k, dueD, matches_refl 3 _ none_sel]
    | some p =>
      obtain ⟨q, w⟩ := p
      obtain ⟨h1, h2, h3⟩ := bad_sel (Or.inl rfl) hb
      simp [runB_ap, sSeq_ap, sIf_ap, sAsg_ap, sDrop_ap, sRt_ap, sNx_ap, sBk_ap, sCt_ap, sRtN_ap, sFor_ap, sRaise_ap, sSet_ap, kSet, kSet2, xLc_ap, xInt_ap, kInt, xSl_ap, kSl1, kSl2, oPart, xRev_ap, listOf?, xCallIO_ap, kIO0, kIO, foXi_ok, xApp_ap, kApp0, kApp, isi_ib, isi_ii, isi_is, isi_sb, isi_si, isi_ss, isi_bb, isi_lb, isi_li, isi_ls, isi_lt, isi_ll, isi_tb, isi_ti, isi_ts, isi_tt, isi_tl, isN_n, isN_i, isN_s, isN_b, isN_d, sAug_ap, kAsg0, kAsg, sAugIx_k, kAug0, kAug1, kAug, oAddI_i, oSubI_i, xBor_ap, view, fzS, x2_ap, x1_ap, xN_ap, xC_ap, xVar_ap, xMove_ap, xIf_ap, xAnd_ap, xOr_ap, xDsp_ap,
    aCons_ap, aNil_ap, iRg_ap, iL_ap, xCall_ap, foX_ok, foX_exc, foX_ite, bX_ok, bX_exc, bX_ite, bXS_ok, bXS_exc, bXS_ite, bXA_ok, bXA_exc, bAX_ok, bAX_exc, bAA_ok, bAA_exc, bAS_ok, bAS_exc, bSS_nx, bSS_rt, bSS_bk, bSS_ct, bSS_exc, bSS_ite,
    oX_some, oA_some, oS_some, kIfX_t, kIfX_f, kIfX_d, kIfS_t, kIfS_f, kIfS_d, kIfS_n, borK_int, borK_bl, borK_str, borK_non, borK_exc, borK_ite, gNm_ap, fz, fzL, fzL_map, cl, clL,
    endB_nx, endB_rt, endB_exc, endB_ite, endB_io_rt, endB_io_nx, oAdd_i, oSub_i, oLt_i, oLe_i, oGt_i, oGe_i, oEq_i, oNe_i, oIx_l, oIx_t, ixN_lit, fInt, fAbs, fLen, itemsOf, oNeg, bNot, isS, sh, worth_bad s m o l q w hb, errO_e h2 (word_ev q h1 w) rfl rfl, dueD, matches_refl 3 _ h3]) ?_
  refine T_nx (e1 := [some (pz a4 b4 c4), some (.int s), some (.int m), some (.int o), some (.int l), some (.nd true .tup (dueD (bad? s m o l "xi")))]) (by simp [runB_ap, sSeq_ap, sIf_ap, sAsg_ap, sDrop_ap, sRt_ap, sNx_ap, sBk_ap, sCt_ap, sRtN_ap, sFor_ap, sRaise_ap, sSet_ap, kSet, kSet2, xLc_ap, xInt_ap, kInt, xSl_ap, kSl1, kSl2, oPart, xRev_ap, listOf?, xCallIO_ap, kIO0, kIO, foXi_ok, xApp_ap, kApp0, kApp, isi_ib, isi_ii, isi_is, isi_sb, isi_si, isi_ss, isi_bb, isi_lb, isi_li, isi_ls, isi_lt, isi_ll, isi_tb, isi_ti, isi_ts, isi_tt, isi_tl, isN_n, isN_i, isN_s, isN_b, isN_d, sAug_ap, kAsg0, kAsg, sAugIx_k, kAug0, kAug1, kAug, oAddI_i, oSubI_i, xBor_ap, view, fzS, x2_ap, x1_ap, xN_ap, xC_ap, xVar_ap, xMove_ap, xIf_ap, xAnd_ap, xOr_ap, xDsp_ap,
    aCons_ap, aNil_ap, iRg_ap, iL_ap, xCall_ap, foX_ok, foX_exc, foX_ite, bX_ok, bX_exc, bX_ite, bXS_ok, bXS_exc, bXS_ite, bXA_ok, bXA_exc, bAX_ok, bAX_exc, bAA_ok, bAA_exc, bAS_ok, bAS_exc, bSS_nx, bSS_rt, bSS_bk, bSS_ct, bSS_exc, bSS_ite,
    oX_some, oA_some, oS_some, kIfX_t, kIfX_f, kIfX_d, kIfS_t, kIfS_f, kIfS_d, kIfS_n, borK_int, borK_bl, borK_str, borK_non, borK_exc, borK_ite, gNm_ap, fz, fzL, fzL_map, cl, clL,
    endB_nx, endB_rt, endB_exc, endB_ite, endB_io_rt, endB_io_nx, oAdd_i, oSub_i, oLt_i, oLe_i, oGt_i, oGe_i, oEq_i, oNe_i, oIx_l, oIx_t, ixN_lit, fInt, fAbs, fLen, itemsOf, oNeg, bNot, isS, sh, due_ev, due_cl, borK_cl]) ?_
  refine T_nx (e1 := [some (pz a4 b4 c4), some (.int s), some (.int m), some (.int o), some (.int l), some (.nd true .tup (dueD (bad? s m o l "xi")))]) (by
    cases hb : bad? s m o l "xi" with
    | none =>
      obtain ⟨n, rfl⟩ := nat_of hb
      simp [runB_ap, sSeq_ap, sIf_ap, sAsg_ap, sDrop_ap, sRt_ap, sNx_ap, sBk_ap, sCt_ap, sRtN_ap, sFor_ap, sRaise_ap, sSet_ap, kSet, kSet2, xLc_ap, xInt_ap, kInt, xSl_ap, kSl1, kSl2, oPart, xRev_ap, listOf?, xCallIO_ap, kIO0, kIO, foXi_ok, xApp_ap, kApp0, kApp, isi_ib, isi_ii, isi_is, isi_sb, isi_si, isi_ss, isi_bb, isi_lb, isi_li, isi_ls, isi_lt, isi_ll, isi_tb, isi_ti, isi_ts, isi_tt, isi_tl, isN_n, isN_i, isN_s, isN_b, isN_d, sAug_ap, kAsg0, kAsg, sAugIx_k, kAug0, kAug1, kAug, oAddI_i, oSubI_i, xBor_ap, view, fzS, x2_ap, x1_ap, xN_ap, xC_ap, xVar_ap, xMove_ap, xIf_ap, xAnd_ap, xOr_ap, xDsp_ap,
    aCons_ap, aNil_ap, iRg_ap, iL_ap, xCall_ap, foX_ok, foX_exc, foX_ite, bX_ok, bX_exc, bX_ite, bXS_ok, bXS_exc, bXS_ite, bXA_ok, bXA_exc, bAX_ok, bAX_exc, bAA_ok, bAA_exc, bAS_ok, bAS_exc, bSS_nx, bSS_rt, bSS_bk, bSS_ct, bSS_exc, bSS_ite,
    oX_some, oA_some, oS_some, kIfX_t, kIfX_f, kIfX_d, kIfS_t, kIfS_f, kIfS_d, kIfS_n, borK_int, borK_bl, borK_str, borK_non, borK_exc, borK_ite, gNm_ap, fz, fzL, fzL_map, cl, clL,
    endB_nx, endB_rt, endB_exc, endB_ite, endB_io_rt, endB_io_nx, oAdd_i, oSub_i, oLt_i, oLe_i, oGt_i, oGe_i, oEq_i, oNe_i, oIx_l, oIx_t, ixN_lit, fInt, fAbs, fLen, itemsOf, oNeg, bNot, isS, sh, night_caps_ev s m n l hb, caps_cl, borK_cl, errO_k, dueD, matches_refl 3 _ none_sel]
    | some p =>
      obtain ⟨q, w⟩ := p
      obtain ⟨h1, h2, h3⟩ := bad_sel (Or.inr rfl) hb
      simp [runB_ap, sSeq_ap, sIf_ap, sAsg_ap, sDrop_ap, sRt_ap, sNx_ap, sBk_ap, sCt_ap, sRtN_ap, sFor_ap, sRaise_ap, sSet_ap, kSet, kSet2, xLc_ap, xInt_ap, kInt, xSl_ap, kSl1, kSl2, oPart, xRev_ap, listOf?, xCallIO_ap, kIO0, kIO, foXi_ok, xApp_ap, kApp0, kApp, isi_ib, isi_ii, isi_is, isi_sb, isi_si, isi_ss, isi_bb, isi_lb, isi_li, isi_ls, isi_lt, isi_ll, isi_tb, isi_ti, isi_ts, isi_tt, isi_tl, isN_n, isN_i, isN_s, isN_b, isN_d, sAug_ap, kAsg0, kAsg, sAugIx_k, kAug0, kAug1, kAug, oAddI_i, oSubI_i, xBor_ap, view, fzS, x2_ap, x1_ap, xN_ap, xC_ap, xVar_ap, xMove_ap, xIf_ap, xAnd_ap, xOr_ap, xDsp_ap,
    aCons_ap, aNil_ap, iRg_ap, iL_ap, xCall_ap, foX_ok, foX_exc, foX_ite, bX_ok, bX_exc, bX_ite, bXS_ok, bXS_exc, bXS_ite, bXA_ok, bXA_exc, bAX_ok, bAX_exc, bAA_ok, bAA_exc, bAS_ok, bAS_exc, bSS_nx, bSS_rt, bSS_bk, bSS_ct, bSS_exc, bSS_ite,
    oX_some, oA_some, oS_some, kIfX_t, kIfX_f, kIfX_d, kIfS_t, kIfS_f, kIfS_d, kIfS_n, borK_int, borK_bl, borK_str, borK_non, borK_exc, borK_ite, gNm_ap, fz, fzL, fzL_map, cl, clL,
    endB_nx, endB_rt, endB_exc, endB_ite, endB_io_rt, endB_io_nx, oAdd_i, oSub_i, oLt_i, oLe_i, oGt_i, oGe_i, oEq_i, oNe_i, oIx_l, oIx_t, ixN_lit, fInt, fAbs, fLen, itemsOf, oNeg, bNot, isS, sh, night_caps_bad s m o l q w hb, errO_e h2 (word_ev q h1 w) rfl rfl, dueD, matches_refl 3 _ h3]) ?_
  refine T_nx (e1 := [some (pz a4 b4 c4), some (.int s), some (.int m), some (.int o), some (.int l), some (.nd true .tup (dueD (bad? s 0 o l "xi")))]) (by simp [runB_ap, sSeq_ap, sIf_ap, sAsg_ap, sDrop_ap, sRt_ap, sNx_ap, sBk_ap, sCt_ap, sRtN_ap, sFor_ap, sRaise_ap, sSet_ap, kSet, kSet2, xLc_ap, xInt_ap, kInt, xSl_ap, kSl1, kSl2, oPart, xRev_ap, listOf?, xCallIO_ap, kIO0, kIO, foXi_ok, xApp_ap, kApp0, kApp, isi_ib, isi_ii, isi_is, isi_sb, isi_si, isi_ss, isi_bb, isi_lb, isi_li, isi_ls, isi_lt, isi_ll, isi_tb, isi_ti, isi_ts, isi_tt, isi_tl, isN_n, isN_i, isN_s, isN_b, isN_d, sAug_ap, kAsg0, kAsg, sAugIx_k, kAug0, kAug1, kAug, oAddI_i, oSubI_i, xBor_ap, view, fzS, x2_ap, x1_ap, xN_ap, xC_ap, xVar_ap, xMove_ap, xIf_ap, xAnd_ap, xOr_ap, xDsp_ap,
    aCons_ap, aNil_ap, iRg_ap, iL_ap, xCall_ap, foX_ok, foX_exc, foX_ite, bX_ok, bX_exc, bX_ite, bXS_ok, bXS_exc, bXS_ite, bXA_ok, bXA_exc, bAX_ok, bAX_exc, bAA_ok, bAA_exc, bAS_ok, bAS_exc, bSS_nx, bSS_rt, bSS_bk, bSS_ct, bSS_exc, bSS_ite,
    oX_some, oA_some, oS_some, kIfX_t, kIfX_f, kIfX_d, kIfS_t, kIfS_f, kIfS_d, kIfS_n, borK_int, borK_bl, borK_str, borK_non, borK_exc, borK_ite, gNm_ap, fz, fzL, fzL_map, cl, clL,
    endB_nx, endB_rt, endB_exc, endB_ite, endB_io_rt, endB_io_nx, oAdd_i, oSub_i, oLt_i, oLe_i, oGt_i, oGe_i, oEq_i, oNe_i, oIx_l, oIx_t, ixN_lit, fInt, fAbs, fLen, itemsOf, oNeg, bNot, isS, sh, due_ev, due_cl, borK_cl]) ?_
  refine ⟨a4, b4, c4, [some (.int s), some (.int m), some (.int o), some (.int l), some (.nd true .tup (dueD (bad? s 0 o l "xi")))], ?_⟩
  cases hb : bad? s 0 o l "xi" with
  | none =>
    obtain ⟨n, rfl⟩ := nat_of hb
    simp [runB_ap, sSeq_ap, sIf_ap, sAsg_ap, sDrop_ap, sRt_ap, sNx_ap, sBk_ap, sCt_ap, sRtN_ap, sFor_ap, sRaise_ap, sSet_ap, kSet, kSet2, xLc_ap, xInt_ap, kInt, xSl_ap, kSl1, kSl2, oPart, xRev_ap, listOf?, xCallIO_ap, kIO0, kIO, foXi_ok, xApp_ap, kApp0, kApp, isi_ib, isi_ii, isi_is, isi_sb, isi_si, isi_ss, isi_bb, isi_lb, isi_li, isi_ls, isi_lt, isi_ll, isi_tb, isi_ti, isi_ts, isi_tt, isi_tl, isN_n, isN_i, isN_s, isN_b, isN_d, sAug_ap, kAsg0, kAsg, sAugIx_k, kAug0, kAug1, kAug, oAddI_i, oSubI_i, xBor_ap, view, fzS, x2_ap, x1_ap, xN_ap, xC_ap, xVar_ap, xMove_ap, xIf_ap, xAnd_ap, xOr_ap, xDsp_ap,
    aCons_ap, aNil_ap, iRg_ap, iL_ap, xCall_ap, foX_ok, foX_exc, foX_ite, bX_ok, bX_exc, bX_ite, bXS_ok, bXS_exc, bXS_ite, bXA_ok, bXA_exc, bAX_ok, bAX_exc, bAA_ok, bAA_exc, bAS_ok, bAS_exc, bSS_nx, bSS_rt, bSS_bk, bSS_ct, bSS_exc, bSS_ite,
    oX_some, oA_some, oS_some, kIfX_t, kIfX_f, kIfX_d, kIfS_t, kIfS_f, kIfS_d, kIfS_n, borK_int, borK_bl, borK_str, borK_non, borK_exc, borK_ite, gNm_ap, fz, fzL, fzL_map, cl, clL,
    endB_nx, endB_rt, endB_exc, endB_ite, endB_io_rt, endB_io_nx, oAdd_i, oSub_i, oLt_i, oLe_i, oGt_i, oGe_i, oEq_i, oNe_i, oIx_l, oIx_t, ixN_lit, fInt, fAbs, fLen, itemsOf, oNeg, bNot, isS, sh, need_ev s n l hb, needD, borK_cl, errO_k, dueD, matches_refl 3 _ none_sel]
  | some p =>
    obtain ⟨q, w⟩ := p
    obtain ⟨h1, h2, h3⟩ := bad_sel (Or.inr rfl) hb
    simp [runB_ap, sSeq_ap, sIf_ap, sAsg_ap, sDrop_ap, sRt_ap, sNx_ap, sBk_ap, sCt_ap, sRtN_ap, sFor_ap, sRaise_ap, sSet_ap, kSet, kSet2, xLc_ap, xInt_ap, kInt, xSl_ap, kSl1, kSl2, oPart, xRev_ap, listOf?, xCallIO_ap, kIO0, kIO, foXi_ok, xApp_ap, kApp0, kApp, isi_ib, isi_ii, isi_is, isi_sb, isi_si, isi_ss, isi_bb, isi_lb, isi_li, isi_ls, isi_lt, isi_ll, isi_tb, isi_ti, isi_ts, isi_tt, isi_tl, isN_n, isN_i, isN_s, isN_b, isN_d, sAug_ap, kAsg0, kAsg, sAugIx_k, kAug0, kAug1, kAug, oAddI_i, oSubI_i, xBor_ap, view, fzS, x2_ap, x1_ap, xN_ap, xC_ap, xVar_ap, xMove_ap, xIf_ap, xAnd_ap, xOr_ap, xDsp_ap,
    aCons_ap, aNil_ap, iRg_ap, iL_ap, xCall_ap, foX_ok, foX_exc, foX_ite, bX_ok, bX_exc, bX_ite, bXS_ok, bXS_exc, bXS_ite, bXA_ok, bXA_exc, bAX_ok, bAX_exc, bAA_ok, bAA_exc, bAS_ok, bAS_exc, bSS_nx, bSS_rt, bSS_bk, bSS_ct, bSS_exc, bSS_ite,
    oX_some, oA_some, oS_some, kIfX_t, kIfX_f, kIfX_d, kIfS_t, kIfS_f, kIfS_d, kIfS_n, borK_int, borK_bl, borK_str, borK_non, borK_exc, borK_ite, gNm_ap, fz, fzL, fzL_map, cl, clL,
    endB_nx, endB_rt, endB_exc, endB_ite, endB_io_rt, endB_io_nx, oAdd_i, oSub_i, oLt_i, oLe_i, oGt_i, oGe_i, oEq_i, oNe_i, oIx_l, oIx_t, ixN_lit, fInt, fAbs, fLen, itemsOf, oNeg, bNot, isS, sh, need_bad s o l q w hb, errO_e h2 (word_ev q h1 w) rfl rfl, dueD, matches_refl 3 _ h3]

theorem ints_of : ∀ zs : List Int, ints? (zs.map D.int) = some zs
  | [] => rfl
  | z :: zs => by rw [List.map_cons, ints?, ints_of zs]; rfl
theorem sum_ev (o : Bool) (zs : List Int) : fSumI [.nd o .lst (zs.map D.int)] = some (.int zs.sum) := by
  simp [fSumI, listI?, listOf?, ints_of]
theorem fz_ints (zs : List Int) : (zs.map D.int).map fz = zs.map D.int := by rw [List.map_map]; rfl
theorem cl_ints : ∀ zs : List Int, clL (zs.map D.int) = true
  | [] => rfl
  | z :: zs => by rw [List.map_cons, clL, cl_ints zs]; rfl
theorem cut4 (ns : List Int) : ∃ zs : List Int, MV.cutD (ns.map D.int) none (some 4) = zs.map D.int ∧ zs.length ≤ 4 := by
  refine ⟨ns.take 4, ?_, by rw [List.length_take]; omega⟩
  unfold MV.cutD
  rw [show (4 : Int) = ((4 : Nat) : Int) from rfl, HT.sIx_nat]
  simp [HT.sIx]
theorem purse_it (ns zs : List Int) (at' : Int) (hz : zs.length ≤ 4) (e : MV.Env) (he : e = [some (.scr ns), some (.int at'), none, none, none]) :
    kLc [4] (gNm 4) (xC (.bl true)) (xBor [false, false, false, false, true] (xN fInt (aCons (xVar 4) aNil))) (zs.map D.int) e = .ok (.nd true .lst (zs.map D.int)) (backE e e [4]) := by
  subst he
  have h := kLc_map (vs := [4]) (g := gNm 4) (t := xC (.bl true)) (el := xBor [false, false, false, false, true] (xN fInt (aCons (xVar 4) aNil))) (e1 := [some (.scr ns), some (.int at'), none, none, none]) (fun d => d) (ds := zs.map D.int) (fun d hd => by
    obtain ⟨z, _, rfl⟩ := List.mem_map.mp hd
    refine ⟨[some (.scr ns), some (.int at'), none, none, some (.int z)], _, [some (.scr ns), some (.int at'), none, none, some (.int z)], gNm_ap (by simp [wipeE]), xC_ap, ?_, rfl⟩
    simp [runB_ap, sSeq_ap, sIf_ap, sAsg_ap, sDrop_ap, sRt_ap, sNx_ap, sBk_ap, sCt_ap, sRtN_ap, sFor_ap, sRaise_ap, sSet_ap, kSet, kSet2, xLc_ap, xInt_ap, kInt, xSl_ap, kSl1, kSl2, oPart, xRev_ap, listOf?, xCallIO_ap, kIO0, kIO, foXi_ok, xApp_ap, kApp0, kApp, isi_ib, isi_ii, isi_is, isi_sb, isi_si, isi_ss, isi_bb, isi_lb, isi_li, isi_ls, isi_lt, isi_ll, isi_tb, isi_ti, isi_ts, isi_tt, isi_tl, isN_n, isN_i, isN_s, isN_b, isN_d, sAug_ap, kAsg0, kAsg, sAugIx_k, kAug0, kAug1, kAug, oAddI_i, oSubI_i, xBor_ap, view, fzS, x2_ap, x1_ap, xN_ap, xC_ap, xVar_ap, xMove_ap, xIf_ap, xAnd_ap, xOr_ap, xDsp_ap,
    aCons_ap, aNil_ap, iRg_ap, iL_ap, xCall_ap, foX_ok, foX_exc, foX_ite, bX_ok, bX_exc, bX_ite, bXS_ok, bXS_exc, bXS_ite, bXA_ok, bXA_exc, bAX_ok, bAX_exc, bAA_ok, bAA_exc, bAS_ok, bAS_exc, bSS_nx, bSS_rt, bSS_bk, bSS_ct, bSS_exc, bSS_ite,
    oX_some, oA_some, oS_some, kIfX_t, kIfX_f, kIfX_d, kIfS_t, kIfS_f, kIfS_d, kIfS_n, borK_int, borK_bl, borK_str, borK_non, borK_exc, borK_ite, gNm_ap, fz, fzL, fzL_map, cl, clL,
    endB_nx, endB_rt, endB_exc, endB_ite, endB_io_rt, endB_io_nx, oAdd_i, oSub_i, oLt_i, oLe_i, oGt_i, oGe_i, oEq_i, oNe_i, oIx_l, oIx_t, ixN_lit, fInt, fAbs, fLen, itemsOf, oNeg, bNot, isS, sh]) (by rw [List.length_map]; unfold LIM; omega)
  rw [List.map_id'] at h
  exact h
theorem purse_ev (ns : List Int) (k : Nat) (hk : k ≤ 1000) : ∃ a b c, f__law_purse [.scr ns, .int k] = .ok (pz a b c) .non := by
  have p18 : oPow (.int 10) (.int 18) = some (.int 1000000000000000000) := by rfl
  have hL : 3 ≤ LIM := by decide
  have fin : ∀ z : Int, ∃ a b c, runB 5 false (fun e => bSS (.nx [some (.scr ns), some (.int k), some (.int z), none, none]) (sSeq (sAsg (xBor [false, false, true] (x2 oAdd (x2 oMul (xC (.int 2)) (xN fAbs (aCons (xVar 2) aNil))) (xIf (xBor [false, false, true] (x2 oLt (xVar 2) (xC (.int 0)))) (xC (.int 1)) (xC (.int 0))))) (gNm 3))
    (sRt (xBor [false, true, false, true] (xDsp .lst (aCons (xIf (xBor [false, false, false, true] (x2 oGe (xVar 3) (x2 oPow (xC (.int 10)) (xC (.int 18))))) (xVar 3) (xC (.int 0))) (aCons (x2 oMod (xN fInt (aCons (x2 oAdd (x2 oAdd (xVar 3) (x2 oMul (xVar 1) (xC (.int 104729)))) (xC (.int 12345))) aNil)) (xC (.int 2147483629))) (aCons (xVar 1) aNil)))))))) [.scr ns, .int k] = .ok (pz a b c) .non := fun z => by
    by_cases hz : z < 0
    · by_cases h2 : 1000000000000000000 ≤ 2 * -z + 1
      · exact ⟨2 * -z + 1, (2 * -z + 1 + k * 104729 + 12345) % 2147483629, k, by simp [runB_ap, sSeq_ap, sIf_ap, sAsg_ap, sDrop_ap, sRt_ap, sNx_ap, sBk_ap, sCt_ap, sRtN_ap, sFor_ap, sRaise_ap, sSet_ap, kSet, kSet2, xLc_ap, xInt_ap, kInt, xSl_ap, kSl1, kSl2, oPart, xRev_ap, listOf?, xCallIO_ap, kIO0, kIO, foXi_ok, xApp_ap, kApp0, kApp, isi_ib, isi_ii, isi_is, isi_sb, isi_si, isi_ss, isi_bb, isi_lb, isi_li, isi_ls, isi_lt, isi_ll, isi_tb, isi_ti, isi_ts, isi_tt, isi_tl, isN_n, isN_i, isN_s, isN_b, isN_d, sAug_ap, kAsg0, kAsg, sAugIx_k, kAug0, kAug1, kAug, oAddI_i, oSubI_i, xBor_ap, view, fzS, x2_ap, x1_ap, xN_ap, xC_ap, xVar_ap, xMove_ap, xIf_ap, xAnd_ap, xOr_ap, xDsp_ap,
    aCons_ap, aNil_ap, iRg_ap, iL_ap, xCall_ap, foX_ok, foX_exc, foX_ite, bX_ok, bX_exc, bX_ite, bXS_ok, bXS_exc, bXS_ite, bXA_ok, bXA_exc, bAX_ok, bAX_exc, bAA_ok, bAA_exc, bAS_ok, bAS_exc, bSS_nx, bSS_rt, bSS_bk, bSS_ct, bSS_exc, bSS_ite,
    oX_some, oA_some, oS_some, kIfX_t, kIfX_f, kIfX_d, kIfS_t, kIfS_f, kIfS_d, kIfS_n, borK_int, borK_bl, borK_str, borK_non, borK_exc, borK_ite, gNm_ap, fz, fzL, fzL_map, cl, clL,
    endB_nx, endB_rt, endB_exc, endB_ite, endB_io_rt, endB_io_nx, oAdd_i, oSub_i, oLt_i, oLe_i, oGt_i, oGe_i, oEq_i, oNe_i, oIx_l, oIx_t, ixN_lit, fInt, fAbs, fLen, itemsOf, oNeg, bNot, isS, sh, oMul_i, mulOk_l, mulOk_r, hz, p18, h2, oMod_i, hL, borK_cl]⟩
      · exact ⟨0, (2 * -z + 1 + k * 104729 + 12345) % 2147483629, k, by simp [runB_ap, sSeq_ap, sIf_ap, sAsg_ap, sDrop_ap, sRt_ap, sNx_ap, sBk_ap, sCt_ap, sRtN_ap, sFor_ap, sRaise_ap, sSet_ap, kSet, kSet2, xLc_ap, xInt_ap, kInt, xSl_ap, kSl1, kSl2, oPart, xRev_ap, listOf?, xCallIO_ap, kIO0, kIO, foXi_ok, xApp_ap, kApp0, kApp, isi_ib, isi_ii, isi_is, isi_sb, isi_si, isi_ss, isi_bb, isi_lb, isi_li, isi_ls, isi_lt, isi_ll, isi_tb, isi_ti, isi_ts, isi_tt, isi_tl, isN_n, isN_i, isN_s, isN_b, isN_d, sAug_ap, kAsg0, kAsg, sAugIx_k, kAug0, kAug1, kAug, oAddI_i, oSubI_i, xBor_ap, view, fzS, x2_ap, x1_ap, xN_ap, xC_ap, xVar_ap, xMove_ap, xIf_ap, xAnd_ap, xOr_ap, xDsp_ap,
    aCons_ap, aNil_ap, iRg_ap, iL_ap, xCall_ap, foX_ok, foX_exc, foX_ite, bX_ok, bX_exc, bX_ite, bXS_ok, bXS_exc, bXS_ite, bXA_ok, bXA_exc, bAX_ok, bAX_exc, bAA_ok, bAA_exc, bAS_ok, bAS_exc, bSS_nx, bSS_rt, bSS_bk, bSS_ct, bSS_exc, bSS_ite,
    oX_some, oA_some, oS_some, kIfX_t, kIfX_f, kIfX_d, kIfS_t, kIfS_f, kIfS_d, kIfS_n, borK_int, borK_bl, borK_str, borK_non, borK_exc, borK_ite, gNm_ap, fz, fzL, fzL_map, cl, clL,
    endB_nx, endB_rt, endB_exc, endB_ite, endB_io_rt, endB_io_nx, oAdd_i, oSub_i, oLt_i, oLe_i, oGt_i, oGe_i, oEq_i, oNe_i, oIx_l, oIx_t, ixN_lit, fInt, fAbs, fLen, itemsOf, oNeg, bNot, isS, sh, oMul_i, mulOk_l, mulOk_r, hz, p18, h2, oMod_i, hL, borK_cl]⟩
    · by_cases h2 : 1000000000000000000 ≤ 2 * z
      · exact ⟨2 * z, (2 * z + k * 104729 + 12345) % 2147483629, k, by simp [runB_ap, sSeq_ap, sIf_ap, sAsg_ap, sDrop_ap, sRt_ap, sNx_ap, sBk_ap, sCt_ap, sRtN_ap, sFor_ap, sRaise_ap, sSet_ap, kSet, kSet2, xLc_ap, xInt_ap, kInt, xSl_ap, kSl1, kSl2, oPart, xRev_ap, listOf?, xCallIO_ap, kIO0, kIO, foXi_ok, xApp_ap, kApp0, kApp, isi_ib, isi_ii, isi_is, isi_sb, isi_si, isi_ss, isi_bb, isi_lb, isi_li, isi_ls, isi_lt, isi_ll, isi_tb, isi_ti, isi_ts, isi_tt, isi_tl, isN_n, isN_i, isN_s, isN_b, isN_d, sAug_ap, kAsg0, kAsg, sAugIx_k, kAug0, kAug1, kAug, oAddI_i, oSubI_i, xBor_ap, view, fzS, x2_ap, x1_ap, xN_ap, xC_ap, xVar_ap, xMove_ap, xIf_ap, xAnd_ap, xOr_ap, xDsp_ap,
    aCons_ap, aNil_ap, iRg_ap, iL_ap, xCall_ap, foX_ok, foX_exc, foX_ite, bX_ok, bX_exc, bX_ite, bXS_ok, bXS_exc, bXS_ite, bXA_ok, bXA_exc, bAX_ok, bAX_exc, bAA_ok, bAA_exc, bAS_ok, bAS_exc, bSS_nx, bSS_rt, bSS_bk, bSS_ct, bSS_exc, bSS_ite,
    oX_some, oA_some, oS_some, kIfX_t, kIfX_f, kIfX_d, kIfS_t, kIfS_f, kIfS_d, kIfS_n, borK_int, borK_bl, borK_str, borK_non, borK_exc, borK_ite, gNm_ap, fz, fzL, fzL_map, cl, clL,
    endB_nx, endB_rt, endB_exc, endB_ite, endB_io_rt, endB_io_nx, oAdd_i, oSub_i, oLt_i, oLe_i, oGt_i, oGe_i, oEq_i, oNe_i, oIx_l, oIx_t, ixN_lit, fInt, fAbs, fLen, itemsOf, oNeg, bNot, isS, sh, oMul_i, mulOk_l, mulOk_r, hz, p18, h2, oMod_i, hL, borK_cl]⟩
      · exact ⟨0, (2 * z + k * 104729 + 12345) % 2147483629, k, by simp [runB_ap, sSeq_ap, sIf_ap, sAsg_ap, sDrop_ap, sRt_ap, sNx_ap, sBk_ap, sCt_ap, sRtN_ap, sFor_ap, sRaise_ap, sSet_ap, kSet, kSet2, xLc_ap, xInt_ap, kInt, xSl_ap, kSl1, kSl2, oPart, xRev_ap, listOf?, xCallIO_ap, kIO0, kIO, foXi_ok, xApp_ap, kApp0, kApp, isi_ib, isi_ii, isi_is, isi_sb, isi_si, isi_ss, isi_bb, isi_lb, isi_li, isi_ls, isi_lt, isi_ll, isi_tb, isi_ti, isi_ts, isi_tt, isi_tl, isN_n, isN_i, isN_s, isN_b, isN_d, sAug_ap, kAsg0, kAsg, sAugIx_k, kAug0, kAug1, kAug, oAddI_i, oSubI_i, xBor_ap, view, fzS, x2_ap, x1_ap, xN_ap, xC_ap, xVar_ap, xMove_ap, xIf_ap, xAnd_ap, xOr_ap, xDsp_ap,
    aCons_ap, aNil_ap, iRg_ap, iL_ap, xCall_ap, foX_ok, foX_exc, foX_ite, bX_ok, bX_exc, bX_ite, bXS_ok, bXS_exc, bXS_ite, bXA_ok, bXA_exc, bAX_ok, bAX_exc, bAA_ok, bAA_exc, bAS_ok, bAS_exc, bSS_nx, bSS_rt, bSS_bk, bSS_ct, bSS_exc, bSS_ite,
    oX_some, oA_some, oS_some, kIfX_t, kIfX_f, kIfX_d, kIfS_t, kIfS_f, kIfS_d, kIfS_n, borK_int, borK_bl, borK_str, borK_non, borK_exc, borK_ite, gNm_ap, fz, fzL, fzL_map, cl, clL,
    endB_nx, endB_rt, endB_exc, endB_ite, endB_io_rt, endB_io_nx, oAdd_i, oSub_i, oLt_i, oLe_i, oGt_i, oGe_i, oEq_i, oNe_i, oIx_l, oIx_t, ixN_lit, fInt, fAbs, fLen, itemsOf, oNeg, bNot, isS, sh, oMul_i, mulOk_l, mulOk_r, hz, p18, h2, oMod_i, hL, borK_cl]⟩
  obtain ⟨zs, hz1, hz2⟩ := cut4 ns
  have fst : ∃ z : Int, (sAsg (xBor [true, true, false, false, true] (xIf (xBor [true, true] (x2 oLt (xVar 1) (xN fLen (aCons (xVar 0) aNil)))) (xN fInt (aCons (x2 oIx (xVar 0) (xVar 1)) aNil)) (x2 oMul (xC (.int 31)) (xN fSumI (aCons (xLc [4] (iL (xBor [true] (xSl (xVar 0) (xC .non) (xInt (xC (.int 4)))))) (gNm 4) (xC (.bl true)) (xBor [false, false, false, false, true] (xN fInt (aCons (xVar 4) aNil)))) aNil))))) (gNm 2)) [some (.scr ns), some (.int k), none, none, none] = .nx [some (.scr ns), some (.int k), some (.int z), none, none] := by
    by_cases hk : k < ns.length
    · have hi : oIx (.scr ns) (.int k) = some (.int ns[k]) := by
        show atI (ns.map D.int) k = _
        rw [atI_nn (by omega), Int.toNat_natCast, List.getElem?_map, List.getElem?_eq_getElem hk]; rfl
      refine ⟨ns[k], ?_⟩
      simp [runB_ap, sSeq_ap, sIf_ap, sAsg_ap, sDrop_ap, sRt_ap, sNx_ap, sBk_ap, sCt_ap, sRtN_ap, sFor_ap, sRaise_ap, sSet_ap, kSet, kSet2, xLc_ap, xInt_ap, kInt, xSl_ap, kSl1, kSl2, oPart, xRev_ap, listOf?, xCallIO_ap, kIO0, kIO, foXi_ok, xApp_ap, kApp0, kApp, isi_ib, isi_ii, isi_is, isi_sb, isi_si, isi_ss, isi_bb, isi_lb, isi_li, isi_ls, isi_lt, isi_ll, isi_tb, isi_ti, isi_ts, isi_tt, isi_tl, isN_n, isN_i, isN_s, isN_b, isN_d, sAug_ap, kAsg0, kAsg, sAugIx_k, kAug0, kAug1, kAug, oAddI_i, oSubI_i, xBor_ap, view, fzS, x2_ap, x1_ap, xN_ap, xC_ap, xVar_ap, xMove_ap, xIf_ap, xAnd_ap, xOr_ap, xDsp_ap,
    aCons_ap, aNil_ap, iRg_ap, iL_ap, xCall_ap, foX_ok, foX_exc, foX_ite, bX_ok, bX_exc, bX_ite, bXS_ok, bXS_exc, bXS_ite, bXA_ok, bXA_exc, bAX_ok, bAX_exc, bAA_ok, bAA_exc, bAS_ok, bAS_exc, bSS_nx, bSS_rt, bSS_bk, bSS_ct, bSS_exc, bSS_ite,
    oX_some, oA_some, oS_some, kIfX_t, kIfX_f, kIfX_d, kIfS_t, kIfS_f, kIfS_d, kIfS_n, borK_int, borK_bl, borK_str, borK_non, borK_exc, borK_ite, gNm_ap, fz, fzL, fzL_map, cl, clL,
    endB_nx, endB_rt, endB_exc, endB_ite, endB_io_rt, endB_io_nx, oAdd_i, oSub_i, oLt_i, oLe_i, oGt_i, oGe_i, oEq_i, oNe_i, oIx_l, oIx_t, ixN_lit, fInt, fAbs, fLen, itemsOf, oNeg, bNot, isS, sh, hk, hi]
    · refine ⟨31 * zs.sum, ?_⟩
      have hit := purse_it ns zs k hz2 [some (.scr ns), some (.int k), none, none, none] rfl
      simp [runB_ap, sSeq_ap, sIf_ap, sAsg_ap, sDrop_ap, sRt_ap, sNx_ap, sBk_ap, sCt_ap, sRtN_ap, sFor_ap, sRaise_ap, sSet_ap, kSet, kSet2, xLc_ap, xInt_ap, kInt, xSl_ap, kSl1, kSl2, oPart, xRev_ap, listOf?, xCallIO_ap, kIO0, kIO, foXi_ok, xApp_ap, kApp0, kApp, isi_ib, isi_ii, isi_is, isi_sb, isi_si, isi_ss, isi_bb, isi_lb, isi_li, isi_ls, isi_lt, isi_ll, isi_tb, isi_ti, isi_ts, isi_tt, isi_tl, isN_n, isN_i, isN_s, isN_b, isN_d, sAug_ap, kAsg0, kAsg, sAugIx_k, kAug0, kAug1, kAug, oAddI_i, oSubI_i, xBor_ap, view, fzS, x2_ap, x1_ap, xN_ap, xC_ap, xVar_ap, xMove_ap, xIf_ap, xAnd_ap, xOr_ap, xDsp_ap,
    aCons_ap, aNil_ap, iRg_ap, iL_ap, xCall_ap, foX_ok, foX_exc, foX_ite, bX_ok, bX_exc, bX_ite, bXS_ok, bXS_exc, bXS_ite, bXA_ok, bXA_exc, bAX_ok, bAX_exc, bAA_ok, bAA_exc, bAS_ok, bAS_exc, bSS_nx, bSS_rt, bSS_bk, bSS_ct, bSS_exc, bSS_ite,
    oX_some, oA_some, oS_some, kIfX_t, kIfX_f, kIfX_d, kIfS_t, kIfS_f, kIfS_d, kIfS_n, borK_int, borK_bl, borK_str, borK_non, borK_exc, borK_ite, gNm_ap, fz, fzL, fzL_map, cl, clL,
    endB_nx, endB_rt, endB_exc, endB_ite, endB_io_rt, endB_io_nx, oAdd_i, oSub_i, oLt_i, oLe_i, oGt_i, oGe_i, oEq_i, oNe_i, oIx_l, oIx_t, ixN_lit, fInt, fAbs, fLen, itemsOf, oNeg, bNot, isS, sh, hk, hz1, show (fz ∘ D.int) = D.int from rfl, cl_ints, OL, borK_cl, hit, backE, keep, sum_ev, oMul_i, mulOk_l]
  obtain ⟨z, hz⟩ := fst
  obtain ⟨a, b, c, h⟩ := fin z
  refine ⟨a, b, c, ?_⟩
  rw [← h]
  unfold f__law_purse b__law_purse
  rw [runB_ap, runB_ap]
  congr 1
  rw [sSeq_ap]
  exact congrArg (fun x => bSS x _) hz
def Tru0 (g : SG) (e : MV.Env) : Prop := ∃ rest, g e = .rt (.bl true) rest
theorem T0_nx {f g : SG} {e e1 : MV.Env} (h : f e = .nx e1) (k : Tru0 g e1) : Tru0 (sSeq f g) e := by
  obtain ⟨r, h3⟩ := k
  exact ⟨r, by rw [sSeq_ap, h]; exact h3⟩
theorem loop_ev (ns : List Int) (φ : DF) (hφ : ∀ a b c, ∃ a' b' c', φ [pz a b c] = .ok (.bl true) (pz a' b' c')) (m : Nat) (hm : m ≤ 1000) (a b c : Int) (x : Option D) : ∃ a' b' c' x',
    sFor (iRg rg1 (aCons (xC (.int m)) aNil)) (gNm 2) (sIf (x1 bNot (xCallIO 1 1 φ aNil)) (sRt (xC (.bl false))) sNx) [some (.scr ns), some (pz a b c), x] = .nx [some (.scr ns), some (pz a' b' c'), x'] := by
  obtain ⟨e', h1, a', b', c', x', rfl⟩ := runFor_rg (g := gNm 2) (b := sIf (x1 bNot (xCallIO 1 1 φ aNil)) (sRt (xC (.bl false))) sNx) (lo := 0) (c := 1)
    (fun k e => ∃ a b c x, e = [some (.scr ns), some (pz a b c), x]) m [some (.scr ns), some (pz a b c), x] ⟨a, b, c, x, rfl⟩ (fun k e hk ⟨a, b, c, x, he⟩ => by
      subst he
      obtain ⟨a', b', c', h⟩ := hφ a b c
      refine ⟨_, _, gNm_ap (by simp), Or.inl ?_, ⟨a', b', c', some (.int k), rfl⟩⟩
      simp [runB_ap, sSeq_ap, sIf_ap, sAsg_ap, sDrop_ap, sRt_ap, sNx_ap, sBk_ap, sCt_ap, sRtN_ap, sFor_ap, sRaise_ap, sSet_ap, kSet, kSet2, xLc_ap, xInt_ap, kInt, xSl_ap, kSl1, kSl2, oPart, xRev_ap, listOf?, xCallIO_ap, kIO0, kIO, foXi_ok, xApp_ap, kApp0, kApp, isi_ib, isi_ii, isi_is, isi_sb, isi_si, isi_ss, isi_bb, isi_lb, isi_li, isi_ls, isi_lt, isi_ll, isi_tb, isi_ti, isi_ts, isi_tt, isi_tl, isN_n, isN_i, isN_s, isN_b, isN_d, sAug_ap, kAsg0, kAsg, sAugIx_k, kAug0, kAug1, kAug, oAddI_i, oSubI_i, xBor_ap, view, fzS, x2_ap, x1_ap, xN_ap, xC_ap, xVar_ap, xMove_ap, xIf_ap, xAnd_ap, xOr_ap, xDsp_ap,
    aCons_ap, aNil_ap, iRg_ap, iL_ap, xCall_ap, foX_ok, foX_exc, foX_ite, bX_ok, bX_exc, bX_ite, bXS_ok, bXS_exc, bXS_ite, bXA_ok, bXA_exc, bAX_ok, bAX_exc, bAA_ok, bAA_exc, bAS_ok, bAS_exc, bSS_nx, bSS_rt, bSS_bk, bSS_ct, bSS_exc, bSS_ite,
    oX_some, oA_some, oS_some, kIfX_t, kIfX_f, kIfX_d, kIfS_t, kIfS_f, kIfS_d, kIfS_n, borK_int, borK_bl, borK_str, borK_non, borK_exc, borK_ite, gNm_ap, fz, fzL, fzL_map, cl, clL,
    endB_nx, endB_rt, endB_exc, endB_ite, endB_io_rt, endB_io_nx, oAdd_i, oSub_i, oLt_i, oLe_i, oGt_i, oGe_i, oEq_i, oNe_i, oIx_l, oIx_t, ixN_lit, fInt, fAbs, fLen, itemsOf, oNeg, bNot, isS, sh, h])
  have hs : small62 (m : Int) = true := by unfold small62; simp; omega
  refine ⟨a', b', c', x', ?_⟩
  simp [runB_ap, sSeq_ap, sIf_ap, sAsg_ap, sDrop_ap, sRt_ap, sNx_ap, sBk_ap, sCt_ap, sRtN_ap, sFor_ap, sRaise_ap, sSet_ap, kSet, kSet2, xLc_ap, xInt_ap, kInt, xSl_ap, kSl1, kSl2, oPart, xRev_ap, listOf?, xCallIO_ap, kIO0, kIO, foXi_ok, xApp_ap, kApp0, kApp, isi_ib, isi_ii, isi_is, isi_sb, isi_si, isi_ss, isi_bb, isi_lb, isi_li, isi_ls, isi_lt, isi_ll, isi_tb, isi_ti, isi_ts, isi_tt, isi_tl, isN_n, isN_i, isN_s, isN_b, isN_d, sAug_ap, kAsg0, kAsg, sAugIx_k, kAug0, kAug1, kAug, oAddI_i, oSubI_i, xBor_ap, view, fzS, x2_ap, x1_ap, xN_ap, xC_ap, xVar_ap, xMove_ap, xIf_ap, xAnd_ap, xOr_ap, xDsp_ap,
    aCons_ap, aNil_ap, iRg_ap, iL_ap, xCall_ap, foX_ok, foX_exc, foX_ite, bX_ok, bX_exc, bX_ite, bXS_ok, bXS_exc, bXS_ite, bXA_ok, bXA_exc, bAX_ok, bAX_exc, bAA_ok, bAA_exc, bAS_ok, bAS_exc, bSS_nx, bSS_rt, bSS_bk, bSS_ct, bSS_exc, bSS_ite,
    oX_some, oA_some, oS_some, kIfX_t, kIfX_f, kIfX_d, kIfS_t, kIfS_f, kIfS_d, kIfS_n, borK_int, borK_bl, borK_str, borK_non, borK_exc, borK_ite, gNm_ap, fz, fzL, fzL_map, cl, clL,
    endB_nx, endB_rt, endB_exc, endB_ite, endB_io_rt, endB_io_nx, oAdd_i, oSub_i, oLt_i, oLe_i, oGt_i, oGe_i, oEq_i, oNe_i, oIx_l, oIx_t, ixN_lit, fInt, fAbs, fLen, itemsOf, oNeg, bNot, isS, sh, rg1_i, hs, h1]
theorem plain_holds' : ∀ ns : List Int, ns.length ≤ 63 → ∃ s, f_law [.scr ns] = .ok (.bl true) s := by
  intro ns _
  obtain ⟨a, b, c, h1⟩ := purse_ev ns 0 (by decide)
  obtain ⟨a', b', c', h2⟩ := purse_ev ns 1 (by decide)
  obtain ⟨a2, b2, c2, x2, l1⟩ := loop_ev ns f__law_numbers_right numbers_right_ev 12 (by decide) a b c none
  obtain ⟨a4, b4, c4, x4, l2⟩ := loop_ev ns f__law_wrong_right wrong_right_ev 16 (by decide) a' b' c' x2
  have h1' : f__law_purse [.scr ns, .int 0] = .ok (pz a b c) .non := h1
  have h2' : f__law_purse [.scr ns, .int 1] = .ok (pz a' b' c') .non := h2
  have key : Tru0 b_law [some (.scr ns), none, none] := by
    unfold b_law
    refine T0_nx (e1 := [some (.scr ns), some (pz a b c), none]) (by simp [runB_ap, sSeq_ap, sIf_ap, sAsg_ap, sDrop_ap, sRt_ap, sNx_ap, sBk_ap, sCt_ap, sRtN_ap, sFor_ap, sRaise_ap, sSet_ap, kSet, kSet2, xLc_ap, xInt_ap, kInt, xSl_ap, kSl1, kSl2, oPart, xRev_ap, listOf?, xCallIO_ap, kIO0, kIO, foXi_ok, xApp_ap, kApp0, kApp, isi_ib, isi_ii, isi_is, isi_sb, isi_si, isi_ss, isi_bb, isi_lb, isi_li, isi_ls, isi_lt, isi_ll, isi_tb, isi_ti, isi_ts, isi_tt, isi_tl, isN_n, isN_i, isN_s, isN_b, isN_d, sAug_ap, kAsg0, kAsg, sAugIx_k, kAug0, kAug1, kAug, oAddI_i, oSubI_i, xBor_ap, view, fzS, x2_ap, x1_ap, xN_ap, xC_ap, xVar_ap, xMove_ap, xIf_ap, xAnd_ap, xOr_ap, xDsp_ap,
    aCons_ap, aNil_ap, iRg_ap, iL_ap, xCall_ap, foX_ok, foX_exc, foX_ite, bX_ok, bX_exc, bX_ite, bXS_ok, bXS_exc, bXS_ite, bXA_ok, bXA_exc, bAX_ok, bAX_exc, bAA_ok, bAA_exc, bAS_ok, bAS_exc, bSS_nx, bSS_rt, bSS_bk, bSS_ct, bSS_exc, bSS_ite,
    oX_some, oA_some, oS_some, kIfX_t, kIfX_f, kIfX_d, kIfS_t, kIfS_f, kIfS_d, kIfS_n, borK_int, borK_bl, borK_str, borK_non, borK_exc, borK_ite, gNm_ap, fz, fzL, fzL_map, cl, clL,
    endB_nx, endB_rt, endB_exc, endB_ite, endB_io_rt, endB_io_nx, oAdd_i, oSub_i, oLt_i, oLe_i, oGt_i, oGe_i, oEq_i, oNe_i, oIx_l, oIx_t, ixN_lit, fInt, fAbs, fLen, itemsOf, oNeg, bNot, isS, sh, h1', borK_cl]) ?_
    refine T0_nx l1 ?_
    refine T0_nx (e1 := [some (.scr ns), some (pz a' b' c'), x2]) (by simp [runB_ap, sSeq_ap, sIf_ap, sAsg_ap, sDrop_ap, sRt_ap, sNx_ap, sBk_ap, sCt_ap, sRtN_ap, sFor_ap, sRaise_ap, sSet_ap, kSet, kSet2, xLc_ap, xInt_ap, kInt, xSl_ap, kSl1, kSl2, oPart, xRev_ap, listOf?, xCallIO_ap, kIO0, kIO, foXi_ok, xApp_ap, kApp0, kApp, isi_ib, isi_ii, isi_is, isi_sb, isi_si, isi_ss, isi_bb, isi_lb, isi_li, isi_ls, isi_lt, isi_ll, isi_tb, isi_ti, isi_ts, isi_tt, isi_tl, isN_n, isN_i, isN_s, isN_b, isN_d, sAug_ap, kAsg0, kAsg, sAugIx_k, kAug0, kAug1, kAug, oAddI_i, oSubI_i, xBor_ap, view, fzS, x2_ap, x1_ap, xN_ap, xC_ap, xVar_ap, xMove_ap, xIf_ap, xAnd_ap, xOr_ap, xDsp_ap,
    aCons_ap, aNil_ap, iRg_ap, iL_ap, xCall_ap, foX_ok, foX_exc, foX_ite, bX_ok, bX_exc, bX_ite, bXS_ok, bXS_exc, bXS_ite, bXA_ok, bXA_exc, bAX_ok, bAX_exc, bAA_ok, bAA_exc, bAS_ok, bAS_exc, bSS_nx, bSS_rt, bSS_bk, bSS_ct, bSS_exc, bSS_ite,
    oX_some, oA_some, oS_some, kIfX_t, kIfX_f, kIfX_d, kIfS_t, kIfS_f, kIfS_d, kIfS_n, borK_int, borK_bl, borK_str, borK_non, borK_exc, borK_ite, gNm_ap, fz, fzL, fzL_map, cl, clL,
    endB_nx, endB_rt, endB_exc, endB_ite, endB_io_rt, endB_io_nx, oAdd_i, oSub_i, oLt_i, oLe_i, oGt_i, oGe_i, oEq_i, oNe_i, oIx_l, oIx_t, ixN_lit, fInt, fAbs, fLen, itemsOf, oNeg, bNot, isS, sh, h2', borK_cl]) ?_
    refine T0_nx l2 ?_
    exact ⟨_, rfl⟩
  obtain ⟨r, hr⟩ := key
  refine ⟨.non, ?_⟩
  unfold f_law
  rw [runB_ap]
  show endB false (b_law [some (.scr ns), none, none]) = _
  rw [hr]
  rfl

/-- a def of the text, where it stands -/
structure Df (K : PySem.W.Frag) (mg : Str → Option Value) (x : Str) (st : Stmt) (ps : List Str) where
  a : Addr
  fd : FuncData
  F : Fun K x x st a fd
  gm : mg x = some (.ref a)
  B : Binds K fd ps []
/-- a def that makes lambdas: its code object, the table of that -/
structure Lx (K : PySem.W.Frag) (mg : Str → Option Value) (base : Heap) (T : List (Addr × Str)) (x : Str) (st : Stmt) (a : Addr) (fd : FuncData) where
  cc : Addr
  tb : Addr
  FC : FunC K x x st a fd cc
  TB : LamX.TabB base mg cc tb
  inT : (tb, x ++ ".<locals>." ++ ("<lambda>" : Str)) ∈ T
  one : ∀ p ∈ T, p.1 = tb → p.2 = x ++ ".<locals>." ++ ("<lambda>" : Str)
/-- what the top has written -/
structure Tx (K : PySem.W.Frag) (mg : Str → Option Value) (base : Heap) (C : Cs) where
  d__law_purse : Df K mg "_law_purse" s__law_purse ["script", "at"]
  d__law_sums : Df K mg "_law_sums" s__law_sums ["stacks", "orders"]
  d__law_draw : Df K mg "_law_draw" s__law_draw ["purse", "many"]
  d__law_size : Df K mg "_law_size" s__law_size ["purse", "most"]
  d_check_most : Df K mg "check_most" s_check_most ["what", "number", "most"]
  d_check_bounds : Df K mg "check_bounds" s_check_bounds ["stacks", "m", "orders", "number"]
  d_check_days : Df K mg "check_days" s_check_days ["m", "orders", "what", "number"]
  d_check_numbers : Df K mg "check_numbers" s_check_numbers ["stacks", "m", "orders", "what", "number"]
  d_powers : Df K mg "powers" s_powers ["others", "many"]
  d_nights_worth : Df K mg "nights_worth" s_nights_worth ["stacks", "m", "orders", "free"]
  d__law_matches : Df K mg "_law_matches" s__law_matches ["answer", "due"]
  d_night_need : Df K mg "night_need" s_night_need ["stacks", "orders", "xi"]
  d_caps_of : Df K mg "caps_of" s_caps_of ["stacks", "m", "orders", "xi"]
  d_night_caps : Df K mg "night_caps" s_night_caps ["stacks", "m", "orders", "xi"]
  d__law_numbers_right : Df K mg "_law_numbers_right" s__law_numbers_right ["purse"]
  d__law_pick : Df K mg "_law_pick" s__law_pick ["purse", "things"]
  d__law_due : Df K mg "_law_due" s__law_due ["stacks", "m", "orders", "what", "last"]
  d__law_error_word : Df K mg "_law_error_word" s__law_error_word ["e"]
  d__law_wrong_right : Df K mg "_law_wrong_right" s__law_wrong_right ["purse"]
  d_law : Df K mg "law" s_law ["script"]
  d__law_error : Df K mg "_law_error" s__law_error ["deed"]
  z_abs : mg "abs" = none
  z_bool : mg "bool" = none
  z_int : mg "int" = none
  z_isinstance : mg "isinstance" = none
  z_len : mg "len" = none
  z_list : mg "list" = none
  z_min : mg "min" = none
  z_range : mg "range" = none
  z_str : mg "str" = none
  z_sum : mg "sum" = none
  z_tuple : mg "tuple" = none
  t_DAYS : Tok
  k_DAYS : mg "DAYS" = some (.int k_DAYS t_DAYS)
  t_FREE : Tok
  k_FREE : mg "FREE" = some (.int k_FREE t_FREE)
  t_NIGHT_MOVES : Tok
  k_NIGHT_MOVES : mg "NIGHT_MOVES" = some (.int k_NIGHT_MOVES t_NIGHT_MOVES)
  t_STACKS : Tok
  k_STACKS : mg "STACKS" = some (.int k_STACKS t_STACKS)
  M_MovesError : Addr
  b_MovesError : BaseT K mg "MovesError" M_MovesError
  x_TooMany : ExcT K mg "TooMany" "TooMany.__init__" si_TooMany ["self", "what"] ["what"] (C.C 0)
  x_BadRoom : ExcT K mg "BadRoom" "BadRoom.__init__" si_BadRoom ["self", "what"] ["what"] (C.C 1)
  x_BadCourse : ExcT K mg "BadCourse" "BadCourse.__init__" si_BadCourse ["self", "what"] ["what"] (C.C 2)
  x_BadNumbers : ExcT K mg "BadNumbers" "BadNumbers.__init__" si_BadNumbers ["self", "what"] ["what"] (C.C 3)
  i_0_BadCourse : PySem.W.kitOne K (.ref (C.C 0)) (.ref (C.C 2)) = some false
  i_1_BadCourse : PySem.W.kitOne K (.ref (C.C 1)) (.ref (C.C 2)) = some false
  i_2_BadCourse : PySem.W.kitOne K (.ref (C.C 2)) (.ref (C.C 2)) = some true
  i_3_BadCourse : PySem.W.kitOne K (.ref (C.C 3)) (.ref (C.C 2)) = some false
  i_0_BadNumbers : PySem.W.kitOne K (.ref (C.C 0)) (.ref (C.C 3)) = some false
  i_1_BadNumbers : PySem.W.kitOne K (.ref (C.C 1)) (.ref (C.C 3)) = some false
  i_2_BadNumbers : PySem.W.kitOne K (.ref (C.C 2)) (.ref (C.C 3)) = some false
  i_3_BadNumbers : PySem.W.kitOne K (.ref (C.C 3)) (.ref (C.C 3)) = some true
  i_0_BadRoom : PySem.W.kitOne K (.ref (C.C 0)) (.ref (C.C 1)) = some false
  i_1_BadRoom : PySem.W.kitOne K (.ref (C.C 1)) (.ref (C.C 1)) = some true
  i_2_BadRoom : PySem.W.kitOne K (.ref (C.C 2)) (.ref (C.C 1)) = some false
  i_3_BadRoom : PySem.W.kitOne K (.ref (C.C 3)) (.ref (C.C 1)) = some false
  i_0_TooMany : PySem.W.kitOne K (.ref (C.C 0)) (.ref (C.C 0)) = some true
  i_1_TooMany : PySem.W.kitOne K (.ref (C.C 1)) (.ref (C.C 0)) = some false
  i_2_TooMany : PySem.W.kitOne K (.ref (C.C 2)) (.ref (C.C 0)) = some false
  i_3_TooMany : PySem.W.kitOne K (.ref (C.C 3)) (.ref (C.C 0)) = some false
  m_0 : PySem.W.exmOne K (.ref (C.C 0)) (.ref M_MovesError) = some true
  m_1 : PySem.W.exmOne K (.ref (C.C 1)) (.ref M_MovesError) = some true
  m_2 : PySem.W.exmOne K (.ref (C.C 2)) (.ref M_MovesError) = some true
  m_3 : PySem.W.exmOne K (.ref (C.C 3)) (.ref M_MovesError) = some true
  l__law_wrong_right : Lx K mg base C.T "_law_wrong_right" s__law_wrong_right d__law_wrong_right.a d__law_wrong_right.fd
section
variable {P : Program} {w : World} {K : PySem.W.Frag} {mg : Str → Option Value} {base : Heap} {C : Cs} (X0 : Tx K mg base C)
include X0 in
theorem mk_TooMany : Mk P w K mg base 1 "TooMany" (C.C 0) ["what"] :=
  X0.x_TooMany.made sci_TooMany "an argument passes a bound of the package" rfl (by decide) (by decide) fun g cdv A outer s H E =>
    pss_cons (ps_expr (pe_minit X0.b_MovesError.ve rfl X0.b_MovesError.gm (pa_cons (pe_var (i := 0) rfl (Or.inl rfl)) (pa_cons pe_str pa_nil)) (by decide) rfl rfl rfl)) (pss_cons (ps_ost (pe_var (i := 0) rfl (Or.inl rfl)) (pe_var (i := 1) rfl (Or.inl rfl))) pss_nil)
include X0 in
theorem mk_BadRoom : Mk P w K mg base 1 "BadRoom" (C.C 1) ["what"] :=
  X0.x_BadRoom.made sci_BadRoom "numbers, reaches or a list of falls do not fit the call" rfl (by decide) (by decide) fun g cdv A outer s H E =>
    pss_cons (ps_expr (pe_minit X0.b_MovesError.ve rfl X0.b_MovesError.gm (pa_cons (pe_var (i := 0) rfl (Or.inl rfl)) (pa_cons pe_str pa_nil)) (by decide) rfl rfl rfl)) (pss_cons (ps_ost (pe_var (i := 0) rfl (Or.inl rfl)) (pe_var (i := 1) rfl (Or.inl rfl))) pss_nil)
include X0 in
theorem mk_BadCourse : Mk P w K mg base 1 "BadCourse" (C.C 2) ["what"] :=
  X0.x_BadCourse.made sci_BadCourse "a course cannot be begun or continued so" rfl (by decide) (by decide) fun g cdv A outer s H E =>
    pss_cons (ps_expr (pe_minit X0.b_MovesError.ve rfl X0.b_MovesError.gm (pa_cons (pe_var (i := 0) rfl (Or.inl rfl)) (pa_cons pe_str pa_nil)) (by decide) rfl rfl rfl)) (pss_cons (ps_ost (pe_var (i := 0) rfl (Or.inl rfl)) (pe_var (i := 1) rfl (Or.inl rfl))) pss_nil)
include X0 in
theorem mk_BadNumbers : Mk P w K mg base 1 "BadNumbers" (C.C 3) ["what"] :=
  X0.x_BadNumbers.made sci_BadNumbers "a number is not allowed" rfl (by decide) (by decide) fun g cdv A outer s H E =>
    pss_cons (ps_expr (pe_minit X0.b_MovesError.ve rfl X0.b_MovesError.gm (pa_cons (pe_var (i := 0) rfl (Or.inl rfl)) (pa_cons pe_str pa_nil)) (by decide) rfl rfl rfl)) (pss_cons (ps_ost (pe_var (i := 0) rfl (Or.inl rfl)) (pe_var (i := 1) rfl (Or.inl rfl))) pss_nil)
include X0 in
theorem isc_BadCourse_ok : ∀ c b, isc_BadCourse c = some b → L2.ExcC K (C.C c) ∧ PySem.W.kitOne K (.ref (C.C c)) (.ref (C.C 2)) = some b := fun c b h => match c, h with
  | 0, h => by cases h; exact ⟨X0.x_TooMany.ec, X0.i_0_BadCourse⟩
  | 1, h => by cases h; exact ⟨X0.x_BadRoom.ec, X0.i_1_BadCourse⟩
  | 2, h => by cases h; exact ⟨X0.x_BadCourse.ec, X0.i_2_BadCourse⟩
  | 3, h => by cases h; exact ⟨X0.x_BadNumbers.ec, X0.i_3_BadCourse⟩
  | n + 4, h => by cases h
include X0 in
theorem isc_BadNumbers_ok : ∀ c b, isc_BadNumbers c = some b → L2.ExcC K (C.C c) ∧ PySem.W.kitOne K (.ref (C.C c)) (.ref (C.C 3)) = some b := fun c b h => match c, h with
  | 0, h => by cases h; exact ⟨X0.x_TooMany.ec, X0.i_0_BadNumbers⟩
  | 1, h => by cases h; exact ⟨X0.x_BadRoom.ec, X0.i_1_BadNumbers⟩
  | 2, h => by cases h; exact ⟨X0.x_BadCourse.ec, X0.i_2_BadNumbers⟩
  | 3, h => by cases h; exact ⟨X0.x_BadNumbers.ec, X0.i_3_BadNumbers⟩
  | n + 4, h => by cases h
include X0 in
theorem isc_BadRoom_ok : ∀ c b, isc_BadRoom c = some b → L2.ExcC K (C.C c) ∧ PySem.W.kitOne K (.ref (C.C c)) (.ref (C.C 1)) = some b := fun c b h => match c, h with
  | 0, h => by cases h; exact ⟨X0.x_TooMany.ec, X0.i_0_BadRoom⟩
  | 1, h => by cases h; exact ⟨X0.x_BadRoom.ec, X0.i_1_BadRoom⟩
  | 2, h => by cases h; exact ⟨X0.x_BadCourse.ec, X0.i_2_BadRoom⟩
  | 3, h => by cases h; exact ⟨X0.x_BadNumbers.ec, X0.i_3_BadRoom⟩
  | n + 4, h => by cases h
include X0 in
theorem isc_TooMany_ok : ∀ c b, isc_TooMany c = some b → L2.ExcC K (C.C c) ∧ PySem.W.kitOne K (.ref (C.C c)) (.ref (C.C 0)) = some b := fun c b h => match c, h with
  | 0, h => by cases h; exact ⟨X0.x_TooMany.ec, X0.i_0_TooMany⟩
  | 1, h => by cases h; exact ⟨X0.x_BadRoom.ec, X0.i_1_TooMany⟩
  | 2, h => by cases h; exact ⟨X0.x_BadCourse.ec, X0.i_2_TooMany⟩
  | 3, h => by cases h; exact ⟨X0.x_BadNumbers.ec, X0.i_3_TooMany⟩
  | n + 4, h => by cases h
include X0 in
theorem isM_ok : ∀ c b, isM c = some b → PySem.W.exmOne K (.ref (C.C c)) (.ref X0.M_MovesError) = some b := fun c b h => match c, h with
  | 0, h => by cases h; exact X0.m_0
  | 1, h => by cases h; exact X0.m_1
  | 2, h => by cases h; exact X0.m_2
  | 3, h => by cases h; exact X0.m_3
  | n + 4, h => by cases h
include X0 in
theorem okx_what_ok : ∀ c, okx_what c = true → XfC K (C.C c) ∧ PySem.W.findIn K (.ref (C.C c)) "what" = some none := fun c h => match c, h with
  | 0, _ => ⟨X0.x_TooMany.xf, X0.x_TooMany.nf "what" (by decide)⟩
  | 1, _ => ⟨X0.x_BadRoom.xf, X0.x_BadRoom.nf "what" (by decide)⟩
  | 2, _ => ⟨X0.x_BadCourse.xf, X0.x_BadCourse.nf "what" (by decide)⟩
  | 3, _ => ⟨X0.x_BadNumbers.xf, X0.x_BadNumbers.nf "what" (by decide)⟩
  | n + 4, h => by simp [okx_what] at h
theorem ok__law_purse : FnOk P w K mg base (L2.CX P w) 1 X0.d__law_purse.a X0.d__law_purse.fd ["script", "at"] (spD ⟨K, C.C, C.T, C.E⟩ 2 false f__law_purse) :=
  fn_d X0.d__law_purse.F sc__law_purse false 2 5 rfl rfl (by decide) fun cdv A outer s H E hr => ⟨_,
      (ssx_cons (sx_set 2 sc__law_purse.nd (ex_bor [true, true, false, false, true] (ex_if (tx_lt [true, true] (ex_var 1) (ex_len (K := K) X0.z_len (ax_cons (ex_var 0) ax_nil))) (ex_toint X0.z_int (ax_cons (ex_ix (K := K) (ex_var 0) (ex_var 1)) ax_nil)) (ex_mul ex_int (ex_sum (K := K) X0.z_sum (ax_cons (ex_lc [("one", 4)] sc__law_purse.nd (blkOk_by (N := N__law_purse) (sc := defScope s__law_purse) (by decide +kernel)) (tgin_name (by decide)) (ix_lst (K := K) (ex_bor [true] (ex_sl (K := K) (ex_var 0) ox_none (ox_some ex_int)))) (fun _ _ _ _ _ => (gx_name 4 sc__law_purse.nd)) (fun _ _ _ _ _ => tsx_nil) (fun _ _ _ _ _ => (ex_bor [false, false, false, false, true] (ex_toint X0.z_int (ax_cons (ex_var 4) ax_nil))))) ax_nil))))))
      (ssx_cons (sx_set 3 sc__law_purse.nd (ex_bor [false, false, true] (ex_add (ex_mul ex_int (ex_abs X0.z_abs (ax_cons (ex_var 2) ax_nil))) (ex_if (tx_lt [false, false, true] (ex_var 2) ex_int) ex_int ex_int))))
      (ssx_one (sx_ret (ex_bor [false, true, false, true] (ex_lst (ax_cons (ex_if (tx_ge [false, false, false, true] (ex_var 3) (ex_pow ex_int ex_int)) (ex_var 3) ex_int) (ax_cons (ex_mod (ex_toint X0.z_int (ax_cons (ex_add (ex_add (ex_var 3) (ex_mul (ex_var 1) ex_int)) ex_int) ax_nil)) ex_int) (ax_cons (ex_var 1) ax_nil)))))))))⟩
theorem ok__law_sums : FnOk P w K mg base (L2.CX P w) 1 X0.d__law_sums.a X0.d__law_sums.fd ["stacks", "orders"] (spD ⟨K, C.C, C.T, C.E⟩ 2 false f__law_sums) :=
  fn_d X0.d__law_sums.F sc__law_sums false 2 4 rfl rfl (by decide) fun cdv A outer s H E hr => ⟨_,
      (ssx_cons (sx_set 2 sc__law_sums.nd (ex_lst (ax_cons ex_int ax_nil)))
      (ssx_cons (sx_for (passes_of rfl) (ix_r1 X0.z_range (ax_cons (ex_var 1) ax_nil)) (gx_name 3 sc__law_sums.nd)
      (ssx_one (sx_expr (ex_app (K := K) 2 (ex_bor [true, false, true, true] (ex_add (ex_mul (ex_ix (K := K) (ex_var 2) (ex_var 3)) (ex_sub (ex_var 0) ex_int)) ex_int))))))
      (ssx_one (sx_ret (ex_move 2)))))⟩
theorem ok__law_draw : FnOk P w K mg base (L2.CX P w) 1 X0.d__law_draw.a X0.d__law_draw.fd ["purse", "many"] (spD ⟨K, C.C, C.T, C.E⟩ 2 true f__law_draw) :=
  fn_d X0.d__law_draw.F sc__law_draw true 2 3 rfl rfl (by decide) fun cdv A outer s H E hr => ⟨_,
      (ssx_cons (sx_ife (tx_gt [true] (ex_ix (K := K) (ex_var 0) ex_int) ex_int)
      (ssx_cons (sx_set 2 sc__law_draw.nd (ex_bor [true, true] (ex_mod (ex_toint X0.z_int (ax_cons (ex_ix (K := K) (ex_var 0) ex_int) ax_nil)) (ex_var 1))))
      (ssx_cons (sx_setix 0 (ex_bor [true, true] (ex_fdiv (ex_ix (K := K) (ex_var 0) ex_int) (ex_var 1))) ex_int)
      (ssx_one (sx_ret (ex_move 2)))))
      ssx_nil)
      (ssx_cons (sx_augix (K := K) 0 ip_add od_ipI ex_int ex_int)
      (ssx_cons (sx_setix 0 (ex_bor [true] (ex_mod (ex_toint X0.z_int (ax_cons (ex_add (ex_mul (ex_ix (K := K) (ex_var 0) ex_int) ex_int) (ex_mul (ex_ix (K := K) (ex_var 0) ex_int) ex_int)) ax_nil)) ex_int)) ex_int)
      (ssx_one (sx_ret (ex_bor [true, true] (ex_mod (ex_fdiv (ex_mod (ex_toint X0.z_int (ax_cons (ex_add (ex_mul (ex_ix (K := K) (ex_var 0) ex_int) ex_int) (ex_mul (ex_ix (K := K) (ex_var 0) ex_int) ex_int)) ax_nil)) ex_int) ex_int) (ex_var 1))))))))⟩
theorem ok__law_size : FnOk P w K mg base (L2.CX P w) 2 X0.d__law_size.a X0.d__law_size.fd ["purse", "most"] (spD ⟨K, C.C, C.T, C.E⟩ 2 true f__law_size) :=
  fn_d X0.d__law_size.F sc__law_size true 2 3 rfl rfl (by decide) fun cdv A outer s H E hr => ⟨_,
      (ssx_cons (sx_set 2 sc__law_size.nd (ex_ix (K := K) (ex_bor [false, true] (ex_lst (ax_cons ex_int (ax_cons ex_int (ax_cons (ex_pow ex_int ex_int) (ax_cons (ex_var 1) ax_nil)))))) (ex_callIO (K := K) 0 (ok__law_draw X0 : FnOk P w K mg base (L2.CX P w) 1 X0.d__law_draw.a X0.d__law_draw.fd _ _) (hr.mono (by decide)) X0.d__law_draw.gm X0.d__law_draw.F.kp X0.d__law_draw.B (ax_cons ex_int ax_nil))))
      (ssx_one (sx_ret (ex_if (tx_cmp (op_eqD hr.units) od_eq (ex_callIO (K := K) 0 (ok__law_draw X0 : FnOk P w K mg base (L2.CX P w) 1 X0.d__law_draw.a X0.d__law_draw.fd _ _) (hr.mono (by decide)) X0.d__law_draw.gm X0.d__law_draw.F.kp X0.d__law_draw.B (ax_cons ex_int ax_nil)) ex_int (nomark _)) (ex_var 1) (ex_callIO (K := K) 0 (ok__law_draw X0 : FnOk P w K mg base (L2.CX P w) 1 X0.d__law_draw.a X0.d__law_draw.fd _ _) (hr.mono (by decide)) X0.d__law_draw.gm X0.d__law_draw.F.kp X0.d__law_draw.B (ax_cons (ex_bor [false, false, true] (ex_add (ex_var 2) ex_int)) ax_nil))))))⟩
theorem ok_check_most : FnOk P w K mg base (L2.CX P w) 3 X0.d_check_most.a X0.d_check_most.fd ["what", "number", "most"] (spD ⟨K, C.C, C.T, C.E⟩ 3 false f_check_most) :=
  fn_d X0.d_check_most.F sc_check_most false 3 3 rfl rfl (by decide) fun cdv A outer s H E hr => ⟨_,
      (ssx_one (sx_ife (tx_gt [false, true, true] (ex_var 1) (ex_var 2))
      (ssx_one (sx_raise (K := K) (k := 1) (c := 0) (mk_TooMany X0 : Mk P w K mg base 1 _ _ _) (hr.mono (by decide)) (ax_cons (ex_var 0) ax_nil)))
      ssx_nil))⟩
theorem ok_check_bounds : FnOk P w K mg base (L2.CX P w) 4 X0.d_check_bounds.a X0.d_check_bounds.fd ["stacks", "m", "orders", "number"] (spD ⟨K, C.C, C.T, C.E⟩ 4 false f_check_bounds) :=
  fn_d X0.d_check_bounds.F sc_check_bounds false 4 4 rfl rfl (by decide) fun cdv A outer s H E hr => ⟨_,
      (ssx_cons (sx_expr (ex_bor [true] (ex_call (K := K) (ok_check_most X0 : FnOk P w K mg base (L2.CX P w) 3 X0.d_check_most.a X0.d_check_most.fd _ _) (hr.mono (by decide)) X0.d_check_most.gm X0.d_check_most.F.kp X0.d_check_most.B (ax_cons ex_str (ax_cons (ex_var 0) (ax_cons (ex_glob (v := .int k_STACKS) (d := .int k_STACKS) X0.k_STACKS ⟨_, rfl⟩ (fun _ => rp_int)) ax_nil))))))
      (ssx_cons (sx_expr (ex_bor [false, true] (ex_call (K := K) (ok_check_most X0 : FnOk P w K mg base (L2.CX P w) 3 X0.d_check_most.a X0.d_check_most.fd _ _) (hr.mono (by decide)) X0.d_check_most.gm X0.d_check_most.F.kp X0.d_check_most.B (ax_cons ex_str (ax_cons (ex_var 1) (ax_cons (ex_glob (v := .int k_NIGHT_MOVES) (d := .int k_NIGHT_MOVES) X0.k_NIGHT_MOVES ⟨_, rfl⟩ (fun _ => rp_int)) ax_nil))))))
      (ssx_cons (sx_expr (ex_bor [false, false, true] (ex_call (K := K) (ok_check_most X0 : FnOk P w K mg base (L2.CX P w) 3 X0.d_check_most.a X0.d_check_most.fd _ _) (hr.mono (by decide)) X0.d_check_most.gm X0.d_check_most.F.kp X0.d_check_most.B (ax_cons ex_str (ax_cons (ex_var 2) (ax_cons (ex_glob (v := .int k_DAYS) (d := .int k_DAYS) X0.k_DAYS ⟨_, rfl⟩ (fun _ => rp_int)) ax_nil))))))
      (ssx_one (sx_expr (ex_bor [false, false, false, true] (ex_call (K := K) (ok_check_most X0 : FnOk P w K mg base (L2.CX P w) 3 X0.d_check_most.a X0.d_check_most.fd _ _) (hr.mono (by decide)) X0.d_check_most.gm X0.d_check_most.F.kp X0.d_check_most.B (ax_cons ex_str (ax_cons (ex_var 3) (ax_cons (ex_glob (v := .int k_FREE) (d := .int k_FREE) X0.k_FREE ⟨_, rfl⟩ (fun _ => rp_int)) ax_nil))))))))))⟩
theorem ok_check_days : FnOk P w K mg base (L2.CX P w) 3 X0.d_check_days.a X0.d_check_days.fd ["m", "orders", "what", "number"] (spD ⟨K, C.C, C.T, C.E⟩ 4 false f_check_days) :=
  fn_d X0.d_check_days.F sc_check_days false 4 4 rfl rfl (by decide) fun cdv A outer s H E hr => ⟨_,
      (ssx_cons (sx_ife (tx_lt [true] (ex_var 0) ex_int)
      (ssx_one (sx_raise (K := K) (k := 1) (c := 1) (mk_BadRoom X0 : Mk P w K mg base 1 _ _ _) (hr.mono (by decide)) (ax_cons ex_str ax_nil)))
      ssx_nil)
      (ssx_cons (sx_ife (tx_lt [false, true] (ex_var 1) ex_int)
      (ssx_one (sx_raise (K := K) (k := 1) (c := 3) (mk_BadNumbers X0 : Mk P w K mg base 1 _ _ _) (hr.mono (by decide)) (ax_cons ex_str ax_nil)))
      ssx_nil)
      (ssx_one (sx_ife (tx_lt [false, false, false, true] (ex_var 3) ex_int)
      (ssx_one (sx_raise (K := K) (k := 1) (c := 3) (mk_BadNumbers X0 : Mk P w K mg base 1 _ _ _) (hr.mono (by decide)) (ax_cons (ex_var 2) ax_nil)))
      ssx_nil))))⟩
theorem ok_check_numbers : FnOk P w K mg base (L2.CX P w) 5 X0.d_check_numbers.a X0.d_check_numbers.fd ["stacks", "m", "orders", "what", "number"] (spD ⟨K, C.C, C.T, C.E⟩ 5 false f_check_numbers) :=
  fn_d X0.d_check_numbers.F sc_check_numbers false 5 5 rfl rfl (by decide) fun cdv A outer s H E hr => ⟨_,
      (ssx_cons (sx_expr (ex_bor [true, true, true, false, true] (ex_call (K := K) (ok_check_bounds X0 : FnOk P w K mg base (L2.CX P w) 4 X0.d_check_bounds.a X0.d_check_bounds.fd _ _) (hr.mono (by decide)) X0.d_check_bounds.gm X0.d_check_bounds.F.kp X0.d_check_bounds.B (ax_cons (ex_var 0) (ax_cons (ex_var 1) (ax_cons (ex_var 2) (ax_cons (ex_var 4) ax_nil)))))))
      (ssx_cons (sx_ife (tx_lt [true] (ex_var 0) ex_int)
      (ssx_one (sx_raise (K := K) (k := 1) (c := 3) (mk_BadNumbers X0 : Mk P w K mg base 1 _ _ _) (hr.mono (by decide)) (ax_cons ex_str ax_nil)))
      ssx_nil)
      (ssx_one (sx_expr (ex_bor [false, true, true, true, true] (ex_call (K := K) (ok_check_days X0 : FnOk P w K mg base (L2.CX P w) 3 X0.d_check_days.a X0.d_check_days.fd _ _) (hr.mono (by decide)) X0.d_check_days.gm X0.d_check_days.F.kp X0.d_check_days.B (ax_cons (ex_var 1) (ax_cons (ex_var 2) (ax_cons (ex_var 3) (ax_cons (ex_var 4) ax_nil))))))))))⟩
theorem ok_powers : FnOk P w K mg base (L2.CX P w) 1 X0.d_powers.a X0.d_powers.fd ["others", "many"] (spD ⟨K, C.C, C.T, C.E⟩ 2 false f_powers) :=
  fn_d X0.d_powers.F sc_powers false 2 5 rfl rfl (by decide) fun cdv A outer s H E hr => ⟨_,
      (ssx_cons (sx_set 2 sc_powers.nd ex_int)
      (ssx_cons (sx_set 3 sc_powers.nd ex_int)
      (ssx_cons (sx_for (passes_of rfl) (ix_r1 X0.z_range (ax_cons (ex_var 1) ax_nil)) (gx_name 4 sc_powers.nd)
      (ssx_cons (sx_augAdd 2 sc_powers.nd (ex_var 3))
      (ssx_one (sx_set 3 sc_powers.nd (ex_bor [true, false, false, true] (ex_mul (ex_var 3) (ex_var 0)))))))
      (ssx_one (sx_ret (ex_move 2))))))⟩
theorem ok_nights_worth : FnOk P w K mg base (L2.CX P w) 6 X0.d_nights_worth.a X0.d_nights_worth.fd ["stacks", "m", "orders", "free"] (spD ⟨K, C.C, C.T, C.E⟩ 4 false f_nights_worth) :=
  fn_d X0.d_nights_worth.F sc_nights_worth false 4 6 rfl rfl (by decide) fun cdv A outer s H E hr => ⟨_,
      (ssx_cons (sx_expr (ex_bor [true, true, true, true] (ex_call (K := K) (ok_check_numbers X0 : FnOk P w K mg base (L2.CX P w) 5 X0.d_check_numbers.a X0.d_check_numbers.fd _ _) (hr.mono (by decide)) X0.d_check_numbers.gm X0.d_check_numbers.F.kp X0.d_check_numbers.B (ax_cons (ex_var 0) (ax_cons (ex_var 1) (ax_cons (ex_var 2) (ax_cons ex_str (ax_cons (ex_var 3) ax_nil))))))))
      (ssx_cons (sx_set 4 sc_nights_worth.nd (ex_bor [true, false, true, true] (ex_fdiv (ex_var 3) (ex_call (K := K) (ok_powers X0 : FnOk P w K mg base (L2.CX P w) 1 X0.d_powers.a X0.d_powers.fd _ _) (hr.mono (by decide)) X0.d_powers.gm X0.d_powers.F.kp X0.d_powers.B (ax_cons (ex_sub (ex_var 0) ex_int) (ax_cons (ex_var 2) ax_nil))))))
      (ssx_cons (sx_set 5 sc_nights_worth.nd (ex_bor [true, true, true] (ex_fdiv (ex_var 1) (ex_add ex_int (ex_mul (ex_var 0) (ex_call (K := K) (ok_powers X0 : FnOk P w K mg base (L2.CX P w) 1 X0.d_powers.a X0.d_powers.fd _ _) (hr.mono (by decide)) X0.d_powers.gm X0.d_powers.F.kp X0.d_powers.B (ax_cons (ex_sub (ex_var 0) ex_int) (ax_cons (ex_sub (ex_var 2) ex_int) ax_nil))))))))
      (ssx_one (sx_ret (ex_bor [false, false, false, false, true, true] (ex_min (K := K) X0.z_min (ax_cons (ex_var 4) (ax_cons (ex_var 5) ax_nil)))))))))⟩
theorem ok__law_matches : ∀ n : Nat, FnOk P w K mg base (L2.CX P w) (0 + n) X0.d__law_matches.a X0.d__law_matches.fd ["answer", "due"] (spD ⟨K, C.C, C.T, C.E⟩ 2 false (f__law_matches n))
  | 0 => fn_bad rfl
  | n + 1 => fn_d X0.d__law_matches.F sc__law_matches false 2 3 rfl rfl (by decide) fun cdv A outer s H E hr => ⟨_,
      (ssx_cons (sx_ife (tx_w (wx_or (tx_isN [false, true] (ex_var 1)) (wx_or1 (tx_isN [true] (ex_var 0)))))
      (ssx_one (sx_ret (ex_bor [true, true] (ex_and (ex_isN (ex_var 1)) (ex_one (ex_isN (ex_var 0)))))))
      ssx_nil)
      (ssx_cons (sx_ife (tx_w (wx_or (tx_val (ex_bor [false, true] (ex_isi (K := K) "bool" X0.z_isinstance X0.z_bool (by decide +kernel) (ex_var 1)))) (wx_or1 (tx_val (ex_bor [true] (ex_isi (K := K) "bool" X0.z_isinstance X0.z_bool (by decide +kernel) (ex_var 0)))))))
      (ssx_one (sx_ret (ex_bor [true, true] (ex_and (ex_isi (K := K) "bool" X0.z_isinstance X0.z_bool (by decide +kernel) (ex_var 1)) (ex_and (ex_isi (K := K) "bool" X0.z_isinstance X0.z_bool (by decide +kernel) (ex_var 0)) (ex_one (ex_eq (K := K) hr.units (ex_var 0) (ex_var 1))))))))
      ssx_nil)
      (ssx_cons (sx_ife (tx_val (ex_bor [false, true] (ex_isi (K := K) "int" X0.z_isinstance X0.z_int (by decide +kernel) (ex_var 1))))
      (ssx_one (sx_ret (ex_bor [true, true] (ex_and (ex_isi (K := K) "int" X0.z_isinstance X0.z_int (by decide +kernel) (ex_var 0)) (ex_one (ex_eq (K := K) hr.units (ex_var 0) (ex_var 1)))))))
      ssx_nil)
      (ssx_cons (sx_ife (tx_val (ex_bor [false, true] (ex_isi (K := K) "str" X0.z_isinstance X0.z_str (by decide +kernel) (ex_var 1))))
      (ssx_one (sx_ret (ex_bor [true, true] (ex_and (ex_isi (K := K) "str" X0.z_isinstance X0.z_str (by decide +kernel) (ex_var 0)) (ex_one (ex_eq (K := K) hr.units (ex_var 0) (ex_var 1)))))))
      ssx_nil)
      (ssx_cons (sx_ife (tx_w (wx_and (tx_val (ex_bor [false, true] (ex_isi (K := K) "tuple" X0.z_isinstance X0.z_tuple (by decide +kernel) (ex_var 1)))) (wx_and1 (tx_not (tx_val (ex_bor [true] (ex_isi (K := K) "tuple" X0.z_isinstance X0.z_tuple (by decide +kernel) (ex_var 0))))))))
      (ssx_one (sx_ret ex_bl))
      ssx_nil)
      (ssx_cons (sx_ife (tx_w (wx_and (tx_val (ex_bor [false, true] (ex_isi (K := K) "list" X0.z_isinstance X0.z_list (by decide +kernel) (ex_var 1)))) (wx_and1 (tx_not (tx_val (ex_bor [true] (ex_isi (K := K) "list" X0.z_isinstance X0.z_list (by decide +kernel) (ex_var 0))))))))
      (ssx_one (sx_ret ex_bl))
      ssx_nil)
      (ssx_cons (sx_ife (tx_ne (K := K) [true, true] hr.units (ex_len (K := K) X0.z_len (ax_cons (ex_var 0) ax_nil)) (ex_len (K := K) X0.z_len (ax_cons (ex_var 1) ax_nil)))
      (ssx_one (sx_ret ex_bl))
      ssx_nil)
      (ssx_cons (sx_for (passes_of rfl) (ix_r1 X0.z_range (ax_cons (ex_bor [false, true] (ex_len (K := K) X0.z_len (ax_cons (ex_var 1) ax_nil))) ax_nil)) (gx_name 2 sc__law_matches.nd)
      (ssx_one (sx_ife (tx_not (tx_val (ex_bor [true, true, true] (ex_call (K := K) (ok__law_matches n : FnOk P w K mg base (L2.CX P w) (0 + n) X0.d__law_matches.a X0.d__law_matches.fd _ _) (hr.mono (Nat.le_refl _)) X0.d__law_matches.gm X0.d__law_matches.F.kp X0.d__law_matches.B (ax_cons (ex_ix (K := K) (ex_var 0) (ex_var 2)) (ax_cons (ex_ix (K := K) (ex_var 1) (ex_var 2)) ax_nil))))))
      (ssx_one (sx_ret ex_bl))
      ssx_nil)))
      (ssx_one (sx_ret ex_bl))))))))))⟩
theorem ok_night_need : FnOk P w K mg base (L2.CX P w) 6 X0.d_night_need.a X0.d_night_need.fd ["stacks", "orders", "xi"] (spD ⟨K, C.C, C.T, C.E⟩ 3 false f_night_need) :=
  fn_d X0.d_night_need.F sc_night_need false 3 3 rfl rfl (by decide) fun cdv A outer s H E hr => ⟨_,
      (ssx_cons (sx_expr (ex_bor [true, true, true] (ex_call (K := K) (ok_check_numbers X0 : FnOk P w K mg base (L2.CX P w) 5 X0.d_check_numbers.a X0.d_check_numbers.fd _ _) (hr.mono (by decide)) X0.d_check_numbers.gm X0.d_check_numbers.F.kp X0.d_check_numbers.B (ax_cons (ex_var 0) (ax_cons ex_int (ax_cons (ex_var 1) (ax_cons ex_str (ax_cons (ex_var 2) ax_nil))))))))
      (ssx_one (sx_ret (ex_bor [true, true, true] (ex_tup (ax_cons (ex_mul (ex_var 2) (ex_call (K := K) (ok_powers X0 : FnOk P w K mg base (L2.CX P w) 1 X0.d_powers.a X0.d_powers.fd _ _) (hr.mono (by decide)) X0.d_powers.gm X0.d_powers.F.kp X0.d_powers.B (ax_cons (ex_sub (ex_var 0) ex_int) (ax_cons (ex_var 1) ax_nil)))) (ax_cons (ex_mul (ex_var 2) (ex_add ex_int (ex_mul (ex_var 0) (ex_call (K := K) (ok_powers X0 : FnOk P w K mg base (L2.CX P w) 1 X0.d_powers.a X0.d_powers.fd _ _) (hr.mono (by decide)) X0.d_powers.gm X0.d_powers.F.kp X0.d_powers.B (ax_cons (ex_sub (ex_var 0) ex_int) (ax_cons (ex_sub (ex_var 1) ex_int) ax_nil)))))) ax_nil)))))))⟩
theorem ok_caps_of : FnOk P w K mg base (L2.CX P w) 2 X0.d_caps_of.a X0.d_caps_of.fd ["stacks", "m", "orders", "xi"] (spD ⟨K, C.C, C.T, C.E⟩ 4 false f_caps_of) :=
  fn_d X0.d_caps_of.F sc_caps_of false 4 5 rfl rfl (by decide) fun cdv A outer s H E hr => ⟨_,
      (ssx_one (sx_ret (ex_bor [true, true, true, true, true] (ex_lc [("place", 4)] sc_caps_of.nd (blkOk_by (N := N_caps_of) (sc := defScope s_caps_of) (by decide +kernel)) (tgin_name (by decide)) (ix_r2 X0.z_range (ax_cons ex_int (ax_cons (ex_bor [false, false, true] (ex_add (ex_var 2) ex_int)) ax_nil))) (fun _ _ _ _ _ => (gx_name 4 sc_caps_of.nd)) (fun _ _ _ _ _ => tsx_nil) (fun _ _ _ _ _ => (ex_bor [true, true, true, true, true] (ex_sub (ex_var 1) (ex_mul (ex_var 3) (ex_call (K := K) (ok_powers X0 : FnOk P w K mg base (L2.CX P w) 1 X0.d_powers.a X0.d_powers.fd _ _) (hr.mono (by decide)) X0.d_powers.gm X0.d_powers.F.kp X0.d_powers.B (ax_cons (ex_sub (ex_var 0) ex_int) (ax_cons (ex_sub (ex_var 2) (ex_var 4)) ax_nil)))))))))))⟩
theorem ok_night_caps : FnOk P w K mg base (L2.CX P w) 6 X0.d_night_caps.a X0.d_night_caps.fd ["stacks", "m", "orders", "xi"] (spD ⟨K, C.C, C.T, C.E⟩ 4 false f_night_caps) :=
  fn_d X0.d_night_caps.F sc_night_caps false 4 4 rfl rfl (by decide) fun cdv A outer s H E hr => ⟨_,
      (ssx_cons (sx_expr (ex_bor [true, true, true, true] (ex_call (K := K) (ok_check_numbers X0 : FnOk P w K mg base (L2.CX P w) 5 X0.d_check_numbers.a X0.d_check_numbers.fd _ _) (hr.mono (by decide)) X0.d_check_numbers.gm X0.d_check_numbers.F.kp X0.d_check_numbers.B (ax_cons (ex_var 0) (ax_cons (ex_var 1) (ax_cons (ex_var 2) (ax_cons ex_str (ax_cons (ex_var 3) ax_nil))))))))
      (ssx_one (sx_ret (ex_bor [true, true, true, true] (ex_call (K := K) (ok_caps_of X0 : FnOk P w K mg base (L2.CX P w) 2 X0.d_caps_of.a X0.d_caps_of.fd _ _) (hr.mono (by decide)) X0.d_caps_of.gm X0.d_caps_of.F.kp X0.d_caps_of.B (ax_cons (ex_var 0) (ax_cons (ex_var 1) (ax_cons (ex_var 2) (ax_cons (ex_var 3) ax_nil)))))))))⟩
theorem ok__law_numbers_right : FnOk P w K mg base (L2.CX P w) 7 X0.d__law_numbers_right.a X0.d__law_numbers_right.fd ["purse"] (spD ⟨K, C.C, C.T, C.E⟩ 1 true f__law_numbers_right) :=
  fn_d X0.d__law_numbers_right.F sc__law_numbers_right true 1 11 rfl rfl (by decide) fun cdv A outer s H E hr => ⟨_,
      (ssx_cons (sx_set 1 sc__law_numbers_right.nd (ex_add ex_int (ex_callIO (K := K) 0 (ok__law_draw X0 : FnOk P w K mg base (L2.CX P w) 1 X0.d__law_draw.a X0.d__law_draw.fd _ _) (hr.mono (by decide)) X0.d__law_draw.gm X0.d__law_draw.F.kp X0.d__law_draw.B (ax_cons ex_int ax_nil))))
      (ssx_cons (sx_set 2 sc__law_numbers_right.nd (ex_add ex_int (ex_callIO (K := K) 0 (ok__law_draw X0 : FnOk P w K mg base (L2.CX P w) 1 X0.d__law_draw.a X0.d__law_draw.fd _ _) (hr.mono (by decide)) X0.d__law_draw.gm X0.d__law_draw.F.kp X0.d__law_draw.B (ax_cons (ex_ix (K := K) (ex_lst (ax_cons ex_int (ax_cons ex_int (ax_cons ex_int ax_nil)))) (ex_callIO (K := K) 0 (ok__law_draw X0 : FnOk P w K mg base (L2.CX P w) 1 X0.d__law_draw.a X0.d__law_draw.fd _ _) (hr.mono (by decide)) X0.d__law_draw.gm X0.d__law_draw.F.kp X0.d__law_draw.B (ax_cons ex_int ax_nil))) ax_nil))))
      (ssx_cons (sx_set 3 sc__law_numbers_right.nd (ex_bor [false, true, true] (ex_call (K := K) (ok__law_sums X0 : FnOk P w K mg base (L2.CX P w) 1 X0.d__law_sums.a X0.d__law_sums.fd _ _) (hr.mono (by decide)) X0.d__law_sums.gm X0.d__law_sums.F.kp X0.d__law_sums.B (ax_cons (ex_var 1) (ax_cons (ex_var 2) ax_nil)))))
      (ssx_cons (sx_set 4 sc__law_numbers_right.nd (ex_bor [false, false, true, true] (ex_ix (K := K) (ex_var 3) (ex_var 2))))
      (ssx_cons (sx_set 5 sc__law_numbers_right.nd (ex_bor [false, true, true, true] (ex_add ex_int (ex_mul (ex_var 1) (ex_ix (K := K) (ex_var 3) (ex_sub (ex_var 2) ex_int))))))
      (ssx_cons (sx_set 6 sc__law_numbers_right.nd (ex_callIO (K := K) 0 (ok__law_size X0 : FnOk P w K mg base (L2.CX P w) 2 X0.d__law_size.a X0.d__law_size.fd _ _) (hr.mono (by decide)) X0.d__law_size.gm X0.d__law_size.F.kp X0.d__law_size.B (ax_cons (ex_pow ex_int ex_int) ax_nil)))
      (ssx_cons (sx_ife (tx_not (tx_val (ex_bor [false, true, true, false, true, true, true] (ex_call (K := K) (ok__law_matches X0 4 : FnOk P w K mg base (L2.CX P w) 4 X0.d__law_matches.a X0.d__law_matches.fd _ _) (hr.mono (by decide)) X0.d__law_matches.gm X0.d__law_matches.F.kp X0.d__law_matches.B (ax_cons (ex_call (K := K) (ok_night_need X0 : FnOk P w K mg base (L2.CX P w) 6 X0.d_night_need.a X0.d_night_need.fd _ _) (hr.mono (by decide)) X0.d_night_need.gm X0.d_night_need.F.kp X0.d_night_need.B (ax_cons (ex_var 1) (ax_cons (ex_var 2) (ax_cons (ex_var 6) ax_nil)))) (ax_cons (ex_tup (ax_cons (ex_mul (ex_var 6) (ex_var 4)) (ax_cons (ex_mul (ex_var 6) (ex_var 5)) ax_nil))) ax_nil))))))
      (ssx_one (sx_ret ex_bl))
      ssx_nil)
      (ssx_cons (sx_set 7 sc__law_numbers_right.nd (ex_callIO (K := K) 0 (ok__law_size X0 : FnOk P w K mg base (L2.CX P w) 2 X0.d__law_size.a X0.d__law_size.fd _ _) (hr.mono (by decide)) X0.d__law_size.gm X0.d__law_size.F.kp X0.d__law_size.B (ax_cons (ex_pow ex_int ex_int) ax_nil)))
      (ssx_cons (sx_ife (tx_not (tx_val (ex_bor [false, true, true, true, false, false, true, true, false, false, true] (ex_call (K := K) (ok__law_matches X0 4 : FnOk P w K mg base (L2.CX P w) 4 X0.d__law_matches.a X0.d__law_matches.fd _ _) (hr.mono (by decide)) X0.d__law_matches.gm X0.d__law_matches.F.kp X0.d__law_matches.B (ax_cons (ex_call (K := K) (ok_night_caps X0 : FnOk P w K mg base (L2.CX P w) 6 X0.d_night_caps.a X0.d_night_caps.fd _ _) (hr.mono (by decide)) X0.d_night_caps.gm X0.d_night_caps.F.kp X0.d_night_caps.B (ax_cons (ex_var 1) (ax_cons (ex_var 7) (ax_cons (ex_var 2) (ax_cons (ex_var 6) ax_nil))))) (ax_cons (ex_lc [("one", 10)] sc__law_numbers_right.nd (blkOk_by (N := N__law_numbers_right) (sc := defScope s__law_numbers_right) (by decide +kernel)) (tgin_name (by decide)) (ix_lst (K := K) (ex_bor [false, false, true, true] (ex_rev (K := K) (ex_sl (K := K) (ex_var 3) ox_none (ox_some (ex_var 2)))))) (fun _ _ _ _ _ => (gx_name 10 sc__law_numbers_right.nd)) (fun _ _ _ _ _ => tsx_nil) (fun _ _ _ _ _ => (ex_bor [false, false, false, false, false, false, true, true, false, false, true] (ex_sub (ex_var 7) (ex_mul (ex_var 6) (ex_var 10)))))) ax_nil))))))
      (ssx_one (sx_ret ex_bl))
      ssx_nil)
      (ssx_cons (sx_set 8 sc__law_numbers_right.nd (ex_callIO (K := K) 0 (ok__law_size X0 : FnOk P w K mg base (L2.CX P w) 2 X0.d__law_size.a X0.d__law_size.fd _ _) (hr.mono (by decide)) X0.d__law_size.gm X0.d__law_size.F.kp X0.d__law_size.B (ax_cons (ex_pow ex_int ex_int) ax_nil)))
      (ssx_cons (sx_ife (tx_w (wx_and (tx_cmp (op_eqD hr.units) od_eq (ex_callIO (K := K) 0 (ok__law_draw X0 : FnOk P w K mg base (L2.CX P w) 1 X0.d__law_draw.a X0.d__law_draw.fd _ _) (hr.mono (by decide)) X0.d__law_draw.gm X0.d__law_draw.F.kp X0.d__law_draw.B (ax_cons ex_int ax_nil)) ex_int (nomark _)) (wx_and1 (tx_lt [false, false, false, false, true] (ex_var 4) (ex_pow ex_int ex_int)))))
      (ssx_one (sx_set 8 sc__law_numbers_right.nd (ex_add (ex_sub (ex_mul (ex_var 4) (ex_callIO (K := K) 0 (ok__law_draw X0 : FnOk P w K mg base (L2.CX P w) 1 X0.d__law_draw.a X0.d__law_draw.fd _ _) (hr.mono (by decide)) X0.d__law_draw.gm X0.d__law_draw.F.kp X0.d__law_draw.B (ax_cons ex_int ax_nil))) (ex_callIO (K := K) 0 (ok__law_draw X0 : FnOk P w K mg base (L2.CX P w) 1 X0.d__law_draw.a X0.d__law_draw.fd _ _) (hr.mono (by decide)) X0.d__law_draw.gm X0.d__law_draw.F.kp X0.d__law_draw.B (ax_cons ex_int ax_nil))) ex_int)))
      ssx_nil)
      (ssx_cons (sx_ife (tx_w (wx_and (tx_cmp (op_eqD hr.units) od_eq (ex_callIO (K := K) 0 (ok__law_draw X0 : FnOk P w K mg base (L2.CX P w) 1 X0.d__law_draw.a X0.d__law_draw.fd _ _) (hr.mono (by decide)) X0.d__law_draw.gm X0.d__law_draw.F.kp X0.d__law_draw.B (ax_cons ex_int ax_nil)) ex_int (nomark _)) (wx_and1 (tx_lt [false, false, false, false, false, true] (ex_var 5) (ex_pow ex_int ex_int)))))
      (ssx_one (sx_set 7 sc__law_numbers_right.nd (ex_add (ex_sub (ex_mul (ex_var 5) (ex_callIO (K := K) 0 (ok__law_draw X0 : FnOk P w K mg base (L2.CX P w) 1 X0.d__law_draw.a X0.d__law_draw.fd _ _) (hr.mono (by decide)) X0.d__law_draw.gm X0.d__law_draw.F.kp X0.d__law_draw.B (ax_cons ex_int ax_nil))) (ex_callIO (K := K) 0 (ok__law_draw X0 : FnOk P w K mg base (L2.CX P w) 1 X0.d__law_draw.a X0.d__law_draw.fd _ _) (hr.mono (by decide)) X0.d__law_draw.gm X0.d__law_draw.F.kp X0.d__law_draw.B (ax_cons ex_int ax_nil))) ex_int)))
      ssx_nil)
      (ssx_cons (sx_set 9 sc__law_numbers_right.nd (ex_bor [false, true, true, false, false, false, false, true, true] (ex_call (K := K) (ok_nights_worth X0 : FnOk P w K mg base (L2.CX P w) 6 X0.d_nights_worth.a X0.d_nights_worth.fd _ _) (hr.mono (by decide)) X0.d_nights_worth.gm X0.d_nights_worth.F.kp X0.d_nights_worth.B (ax_cons (ex_var 1) (ax_cons (ex_var 7) (ax_cons (ex_var 2) (ax_cons (ex_var 8) ax_nil)))))))
      (ssx_cons (sx_ife (tx_w (wx_or (tx_not (tx_val (ex_bor [false, false, false, false, false, false, false, false, false, true] (ex_isi (K := K) "int" X0.z_isinstance X0.z_int (by decide +kernel) (ex_var 9))))) (wx_or (tx_val (ex_bor [false, false, false, false, false, false, false, false, false, true] (ex_isi (K := K) "bool" X0.z_isinstance X0.z_bool (by decide +kernel) (ex_var 9)))) (wx_or1 (tx_lt [false, false, false, false, false, false, false, false, false, true] (ex_var 9) ex_int)))))
      (ssx_one (sx_ret ex_bl))
      ssx_nil)
      (ssx_cons (sx_ife (tx_w (wx_or (tx_gt [false, false, false, false, true, false, false, false, true, true] (ex_mul (ex_var 9) (ex_var 4)) (ex_var 8)) (wx_or1 (tx_gt [false, false, false, false, false, true, false, true, false, true] (ex_mul (ex_var 9) (ex_var 5)) (ex_var 7)))))
      (ssx_one (sx_ret ex_bl))
      ssx_nil)
      (ssx_one (sx_ret (ex_bor [false, false, false, false, true, true, false, true, true, true] (ex_or (ex_gt (ex_mul (ex_add (ex_var 9) ex_int) (ex_var 4)) (ex_var 8)) (ex_one (ex_gt (ex_mul (ex_add (ex_var 9) ex_int) (ex_var 5)) (ex_var 7))))))))))))))))))))))⟩
theorem ok__law_pick : FnOk P w K mg base (L2.CX P w) 2 X0.d__law_pick.a X0.d__law_pick.fd ["purse", "things"] (spD ⟨K, C.C, C.T, C.E⟩ 2 true f__law_pick) :=
  fn_d X0.d__law_pick.F sc__law_pick true 2 2 rfl rfl (by decide) fun cdv A outer s H E hr => ⟨_,
      (ssx_one (sx_ret (ex_ix (K := K) (ex_var 1) (ex_callIO (K := K) 0 (ok__law_draw X0 : FnOk P w K mg base (L2.CX P w) 1 X0.d__law_draw.a X0.d__law_draw.fd _ _) (hr.mono (by decide)) X0.d__law_draw.gm X0.d__law_draw.F.kp X0.d__law_draw.B (ax_cons (ex_bor [false, true] (ex_len (K := K) X0.z_len (ax_cons (ex_var 1) ax_nil))) ax_nil)))))⟩
theorem ok__law_due : FnOk P w K mg base (L2.CX P w) 1 X0.d__law_due.a X0.d__law_due.fd ["stacks", "m", "orders", "what", "last"] (spD ⟨K, C.C, C.T, C.E⟩ 5 false f__law_due) :=
  fn_d X0.d__law_due.F sc__law_due false 5 5 rfl rfl (by decide) fun cdv A outer s H E hr => ⟨_,
      (ssx_cons (sx_ife (tx_gt [true] (ex_var 0) ex_int)
      (ssx_one (sx_ret (ex_tup (ax_cons ex_str (ax_cons ex_str ax_nil)))))
      ssx_nil)
      (ssx_cons (sx_ife (tx_gt [false, true] (ex_var 1) (ex_pow ex_int ex_int))
      (ssx_one (sx_ret (ex_tup (ax_cons ex_str (ax_cons ex_str ax_nil)))))
      ssx_nil)
      (ssx_cons (sx_ife (tx_gt [false, false, true] (ex_var 2) ex_int)
      (ssx_one (sx_ret (ex_tup (ax_cons ex_str (ax_cons ex_str ax_nil)))))
      ssx_nil)
      (ssx_cons (sx_ife (tx_gt [false, false, false, false, true] (ex_var 4) (ex_pow ex_int ex_int))
      (ssx_one (sx_ret (ex_tup (ax_cons ex_str (ax_cons ex_str ax_nil)))))
      ssx_nil)
      (ssx_cons (sx_ife (tx_lt [true] (ex_var 0) ex_int)
      (ssx_one (sx_ret (ex_tup (ax_cons ex_str (ax_cons ex_str ax_nil)))))
      ssx_nil)
      (ssx_cons (sx_ife (tx_lt [false, true] (ex_var 1) ex_int)
      (ssx_one (sx_ret (ex_tup (ax_cons ex_str (ax_cons ex_str ax_nil)))))
      ssx_nil)
      (ssx_cons (sx_ife (tx_lt [false, false, true] (ex_var 2) ex_int)
      (ssx_one (sx_ret (ex_tup (ax_cons ex_str (ax_cons ex_str ax_nil)))))
      ssx_nil)
      (ssx_cons (sx_ife (tx_lt [false, false, false, false, true] (ex_var 4) ex_int)
      (ssx_one (sx_ret (ex_bor [false, false, false, true] (ex_tup (ax_cons ex_str (ax_cons (ex_var 3) ax_nil))))))
      ssx_nil)
      (ssx_one (sx_ret (ex_tup (ax_cons ex_str ax_nil))))))))))))⟩
theorem ok__law_error_word : FnE P w K mg base 1 X0.d__law_error_word.a X0.d__law_error_word.fd ["e"] (fun q => spD ⟨K, C.C, C.T, heldE C.C q.1 q.2.cls q.2.dict⟩ 1 false f__law_error_word) :=
  fn_e X0.d__law_error_word.F sc__law_error_word 1 2 rfl rfl (by decide) fun cdv A outer s H E q hq hr => ⟨_,
      (ssx_cons (sx_set 1 sc__law_error_word.nd (ex_lst ax_nil))
      (ssx_cons (sx_ife (tx_val (ex_bor [true] (ex_isE (K := K) isc_TooMany (pinx_e hq) X0.z_isinstance X0.x_TooMany.gm (isc_TooMany_ok (C := C) X0) (ex_var 0))))
      (ssx_one (sx_expr (ex_app (K := K) 1 ex_str)))
      ssx_nil)
      (ssx_cons (sx_ife (tx_val (ex_bor [true] (ex_isE (K := K) isc_BadRoom (pinx_e hq) X0.z_isinstance X0.x_BadRoom.gm (isc_BadRoom_ok (C := C) X0) (ex_var 0))))
      (ssx_one (sx_expr (ex_app (K := K) 1 ex_str)))
      ssx_nil)
      (ssx_cons (sx_ife (tx_val (ex_bor [true] (ex_isE (K := K) isc_BadNumbers (pinx_e hq) X0.z_isinstance X0.x_BadNumbers.gm (isc_BadNumbers_ok (C := C) X0) (ex_var 0))))
      (ssx_one (sx_expr (ex_app (K := K) 1 ex_str)))
      ssx_nil)
      (ssx_cons (sx_ife (tx_val (ex_bor [true] (ex_isE (K := K) isc_BadCourse (pinx_e hq) X0.z_isinstance X0.x_BadCourse.gm (isc_BadCourse_ok (C := C) X0) (ex_var 0))))
      (ssx_one (sx_expr (ex_app (K := K) 1 ex_str)))
      ssx_nil)
      (ssx_cons (sx_ife (tx_ne (K := K) [false, true] (roomH_units hr) (ex_len (K := K) X0.z_len (ax_cons (ex_var 1) ax_nil)) ex_int)
      (ssx_one (sx_ret (ex_tup (ax_cons ex_str ax_nil))))
      ssx_nil)
      (ssx_one (sx_ret (ex_bor [true, true] (ex_tup (ax_cons (ex_ix (K := K) (ex_var 1) ex_int) (ax_cons (ex_xfx (K := K) okx_what (pinx_e hq) (okx_what_ok (C := C) X0) (ex_var 0)) ax_nil))))))))))))⟩
theorem ok__law_wrong_right : FnOk P w K mg base (L2.CX P w) 9 X0.d__law_wrong_right.a X0.d__law_wrong_right.fd ["purse"] (spD ⟨K, C.C, C.T, C.E⟩ 1 true f__law_wrong_right) :=
  fn_dC X0.l__law_wrong_right.FC sc__law_wrong_right true 1 6 rfl rfl (by decide) fun A outer s H E hr => ⟨_,
      (ssx_cons (sx_set 1 sc__law_wrong_right.nd (ex_callIO (K := K) 0 (ok__law_pick X0 : FnOk P w K mg base (L2.CX P w) 2 X0.d__law_pick.a X0.d__law_pick.fd _ _) (hr.mono (by decide)) X0.d__law_pick.gm X0.d__law_pick.F.kp X0.d__law_pick.B (ax_cons (ex_lst (ax_cons ex_int (ax_cons ex_int (ax_cons ex_int (ax_cons ex_int (ax_cons ex_int (ax_cons ex_int (ax_cons ex_int (ax_cons (ex_neg ex_int) ax_nil))))))))) ax_nil)))
      (ssx_cons (sx_set 2 sc__law_wrong_right.nd (ex_callIO (K := K) 0 (ok__law_pick X0 : FnOk P w K mg base (L2.CX P w) 2 X0.d__law_pick.a X0.d__law_pick.fd _ _) (hr.mono (by decide)) X0.d__law_pick.gm X0.d__law_pick.F.kp X0.d__law_pick.B (ax_cons (ex_lst (ax_cons ex_int (ax_cons ex_int (ax_cons ex_int (ax_cons (ex_pow ex_int ex_int) (ax_cons (ex_add (ex_pow ex_int ex_int) ex_int) (ax_cons (ex_neg ex_int) ax_nil))))))) ax_nil)))
      (ssx_cons (sx_set 3 sc__law_wrong_right.nd (ex_callIO (K := K) 0 (ok__law_pick X0 : FnOk P w K mg base (L2.CX P w) 2 X0.d__law_pick.a X0.d__law_pick.fd _ _) (hr.mono (by decide)) X0.d__law_pick.gm X0.d__law_pick.F.kp X0.d__law_pick.B (ax_cons (ex_lst (ax_cons ex_int (ax_cons ex_int (ax_cons ex_int (ax_cons ex_int (ax_cons ex_int (ax_cons ex_int (ax_cons (ex_neg ex_int) ax_nil)))))))) ax_nil)))
      (ssx_cons (sx_set 4 sc__law_wrong_right.nd (ex_callIO (K := K) 0 (ok__law_pick X0 : FnOk P w K mg base (L2.CX P w) 2 X0.d__law_pick.a X0.d__law_pick.fd _ _) (hr.mono (by decide)) X0.d__law_pick.gm X0.d__law_pick.F.kp X0.d__law_pick.B (ax_cons (ex_lst (ax_cons ex_int (ax_cons ex_int (ax_cons ex_int (ax_cons (ex_pow ex_int ex_int) (ax_cons (ex_add (ex_pow ex_int ex_int) ex_int) (ax_cons (ex_neg ex_int) ax_nil))))))) ax_nil)))
      (ssx_cons (sx_set 5 sc__law_wrong_right.nd (ex_bor [false, true, true, true, true] (ex_call (K := K) (ok__law_due X0 : FnOk P w K mg base (L2.CX P w) 1 X0.d__law_due.a X0.d__law_due.fd _ _) (hr.mono (by decide)) X0.d__law_due.gm X0.d__law_due.F.kp X0.d__law_due.B (ax_cons (ex_var 1) (ax_cons (ex_var 2) (ax_cons (ex_var 3) (ax_cons ex_str (ax_cons (ex_var 4) ax_nil))))))))
      (ssx_cons (sx_ife (tx_not (tx_val (ex_bor [false, true, true, true, true, true] (ex_call (K := K) (ok__law_matches X0 4 : FnOk P w K mg base (L2.CX P w) 4 X0.d__law_matches.a X0.d__law_matches.fd _ _) (hr.mono (by decide)) X0.d__law_matches.gm X0.d__law_matches.F.kp X0.d__law_matches.B (ax_cons (ex_lamS (K := K) (word := f__law_error_word) (okc := isM) (k := 6) X0.d__law_error.gm X0.d__law_error.F X0.d__law_error.B sc__law_error (fun cdv => err_gives rfl rfl rfl rfl rfl X0.b_MovesError.gm (by decide) (by decide) (isM_ok X0) (ok__law_error_word X0 : FnE P w K mg base 1 X0.d__law_error_word.a X0.d__law_error_word.fd _ _) X0.d__law_error_word.gm X0.d__law_error_word.F.kp X0.d__law_error_word.B) X0.l__law_wrong_right.TB X0.l__law_wrong_right.inT X0.l__law_wrong_right.one (hr.mono (by decide)) (by decide) (fun A outer s H E f c' hr => (ex_bor [false, true, true, true, true] (ex_call (K := K) (ok_nights_worth X0 : FnOk P w K mg base (L2.CX P w) 6 X0.d_nights_worth.a X0.d_nights_worth.fd _ _) (hr.mono (by decide)) X0.d_nights_worth.gm X0.d_nights_worth.F.kp X0.d_nights_worth.B (ax_cons (ex_var 1) (ax_cons (ex_var 2) (ax_cons (ex_var 3) (ax_cons (ex_var 4) ax_nil)))))))) (ax_cons (ex_var 5) ax_nil))))))
      (ssx_one (sx_ret ex_bl))
      ssx_nil)
      (ssx_cons (sx_set 5 sc__law_wrong_right.nd (ex_bor [false, true, true, true, true] (ex_call (K := K) (ok__law_due X0 : FnOk P w K mg base (L2.CX P w) 1 X0.d__law_due.a X0.d__law_due.fd _ _) (hr.mono (by decide)) X0.d__law_due.gm X0.d__law_due.F.kp X0.d__law_due.B (ax_cons (ex_var 1) (ax_cons (ex_var 2) (ax_cons (ex_var 3) (ax_cons ex_str (ax_cons (ex_var 4) ax_nil))))))))
      (ssx_cons (sx_ife (tx_not (tx_val (ex_bor [false, true, true, true, true, true] (ex_call (K := K) (ok__law_matches X0 4 : FnOk P w K mg base (L2.CX P w) 4 X0.d__law_matches.a X0.d__law_matches.fd _ _) (hr.mono (by decide)) X0.d__law_matches.gm X0.d__law_matches.F.kp X0.d__law_matches.B (ax_cons (ex_lamS (K := K) (word := f__law_error_word) (okc := isM) (k := 6) X0.d__law_error.gm X0.d__law_error.F X0.d__law_error.B sc__law_error (fun cdv => err_gives rfl rfl rfl rfl rfl X0.b_MovesError.gm (by decide) (by decide) (isM_ok X0) (ok__law_error_word X0 : FnE P w K mg base 1 X0.d__law_error_word.a X0.d__law_error_word.fd _ _) X0.d__law_error_word.gm X0.d__law_error_word.F.kp X0.d__law_error_word.B) X0.l__law_wrong_right.TB X0.l__law_wrong_right.inT X0.l__law_wrong_right.one (hr.mono (by decide)) (by decide) (fun A outer s H E f c' hr => (ex_bor [false, true, true, true, true] (ex_call (K := K) (ok_night_caps X0 : FnOk P w K mg base (L2.CX P w) 6 X0.d_night_caps.a X0.d_night_caps.fd _ _) (hr.mono (by decide)) X0.d_night_caps.gm X0.d_night_caps.F.kp X0.d_night_caps.B (ax_cons (ex_var 1) (ax_cons (ex_var 2) (ax_cons (ex_var 3) (ax_cons (ex_var 4) ax_nil)))))))) (ax_cons (ex_var 5) ax_nil))))))
      (ssx_one (sx_ret ex_bl))
      ssx_nil)
      (ssx_cons (sx_set 5 sc__law_wrong_right.nd (ex_bor [false, true, false, true, true] (ex_call (K := K) (ok__law_due X0 : FnOk P w K mg base (L2.CX P w) 1 X0.d__law_due.a X0.d__law_due.fd _ _) (hr.mono (by decide)) X0.d__law_due.gm X0.d__law_due.F.kp X0.d__law_due.B (ax_cons (ex_var 1) (ax_cons ex_int (ax_cons (ex_var 3) (ax_cons ex_str (ax_cons (ex_var 4) ax_nil))))))))
      (ssx_one (sx_ret (ex_bor [false, true, false, true, true, true] (ex_call (K := K) (ok__law_matches X0 4 : FnOk P w K mg base (L2.CX P w) 4 X0.d__law_matches.a X0.d__law_matches.fd _ _) (hr.mono (by decide)) X0.d__law_matches.gm X0.d__law_matches.F.kp X0.d__law_matches.B (ax_cons (ex_lamS (K := K) (word := f__law_error_word) (okc := isM) (k := 6) X0.d__law_error.gm X0.d__law_error.F X0.d__law_error.B sc__law_error (fun cdv => err_gives rfl rfl rfl rfl rfl X0.b_MovesError.gm (by decide) (by decide) (isM_ok X0) (ok__law_error_word X0 : FnE P w K mg base 1 X0.d__law_error_word.a X0.d__law_error_word.fd _ _) X0.d__law_error_word.gm X0.d__law_error_word.F.kp X0.d__law_error_word.B) X0.l__law_wrong_right.TB X0.l__law_wrong_right.inT X0.l__law_wrong_right.one (hr.mono (by decide)) (by decide) (fun A outer s H E f c' hr => (ex_bor [false, true, false, true, true] (ex_call (K := K) (ok_night_need X0 : FnOk P w K mg base (L2.CX P w) 6 X0.d_night_need.a X0.d_night_need.fd _ _) (hr.mono (by decide)) X0.d_night_need.gm X0.d_night_need.F.kp X0.d_night_need.B (ax_cons (ex_var 1) (ax_cons (ex_var 3) (ax_cons (ex_var 4) ax_nil))))))) (ax_cons (ex_var 5) ax_nil)))))))))))))))⟩
theorem ok_law : FnOk P w K mg base (L2.CX P w) 10 X0.d_law.a X0.d_law.fd ["script"] (spD ⟨K, C.C, C.T, C.E⟩ 1 false f_law) :=
  fn_d X0.d_law.F sc_law false 1 3 rfl rfl (by decide) fun cdv A outer s H E hr => ⟨_,
      (ssx_cons (sx_set 1 sc_law.nd (ex_bor [true] (ex_call (K := K) (ok__law_purse X0 : FnOk P w K mg base (L2.CX P w) 1 X0.d__law_purse.a X0.d__law_purse.fd _ _) (hr.mono (by decide)) X0.d__law_purse.gm X0.d__law_purse.F.kp X0.d__law_purse.B (ax_cons (ex_var 0) (ax_cons ex_int ax_nil)))))
      (ssx_cons (sx_for (passes_of rfl) (ix_r1 X0.z_range (ax_cons ex_int ax_nil)) (gx_name 2 sc_law.nd)
      (ssx_one (sx_ife (tx_not (tx_val (ex_callIO (K := K) 1 (ok__law_numbers_right X0 : FnOk P w K mg base (L2.CX P w) 7 X0.d__law_numbers_right.a X0.d__law_numbers_right.fd _ _) (hr.mono (by decide)) X0.d__law_numbers_right.gm X0.d__law_numbers_right.F.kp X0.d__law_numbers_right.B ax_nil)))
      (ssx_one (sx_ret ex_bl))
      ssx_nil)))
      (ssx_cons (sx_set 1 sc_law.nd (ex_bor [true] (ex_call (K := K) (ok__law_purse X0 : FnOk P w K mg base (L2.CX P w) 1 X0.d__law_purse.a X0.d__law_purse.fd _ _) (hr.mono (by decide)) X0.d__law_purse.gm X0.d__law_purse.F.kp X0.d__law_purse.B (ax_cons (ex_var 0) (ax_cons ex_int ax_nil)))))
      (ssx_cons (sx_for (passes_of rfl) (ix_r1 X0.z_range (ax_cons ex_int ax_nil)) (gx_name 2 sc_law.nd)
      (ssx_one (sx_ife (tx_not (tx_val (ex_callIO (K := K) 1 (ok__law_wrong_right X0 : FnOk P w K mg base (L2.CX P w) 9 X0.d__law_wrong_right.a X0.d__law_wrong_right.fd _ _) (hr.mono (by decide)) X0.d__law_wrong_right.gm X0.d__law_wrong_right.F.kp X0.d__law_wrong_right.B ax_nil)))
      (ssx_one (sx_ret ex_bl))
      ssx_nil)))
      (ssx_one (sx_ret ex_bl))))))⟩
end
/-- the plain law: what the text computes -/
def Plain : Prop := ∀ ns : List Int, ns.length ≤ 63 → ∃ s, f_law [.scr ns] = .ok (.bl true) s
set_option maxHeartbeats 0 in
theorem at_law (plain : Plain) {w : World} {K : PySem.W.Frag} {h : Heap} {mg : Str → Option Value} {fa : Addr} (X : K.In h) (G : h.Ns mainGlobals mg) (hfa : mg "law" = some (.ref fa))
    {B_MovesError : Addr}
    {E0 i0 : Addr} {nm0 q0 : Str} {N0 : Addr} {bs0 : List Value} {sn0 : List Str} {sub0 : List Value} {ab0 : Bool} {col0 : Option Bool} {dd0 : Option Addr} {m00 m10 m20 m30 m50 : Option Value}
    {oci0 kVi0 dci0 pmi0 cdi0 cti0 : Value} {odi0 ani0 : Option Addr} {sli0 : Array (Option Value)}
    {E1 i1 : Addr} {nm1 q1 : Str} {N1 : Addr} {bs1 : List Value} {sn1 : List Str} {sub1 : List Value} {ab1 : Bool} {col1 : Option Bool} {dd1 : Option Addr} {m01 m11 m21 m31 m51 : Option Value}
    {oci1 kVi1 dci1 pmi1 cdi1 cti1 : Value} {odi1 ani1 : Option Addr} {sli1 : Array (Option Value)}
    {E2 i2 : Addr} {nm2 q2 : Str} {N2 : Addr} {bs2 : List Value} {sn2 : List Str} {sub2 : List Value} {ab2 : Bool} {col2 : Option Bool} {dd2 : Option Addr} {m02 m12 m22 m32 m52 : Option Value}
    {oci2 kVi2 dci2 pmi2 cdi2 cti2 : Value} {odi2 ani2 : Option Addr} {sli2 : Array (Option Value)}
    {E3 i3 : Addr} {nm3 q3 : Str} {N3 : Addr} {bs3 : List Value} {sn3 : List Str} {sub3 : List Value} {ab3 : Bool} {col3 : Option Bool} {dd3 : Option Addr} {m03 m13 m23 m33 m53 : Option Value}
    {oci3 kVi3 dci3 pmi3 cdi3 cti3 : Value} {odi3 ani3 : Option Addr} {sli3 : Array (Option Value)}
    {f0 : Addr} {od0 an0 : Option Addr} {sl0 : Array (Option Value)} {oc0 kV0 dc0 pm0 ct0 : Value}{cd0 : Value}
    {f1 : Addr} {od1 an1 : Option Addr} {sl1 : Array (Option Value)} {oc1 kV1 dc1 pm1 ct1 : Value}{cd1 : Value}
    {f2 : Addr} {od2 an2 : Option Addr} {sl2 : Array (Option Value)} {oc2 kV2 dc2 pm2 ct2 : Value}{cd2 : Value}
    {f3 : Addr} {od3 an3 : Option Addr} {sl3 : Array (Option Value)} {oc3 kV3 dc3 pm3 ct3 : Value}{cd3 : Value}
    {f4 : Addr} {od4 an4 : Option Addr} {sl4 : Array (Option Value)} {oc4 kV4 dc4 pm4 ct4 : Value}{cd4 : Value}
    {f5 : Addr} {od5 an5 : Option Addr} {sl5 : Array (Option Value)} {oc5 kV5 dc5 pm5 ct5 : Value}{cd5 : Value}
    {f6 : Addr} {od6 an6 : Option Addr} {sl6 : Array (Option Value)} {oc6 kV6 dc6 pm6 ct6 : Value}{cd6 : Value}
    {f7 : Addr} {od7 an7 : Option Addr} {sl7 : Array (Option Value)} {oc7 kV7 dc7 pm7 ct7 : Value}{cd7 : Value}
    {f8 : Addr} {od8 an8 : Option Addr} {sl8 : Array (Option Value)} {oc8 kV8 dc8 pm8 ct8 : Value}{cd8 : Value}
    {f9 : Addr} {od9 an9 : Option Addr} {sl9 : Array (Option Value)} {oc9 kV9 dc9 pm9 ct9 : Value}{cd9 : Value}
    {f10 : Addr} {od10 an10 : Option Addr} {sl10 : Array (Option Value)} {oc10 kV10 dc10 pm10 ct10 : Value}{cd10 : Value}
    {f11 : Addr} {od11 an11 : Option Addr} {sl11 : Array (Option Value)} {oc11 kV11 dc11 pm11 ct11 : Value}{cd11 : Value}
    {f12 : Addr} {od12 an12 : Option Addr} {sl12 : Array (Option Value)} {oc12 kV12 dc12 pm12 ct12 : Value}{cd12 : Value}
    {f13 : Addr} {od13 an13 : Option Addr} {sl13 : Array (Option Value)} {oc13 kV13 dc13 pm13 ct13 : Value}{cd13 : Value}
    {f14 : Addr} {od14 an14 : Option Addr} {sl14 : Array (Option Value)} {oc14 kV14 dc14 pm14 ct14 : Value}{cd14 : Value}
    {f15 : Addr} {od15 an15 : Option Addr} {sl15 : Array (Option Value)} {oc15 kV15 dc15 pm15 ct15 : Value}{cd15 : Value}
    {f16 : Addr} {od16 an16 : Option Addr} {sl16 : Array (Option Value)} {oc16 kV16 dc16 pm16 ct16 : Value}{cd16 : Value}
    {f17 : Addr} {od17 an17 : Option Addr} {sl17 : Array (Option Value)} {oc17 kV17 dc17 pm17 ct17 : Value}{cd17 : Value}
    {f18 : Addr} {od18 an18 : Option Addr} {sl18 : Array (Option Value)} {oc18 kV18 dc18 pm18 ct18 : Value}{cc18 : Addr}
    {tb18 : Addr} {oct18 : Value} {odt18 : Option Addr} {vst18 : Array Value} {slt18 : Array (Option Value)}
    {f19 : Addr} {od19 an19 : Option Addr} {sl19 : Array (Option Value)} {oc19 kV19 dc19 pm19 ct19 : Value}{cd19 : Value}
    {f20 : Addr} {od20 an20 : Option Addr} {sl20 : Array (Option Value)} {oc20 kV20 dc20 pm20 ct20 : Value}{cd20 : Value}
    {tk_DAYS : Tok}
    {tk_FREE : Tok}
    {tk_NIGHT_MOVES : Tok}
    {tk_STACKS : Tok}
    (g_MovesError : PySem.W.nsIn K mainGlobals "MovesError" = some (some (.ref B_MovesError)))
    (vr_MovesError : PySem.W.readsIn K B_MovesError (.type "type") = true)
    (vg_MovesError : PySem.W.specialIn K (.ref B_MovesError) "__getattribute__" = some (some (.builtin "type.__getattribute__")))
    (va_MovesError : PySem.W.findCls K (.ref B_MovesError) (.type "type") "__init__" = some (.val (.builtin "ValueError.__init__")))
    (e_get : PySem.W.specialIn K (.builtin "object.__class__") "__get__" = some (some (.builtin "getset_descriptor.__get__")))
    (e_tk : PySem.W.takesIn K (.builtin "object.__class__") = some true)
    (gE0 : PySem.W.nsIn K mainGlobals "TooMany" = some (some (.ref E0)))
    (xL0 : K.lookup E0 = some (excClassObj nm0 q0 E0 N0 bs0 [.ref B_MovesError, .type "ValueError", .type "Exception", .type "BaseException", .type "object"] true sn0 sub0 ab0 col0 dd0 m00 m10 m20 m30 m50 "ValueError.__new__"))
    (sa0 : PySem.W.findIn K (.ref E0) "__setattr__" = some (some (.builtin "object.__setattr__")))
    (ga0 : PySem.W.findIn K (.ref E0) "__getattribute__" = some (some (.builtin "BaseException.__getattribute__")))
    (gg0 : PySem.W.findIn K (.ref E0) "__getattr__" = some none)
    (gc0 : PySem.W.findIn K (.ref E0) "__class__" = some (some (.builtin "object.__class__")))
    (nf_what_0 : PySem.W.findIn K (.ref E0) "what" = some none)
    (ii0 : PySem.W.findIn K (.ref E0) "__init__" = some (some (.ref i0)))
    (it0 : PySem.W.typeIn K (.ref i0) = some (.type "function"))
    (il0 : K.lookup i0 = some ⟨oci0, odi0, .func (PySem.W.fnOf "__init__" "TooMany.__init__" (defArgs si_TooMany) (defBody si_TooMany) (defScope si_TooMany) .none kVi0 dci0 pmi0 ani0 cdi0 cti0), sli0⟩)
    (ic0 : PySem.W.codeIn K cdi0 "TooMany.__init__" = true)
    (ik0 : PySem.W.keepIn K (.ref i0) = true)
    (kC0 : PySem.W.keepIn K (.ref E0) = true)
    (eC0 : PySem.W.subIn K (.ref E0) (.type "BaseException") = some true)
    (tC0 : PySem.W.typeIn K (.ref E0) = some (.type "type"))
    (hC0 : PySem.W.hasDictIn K E0 = true)
    (mC0 : PySem.W.mroIn K E0 (.type "object") = some true)
    (gE1 : PySem.W.nsIn K mainGlobals "BadRoom" = some (some (.ref E1)))
    (xL1 : K.lookup E1 = some (excClassObj nm1 q1 E1 N1 bs1 [.ref B_MovesError, .type "ValueError", .type "Exception", .type "BaseException", .type "object"] true sn1 sub1 ab1 col1 dd1 m01 m11 m21 m31 m51 "ValueError.__new__"))
    (sa1 : PySem.W.findIn K (.ref E1) "__setattr__" = some (some (.builtin "object.__setattr__")))
    (ga1 : PySem.W.findIn K (.ref E1) "__getattribute__" = some (some (.builtin "BaseException.__getattribute__")))
    (gg1 : PySem.W.findIn K (.ref E1) "__getattr__" = some none)
    (gc1 : PySem.W.findIn K (.ref E1) "__class__" = some (some (.builtin "object.__class__")))
    (nf_what_1 : PySem.W.findIn K (.ref E1) "what" = some none)
    (ii1 : PySem.W.findIn K (.ref E1) "__init__" = some (some (.ref i1)))
    (it1 : PySem.W.typeIn K (.ref i1) = some (.type "function"))
    (il1 : K.lookup i1 = some ⟨oci1, odi1, .func (PySem.W.fnOf "__init__" "BadRoom.__init__" (defArgs si_BadRoom) (defBody si_BadRoom) (defScope si_BadRoom) .none kVi1 dci1 pmi1 ani1 cdi1 cti1), sli1⟩)
    (ic1 : PySem.W.codeIn K cdi1 "BadRoom.__init__" = true)
    (ik1 : PySem.W.keepIn K (.ref i1) = true)
    (kC1 : PySem.W.keepIn K (.ref E1) = true)
    (eC1 : PySem.W.subIn K (.ref E1) (.type "BaseException") = some true)
    (tC1 : PySem.W.typeIn K (.ref E1) = some (.type "type"))
    (hC1 : PySem.W.hasDictIn K E1 = true)
    (mC1 : PySem.W.mroIn K E1 (.type "object") = some true)
    (gE2 : PySem.W.nsIn K mainGlobals "BadCourse" = some (some (.ref E2)))
    (xL2 : K.lookup E2 = some (excClassObj nm2 q2 E2 N2 bs2 [.ref B_MovesError, .type "ValueError", .type "Exception", .type "BaseException", .type "object"] true sn2 sub2 ab2 col2 dd2 m02 m12 m22 m32 m52 "ValueError.__new__"))
    (sa2 : PySem.W.findIn K (.ref E2) "__setattr__" = some (some (.builtin "object.__setattr__")))
    (ga2 : PySem.W.findIn K (.ref E2) "__getattribute__" = some (some (.builtin "BaseException.__getattribute__")))
    (gg2 : PySem.W.findIn K (.ref E2) "__getattr__" = some none)
    (gc2 : PySem.W.findIn K (.ref E2) "__class__" = some (some (.builtin "object.__class__")))
    (nf_what_2 : PySem.W.findIn K (.ref E2) "what" = some none)
    (ii2 : PySem.W.findIn K (.ref E2) "__init__" = some (some (.ref i2)))
    (it2 : PySem.W.typeIn K (.ref i2) = some (.type "function"))
    (il2 : K.lookup i2 = some ⟨oci2, odi2, .func (PySem.W.fnOf "__init__" "BadCourse.__init__" (defArgs si_BadCourse) (defBody si_BadCourse) (defScope si_BadCourse) .none kVi2 dci2 pmi2 ani2 cdi2 cti2), sli2⟩)
    (ic2 : PySem.W.codeIn K cdi2 "BadCourse.__init__" = true)
    (ik2 : PySem.W.keepIn K (.ref i2) = true)
    (kC2 : PySem.W.keepIn K (.ref E2) = true)
    (eC2 : PySem.W.subIn K (.ref E2) (.type "BaseException") = some true)
    (tC2 : PySem.W.typeIn K (.ref E2) = some (.type "type"))
    (hC2 : PySem.W.hasDictIn K E2 = true)
    (mC2 : PySem.W.mroIn K E2 (.type "object") = some true)
    (gE3 : PySem.W.nsIn K mainGlobals "BadNumbers" = some (some (.ref E3)))
    (xL3 : K.lookup E3 = some (excClassObj nm3 q3 E3 N3 bs3 [.ref B_MovesError, .type "ValueError", .type "Exception", .type "BaseException", .type "object"] true sn3 sub3 ab3 col3 dd3 m03 m13 m23 m33 m53 "ValueError.__new__"))
    (sa3 : PySem.W.findIn K (.ref E3) "__setattr__" = some (some (.builtin "object.__setattr__")))
    (ga3 : PySem.W.findIn K (.ref E3) "__getattribute__" = some (some (.builtin "BaseException.__getattribute__")))
    (gg3 : PySem.W.findIn K (.ref E3) "__getattr__" = some none)
    (gc3 : PySem.W.findIn K (.ref E3) "__class__" = some (some (.builtin "object.__class__")))
    (nf_what_3 : PySem.W.findIn K (.ref E3) "what" = some none)
    (ii3 : PySem.W.findIn K (.ref E3) "__init__" = some (some (.ref i3)))
    (it3 : PySem.W.typeIn K (.ref i3) = some (.type "function"))
    (il3 : K.lookup i3 = some ⟨oci3, odi3, .func (PySem.W.fnOf "__init__" "BadNumbers.__init__" (defArgs si_BadNumbers) (defBody si_BadNumbers) (defScope si_BadNumbers) .none kVi3 dci3 pmi3 ani3 cdi3 cti3), sli3⟩)
    (ic3 : PySem.W.codeIn K cdi3 "BadNumbers.__init__" = true)
    (ik3 : PySem.W.keepIn K (.ref i3) = true)
    (kC3 : PySem.W.keepIn K (.ref E3) = true)
    (eC3 : PySem.W.subIn K (.ref E3) (.type "BaseException") = some true)
    (tC3 : PySem.W.typeIn K (.ref E3) = some (.type "type"))
    (hC3 : PySem.W.hasDictIn K E3 = true)
    (mC3 : PySem.W.mroIn K E3 (.type "object") = some true)
    (j_0_BadCourse : PySem.W.kitOne K (.ref E0) (.ref E2) = some false)
    (j_1_BadCourse : PySem.W.kitOne K (.ref E1) (.ref E2) = some false)
    (j_2_BadCourse : PySem.W.kitOne K (.ref E2) (.ref E2) = some true)
    (j_3_BadCourse : PySem.W.kitOne K (.ref E3) (.ref E2) = some false)
    (j_0_BadNumbers : PySem.W.kitOne K (.ref E0) (.ref E3) = some false)
    (j_1_BadNumbers : PySem.W.kitOne K (.ref E1) (.ref E3) = some false)
    (j_2_BadNumbers : PySem.W.kitOne K (.ref E2) (.ref E3) = some false)
    (j_3_BadNumbers : PySem.W.kitOne K (.ref E3) (.ref E3) = some true)
    (j_0_BadRoom : PySem.W.kitOne K (.ref E0) (.ref E1) = some false)
    (j_1_BadRoom : PySem.W.kitOne K (.ref E1) (.ref E1) = some true)
    (j_2_BadRoom : PySem.W.kitOne K (.ref E2) (.ref E1) = some false)
    (j_3_BadRoom : PySem.W.kitOne K (.ref E3) (.ref E1) = some false)
    (j_0_TooMany : PySem.W.kitOne K (.ref E0) (.ref E0) = some true)
    (j_1_TooMany : PySem.W.kitOne K (.ref E1) (.ref E0) = some false)
    (j_2_TooMany : PySem.W.kitOne K (.ref E2) (.ref E0) = some false)
    (j_3_TooMany : PySem.W.kitOne K (.ref E3) (.ref E0) = some false)
    (me : PySem.W.subIn K (.ref B_MovesError) (.type "BaseException") = some true)
    (mh : PySem.W.hasDictIn K B_MovesError = true)
    (mt : PySem.W.typeIn K (.ref B_MovesError) = some (.type "type"))
    (ms0 : PySem.W.subIn K (.ref E0) (.ref B_MovesError) = some true)
    (ms1 : PySem.W.subIn K (.ref E1) (.ref B_MovesError) = some true)
    (ms2 : PySem.W.subIn K (.ref E2) (.ref B_MovesError) = some true)
    (ms3 : PySem.W.subIn K (.ref E3) (.ref B_MovesError) = some true)
    (a0 : PySem.W.nsIn K mainGlobals "_law_purse" = some (some (.ref f0)))
    (l0 : K.lookup f0 = some ⟨oc0, od0, .func (PySem.W.fnOf "_law_purse" "_law_purse" (defArgs s__law_purse) (defBody s__law_purse) (defScope s__law_purse) .none kV0 dc0 pm0 an0 cd0 ct0), sl0⟩)
    (c0 : PySem.W.codeIn K cd0 "_law_purse" = true)
    (k0 : PySem.W.keepIn K (.ref f0) = true)
    (a1 : PySem.W.nsIn K mainGlobals "_law_sums" = some (some (.ref f1)))
    (l1 : K.lookup f1 = some ⟨oc1, od1, .func (PySem.W.fnOf "_law_sums" "_law_sums" (defArgs s__law_sums) (defBody s__law_sums) (defScope s__law_sums) .none kV1 dc1 pm1 an1 cd1 ct1), sl1⟩)
    (c1 : PySem.W.codeIn K cd1 "_law_sums" = true)
    (k1 : PySem.W.keepIn K (.ref f1) = true)
    (a2 : PySem.W.nsIn K mainGlobals "_law_draw" = some (some (.ref f2)))
    (l2 : K.lookup f2 = some ⟨oc2, od2, .func (PySem.W.fnOf "_law_draw" "_law_draw" (defArgs s__law_draw) (defBody s__law_draw) (defScope s__law_draw) .none kV2 dc2 pm2 an2 cd2 ct2), sl2⟩)
    (c2 : PySem.W.codeIn K cd2 "_law_draw" = true)
    (k2 : PySem.W.keepIn K (.ref f2) = true)
    (a3 : PySem.W.nsIn K mainGlobals "_law_size" = some (some (.ref f3)))
    (l3 : K.lookup f3 = some ⟨oc3, od3, .func (PySem.W.fnOf "_law_size" "_law_size" (defArgs s__law_size) (defBody s__law_size) (defScope s__law_size) .none kV3 dc3 pm3 an3 cd3 ct3), sl3⟩)
    (c3 : PySem.W.codeIn K cd3 "_law_size" = true)
    (k3 : PySem.W.keepIn K (.ref f3) = true)
    (a4 : PySem.W.nsIn K mainGlobals "check_most" = some (some (.ref f4)))
    (l4 : K.lookup f4 = some ⟨oc4, od4, .func (PySem.W.fnOf "check_most" "check_most" (defArgs s_check_most) (defBody s_check_most) (defScope s_check_most) .none kV4 dc4 pm4 an4 cd4 ct4), sl4⟩)
    (c4 : PySem.W.codeIn K cd4 "check_most" = true)
    (k4 : PySem.W.keepIn K (.ref f4) = true)
    (a5 : PySem.W.nsIn K mainGlobals "check_bounds" = some (some (.ref f5)))
    (l5 : K.lookup f5 = some ⟨oc5, od5, .func (PySem.W.fnOf "check_bounds" "check_bounds" (defArgs s_check_bounds) (defBody s_check_bounds) (defScope s_check_bounds) .none kV5 dc5 pm5 an5 cd5 ct5), sl5⟩)
    (c5 : PySem.W.codeIn K cd5 "check_bounds" = true)
    (k5 : PySem.W.keepIn K (.ref f5) = true)
    (a6 : PySem.W.nsIn K mainGlobals "check_days" = some (some (.ref f6)))
    (l6 : K.lookup f6 = some ⟨oc6, od6, .func (PySem.W.fnOf "check_days" "check_days" (defArgs s_check_days) (defBody s_check_days) (defScope s_check_days) .none kV6 dc6 pm6 an6 cd6 ct6), sl6⟩)
    (c6 : PySem.W.codeIn K cd6 "check_days" = true)
    (k6 : PySem.W.keepIn K (.ref f6) = true)
    (a7 : PySem.W.nsIn K mainGlobals "check_numbers" = some (some (.ref f7)))
    (l7 : K.lookup f7 = some ⟨oc7, od7, .func (PySem.W.fnOf "check_numbers" "check_numbers" (defArgs s_check_numbers) (defBody s_check_numbers) (defScope s_check_numbers) .none kV7 dc7 pm7 an7 cd7 ct7), sl7⟩)
    (c7 : PySem.W.codeIn K cd7 "check_numbers" = true)
    (k7 : PySem.W.keepIn K (.ref f7) = true)
    (a8 : PySem.W.nsIn K mainGlobals "powers" = some (some (.ref f8)))
    (l8 : K.lookup f8 = some ⟨oc8, od8, .func (PySem.W.fnOf "powers" "powers" (defArgs s_powers) (defBody s_powers) (defScope s_powers) .none kV8 dc8 pm8 an8 cd8 ct8), sl8⟩)
    (c8 : PySem.W.codeIn K cd8 "powers" = true)
    (k8 : PySem.W.keepIn K (.ref f8) = true)
    (a9 : PySem.W.nsIn K mainGlobals "nights_worth" = some (some (.ref f9)))
    (l9 : K.lookup f9 = some ⟨oc9, od9, .func (PySem.W.fnOf "nights_worth" "nights_worth" (defArgs s_nights_worth) (defBody s_nights_worth) (defScope s_nights_worth) .none kV9 dc9 pm9 an9 cd9 ct9), sl9⟩)
    (c9 : PySem.W.codeIn K cd9 "nights_worth" = true)
    (k9 : PySem.W.keepIn K (.ref f9) = true)
    (a10 : PySem.W.nsIn K mainGlobals "_law_matches" = some (some (.ref f10)))
    (l10 : K.lookup f10 = some ⟨oc10, od10, .func (PySem.W.fnOf "_law_matches" "_law_matches" (defArgs s__law_matches) (defBody s__law_matches) (defScope s__law_matches) .none kV10 dc10 pm10 an10 cd10 ct10), sl10⟩)
    (c10 : PySem.W.codeIn K cd10 "_law_matches" = true)
    (k10 : PySem.W.keepIn K (.ref f10) = true)
    (a11 : PySem.W.nsIn K mainGlobals "night_need" = some (some (.ref f11)))
    (l11 : K.lookup f11 = some ⟨oc11, od11, .func (PySem.W.fnOf "night_need" "night_need" (defArgs s_night_need) (defBody s_night_need) (defScope s_night_need) .none kV11 dc11 pm11 an11 cd11 ct11), sl11⟩)
    (c11 : PySem.W.codeIn K cd11 "night_need" = true)
    (k11 : PySem.W.keepIn K (.ref f11) = true)
    (a12 : PySem.W.nsIn K mainGlobals "caps_of" = some (some (.ref f12)))
    (l12 : K.lookup f12 = some ⟨oc12, od12, .func (PySem.W.fnOf "caps_of" "caps_of" (defArgs s_caps_of) (defBody s_caps_of) (defScope s_caps_of) .none kV12 dc12 pm12 an12 cd12 ct12), sl12⟩)
    (c12 : PySem.W.codeIn K cd12 "caps_of" = true)
    (k12 : PySem.W.keepIn K (.ref f12) = true)
    (a13 : PySem.W.nsIn K mainGlobals "night_caps" = some (some (.ref f13)))
    (l13 : K.lookup f13 = some ⟨oc13, od13, .func (PySem.W.fnOf "night_caps" "night_caps" (defArgs s_night_caps) (defBody s_night_caps) (defScope s_night_caps) .none kV13 dc13 pm13 an13 cd13 ct13), sl13⟩)
    (c13 : PySem.W.codeIn K cd13 "night_caps" = true)
    (k13 : PySem.W.keepIn K (.ref f13) = true)
    (a14 : PySem.W.nsIn K mainGlobals "_law_numbers_right" = some (some (.ref f14)))
    (l14 : K.lookup f14 = some ⟨oc14, od14, .func (PySem.W.fnOf "_law_numbers_right" "_law_numbers_right" (defArgs s__law_numbers_right) (defBody s__law_numbers_right) (defScope s__law_numbers_right) .none kV14 dc14 pm14 an14 cd14 ct14), sl14⟩)
    (c14 : PySem.W.codeIn K cd14 "_law_numbers_right" = true)
    (k14 : PySem.W.keepIn K (.ref f14) = true)
    (a15 : PySem.W.nsIn K mainGlobals "_law_pick" = some (some (.ref f15)))
    (l15 : K.lookup f15 = some ⟨oc15, od15, .func (PySem.W.fnOf "_law_pick" "_law_pick" (defArgs s__law_pick) (defBody s__law_pick) (defScope s__law_pick) .none kV15 dc15 pm15 an15 cd15 ct15), sl15⟩)
    (c15 : PySem.W.codeIn K cd15 "_law_pick" = true)
    (k15 : PySem.W.keepIn K (.ref f15) = true)
    (a16 : PySem.W.nsIn K mainGlobals "_law_due" = some (some (.ref f16)))
    (l16 : K.lookup f16 = some ⟨oc16, od16, .func (PySem.W.fnOf "_law_due" "_law_due" (defArgs s__law_due) (defBody s__law_due) (defScope s__law_due) .none kV16 dc16 pm16 an16 cd16 ct16), sl16⟩)
    (c16 : PySem.W.codeIn K cd16 "_law_due" = true)
    (k16 : PySem.W.keepIn K (.ref f16) = true)
    (a17 : PySem.W.nsIn K mainGlobals "_law_error_word" = some (some (.ref f17)))
    (l17 : K.lookup f17 = some ⟨oc17, od17, .func (PySem.W.fnOf "_law_error_word" "_law_error_word" (defArgs s__law_error_word) (defBody s__law_error_word) (defScope s__law_error_word) .none kV17 dc17 pm17 an17 cd17 ct17), sl17⟩)
    (c17 : PySem.W.codeIn K cd17 "_law_error_word" = true)
    (k17 : PySem.W.keepIn K (.ref f17) = true)
    (a18 : PySem.W.nsIn K mainGlobals "_law_wrong_right" = some (some (.ref f18)))
    (l18 : K.lookup f18 = some ⟨oc18, od18, .func (PySem.W.fnOf "_law_wrong_right" "_law_wrong_right" (defArgs s__law_wrong_right) (defBody s__law_wrong_right) (defScope s__law_wrong_right) .none kV18 dc18 pm18 an18 (.ref cc18) ct18), sl18⟩)
    (c18 : PySem.W.codeIn K (.ref cc18) "_law_wrong_right" = true)
    (k18 : PySem.W.keepIn K (.ref f18) = true)
    (lc18 : K.lookup cc18 = some ⟨oct18, odt18, .fields vst18, slt18⟩)
    (hp18 : vst18[11]? = some (.ref tb18))
    (ch18 : PySem.W.codeHdIn K cc18 tb18 = true)
    (tt18 : h.get? tb18 = some { cls := .none, data := .fields #[] })
    (nk18 : K.lookup tb18 = none)
    (a19 : PySem.W.nsIn K mainGlobals "law" = some (some (.ref f19)))
    (l19 : K.lookup f19 = some ⟨oc19, od19, .func (PySem.W.fnOf "law" "law" (defArgs s_law) (defBody s_law) (defScope s_law) .none kV19 dc19 pm19 an19 cd19 ct19), sl19⟩)
    (c19 : PySem.W.codeIn K cd19 "law" = true)
    (k19 : PySem.W.keepIn K (.ref f19) = true)
    (a20 : PySem.W.nsIn K mainGlobals "_law_error" = some (some (.ref f20)))
    (l20 : K.lookup f20 = some ⟨oc20, od20, .func (PySem.W.fnOf "_law_error" "_law_error" (defArgs s__law_error) (defBody s__law_error) (defScope s__law_error) .none kV20 dc20 pm20 an20 cd20 ct20), sl20⟩)
    (c20 : PySem.W.codeIn K cd20 "_law_error" = true)
    (k20 : PySem.W.keepIn K (.ref f20) = true)
    (z_abs : PySem.W.nsIn K mainGlobals "abs" = some none)
    (z_bool : PySem.W.nsIn K mainGlobals "bool" = some none)
    (z_int : PySem.W.nsIn K mainGlobals "int" = some none)
    (z_isinstance : PySem.W.nsIn K mainGlobals "isinstance" = some none)
    (z_len : PySem.W.nsIn K mainGlobals "len" = some none)
    (z_list : PySem.W.nsIn K mainGlobals "list" = some none)
    (z_min : PySem.W.nsIn K mainGlobals "min" = some none)
    (z_range : PySem.W.nsIn K mainGlobals "range" = some none)
    (z_str : PySem.W.nsIn K mainGlobals "str" = some none)
    (z_sum : PySem.W.nsIn K mainGlobals "sum" = some none)
    (z_tuple : PySem.W.nsIn K mainGlobals "tuple" = some none)
    (y_DAYS : PySem.W.nsIn K mainGlobals "DAYS" = some (some (.int k_DAYS tk_DAYS)))
    (y_FREE : PySem.W.nsIn K mainGlobals "FREE" = some (some (.int k_FREE tk_FREE)))
    (y_NIGHT_MOVES : PySem.W.nsIn K mainGlobals "NIGHT_MOVES" = some (some (.int k_NIGHT_MOVES tk_NIGHT_MOVES)))
    (y_STACKS : PySem.W.nsIn K mainGlobals "STACKS" = some (some (.int k_STACKS tk_STACKS))) :
    LamX.LawAtS PySem.Challenge.rw_withinmoves_k34_numbers_of_nights w K (L2.CX PySem.Challenge.rw_withinmoves_k34_numbers_of_nights.prog w) 10 63 "script" mg fa h := by
  have e : f19 = fa := (Value.ref.inj (Option.some.inj (hfa.symm.trans (PySem.W.mg_of X G a19)))).symm
  subst e
  refine ⟨PySem.W.fnOf "law" "law" (defArgs s_law) (defBody s_law) (defScope s_law) .none kV19 dc19 pm19 an19 cd19 ct19, [(cc18, tb18)], spD ⟨K, (fun c => match c with | 0 => E0 | 1 => E1 | 2 => E2 | 3 => E3 | _ => 0), [(tb18, "_law_wrong_right" ++ ".<locals>." ++ ("<lambda>" : Str))], fun _ _ _ => False⟩ 1 false f_law, ?_, ?_, ?_, fun s u => .of_eq rfl, ?_, ?_⟩
  · intro p hp; simp only [List.mem_cons, List.not_mem_nil, or_false] at hp; rcases hp with rfl <;> assumption
  · intro p hp; simp only [List.mem_cons, List.not_mem_nil, or_false] at hp; rcases hp with rfl <;> assumption
  · intro p hp; simp only [List.mem_cons, List.not_mem_nil, or_false] at hp; rcases hp with rfl <;> exact PySem.W.codeHd_of_K X (by assumption)
  · intro H a ns hl hb hT hS
    refine law_sp (plain ns hl) (tabs_nil fun p hp => ?_) hS
    simp only [List.mem_cons, List.not_mem_nil, or_false] at hp
    rcases hp with rfl
    · exact hT (cc18, tb18) (by simp)
  · intro base Kb Nb TB
    let X0 : Tx K mg base ⟨(fun c => match c with | 0 => E0 | 1 => E1 | 2 => E2 | 3 => E3 | _ => 0), [(tb18, "_law_wrong_right" ++ ".<locals>." ++ ("<lambda>" : Str))], fun _ _ _ => False⟩ := {
      M_MovesError := B_MovesError,
      b_MovesError := ⟨PySem.W.mg_of X G g_MovesError, ⟨vr_MovesError, vg_MovesError, va_MovesError⟩⟩,
      x_TooMany := ⟨⟨⟨nm0, q0, N0, bs0, _, sn0, sub0, ab0, col0, dd0, m00, m10, m20, m30, m50, xL0, rfl⟩, sa0, eC0, tC0, kC0⟩, PySem.W.mg_of X G gE0, ⟨i0, _, ii0, it0, fun_mk (st := si_TooMany) il0 ic0 ik0, (fun_mk (st := si_TooMany) il0 ic0 ik0).binds (ps := ["self", "what"]) fun _ _ _ _ _ _ us hl => match us, hl with | [_, _], _ => rfl⟩, (fun f hf => by simp only [List.mem_cons, List.not_mem_nil, or_false] at hf; rcases hf with rfl <;> assumption), ec_mk ga0 gg0 eC0 hC0 gc0 e_get e_tk mC0⟩,
      x_BadRoom := ⟨⟨⟨nm1, q1, N1, bs1, _, sn1, sub1, ab1, col1, dd1, m01, m11, m21, m31, m51, xL1, rfl⟩, sa1, eC1, tC1, kC1⟩, PySem.W.mg_of X G gE1, ⟨i1, _, ii1, it1, fun_mk (st := si_BadRoom) il1 ic1 ik1, (fun_mk (st := si_BadRoom) il1 ic1 ik1).binds (ps := ["self", "what"]) fun _ _ _ _ _ _ us hl => match us, hl with | [_, _], _ => rfl⟩, (fun f hf => by simp only [List.mem_cons, List.not_mem_nil, or_false] at hf; rcases hf with rfl <;> assumption), ec_mk ga1 gg1 eC1 hC1 gc1 e_get e_tk mC1⟩,
      x_BadCourse := ⟨⟨⟨nm2, q2, N2, bs2, _, sn2, sub2, ab2, col2, dd2, m02, m12, m22, m32, m52, xL2, rfl⟩, sa2, eC2, tC2, kC2⟩, PySem.W.mg_of X G gE2, ⟨i2, _, ii2, it2, fun_mk (st := si_BadCourse) il2 ic2 ik2, (fun_mk (st := si_BadCourse) il2 ic2 ik2).binds (ps := ["self", "what"]) fun _ _ _ _ _ _ us hl => match us, hl with | [_, _], _ => rfl⟩, (fun f hf => by simp only [List.mem_cons, List.not_mem_nil, or_false] at hf; rcases hf with rfl <;> assumption), ec_mk ga2 gg2 eC2 hC2 gc2 e_get e_tk mC2⟩,
      x_BadNumbers := ⟨⟨⟨nm3, q3, N3, bs3, _, sn3, sub3, ab3, col3, dd3, m03, m13, m23, m33, m53, xL3, rfl⟩, sa3, eC3, tC3, kC3⟩, PySem.W.mg_of X G gE3, ⟨i3, _, ii3, it3, fun_mk (st := si_BadNumbers) il3 ic3 ik3, (fun_mk (st := si_BadNumbers) il3 ic3 ik3).binds (ps := ["self", "what"]) fun _ _ _ _ _ _ us hl => match us, hl with | [_, _], _ => rfl⟩, (fun f hf => by simp only [List.mem_cons, List.not_mem_nil, or_false] at hf; rcases hf with rfl <;> assumption), ec_mk ga3 gg3 eC3 hC3 gc3 e_get e_tk mC3⟩,
      i_0_BadCourse := j_0_BadCourse,
      i_1_BadCourse := j_1_BadCourse,
      i_2_BadCourse := j_2_BadCourse,
      i_3_BadCourse := j_3_BadCourse,
      i_0_BadNumbers := j_0_BadNumbers,
      i_1_BadNumbers := j_1_BadNumbers,
      i_2_BadNumbers := j_2_BadNumbers,
      i_3_BadNumbers := j_3_BadNumbers,
      i_0_BadRoom := j_0_BadRoom,
      i_1_BadRoom := j_1_BadRoom,
      i_2_BadRoom := j_2_BadRoom,
      i_3_BadRoom := j_3_BadRoom,
      i_0_TooMany := j_0_TooMany,
      i_1_TooMany := j_1_TooMany,
      i_2_TooMany := j_2_TooMany,
      i_3_TooMany := j_3_TooMany,
      m_0 := exm_of me mh mt ms0,
      m_1 := exm_of me mh mt ms1,
      m_2 := exm_of me mh mt ms2,
      m_3 := exm_of me mh mt ms3,
      d__law_purse := ⟨f0, _, fun_mk (st := s__law_purse) l0 c0 k0, PySem.W.mg_of X G a0, (fun_mk (st := s__law_purse) l0 c0 k0).binds (ps := ["script", "at"]) fun _ _ _ _ _ _ us hl => match us, hl with | [_, _], _ => rfl⟩,
      d__law_sums := ⟨f1, _, fun_mk (st := s__law_sums) l1 c1 k1, PySem.W.mg_of X G a1, (fun_mk (st := s__law_sums) l1 c1 k1).binds (ps := ["stacks", "orders"]) fun _ _ _ _ _ _ us hl => match us, hl with | [_, _], _ => rfl⟩,
      d__law_draw := ⟨f2, _, fun_mk (st := s__law_draw) l2 c2 k2, PySem.W.mg_of X G a2, (fun_mk (st := s__law_draw) l2 c2 k2).binds (ps := ["purse", "many"]) fun _ _ _ _ _ _ us hl => match us, hl with | [_, _], _ => rfl⟩,
      d__law_size := ⟨f3, _, fun_mk (st := s__law_size) l3 c3 k3, PySem.W.mg_of X G a3, (fun_mk (st := s__law_size) l3 c3 k3).binds (ps := ["purse", "most"]) fun _ _ _ _ _ _ us hl => match us, hl with | [_, _], _ => rfl⟩,
      d_check_most := ⟨f4, _, fun_mk (st := s_check_most) l4 c4 k4, PySem.W.mg_of X G a4, (fun_mk (st := s_check_most) l4 c4 k4).binds (ps := ["what", "number", "most"]) fun _ _ _ _ _ _ us hl => match us, hl with | [_, _, _], _ => rfl⟩,
      d_check_bounds := ⟨f5, _, fun_mk (st := s_check_bounds) l5 c5 k5, PySem.W.mg_of X G a5, (fun_mk (st := s_check_bounds) l5 c5 k5).binds (ps := ["stacks", "m", "orders", "number"]) fun _ _ _ _ _ _ us hl => match us, hl with | [_, _, _, _], _ => rfl⟩,
      d_check_days := ⟨f6, _, fun_mk (st := s_check_days) l6 c6 k6, PySem.W.mg_of X G a6, (fun_mk (st := s_check_days) l6 c6 k6).binds (ps := ["m", "orders", "what", "number"]) fun _ _ _ _ _ _ us hl => match us, hl with | [_, _, _, _], _ => rfl⟩,
      d_check_numbers := ⟨f7, _, fun_mk (st := s_check_numbers) l7 c7 k7, PySem.W.mg_of X G a7, (fun_mk (st := s_check_numbers) l7 c7 k7).binds (ps := ["stacks", "m", "orders", "what", "number"]) fun _ _ _ _ _ _ us hl => match us, hl with | [_, _, _, _, _], _ => rfl⟩,
      d_powers := ⟨f8, _, fun_mk (st := s_powers) l8 c8 k8, PySem.W.mg_of X G a8, (fun_mk (st := s_powers) l8 c8 k8).binds (ps := ["others", "many"]) fun _ _ _ _ _ _ us hl => match us, hl with | [_, _], _ => rfl⟩,
      d_nights_worth := ⟨f9, _, fun_mk (st := s_nights_worth) l9 c9 k9, PySem.W.mg_of X G a9, (fun_mk (st := s_nights_worth) l9 c9 k9).binds (ps := ["stacks", "m", "orders", "free"]) fun _ _ _ _ _ _ us hl => match us, hl with | [_, _, _, _], _ => rfl⟩,
      d__law_matches := ⟨f10, _, fun_mk (st := s__law_matches) l10 c10 k10, PySem.W.mg_of X G a10, (fun_mk (st := s__law_matches) l10 c10 k10).binds (ps := ["answer", "due"]) fun _ _ _ _ _ _ us hl => match us, hl with | [_, _], _ => rfl⟩,
      d_night_need := ⟨f11, _, fun_mk (st := s_night_need) l11 c11 k11, PySem.W.mg_of X G a11, (fun_mk (st := s_night_need) l11 c11 k11).binds (ps := ["stacks", "orders", "xi"]) fun _ _ _ _ _ _ us hl => match us, hl with | [_, _, _], _ => rfl⟩,
      d_caps_of := ⟨f12, _, fun_mk (st := s_caps_of) l12 c12 k12, PySem.W.mg_of X G a12, (fun_mk (st := s_caps_of) l12 c12 k12).binds (ps := ["stacks", "m", "orders", "xi"]) fun _ _ _ _ _ _ us hl => match us, hl with | [_, _, _, _], _ => rfl⟩,
      d_night_caps := ⟨f13, _, fun_mk (st := s_night_caps) l13 c13 k13, PySem.W.mg_of X G a13, (fun_mk (st := s_night_caps) l13 c13 k13).binds (ps := ["stacks", "m", "orders", "xi"]) fun _ _ _ _ _ _ us hl => match us, hl with | [_, _, _, _], _ => rfl⟩,
      d__law_numbers_right := ⟨f14, _, fun_mk (st := s__law_numbers_right) l14 c14 k14, PySem.W.mg_of X G a14, (fun_mk (st := s__law_numbers_right) l14 c14 k14).binds (ps := ["purse"]) fun _ _ _ _ _ _ us hl => match us, hl with | [_], _ => rfl⟩,
      d__law_pick := ⟨f15, _, fun_mk (st := s__law_pick) l15 c15 k15, PySem.W.mg_of X G a15, (fun_mk (st := s__law_pick) l15 c15 k15).binds (ps := ["purse", "things"]) fun _ _ _ _ _ _ us hl => match us, hl with | [_, _], _ => rfl⟩,
      d__law_due := ⟨f16, _, fun_mk (st := s__law_due) l16 c16 k16, PySem.W.mg_of X G a16, (fun_mk (st := s__law_due) l16 c16 k16).binds (ps := ["stacks", "m", "orders", "what", "last"]) fun _ _ _ _ _ _ us hl => match us, hl with | [_, _, _, _, _], _ => rfl⟩,
      d__law_error_word := ⟨f17, _, fun_mk (st := s__law_error_word) l17 c17 k17, PySem.W.mg_of X G a17, (fun_mk (st := s__law_error_word) l17 c17 k17).binds (ps := ["e"]) fun _ _ _ _ _ _ us hl => match us, hl with | [_], _ => rfl⟩,
      d__law_wrong_right := ⟨f18, _, fun_mk (st := s__law_wrong_right) l18 c18 k18, PySem.W.mg_of X G a18, (fun_mk (st := s__law_wrong_right) l18 c18 k18).binds (ps := ["purse"]) fun _ _ _ _ _ _ us hl => match us, hl with | [_], _ => rfl⟩,
      d_law := ⟨f19, _, fun_mk (st := s_law) l19 c19 k19, PySem.W.mg_of X G a19, (fun_mk (st := s_law) l19 c19 k19).binds (ps := ["script"]) fun _ _ _ _ _ _ us hl => match us, hl with | [_], _ => rfl⟩,
      d__law_error := ⟨f20, _, fun_mk (st := s__law_error) l20 c20 k20, PySem.W.mg_of X G a20, (fun_mk (st := s__law_error) l20 c20 k20).binds (ps := ["deed"]) fun _ _ _ _ _ _ us hl => match us, hl with | [_], _ => rfl⟩,
      l__law_wrong_right := ⟨cc18, tb18, ⟨_, _, _, _, _, _, _, _, rfl, l18, c18⟩, TB (cc18, tb18) (by simp), (by simp), fun p hp e => by simp only [List.mem_cons, List.not_mem_nil, or_false] at hp; rcases hp with rfl <;> first | rfl | (exact absurd e (by assumption)) | (exact absurd e (Ne.symm (by assumption)))⟩,
      z_abs := PySem.W.mg_none_of X G z_abs,
      z_bool := PySem.W.mg_none_of X G z_bool,
      z_int := PySem.W.mg_none_of X G z_int,
      z_isinstance := PySem.W.mg_none_of X G z_isinstance,
      z_len := PySem.W.mg_none_of X G z_len,
      z_list := PySem.W.mg_none_of X G z_list,
      z_min := PySem.W.mg_none_of X G z_min,
      z_range := PySem.W.mg_none_of X G z_range,
      z_str := PySem.W.mg_none_of X G z_str,
      z_sum := PySem.W.mg_none_of X G z_sum,
      z_tuple := PySem.W.mg_none_of X G z_tuple,
      t_DAYS := tk_DAYS,
      k_DAYS := PySem.W.mg_of X G y_DAYS,
      t_FREE := tk_FREE,
      k_FREE := PySem.W.mg_of X G y_FREE,
      t_NIGHT_MOVES := tk_NIGHT_MOVES,
      k_NIGHT_MOVES := PySem.W.mg_of X G y_NIGHT_MOVES,
      t_STACKS := tk_STACKS,
      k_STACKS := PySem.W.mg_of X G y_STACKS
    }
    exact ok_law X0
theorem plain_holds : Plain := plain_holds'
end LW
open PySem PySem.W PyProof.Rows
set_option maxHeartbeats 0 in
theorem PySem.Challenge.cw_withinmoves_k34_numbers_of_nights_holds : PySem.Challenge.rw_withinmoves_k34_numbers_of_nights.Holds := by
  w_on; o_law; k_head; (case hw => w_witness2)
  k_fill
  refine LamX.walk_ofTs (l := PySem.Challenge.rw_withinmoves_k34_numbers_of_nights) (n := 63) (k := 10) (x := "script") (CX := fun w => L2.CX PySem.Challenge.rw_withinmoves_k34_numbers_of_nights.prog w) rfl (by decide) rfl ⟨rfl, by decide, by decide⟩ (fun w h Y => PySem.W.km_in_of Y) ?F (fun w H s e s' h => MV.cx_none h)
  case F =>
    intro w mg fa h Y KX G hmg
    refine' LW.at_law LW.plain_holds KX G hmg ?g_MovesError ?vr_MovesError ?vg_MovesError ?va_MovesError ?e_get ?e_tk ?gE0 ?xL0 ?sa0 ?ga0 ?gg0 ?gc0 ?nf_what_0 ?ii0 ?it0 ?il0 ?ic0 ?ik0 ?kC0 ?eC0 ?tC0 ?hC0 ?mC0 ?gE1 ?xL1 ?sa1 ?ga1 ?gg1 ?gc1 ?nf_what_1 ?ii1 ?it1 ?il1 ?ic1 ?ik1 ?kC1 ?eC1 ?tC1 ?hC1 ?mC1 ?gE2 ?xL2 ?sa2 ?ga2 ?gg2 ?gc2 ?nf_what_2 ?ii2 ?it2 ?il2 ?ic2 ?ik2 ?kC2 ?eC2 ?tC2 ?hC2 ?mC2 ?gE3 ?xL3 ?sa3 ?ga3 ?gg3 ?gc3 ?nf_what_3 ?ii3 ?it3 ?il3 ?ic3 ?ik3 ?kC3 ?eC3 ?tC3 ?hC3 ?mC3 ?j_0_BadCourse ?j_1_BadCourse ?j_2_BadCourse ?j_3_BadCourse ?j_0_BadNumbers ?j_1_BadNumbers ?j_2_BadNumbers ?j_3_BadNumbers ?j_0_BadRoom ?j_1_BadRoom ?j_2_BadRoom ?j_3_BadRoom ?j_0_TooMany ?j_1_TooMany ?j_2_TooMany ?j_3_TooMany ?me ?mh ?mt ?ms0 ?ms1 ?ms2 ?ms3 ?a0 ?l0 ?c0 ?k0 ?a1 ?l1 ?c1 ?k1 ?a2 ?l2 ?c2 ?k2 ?a3 ?l3 ?c3 ?k3 ?a4 ?l4 ?c4 ?k4 ?a5 ?l5 ?c5 ?k5 ?a6 ?l6 ?c6 ?k6 ?a7 ?l7 ?c7 ?k7 ?a8 ?l8 ?c8 ?k8 ?a9 ?l9 ?c9 ?k9 ?a10 ?l10 ?c10 ?k10 ?a11 ?l11 ?c11 ?k11 ?a12 ?l12 ?c12 ?k12 ?a13 ?l13 ?c13 ?k13 ?a14 ?l14 ?c14 ?k14 ?a15 ?l15 ?c15 ?k15 ?a16 ?l16 ?c16 ?k16 ?a17 ?l17 ?c17 ?k17 ?a18 ?l18 ?c18 ?k18 ?lc18 ?hp18 ?ch18 ?tt18 ?nk18 ?a19 ?l19 ?c19 ?k19 ?a20 ?l20 ?c20 ?k20 ?z_abs ?z_bool ?z_int ?z_isinstance ?z_len ?z_list ?z_min ?z_range ?z_str ?z_sum ?z_tuple ?y_DAYS ?y_FREE ?y_NIGHT_MOVES ?y_STACKS
    (case g_MovesError => k_is)
    (case vr_MovesError => k_is)
    (case vg_MovesError => k_is)
    (case va_MovesError => k_is)
    (case e_get => k_is)
    (case e_tk => k_is)
    (case gE0 => k_is)
    (case xL0 => k_is)
    (case sa0 => k_is)
    (case ga0 => k_is)
    (case gg0 => k_is)
    (case gc0 => k_is)
    (case nf_what_0 => k_is)
    (case ii0 => k_is)
    (case it0 => k_is)
    (case il0 => k_is)
    (case ic0 => k_is)
    (case ik0 => k_is)
    (case kC0 => k_is)
    (case eC0 => k_is)
    (case tC0 => k_is)
    (case hC0 => k_is)
    (case mC0 => k_is)
    (case gE1 => k_is)
    (case xL1 => k_is)
    (case sa1 => k_is)
    (case ga1 => k_is)
    (case gg1 => k_is)
    (case gc1 => k_is)
    (case nf_what_1 => k_is)
    (case ii1 => k_is)
    (case it1 => k_is)
    (case il1 => k_is)
    (case ic1 => k_is)
    (case ik1 => k_is)
    (case kC1 => k_is)
    (case eC1 => k_is)
    (case tC1 => k_is)
    (case hC1 => k_is)
    (case mC1 => k_is)
    (case gE2 => k_is)
    (case xL2 => k_is)
    (case sa2 => k_is)
    (case ga2 => k_is)
    (case gg2 => k_is)
    (case gc2 => k_is)
    (case nf_what_2 => k_is)
    (case ii2 => k_is)
    (case it2 => k_is)
    (case il2 => k_is)
    (case ic2 => k_is)
    (case ik2 => k_is)
    (case kC2 => k_is)
    (case eC2 => k_is)
    (case tC2 => k_is)
    (case hC2 => k_is)
    (case mC2 => k_is)
    (case gE3 => k_is)
    (case xL3 => k_is)
    (case sa3 => k_is)
    (case ga3 => k_is)
    (case gg3 => k_is)
    (case gc3 => k_is)
    (case nf_what_3 => k_is)
    (case ii3 => k_is)
    (case it3 => k_is)
    (case il3 => k_is)
    (case ic3 => k_is)
    (case ik3 => k_is)
    (case kC3 => k_is)
    (case eC3 => k_is)
    (case tC3 => k_is)
    (case hC3 => k_is)
    (case mC3 => k_is)
    (case j_0_BadCourse => first | k_is | rfl | decide +kernel)
    (case j_1_BadCourse => first | k_is | rfl | decide +kernel)
    (case j_2_BadCourse => first | k_is | rfl | decide +kernel)
    (case j_3_BadCourse => first | k_is | rfl | decide +kernel)
    (case j_0_BadNumbers => first | k_is | rfl | decide +kernel)
    (case j_1_BadNumbers => first | k_is | rfl | decide +kernel)
    (case j_2_BadNumbers => first | k_is | rfl | decide +kernel)
    (case j_3_BadNumbers => first | k_is | rfl | decide +kernel)
    (case j_0_BadRoom => first | k_is | rfl | decide +kernel)
    (case j_1_BadRoom => first | k_is | rfl | decide +kernel)
    (case j_2_BadRoom => first | k_is | rfl | decide +kernel)
    (case j_3_BadRoom => first | k_is | rfl | decide +kernel)
    (case j_0_TooMany => first | k_is | rfl | decide +kernel)
    (case j_1_TooMany => first | k_is | rfl | decide +kernel)
    (case j_2_TooMany => first | k_is | rfl | decide +kernel)
    (case j_3_TooMany => first | k_is | rfl | decide +kernel)
    (case me => k_is)
    (case mh => k_is)
    (case mt => k_is)
    (case ms0 => first | k_is | rfl)
    (case ms1 => first | k_is | rfl)
    (case ms2 => first | k_is | rfl)
    (case ms3 => first | k_is | rfl)
    (case a0 => k_is)
    (case l0 => k_is)
    (case c0 => k_is)
    (case k0 => k_is)
    (case a1 => k_is)
    (case l1 => k_is)
    (case c1 => k_is)
    (case k1 => k_is)
    (case a2 => k_is)
    (case l2 => k_is)
    (case c2 => k_is)
    (case k2 => k_is)
    (case a3 => k_is)
    (case l3 => k_is)
    (case c3 => k_is)
    (case k3 => k_is)
    (case a4 => k_is)
    (case l4 => k_is)
    (case c4 => k_is)
    (case k4 => k_is)
    (case a5 => k_is)
    (case l5 => k_is)
    (case c5 => k_is)
    (case k5 => k_is)
    (case a6 => k_is)
    (case l6 => k_is)
    (case c6 => k_is)
    (case k6 => k_is)
    (case a7 => k_is)
    (case l7 => k_is)
    (case c7 => k_is)
    (case k7 => k_is)
    (case a8 => k_is)
    (case l8 => k_is)
    (case c8 => k_is)
    (case k8 => k_is)
    (case a9 => k_is)
    (case l9 => k_is)
    (case c9 => k_is)
    (case k9 => k_is)
    (case a10 => k_is)
    (case l10 => k_is)
    (case c10 => k_is)
    (case k10 => k_is)
    (case a11 => k_is)
    (case l11 => k_is)
    (case c11 => k_is)
    (case k11 => k_is)
    (case a12 => k_is)
    (case l12 => k_is)
    (case c12 => k_is)
    (case k12 => k_is)
    (case a13 => k_is)
    (case l13 => k_is)
    (case c13 => k_is)
    (case k13 => k_is)
    (case a14 => k_is)
    (case l14 => k_is)
    (case c14 => k_is)
    (case k14 => k_is)
    (case a15 => k_is)
    (case l15 => k_is)
    (case c15 => k_is)
    (case k15 => k_is)
    (case a16 => k_is)
    (case l16 => k_is)
    (case c16 => k_is)
    (case k16 => k_is)
    (case a17 => k_is)
    (case l17 => k_is)
    (case c17 => k_is)
    (case k17 => k_is)
    (case a18 => k_is)
    (case l18 => k_is)
    (case c18 => k_is)
    (case k18 => k_is)
    (case lc18 => k_is)
    (case hp18 => rfl)
    (case ch18 => first | rfl | exact (by decide +kernel))
    (case tt18 => exact PySem.W.km_tabs_of Y _ (by decide))
    (case nk18 => first | rfl | k_is)
    (case a19 => k_is)
    (case l19 => k_is)
    (case c19 => k_is)
    (case k19 => k_is)
    (case a20 => k_is)
    (case l20 => k_is)
    (case c20 => k_is)
    (case k20 => k_is)
    (case z_abs => k_is)
    (case z_bool => k_is)
    (case z_int => k_is)
    (case z_isinstance => k_is)
    (case z_len => k_is)
    (case z_list => k_is)
    (case z_min => k_is)
    (case z_range => k_is)
    (case z_str => k_is)
    (case z_sum => k_is)
    (case z_tuple => k_is)
    (case y_DAYS => k_is)
    (case y_FREE => k_is)
    (case y_NIGHT_MOVES => k_is)
    (case y_STACKS => k_is)
