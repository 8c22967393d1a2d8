import PyProof.Rows.All
import Wide.All
import OpenK.AllK
import Wide.FinOn
import HandS.ForMost
import KE.DataMinMax
import KE.DataFind
import KE.SortData
import HandS.Text
import HandS.Wide
import HandS.Gcd
import HandS.IsInst
import HandS.Style
import HandS.Deep
import HandS.More
import HandS.TupAny
import KE.KTupSum
import HandS.RaiseMore
import HandS.Conv
import HandS.SortInts
import HandS.FStr
import HandS.ReCall
import KE.KRevSl
import HandS.ReplaceLit
import PyProof.TupleOfSeq
import HandS.Flow
import HandS.Zip
import KE.GoesEnum
import KE.GoesZip
import HandS.ReplaceList
import PyProof.Rows.RegReprOcc
import PySem.Challenge.RW_stagelands_k86_whole_bills_judged
set_option Elab.async false
set_option linter.all false
set_option maxRecDepth 100000
set_option maxHeartbeats 4000000
namespace Sk
open PySem PySem.Spec PyProof.Rows L2

inductive D where
  | non
  | bl (b : Bool)
  | int (i : Int)
  | str (s : Str)
  | scr (ns : List Int)
  | tup (ds : List D)
  | lst (o : Bool) (ds : List D)
deriving Inhabited

def KTup (K : PySem.W.Frag) (a : Addr) (xs : List V) : Prop :=
  ∃ (o : Obj) (its : Array Value) (n : Nat), K.lookup a = some o ∧ o.cls = .type "tuple" ∧ o.data = .seq its n ∧ its.size ≤ sizeLine ∧ Vals xs its.toList
def TupAt (K : PySem.W.Frag) (fr : Addr → Prop) (H : Hp) (a : Addr) (xs : List V) : Prop :=
  (fr a ∧ H a = some (.tup xs)) ∨ KTup K a xs
def KLst (K : PySem.W.Frag) (a : Addr) (xs : List V) : Prop :=
  ∃ (o : Obj) (its : Array Value) (n : Nat), K.lookup a = some o ∧ o.cls = .type "list" ∧ o.dict = none ∧ o.data = .seq its n ∧ its.size ≤ sizeLine ∧ Vals xs its.toList
def ScrAt (K : PySem.W.Frag) (fr : Addr → Prop) (H : Hp) (a : Addr) (xs : List V) : Prop :=
  (fr a ∧ Rd H a (.lst xs)) ∨ KLst K a xs

mutual
def Ow (K : PySem.W.Frag) (fr : Addr → Prop) (H : Hp) : D → V → List Addr → Prop
  | .non, v, A => v = .non ∧ A = []
  | .bl b, v, A => v = .bl b ∧ A = []
  | .int i, v, A => v = .int i ∧ A = []
  | .str s, v, A => v = .str s ∧ A = []
  | .scr ns, v, A => (∃ a, v = .ref a ∧ ScrAt K fr H a (ns.map V.int)) ∧ A = []
  | .tup ds, v, A => ∃ a vs, v = .ref a ∧ TupAt K fr H a vs ∧ OwL K fr H ds vs A
  | .lst o ds, v, A => ∃ a vs B, v = .ref a ∧ H a = some (.lst vs) ∧ OwL K fr H ds vs B ∧ (o = false → fr a ∧ B = [] ∧ A = []) ∧ (o = true → A = a :: B)
def OwL (K : PySem.W.Frag) (fr : Addr → Prop) (H : Hp) : List D → List V → List Addr → Prop
  | [], vs, A => vs = [] ∧ A = []
  | d :: ds, vs, A => ∃ v us B C, vs = v :: us ∧ Ow K fr H d v B ∧ OwL K fr H ds us C ∧ A = B ++ C
end

section
variable {K : PySem.W.Frag} {fr fr' : Addr → Prop} {H H' : Hp}

theorem TupAt.mono {a : Addr} {xs : List V} (h : TupAt K fr H a xs) (hf : ∀ b, fr b → fr' b) (hH : ∀ b x, fr b → H b = some x → H' b = some x) : TupAt K fr' H' a xs := by
  rcases h with ⟨h1, h2⟩ | h
  · exact .inl ⟨hf _ h1, hH _ _ h1 h2⟩
  · exact .inr h
theorem TupAt.sq {a : Addr} {xs : List V} (h : TupAt K fr H a xs) : SqT K H a xs := by
  rcases h with ⟨_, h⟩ | h
  · exact .inl (.inl h)
  · exact .inr h
theorem ScrAt.mono {a : Addr} {xs : List V} (h : ScrAt K fr H a xs) (hf : ∀ b, fr b → fr' b) (hH : ∀ b x, fr b → H b = some x → H' b = some x) : ScrAt K fr' H' a xs := by
  rcases h with ⟨h1, h2 | ⟨o, h2⟩⟩ | h
  · exact .inl ⟨hf _ h1, .inl (hH _ _ h1 h2)⟩
  · exact .inl ⟨hf _ h1, .inr ⟨o, hH _ _ h1 h2⟩⟩
  · exact .inr h
theorem ScrAt.sq {a : Addr} {xs : List V} (h : ScrAt K fr H a xs) : SqL K H a xs := by
  rcases h with ⟨_, h⟩ | h
  · exact .inl h
  · exact .inr h

mutual
theorem Ow.mono (hf : ∀ b, fr b → fr' b) : ∀ (d : D) (v : V) (A : List Addr), Ow K fr H d v A → (∀ b x, (fr b ∨ b ∈ A) → H b = some x → H' b = some x) → Ow K fr' H' d v A
  | .non, v, A, h, _ => by simpa [Ow] using h
  | .bl b, v, A, h, _ => by simpa [Ow] using h
  | .int i, v, A, h, _ => by simpa [Ow] using h
  | .str s, v, A, h, _ => by simpa [Ow] using h
  | .scr ns, v, A, h, hH => by
    unfold Ow at h ⊢
    obtain ⟨⟨a, e, h⟩, e2⟩ := h
    exact ⟨⟨a, e, h.mono hf fun b x hb => hH b x (.inl hb)⟩, e2⟩
  | .tup ds, v, A, h, hH => by
    unfold Ow at h ⊢
    obtain ⟨a, vs, e, h, hl⟩ := h
    exact ⟨a, vs, e, h.mono hf fun b x hb => hH b x (.inl hb), OwL.mono hf ds vs A hl hH⟩
  | .lst o ds, v, A, h, hH => by
    unfold Ow at h ⊢
    obtain ⟨a, vs, B, e, ha, hl, h0, h1⟩ := h
    cases o with
    | false =>
      obtain ⟨fa, eB, eA⟩ := h0 rfl
      subst eB eA
      exact ⟨a, vs, [], e, hH _ _ (.inl fa) ha, OwL.mono hf ds vs [] hl (fun b x hb => hH b x hb), fun _ => ⟨hf _ fa, rfl, rfl⟩, fun z => by cases z⟩
    | true =>
      have eA := h1 rfl
      subst eA
      exact ⟨a, vs, B, e, hH _ _ (.inr List.mem_cons_self) ha, OwL.mono hf ds vs B hl (fun b x hb => hH b x (hb.imp id (List.mem_cons_of_mem _))), (fun z => by cases z), fun _ => rfl⟩
theorem OwL.mono (hf : ∀ b, fr b → fr' b) : ∀ (ds : List D) (vs : List V) (A : List Addr), OwL K fr H ds vs A → (∀ b x, (fr b ∨ b ∈ A) → H b = some x → H' b = some x) → OwL K fr' H' ds vs A
  | [], vs, A, h, _ => by simpa [OwL] using h
  | d :: ds, vs, A, h, hH => by
    unfold OwL at h ⊢
    obtain ⟨v, us, B, C, e, h1, h2, eA⟩ := h
    subst eA
    exact ⟨v, us, B, C, e, Ow.mono hf d v B h1 (fun b x hb => hH b x (hb.imp id (List.mem_append_left _))), OwL.mono hf ds us C h2 (fun b x hb => hH b x (hb.imp id (List.mem_append_right _))), rfl⟩
end

mutual
theorem Ow.dom : ∀ (d : D) (v : V) (A : List Addr), Ow K fr H d v A → ∀ b ∈ A, ∃ vs, H b = some (.lst vs)
  | .non, v, A, h, b, hb => by unfold Ow at h; rw [h.2] at hb; cases hb
  | .bl _, v, A, h, b, hb => by unfold Ow at h; rw [h.2] at hb; cases hb
  | .int i, v, A, h, b, hb => by unfold Ow at h; rw [h.2] at hb; cases hb
  | .str s, v, A, h, b, hb => by unfold Ow at h; rw [h.2] at hb; cases hb
  | .scr ns, v, A, h, b, hb => by unfold Ow at h; rw [h.2] at hb; cases hb
  | .tup ds, v, A, h, b, hb => by
    unfold Ow at h
    obtain ⟨a, vs, e, h, hl⟩ := h
    exact OwL.dom ds vs A hl b hb
  | .lst o ds, v, A, h, b, hb => by
    unfold Ow at h
    obtain ⟨a, vs, B, e, ha, hl, h0, h1⟩ := h
    cases o with
    | false => rw [(h0 rfl).2.2] at hb; cases hb
    | true =>
      rw [h1 rfl] at hb
      rcases List.mem_cons.mp hb with rfl | hb
      · exact ⟨vs, ha⟩
      · exact OwL.dom ds vs B hl b hb
theorem OwL.dom : ∀ (ds : List D) (vs : List V) (A : List Addr), OwL K fr H ds vs A → ∀ b ∈ A, ∃ vs, H b = some (.lst vs)
  | [], vs, A, h, b, hb => by unfold OwL at h; rw [h.2] at hb; cases hb
  | d :: ds, vs, A, h, b, hb => by
    unfold OwL at h
    obtain ⟨v, us, B, C, e, h1, h2, eA⟩ := h
    rw [eA] at hb
    rcases List.mem_append.mp hb with hb | hb
    · exact Ow.dom d v B h1 b hb
    · exact OwL.dom ds us C h2 b hb
end

/-! ### bits -/
mutual
def frz : D → D
  | .tup ds => .tup (frzL ds)
  | .lst _ ds => .lst false (frzL ds)
  | .non => .non | .bl b => .bl b | .int i => .int i | .str s => .str s | .scr ns => .scr ns
def frzL : List D → List D
  | [] => []
  | d :: ds => frz d :: frzL ds
end
/- nothing owned within -/
mutual
def un : D → Bool
  | .tup ds => unL ds
  | .lst o ds => !o && unL ds
  | .non => true | .bl _ => true | .int _ => true | .str _ => true | .scr _ => true
def unL : List D → Bool
  | [] => true
  | d :: ds => un d && unL ds
end
/- no list within that is not owned -/
mutual
def al : D → Bool
  | .tup ds => alL ds
  | .lst o ds => o && alL ds
  | .non => true | .bl _ => true | .int _ => true | .str _ => true | .scr _ => false
def alL : List D → Bool
  | [] => true
  | d :: ds => al d && alL ds
end

mutual
theorem Ow.frz : ∀ (d : D) (v : V) (A : List Addr), Ow K fr H d v A → (∀ b, fr b → fr' b) → (∀ b ∈ A, fr' b) → Ow K fr' H (frz d) v []
  | .non, v, A, h, _, _ => by unfold Ow at h; unfold Sk.frz Ow; exact ⟨h.1, rfl⟩
  | .bl _, v, A, h, _, _ => by unfold Ow at h; unfold Sk.frz Ow; exact ⟨h.1, rfl⟩
  | .int _, v, A, h, _, _ => by unfold Ow at h; unfold Sk.frz Ow; exact ⟨h.1, rfl⟩
  | .str _, v, A, h, _, _ => by unfold Ow at h; unfold Sk.frz Ow; exact ⟨h.1, rfl⟩
  | .scr _, v, A, h, hf, _ => by
    unfold Ow at h; unfold Sk.frz Ow
    obtain ⟨⟨a, e, q⟩, _⟩ := h
    exact ⟨⟨a, e, q.mono hf fun _ _ _ z => z⟩, rfl⟩
  | .tup ds, v, A, h, hf, hA => by
    unfold Ow at h; unfold Sk.frz Ow
    obtain ⟨a, vs, e, h, hl⟩ := h
    exact ⟨a, vs, e, h.mono hf fun _ _ _ z => z, OwL.frz ds vs A hl hf hA⟩
  | .lst o ds, v, A, h, hf, hA => by
    unfold Ow at h; unfold Sk.frz Ow
    obtain ⟨a, vs, B, e, ha, hl, h0, h1⟩ := h
    cases o with
    | false =>
      obtain ⟨fa, eB, eA⟩ := h0 rfl
      subst eB eA
      exact ⟨a, vs, [], e, ha, OwL.frz ds vs [] hl hf (fun _ z => nomatch z), fun _ => ⟨hf _ fa, rfl, rfl⟩, fun z => by cases z⟩
    | true =>
      have eA := h1 rfl
      subst eA
      exact ⟨a, vs, [], e, ha, OwL.frz ds vs B hl hf (fun b hb => hA b (List.mem_cons_of_mem _ hb)), fun _ => ⟨hA _ List.mem_cons_self, rfl, rfl⟩, fun z => by cases z⟩
theorem OwL.frz : ∀ (ds : List D) (vs : List V) (A : List Addr), OwL K fr H ds vs A → (∀ b, fr b → fr' b) → (∀ b ∈ A, fr' b) → OwL K fr' H (frzL ds) vs []
  | [], vs, A, h, _, _ => by unfold OwL at h; unfold Sk.frzL OwL; exact ⟨h.1, rfl⟩
  | d :: ds, vs, A, h, hf, hA => by
    unfold OwL at h; unfold Sk.frzL OwL
    obtain ⟨v, us, B, C, e, h1, h2, eA⟩ := h
    subst eA
    exact ⟨v, us, [], [], e, Ow.frz d v B h1 hf (fun b hb => hA b (List.mem_append_left _ hb)), OwL.frz ds us C h2 hf (fun b hb => hA b (List.mem_append_right _ hb)), rfl⟩
end
mutual
theorem Ow.un : ∀ (d : D) (v : V) (A : List Addr), Ow K fr H d v A → un d = true → A = []
  | .non, v, A, h, _ => by unfold Ow at h; exact h.2
  | .bl _, v, A, h, _ => by unfold Ow at h; exact h.2
  | .int _, v, A, h, _ => by unfold Ow at h; exact h.2
  | .str _, v, A, h, _ => by unfold Ow at h; exact h.2
  | .scr _, v, A, h, _ => by unfold Ow at h; exact h.2
  | .tup ds, v, A, h, u => by
    unfold Ow at h; unfold Sk.un at u
    obtain ⟨a, vs, e, h, hl⟩ := h
    exact OwL.un ds vs A hl u
  | .lst o ds, v, A, h, u => by
    unfold Ow at h; unfold Sk.un at u
    obtain ⟨a, vs, B, e, ha, hl, h0, h1⟩ := h
    cases o with
    | false => exact (h0 rfl).2.2
    | true => simp at u
theorem OwL.un : ∀ (ds : List D) (vs : List V) (A : List Addr), OwL K fr H ds vs A → unL ds = true → A = []
  | [], vs, A, h, _ => by unfold OwL at h; exact h.2
  | d :: ds, vs, A, h, u => by
    unfold OwL at h; unfold Sk.unL at u
    obtain ⟨v, us, B, C, e, h1, h2, eA⟩ := h
    rw [Bool.and_eq_true] at u
    rw [eA, Ow.un d v B h1 u.1, OwL.un ds us C h2 u.2]; rfl
end
mutual
theorem frz_un : ∀ (d : D), un d = true → frz d = d
  | .non, _ => rfl
  | .bl _, _ => rfl
  | .int _, _ => rfl
  | .str _, _ => rfl
  | .scr _, _ => rfl
  | .tup ds, u => by unfold Sk.un at u; unfold Sk.frz; rw [frzL_un ds u]
  | .lst o ds, u => by
    unfold Sk.un at u; unfold Sk.frz
    rw [Bool.and_eq_true] at u
    rw [frzL_un ds u.2]
    cases o with
    | false => rfl
    | true => simp at u
theorem frzL_un : ∀ (ds : List D), unL ds = true → frzL ds = ds
  | [], _ => rfl
  | d :: ds, u => by
    unfold Sk.unL at u; unfold Sk.frzL
    rw [Bool.and_eq_true] at u
    rw [frz_un d u.1, frzL_un ds u.2]
end
mutual
theorem un_frz : ∀ (d : D), un (frz d) = true
  | .non => rfl
  | .bl _ => rfl
  | .int _ => rfl
  | .str _ => rfl
  | .scr _ => rfl
  | .tup ds => by unfold Sk.frz Sk.un; exact unL_frz ds
  | .lst o ds => by unfold Sk.frz Sk.un; rw [unL_frz ds]; rfl
theorem unL_frz : ∀ (ds : List D), unL (frzL ds) = true
  | [] => rfl
  | d :: ds => by unfold Sk.frzL Sk.unL; rw [un_frz d, unL_frz ds]; rfl
end
/- lists owned alone: only tuples must stay frozen -/
mutual
theorem Ow.al (hf : ∀ b vs, fr b → H b = some (.tup vs) → fr' b) : ∀ (d : D) (v : V) (A : List Addr), Ow K fr H d v A → al d = true → Ow K fr' H d v A
  | .non, v, A, h, _ => by simpa [Ow] using h
  | .bl b, v, A, h, _ => by simpa [Ow] using h
  | .int i, v, A, h, _ => by simpa [Ow] using h
  | .str s, v, A, h, _ => by simpa [Ow] using h
  | .scr ns, v, A, h, u => by simp [Sk.al] at u
  | .tup ds, v, A, h, u => by
    unfold Ow at h ⊢; unfold Sk.al at u
    obtain ⟨a, vs, e, h, hl⟩ := h
    refine ⟨a, vs, e, ?_, OwL.al hf ds vs A hl u⟩
    rcases h with ⟨h1, h2⟩ | h
    · exact .inl ⟨hf _ _ h1 h2, h2⟩
    · exact .inr h
  | .lst o ds, v, A, h, u => by
    unfold Ow at h ⊢; unfold Sk.al at u
    obtain ⟨a, vs, B, e, ha, hl, h0, h1⟩ := h
    rw [Bool.and_eq_true] at u
    cases o with
    | false => simp at u
    | true => exact ⟨a, vs, B, e, ha, OwL.al hf ds vs B hl u.2, (fun z => by cases z), h1⟩
theorem OwL.al (hf : ∀ b vs, fr b → H b = some (.tup vs) → fr' b) : ∀ (ds : List D) (vs : List V) (A : List Addr), OwL K fr H ds vs A → alL ds = true → OwL K fr' H ds vs A
  | [], vs, A, h, _ => by simpa [OwL] using h
  | d :: ds, vs, A, h, u => by
    unfold OwL at h ⊢; unfold Sk.alL at u
    obtain ⟨v, us, B, C, e, h1, h2, eA⟩ := h
    rw [Bool.and_eq_true] at u
    exact ⟨v, us, B, C, e, Ow.al hf d v B h1 u.1, OwL.al hf ds us C h2 u.2, eA⟩
end

theorem OwL.app : ∀ {ds : List D} {vs : List V} {A : List Addr} {es : List D} {us : List V} {B : List Addr}, OwL K fr H ds vs A → OwL K fr H es us B → OwL K fr H (ds ++ es) (vs ++ us) (A ++ B)
  | [], vs, A, es, us, B, h, g => by
    unfold OwL at h
    rw [h.1, h.2]; exact g
  | d :: ds, vs, A, es, us, B, h, g => by
    unfold OwL at h
    obtain ⟨v, vs', B', C, e, h1, h2, eA⟩ := h
    rw [e, eA, List.cons_append, List.cons_append]
    unfold OwL
    exact ⟨v, vs' ++ us, B', C ++ B, rfl, h1, OwL.app h2 g, by rw [List.append_assoc]⟩
theorem OwL.one {d : D} {v : V} {A : List Addr} : OwL K fr H [d] [v] A ↔ Ow K fr H d v A := by
  constructor
  · intro h
    unfold OwL at h
    obtain ⟨v', us, B, C, e, h1, h2, eA⟩ := h
    unfold OwL at h2
    cases e
    rw [eA, h2.2, List.append_nil]; exact h1
  · intro h
    unfold OwL
    exact ⟨v, [], A, [], rfl, h, by unfold OwL; exact ⟨rfl, rfl⟩, by simp⟩
theorem OwL.len : ∀ {ds : List D} {vs : List V} {A : List Addr}, OwL K fr H ds vs A → vs.length = ds.length
  | [], vs, A, h => by unfold OwL at h; rw [h.1]; rfl
  | d :: ds, vs, A, h => by
    unfold OwL at h
    obtain ⟨v, us, B, C, e, h1, h2, eA⟩ := h
    rw [e, List.length_cons, List.length_cons, OwL.len h2]
theorem OwL.nil : OwL K fr H [] [] [] := by unfold OwL; exact ⟨rfl, rfl⟩
end
end Sk

namespace Sk
open PySem PySem.Spec PyProof.Rows L2

abbrev St := L2.St
abbrev Gm := List (Option D)
def SlO (K : PySem.W.Frag) (fr : Addr → Prop) (H : Hp) : Gm → St → List Addr → Prop
  | [], σ, A => σ = [] ∧ A = []
  | none :: Γ, σ, A => ∃ s r, σ = s :: r ∧ SlO K fr H Γ r A
  | some d :: Γ, σ, A => ∃ v r B C, σ = some v :: r ∧ Ow K fr H d v B ∧ SlO K fr H Γ r C ∧ A = B ++ C

structure S (K : PySem.W.Frag) (fr : Addr → Prop) (A : List Addr) (Γ : Gm) (σ : St) (H : Hp) : Prop where
  sl : SlO K fr H Γ σ A
  nd : A.Nodup
  dj : ∀ b ∈ A, ¬ fr b
  dm : ∀ b, fr b → ∃ x, H b = some x

/-- what a step does to the heap: A, fr, H ahead of it, A', fr', H' behind it -/
structure Ext (A : List Addr) (fr : Addr → Prop) (H : Hp) (A' : List Addr) (fr' : Addr → Prop) (H' : Hp) : Prop where
  kp : ∀ b x, H b = some x → b ∉ A → H' b = some x
  ff : ∀ b, fr b → fr' b
  aa : ∀ b ∈ A', b ∈ A ∨ H b = none
  fa : ∀ b, fr' b → fr b ∨ b ∈ A ∨ H b = none

section
variable {K : PySem.W.Frag} {fr fr' fr1 fr2 : Addr → Prop} {H H' H1 H2 : Hp} {A A' A1 A2 B B1 B2 C : List Addr} {Γ Γ' Γ1 Γ2 : Gm} {σ σ' : St}
theorem Ext.refl : Ext A fr H A fr H := ⟨fun _ _ h _ => h, fun _ h => h, fun _ h => .inl h, fun _ h => .inl h⟩
theorem Ext.trans (a : Ext A fr H A1 fr1 H1) (b : Ext A1 fr1 H1 A2 fr2 H2) : Ext A fr H A2 fr2 H2 := by
  have back : ∀ c, H1 c = none → c ∈ A ∨ H c = none := fun c h => by
    by_cases hc : c ∈ A
    · exact .inl hc
    · cases q : H c with
      | none => exact .inr rfl
      | some x => rw [a.kp c x q hc] at h; cases h
  refine ⟨fun c x h hc => ?_, fun c h => b.ff c (a.ff c h), fun c hc => ?_, fun c hc => ?_⟩
  · refine b.kp c x (a.kp c x h hc) fun h1 => ?_
    rcases a.aa c h1 with z | z
    · exact hc z
    · rw [z] at h; cases h
  · rcases b.aa c hc with z | z
    · exact a.aa c z
    · exact back c z
  · rcases b.fa c hc with z | z | z
    · exact a.fa c z
    · exact .inr (a.aa c z)
    · exact .inr (back c z)
theorem Ext.less (a : Ext A fr H A1 fr1 H1) (h : ∀ b ∈ A2, b ∈ A1) : Ext A fr H A2 fr1 H1 := ⟨a.kp, a.ff, fun b hb => a.aa b (h b hb), a.fa⟩

theorem SlO.mono (hf : ∀ b, fr b → fr' b) : ∀ {Γ : Gm} {σ : St} {A : List Addr}, SlO K fr H Γ σ A → (∀ b x, (fr b ∨ b ∈ A) → H b = some x → H' b = some x) → SlO K fr' H' Γ σ A
  | [], _, _, h, _ => h
  | none :: Γ, σ, A, h, hH => by
    obtain ⟨s, r, e, h⟩ := h
    exact ⟨s, r, e, SlO.mono hf h hH⟩
  | some d :: Γ, σ, A, h, hH => by
    obtain ⟨v, r, B, C, e, h1, h2, eA⟩ := h
    subst eA
    exact ⟨v, r, B, C, e, Ow.mono hf d v B h1 (fun b x hb => hH b x (hb.imp id (List.mem_append_left _))), SlO.mono hf h2 (fun b x hb => hH b x (hb.imp id (List.mem_append_right _))), rfl⟩
theorem SlO.dom : ∀ {Γ : Gm} {σ : St} {A : List Addr}, SlO K fr H Γ σ A → ∀ b ∈ A, ∃ vs, H b = some (.lst vs)
  | [], _, _, h, b, hb => by rw [h.2] at hb; cases hb
  | none :: Γ, σ, A, h, b, hb => by
    obtain ⟨s, r, e, h⟩ := h
    exact SlO.dom h b hb
  | some d :: Γ, σ, A, h, b, hb => by
    obtain ⟨v, r, B, C, e, h1, h2, eA⟩ := h
    subst eA
    rcases List.mem_append.mp hb with hb | hb
    · exact Ow.dom d v B h1 b hb
    · exact SlO.dom h2 b hb
theorem SlO.len : ∀ {Γ : Gm} {σ : St} {A : List Addr}, SlO K fr H Γ σ A → σ.length = Γ.length
  | [], _, _, h => by rw [h.1]; rfl
  | none :: Γ, σ, A, h => by
    obtain ⟨s, r, e, h⟩ := h
    rw [e, List.length_cons, List.length_cons, SlO.len h]
  | some d :: Γ, σ, A, h => by
    obtain ⟨v, r, B, C, e, h1, h2, eA⟩ := h
    rw [e, List.length_cons, List.length_cons, SlO.len h2]
/-- a slot's value -/
theorem SlO.get : ∀ {Γ : Gm} {σ : St} {A : List Addr} {i : Nat} {d : D}, SlO K fr H Γ σ A → Γ[i]? = some (some d) → ∃ v B, σ[i]? = some (some v) ∧ Ow K fr H d v B ∧ ∀ b ∈ B, b ∈ A
  | [], _, _, i, d, h, e => by simp at e
  | none :: Γ, σ, A, i, d, h, e => by
    obtain ⟨s, r, es, h⟩ := h
    cases i with
    | zero => simp at e
    | succ i =>
      rw [List.getElem?_cons_succ] at e
      obtain ⟨v, B, h1, h2, h3⟩ := SlO.get h e
      exact ⟨v, B, by rw [es, List.getElem?_cons_succ]; exact h1, h2, h3⟩
  | some d' :: Γ, σ, A, i, d, h, e => by
    obtain ⟨v, r, B, C, es, h1, h2, eA⟩ := h
    subst eA
    cases i with
    | zero =>
      rw [List.getElem?_cons_zero] at e
      cases e
      exact ⟨v, B, by rw [es]; rfl, h1, fun b hb => List.mem_append_left _ hb⟩
    | succ i =>
      rw [List.getElem?_cons_succ] at e
      obtain ⟨w, B', h1', h2', h3⟩ := SlO.get h2 e
      exact ⟨w, B', by rw [es, List.getElem?_cons_succ]; exact h1', h2', fun b hb => List.mem_append_right _ (h3 b hb)⟩
/-- a slot taken out (its ownership as B), the others' as C; anything may be put in -/
theorem SlO.take : ∀ {Γ : Gm} {σ : St} {A : List Addr} {i : Nat} {d : D}, SlO K fr H Γ σ A → Γ[i]? = some (some d) → ∃ v B C, σ[i]? = some (some v) ∧ Ow K fr H d v B ∧ A.Perm (B ++ C) ∧ SlO K fr H (Γ.set i none) σ C ∧
      ∀ (fr' : Addr → Prop) (H' : Hp) (d' : D) (v' : V) (B' : List Addr) (C' : List Addr) (σ' : St), SlO K fr' H' (Γ.set i none) σ' C' → σ'[i]? = some (some v') → Ow K fr' H' d' v' B' → ∃ A', A'.Perm (B' ++ C') ∧ SlO K fr' H' (Γ.set i (some d')) σ' A'
  | [], _, _, i, d, h, e => by simp at e
  | none :: Γ, σ, A, i, d, h, e => by
    obtain ⟨s, r, es, h⟩ := h
    cases i with
    | zero => simp at e
    | succ i =>
      rw [List.getElem?_cons_succ] at e
      obtain ⟨v, B, C, h1, h2, h3, h4, h5⟩ := SlO.take h e
      refine ⟨v, B, C, by rw [es, List.getElem?_cons_succ]; exact h1, h2, h3, ⟨s, r, es, h4⟩, fun fr' H' d' v' B' C' σ' k1 k2 k3 => ?_⟩
      obtain ⟨s', r', es', k1⟩ := k1
      rw [es', List.getElem?_cons_succ] at k2
      obtain ⟨A', p, q⟩ := h5 fr' H' d' v' B' C' r' k1 k2 k3
      exact ⟨A', p, s', r', es', q⟩
  | some d0 :: Γ, σ, A, i, d, h, e => by
    obtain ⟨v, r, B, C, es, h1, h2, eA⟩ := h
    subst eA
    cases i with
    | zero =>
      rw [List.getElem?_cons_zero] at e
      cases e
      refine ⟨v, B, C, by rw [es]; rfl, h1, List.Perm.refl _, ⟨_, r, es, h2⟩, fun fr' H' d' v' B' C' σ' k1 k2 k3 => ?_⟩
      obtain ⟨s', r', es', k1⟩ := k1
      rw [es', List.getElem?_cons_zero] at k2
      cases k2
      exact ⟨B' ++ C', List.Perm.refl _, v', r', B', C', es', k3, k1, rfl⟩
    | succ i =>
      rw [List.getElem?_cons_succ] at e
      obtain ⟨w, B1, C1, g1, g2, g3, g4, g5⟩ := SlO.take h2 e
      refine ⟨w, B1, B ++ C1, by rw [es, List.getElem?_cons_succ]; exact g1, g2, ?_, ⟨v, r, B, C1, es, h1, g4, rfl⟩, fun fr' H' d' v' B' C' σ' k1 k2 k3 => ?_⟩
      · refine ((List.Perm.refl B).append g3).trans ?_
        rw [← List.append_assoc, ← List.append_assoc]
        exact List.perm_append_comm.append (List.Perm.refl C1)
      · obtain ⟨v2, r', B2, C2, es', k1a, k1b, eC⟩ := k1
        subst eC
        rw [es', List.getElem?_cons_succ] at k2
        obtain ⟨A', p, q⟩ := g5 fr' H' d' v' B' C2 r' k1b k2 k3
        refine ⟨B2 ++ A', ?_, v2, r', B2, A', es', k1a, q, rfl⟩
        refine ((List.Perm.refl B2).append p).trans ?_
        rw [← List.append_assoc, ← List.append_assoc]
        exact List.perm_append_comm.append (List.Perm.refl C2)
/-- forgetting a slot -/
theorem SlO.drop : ∀ {Γ : Gm} {σ : St} {A : List Addr} (i : Nat) (s : Option V), SlO K fr H Γ σ A → ∃ C, C.Sublist A ∧ SlO K fr H (Γ.set i none) (σ.set i s) C
  | [], σ, A, i, s, h => ⟨A, List.Sublist.refl _, by rw [h.1, h.2]; exact ⟨rfl, rfl⟩⟩
  | none :: Γ, σ, A, i, s, h => by
    obtain ⟨s0, r, es, h⟩ := h
    cases i with
    | zero => exact ⟨A, List.Sublist.refl _, s, r, by rw [es]; rfl, h⟩
    | succ i =>
      obtain ⟨C, p, q⟩ := SlO.drop i s h
      exact ⟨C, p, s0, r.set i s, by rw [es]; rfl, q⟩
  | some d0 :: Γ, σ, A, i, s, h => by
    obtain ⟨v, r, B, C, es, h1, h2, eA⟩ := h
    subst eA
    cases i with
    | zero => exact ⟨C, List.sublist_append_right _ _, s, r, by rw [es]; rfl, h2⟩
    | succ i =>
      obtain ⟨C', p, q⟩ := SlO.drop i s h2
      exact ⟨B ++ C', List.Sublist.append (List.Sublist.refl _) p, v, r.set i s, B, C', by rw [es]; rfl, h1, q, rfl⟩
/-- filling a slot that is empty -/
theorem SlO.fill : ∀ {Γ : Gm} {σ : St} {C B : List Addr} {i : Nat} {d : D} {v : V}, SlO K fr H (Γ.set i none) σ C → σ[i]? = some (some v) → Ow K fr H d v B → ∃ A, A.Perm (B ++ C) ∧ SlO K fr H (Γ.set i (some d)) σ A
  | [], σ, C, B, i, d, v, h, e, o => by
    rw [List.set_nil] at h
    rw [h.1] at e; simp at e
  | x :: Γ, σ, C, B, i, d, v, h, e, o => by
    cases i with
    | zero =>
      obtain ⟨s, r, es, h⟩ := h
      rw [es, List.getElem?_cons_zero] at e
      cases e
      exact ⟨B ++ C, List.Perm.refl _, v, r, B, C, es, o, h, rfl⟩
    | succ i =>
      cases x with
      | none =>
        obtain ⟨s, r, es, h⟩ := h
        rw [es, List.getElem?_cons_succ] at e
        obtain ⟨A, p, q⟩ := SlO.fill h e o
        exact ⟨A, p, s, r, es, q⟩
      | some d0 =>
        obtain ⟨v0, r, B0, C0, es, h1, h2, eA⟩ := h
        subst eA
        rw [es, List.getElem?_cons_succ] at e
        obtain ⟨A, p, q⟩ := SlO.fill h2 e o
        refine ⟨B0 ++ A, ?_, v0, r, B0, A, es, h1, q, rfl⟩
        refine ((List.Perm.refl B0).append p).trans ?_
        rw [← List.append_assoc, ← List.append_assoc]
        exact List.perm_append_comm.append (List.Perm.refl C0)

/-- what an expression list leaves: temporaries vs of ds owning B -/
structure Po (K : PySem.W.Frag) (fr : Addr → Prop) (A : List Addr) (H : Hp) (Γ' : Gm) (σ : St) (ds : List D) (vs : List V) (fr' : Addr → Prop) (A' B : List Addr) (H' : Hp) : Prop where
  s : S K fr' A' Γ' σ H'
  o : OwL K fr' H' ds vs B
  nd : (A' ++ B).Nodup
  dj : ∀ b ∈ B, ¬ fr' b
  ex : Ext A fr H (A' ++ B) fr' H'

theorem S.adom (h : S K fr A Γ σ H) {b : Addr} (hb : b ∈ A) : ∃ vs, H b = some (.lst vs) := h.sl.dom b hb
theorem S.keep (h : S K fr A Γ σ H) (hf : ∀ b, fr b → fr' b) (hH : ∀ b x, (fr b ∨ b ∈ A) → H b = some x → H' b = some x) (hd : ∀ b ∈ A, ¬ fr' b) (hm : ∀ b, fr' b → ∃ x, H' b = some x) : S K fr' A Γ σ H' :=
  ⟨h.sl.mono hf hH, h.nd, hd, hm⟩
theorem disj_of {A B : List Addr} (h : (A ++ B).Nodup) {b : Addr} (hb : b ∈ A) (hc : b ∈ B) : False := by
  exact (List.nodup_append.mp h).2.2 b hb b hc rfl
theorem Po.nil (h : S K fr A Γ σ H) : Po K fr A H Γ σ [] [] fr A [] H :=
  ⟨h, OwL.nil, by rw [List.append_nil]; exact h.nd, fun b hb => (nomatch hb), by rw [List.append_nil]; exact .refl⟩
/-- temporaries stay while a step goes on from the slots alone -/
theorem Po.stay {ds : List D} {vs : List V} (p : Po K fr A H Γ1 σ ds vs fr1 A1 B1 H1) (e : Ext A1 fr1 H1 A2 fr2 H2) : OwL K fr2 H2 ds vs B1 ∧ (∀ b ∈ B1, ¬ fr2 b) ∧ (∀ b ∈ B1, b ∉ A2) ∧ Ext A fr H (A2 ++ B1) fr2 H2 := by
  have nA : ∀ b ∈ B1, b ∉ A1 := fun b hb hc => disj_of p.nd hc hb
  have dB : ∀ b ∈ B1, ∃ x, H1 b = some (.lst x) := fun b hb => p.o.dom _ _ _ b hb
  refine ⟨p.o.mono e.ff _ _ _ (fun b x hb q => e.kp b x q ?_), fun b hb hf => ?_, fun b hb hc => ?_, ?_⟩
  · rcases hb with hb | hb
    · exact fun z => p.s.dj b z hb
    · exact nA b hb
  · rcases e.fa b hf with z | z | z
    · exact p.dj b hb z
    · exact nA b hb z
    · obtain ⟨x, q⟩ := dB b hb
      rw [z] at q; cases q
  · rcases e.aa b hc with z | z
    · exact nA b hb z
    · obtain ⟨x, q⟩ := dB b hb
      rw [z] at q; cases q
  · have t := (p.ex.less (A2 := A1) fun b hb => List.mem_append_left _ hb).trans e
    refine ⟨t.kp, t.ff, fun b hb => ?_, t.fa⟩
    rcases List.mem_append.mp hb with hb | hb
    · exact t.aa b hb
    · exact p.ex.aa b (List.mem_append_right _ hb)
theorem Po.seq {ds es : List D} {vs us : List V} (p : Po K fr A H Γ1 σ ds vs fr1 A1 B1 H1) (q : Po K fr1 A1 H1 Γ2 σ es us fr2 A2 B2 H2) : Po K fr A H Γ2 σ (ds ++ es) (vs ++ us) fr2 A2 (B1 ++ B2) H2 := by
  obtain ⟨h1, h2, h3, h4⟩ := p.stay q.ex
  refine ⟨q.s, h1.app q.o, ?_, fun b hb => ?_, ?_⟩
  · rw [List.nodup_append] at *
    refine ⟨q.s.nd, ?_, ?_⟩
    · refine List.nodup_append.mpr ⟨(List.nodup_append.mp p.nd).2.1, (List.nodup_append.mp q.nd).2.1, fun x hx y hy e => ?_⟩
      subst e
      exact h3 x hx (List.mem_append_right _ hy)
    · intro x hx y hy e
      subst e
      rcases List.mem_append.mp hy with hy | hy
      · exact h3 x hy (List.mem_append_left _ hx)
      · exact disj_of q.nd hx hy
  · rcases List.mem_append.mp hb with hb | hb
    · exact h2 b hb
    · exact q.dj b hb
  · refine h4.less fun b hb => ?_
    simp only [List.mem_append] at hb ⊢
    rcases hb with hb | hb | hb
    · exact .inl (.inl hb)
    · exact .inr hb
    · exact .inl (.inr hb)
end
end Sk

namespace Sk
open PySem PySem.Spec PyProof.Rows L2

/-- operations on values -/
inductive Pr where
  | add | sub | mul | fdiv | mod | pow | neg
  | eq | ne | lt | le | gt | ge | isN | notN | isB (b : Bool) | notB (b : Bool) | isin | notin
  | len | int_ | abs_ | min2 | max2 | min1 | max1 | sum | lst1 | tup1 | sorted1 | repr | isa (t : String) | all1 | any1 | str1 | range1
  | slc (lo hi : Bool) | rev
  | index | count | join | range2 | trange1 | gcd | id1 | fs1 | fj (s : Str)
  | crep (c y z : Str) | band | split
  deriving DecidableEq, Inhabited
/-- what is walked -/
inductive Ik where
  | val | range | enum | zip | rev
  deriving DecidableEq, Inhabited
inductive T where
  | n (i : Nat)
  | t (ts : List T)
  deriving Inhabited
/-- a list's methods that change it -/
inductive Mm where
  | append | extend | pop | popAt | insert | getAt
  deriving DecidableEq, Inhabited
inductive E where
  | int (i : Int) | bl (b : Bool) | non | str (s : Str)
  | loc (i : Nat) | auto (i : Nat) | mov (i : Nat)
  | tup (es : List E) | lst (es : List E)
  | idx (a b : E)
  | pr (p : Pr) (es : List E)
  | and_ (es : List E) | or_ (es : List E) | not_ (a : E)
  | ite (c a b : E)
  | chain (p q : Pr) (a b c : E)
  | call (f : Str) (es : List E)
  | cio (f : Str) (io : List Nat) (es : List E)
  | comp (t : T) (k : Ik) (src : List E) (cond : List E) (elt : E) (own : List Nat)
  | comp2 (t : T) (k : Ik) (src : List E) (cond : List E) (t2 : T) (k2 : Ik) (src2 : List E) (cond2 : List E) (elt : E) (own own2 : List Nat)
  | mut (i : Nat) (path : List E) (m : Mm) (es : List E)
  deriving Inhabited
inductive Sm where
  | asg (t : T) (e : E)
  | par (i j : Nat) (a b : E)
  | par3 (i j l : Nat) (a b c : E)
  | aug (i : Nat) (p : Pr) (e : E)
  | set (i : Nat) (path : List E) (k : E) (e : E)
  | augset (i : Nat) (path : List E) (k : E) (p : Pr) (e : E)
  | ex (e : E)
  | ext (i j : Nat)
  | iff (c : E) (a b : List Sm)
  | for_ (t : T) (k : Ik) (src : List E) (body : List Sm)
  | whl (n : Nat) (c : E) (body : List Sm)
  | ret (e : E) | retN | brk | cont | pass | dead
  deriving Inhabited

/-! ### the operations -/
mutual
def py : D → PyData
  | .non => .none | .bl b => .bool b | .int i => .int i | .str s => .str s
  | .scr ns => .list (ns.map PyData.int)
  | .tup ds => .tuple (pyL ds)
  | .lst _ ds => .list (pyL ds)
def pyL : List D → List PyData
  | [] => []
  | d :: ds => py d :: pyL ds
end
mutual
/-- depth of at most n -/
def dep : Nat → D → Bool
  | n, .tup ds => match n with | 0 => false | m + 1 => depL m ds
  | n, .lst _ ds => match n with | 0 => false | m + 1 => depL m ds
  | _, .str s => PyData.strOk s
  | n, .scr _ => n != 0
  | _, _ => true
def depL : Nat → List D → Bool
  | _, [] => true
  | n, d :: ds => dep n d && depL n ds
end
def mulOk (i j : Int) : Bool := decide (i.natAbs < 2 ^ 64) || decide (j.natAbs < 2 ^ 64) || decide (i.natAbs.log2 + j.natAbs.log2 < 1000000)
def divOk (j : Int) : Bool := decide (0 < j ∧ j.natAbs.log2 < 9000) || decide (j ≠ 0 ∧ (j.natAbs < 1073741824 ∨ j.natAbs.log2 < 9000))
def powOk (i j : Int) : Bool := decide (0 ≤ j ∧ j ≤ 1000000 ∧ i.natAbs < 2 ^ 64)
def szOk (n : Nat) : Bool := decide (n ≤ sizeLine)

def dInts : List D → Option (List Int)
  | [] => some []
  | .int i :: ds => (dInts ds).map (i :: ·)
  | _ => none
def dBls : List D → Option (List Bool)
  | [] => some []
  | .bl i :: ds => (dBls ds).map (i :: ·)
  | _ => none
def dSeq : D → Option (List D)
  | .tup ds => some ds
  | .lst _ ds => some ds
  | .scr ns => some (ns.map .int)
  | _ => none
def maxI : List Int → Option Int
  | [] => none
  | x :: r => some (r.foldl (fun a b => if b > a then b else a) x)
def minI : List Int → Option Int
  | [] => none
  | x :: r => some (r.foldl (fun a b => if b < a then b else a) x)
def ixD (n : Nat) (i : Int) : Option Nat := if 0 ≤ i then (if i < n then some i.toNat else none) else if -(n : Int) ≤ i then some (i + n).toNat else none
/-- a[i] -/
def idxF : D → D → Option D
  | .tup ds, .int i => (ixD ds.length i).bind (ds[·]?)
  | .lst _ ds, .int i => (ixD ds.length i).bind (ds[·]?)
  | .scr ns, .int i => ((ixD ns.length i).bind (ns[·]?)).map .int
  | .str s, .int i => if szOk s.length then ((ixD s.cps.toList.length i).bind (s.cps.toList[·]?)).map fun c => .str ⟨#[c]⟩ else none
  | _, _ => none
def cutL {α : Type} (xs : List α) (lo hi : Option Int) : List α := (xs.drop (HT.sIx xs.length 0 lo)).take (HT.sIx xs.length xs.length hi - HT.sIx xs.length 0 lo)
def slcF (x : D) (lo hi : Option Int) : Option D :=
  match x with
  | .lst _ ds => if unL ds then some (.lst true (cutL ds lo hi)) else none
  | .tup ds => if unL ds then some (.tup (cutL ds lo hi)) else none
  | .str z => if szOk z.length then some (.str (cutS z lo hi)) else none
  | _ => none
def eqOk (a b : D) : Bool := dep 60 a && dep 60 b
def scalD : D → Bool
  | .non => true | .bl _ => true | .int _ => true | .str _ => true | _ => false
def eqF (a b : D) : Option Bool := if eqOk a b then some (PyData.eqv (py a) (py b)) else none
def anyEq (x : D) (ds : List D) : Bool := ds.any fun y => PyData.eqv (py y) (py x)
/-- x in s -/
def inF (x : D) : D → Option Bool
  | .lst _ ds => if dep 60 x && depL 60 ds then some (anyEq x ds) else none
  | .scr ns => if dep 60 x then some (anyEq x (ns.map .int)) else none
  | .tup ds => if scalD x && ds.all scalD then some (anyEq x ds) else none
  | _ => none
def nonD : D → Bool
  | .non => true | _ => false
def isBD (b : Bool) : D → Bool
  | .bl c => c == b | _ => false
def isaD (t : String) : D → Bool
  | .str _ => t == "str" | .int _ => t == "int" | .bl _ => t == "int" || t == "bool" | .tup _ => t == "tuple" | .lst _ _ => t == "list" | .scr _ => t == "list" | .non => false
/-- `<` of any two that can be compared -/
def ltV (a b : D) : Option Bool := if dep 60 a && dep 60 b && PySem.W.alike (py a) (py b) && !nonD a then some (PySem.W.dataLt (py a) (py b)) else none
def ltF : D → D → Option Bool
  | .int i, .int j => some (decide (i < j))
  | a, b => ltV a b
/-- `<`, also of tuples of numbers -/
def ltF2 : D → D → Option Bool
  | .tup as, .tup bs => match dInts as, dInts bs with
    | some ns, some ms => some (HT.lexLt ns ms)
    | _, _ => ltV (.tup as) (.tup bs)
  | a, b => ltF a b
@[simp] theorem ltF2_int (i j : Int) : ltF2 (.int i) (.int j) = some (decide (i < j)) := rfl
@[simp] theorem ltF_int (i j : Int) : ltF (.int i) (.int j) = some (decide (i < j)) := rfl
/-- all can be compared -/
def cmpAll (ds : List D) : Bool := ds.all fun x => dep 60 x && !nonD x && ds.all fun y => PySem.W.alike (py x) (py y)
def leastD : List D → Option D
  | [] => none
  | x :: xs => some (xs.foldl (fun a y => if PySem.W.dataLt (py y) (py a) then y else a) x)
def mostD : List D → Option D
  | [] => none
  | x :: xs => some (xs.foldl (fun a y => if PySem.W.dataLt (py a) (py y) then y else a) x)
def dStrs : List D → Option (List Str)
  | [] => some []
  | .str i :: ds => (dStrs ds).map (i :: ·)
  | _ => none
/-- where the first that is alike stands; how many are alike -/
def findE (x : D) (ds : List D) : Option Nat := PySem.SeqAt.dataPlace (pyL ds) (py x)
def cntE (x : D) (ds : List D) : Nat := (pyL ds).countP fun y => PyData.eqv y (py x)
def joinOk (a : Str) (ys : List Str) : Bool := decide ((ys.map (·.length)).sum + ys.length * a.length ≤ 16777216)
def revS (x : Str) : Str := ⟨x.cps.reverse⟩
/-- in ascending order, alike ones as they stand -/
def sortD (ds : List D) : List D := ds.mergeSort (PySem.W.dataLe false py)
def tupD : D → Bool
  | .tup (_ :: _) => true | _ => false
def notTup : D → Bool
  | .tup _ => false | _ => true
def srtOk (ds : List D) : Bool := unL ds && cmpAll ds && (ds.all tupD || ds.all notTup) && decide (ds.length ≤ sizeLine)
def rangeL (lo : Int) : Nat → List D
  | 0 => []
  | n + 1 => .int lo :: rangeL (lo + 1) n
def rangeC (lo c : Int) (n : Nat) : List D := (List.range n).map fun i : Nat => .int (lo + (i : Int) * c)
def intT (i : Int) : Str := Str.ofString (toString i)
/-- a text so many times -/
def repS (a : Str) (n : Nat) : Str := ⟨(List.replicate n a.cps).foldl (· ++ ·) #[]⟩
/-- f"{i}s{j}" -/
def fjF (s : Str) (i j : Int) : Option D := if decide (i.natAbs.log2 < 1920) && decide (j.natAbs.log2 < 1920) && szOk (Str.empty ++ intT i).length && szOk (Str.empty ++ intT i ++ s).length && szOk (Str.empty ++ intT i ++ s ++ intT j).length then some (.str (Str.empty ++ intT i ++ s ++ intT j)) else none
/-- "c" + x.replace("y", "z") -/
def crepF (c y z x : Str) : Option D := if decide (x.length + (x.length + 1) * z.length ≤ 16777216) && szOk (c.length + (Txt.replace x y z).length) then some (.str (c ++ Txt.replace x y z)) else none
def prF : Pr → List D → Option D
  | .add, [.int i, .int j] => some (.int (i + j))
  | .add, [.str a, .str b] => if szOk (a.length + b.length) then some (.str (a ++ b)) else none
  | .add, [.lst _ a, .lst _ b] => if unL a && unL b && szOk (a.length + b.length) then some (.lst true (a ++ b)) else none
  | .add, [.tup a, .tup b] => if unL a && unL b && szOk (a.length + b.length) then some (.tup (a ++ b)) else none
  | .sub, [.int i, .int j] => some (.int (i - j))
  | .mul, [.int i, .int j] => if mulOk i j then some (.int (i * j)) else none
  | .mul, [.str a, .int j] => if decide (-(2 ^ 63) ≤ j ∧ j < 2 ^ 63) && szOk (a.length * j.toNat) then some (.str (repS a j.toNat)) else none
  | .mul, [.lst _ a, .int j] => if unL a && decide (-(2 ^ 63) ≤ j ∧ j < 2 ^ 63) && szOk (a.length * j.toNat) then some (.lst true (List.replicate j.toNat a).flatten) else none
  | .fdiv, [.int i, .int j] => if divOk j then some (.int (i.fdiv j)) else none
  | .mod, [.int i, .int j] => if j ≠ 0 then some (.int (i.fmod j)) else none
  | .pow, [.int i, .int j] => if powOk i j then some (.int (i ^ j.toNat)) else none
  | .neg, [.int i] => some (.int (-i))
  | .eq, [a, b] => (eqF a b).map .bl
  | .ne, [a, b] => (eqF a b).map fun c => .bl (!c)
  | .lt, [a, b] => (ltF2 a b).map .bl
  | .gt, [a, b] => (ltF b a).map .bl
  | .le, [a, b] => (ltF b a).map fun c => .bl (!c)
  | .ge, [a, b] => (ltF a b).map fun c => .bl (!c)
  | .isN, [a] => some (.bl (nonD a))
  | .notN, [a] => some (.bl (!nonD a))
  | .isB b, [a] => some (.bl (isBD b a))
  | .notB b, [a] => some (.bl (!isBD b a))
  | .isin, [x, s] => (inF x s).map .bl
  | .notin, [x, s] => (inF x s).map fun b => .bl (!b)
  | .len, [.str s] => if szOk s.length then some (.int s.length) else none
  | .len, [s] => (dSeq s).map fun ds => .int ds.length
  | .int_, [.int i] => some (.int i)
  | .int_, [.bl b] => some (.int (if b then 1 else 0))
  | .abs_, [.int i] => some (.int (if i < 0 then -i else i))
  | .min2, [.int i, .int j] => some (.int (if j < i then j else i))
  | .max2, [.int i, .int j] => some (.int (if j > i then j else i))
  | .min1, [.lst _ ds] => match dInts ds with
    | some ns => (minI ns).map .int
    | none => if unL ds && cmpAll ds then leastD ds else none
  | .max1, [.lst _ ds] => match dInts ds with
    | some ns => (maxI ns).map .int
    | none => if unL ds && cmpAll ds then mostD ds else none
  | .min1, [.tup ds] => if unL ds && cmpAll ds then leastD ds else none
  | .max1, [.tup ds] => if unL ds && cmpAll ds then mostD ds else none
  | .sorted1, [.lst _ ds] => match dInts ds with
    | some ns => some (.lst true ((ns.mergeSort fun a b => decide (a ≤ b)).map D.int))
    | none => if srtOk ds then some (.lst true (sortD ds)) else none
  | .sorted1, [.tup ds] => if srtOk ds then some (.lst true (sortD ds)) else none
  | .str1, [.int i] => if i.natAbs.log2 < 1920 then some (.str (intT i)) else none
  | .fs1, [.int i] => if i.natAbs.log2 < 1920 then some (.str (intT i)) else none
  | .fj s, [.int i, .int j] => fjF s i j
  | .sum, [.lst _ ds] => (dInts ds).map fun ns => .int ns.sum
  | .sum, [.tup ds] => (dInts ds).map fun ns => .int ns.sum
  | .all1, [.lst _ ds] => (dBls ds).map fun ns => .bl (ns.all id)
  | .any1, [.lst _ ds] => (dBls ds).map fun ns => .bl (ns.any id)
  | .lst1, [s] => match dSeq s with
    | some ds => if unL ds then some (.lst true ds) else none
    | none => none
  | .tup1, [s] => match dSeq s with
    | some ds => if unL ds then some (.tup ds) else none
    | none => none
  | .slc true true, [x, .int i, .int j] => slcF x (some i) (some j)
  | .slc true false, [x, .int i] => slcF x (some i) none
  | .slc false true, [x, .int j] => slcF x none (some j)
  | .slc false false, [x] => slcF x none none
  | .isa t, [a] => some (.bl (isaD t a))
  | .repr, [.int i] => if i.natAbs.log2 < 1920 then some (.str (toString i)) else none
  | .repr, [.str s] => if szOk (reprText s).length then some (.str (reprText s)) else none
  | .rev, [.lst _ ds] => if unL ds then some (.lst true ds.reverse) else none
  | .rev, [.str z] => if szOk z.length then some (.str (revS z)) else none
  | .rev, [.tup ds] => if unL ds then some (.tup ds.reverse) else none
  | .index, [.lst _ ds, x] => if dep 60 x && depL 60 ds then (findE x ds).map fun j => .int (j : Nat) else none
  | .count, [.lst _ ds, x] => if dep 60 x && depL 60 ds then some (.int (cntE x ds : Nat)) else none
  | .count, [.str a, .str b] => some (.int (Txt.count a b))
  | .join, [.str a, .lst _ ds] => (dStrs ds).bind fun ys => if joinOk a ys then some (.str (Txt.join a ys)) else none
  | .join, [.str a, .tup ds] => (dStrs ds).bind fun ys => if joinOk a ys then some (.str (Txt.join a ys)) else none
  | .range2, [.int i, .int j] => if decide (-(2 ^ 62) ≤ i ∧ i < 2 ^ 62 ∧ -(2 ^ 62) ≤ j ∧ j < 2 ^ 62 ∧ (j - i).toNat ≤ 2 ^ 24) then some (.lst true (rangeL i (j - i).toNat)) else none
  | .trange1, [.int n] => if decide (-(2 ^ 62) ≤ n ∧ n < 2 ^ 62 ∧ n.toNat ≤ 2 ^ 24) then some (.tup (rangeL 0 n.toNat)) else none
  | .id1, [d] => if un d then some d else none
  | .range1, [.int n] => if decide (-(2 ^ 62) ≤ n ∧ n < 2 ^ 62 ∧ n.toNat ≤ 2 ^ 24) then some (.lst true (rangeL 0 n.toNat)) else none
  | .gcd, [.int i, .int j] => some (.int (Int.gcd i j))
  | .crep c y z, [.str x] => crepF c y z x
  | .band, [.int i, .int j] => some (.int (Builtin.bitAnd i j))
  | .split, [.str a, .str b] => if b.length != 0 && decide (a.length + 2 ≤ sizeLine) then some (.lst true ((Txt.split a b).map D.str)) else none
  | _, _ => none
/-- truth -/
def truD : D → Option Bool
  | .non => some false
  | .bl b => some b
  | .int i => some (i != 0)
  | .str s => if szOk s.length then some (s.length != 0) else none
  | .tup ds => some (!ds.isEmpty)
  | .lst _ ds => some (!ds.isEmpty)
  | .scr ns => some (!ns.isEmpty)
/-- items -/
def enumL : Nat → List D → List D
  | _, [] => []
  | n, d :: ds => .tup [.int (n : Int), d] :: enumL (n + 1) ds
def zipLD : List D → List D → List D
  | a :: as, b :: bs => .tup [a, b] :: zipLD as bs
  | _, _ => []
def zip3LD : List D → List D → List D → List D
  | a :: as, b :: bs, c :: cs => .tup [a, b, c] :: zip3LD as bs cs
  | _, _, _ => []
def rgOk (i : Int) : Bool := decide (-(2 ^ 62) ≤ i ∧ i < 2 ^ 62)
def itF : Ik → List D → Option (List D)
  | .val, [.lst _ ds] => if unL ds then some ds else none
  | .val, [.tup ds] => if unL ds then some ds else none
  | .val, [.scr ns] => some (ns.map .int)
  | .val, [.str z] => some (z.cps.toList.map fun c => .str ⟨#[c]⟩)
  | .range, [.int j] => if rgOk j then some (rangeL 0 j.toNat) else none
  | .range, [.int i, .int j] => if rgOk i && rgOk j then some (rangeL i (j - i).toNat) else none
  | .range, [.int i, .int j, .int c] => if decide (c ≠ 0 ∧ c.natAbs < 1073741824 ∧ 0 ≤ Builtin.Range.rangeSize i j c) && Builtin.Range.small i j c then some (rangeC i c (Builtin.Range.rangeSize i j c).toNat) else none
  | .enum, [.lst _ ds] => if unL ds then some (enumL 0 ds) else none
  | .enum, [.tup ds] => if unL ds then some (enumL 0 ds) else none
  | .enum, [.str z] => some (enumL 0 (z.cps.toList.map fun c => .str ⟨#[c]⟩))
  | .zip, [.lst _ as, .lst _ bs] => if unL as && unL bs then some (zipLD as bs) else none
  | .zip, [.tup as, .tup bs] => if unL as && unL bs then some (zipLD as bs) else none
  | .zip, [.lst _ as, .tup bs] => if unL as && unL bs then some (zipLD as bs) else none
  | .zip, [.tup as, .lst _ bs] => if unL as && unL bs then some (zipLD as bs) else none
  | .zip, [.lst _ as, .lst _ bs, .lst _ cs] => if unL as && unL bs && unL cs then some (zip3LD as bs cs) else none
  | .rev, [.lst _ ds] => if unL ds then some ds.reverse else none
  | _, _ => none

/-! ### what is touched -/
mutual
def pur : E → Bool
  | .int _ => true | .bl _ => true | .non => true | .str _ => true | .loc _ => true
  | .auto _ => false | .mov _ => false
  | .tup es => purL es | .lst es => purL es
  | .idx a b => pur a && pur b
  | .pr _ es => purL es
  | .and_ es => purL es | .or_ es => purL es | .not_ a => pur a
  | .ite c a b => pur c && pur a && pur b
  | .chain _ _ a b c => pur a && pur b && pur c
  | .call _ es => purL es
  | .cio _ _ _ => false
  | .comp _ _ src cond elt _ => purL src && purL cond && pur elt
  | .comp2 _ _ src cond _ _ src2 cond2 elt _ _ => purL src && purL cond && purL src2 && purL cond2 && pur elt
  | .mut _ _ _ _ => false
def purL : List E → Bool
  | [] => true
  | e :: es => pur e && purL es
end
mutual
def aT (i : Nat) : T → Bool
  | .n j => i == j
  | .t ts => aTL i ts
def aTL (i : Nat) : List T → Bool
  | [] => false
  | t :: ts => aT i t || aTL i ts
end
mutual
/-- is the name in slot i bound anew -/
def aS (i : Nat) : Sm → Bool
  | .asg t _ => aT i t
  | .par a b _ _ => i == a || i == b
  | .par3 a b c _ _ _ => i == a || i == b || i == c
  | .aug j _ _ => i == j
  | .set _ _ _ _ => false | .augset _ _ _ _ _ => false | .ex _ => false | .ext _ _ => false
  | .iff _ a b => aSL i a || aSL i b
  | .for_ t _ _ b => aT i t || aSL i b
  | .whl _ _ b => aSL i b
  | .ret _ => false | .retN => false | .brk => false | .cont => false | .pass => false | .dead => false
def aSL (i : Nat) : List Sm → Bool
  | [] => false
  | s :: r => aS i s || aSL i r
end
def clr (Γ : Gm) : List Nat → Gm
  | [] => Γ
  | i :: r => clr (Γ.set i none) r
/-- the slot at the root of a view -/
def root : E → Option Nat
  | .loc i => some i
  | .idx a _ => root a
  | _ => none

/-! ### a view that is lent -/
mutual
def eqD : D → D → Bool
  | .non, .non => true
  | .bl a, .bl b => a == b
  | .int a, .int b => decide (a = b)
  | .str a, .str b => decide (a = b)
  | .scr a, .scr b => decide (a = b)
  | .tup a, .tup b => eqDL a b
  | .lst o a, .lst p b => o == p && eqDL a b
  | _, _ => false
def eqDL : List D → List D → Bool
  | [], [] => true
  | a :: as, b :: bs => eqD a b && eqDL as bs
  | _, _ => false
end
mutual
theorem eqD_eq : ∀ a b : D, eqD a b = true → a = b
  | .non, b, h => by cases b <;> first | rfl | (simp [eqD] at h)
  | .bl a, b, h => by cases b <;> first | (simp [eqD] at h; done) | (simp [eqD] at h; rw [h])
  | .int a, b, h => by cases b <;> first | (simp [eqD] at h; done) | (simp [eqD] at h; rw [h])
  | .str a, b, h => by cases b <;> first | (simp [eqD] at h; done) | (simp [eqD] at h; rw [h])
  | .scr a, b, h => by cases b <;> first | (simp [eqD] at h; done) | (simp [eqD] at h; rw [h])
  | .tup a, b, h => by
    cases b with
    | tup b => rw [eqD] at h; rw [eqDL_eq a b h]
    | _ => simp [eqD] at h
  | .lst o a, b, h => by
    cases b with
    | lst p b =>
      rw [eqD, Bool.and_eq_true] at h
      rw [eq_of_beq h.1, eqDL_eq a b h.2]
    | _ => simp [eqD] at h
theorem eqDL_eq : ∀ a b : List D, eqDL a b = true → a = b
  | [], b, h => by cases b <;> first | rfl | (simp [eqDL] at h)
  | a :: as, b, h => by
    cases b with
    | nil => simp [eqDL] at h
    | cons b bs =>
      rw [eqDL, Bool.and_eq_true] at h
      rw [eqD_eq a b h.1, eqDL_eq as bs h.2]
end
/-- behind a view that was lent: nothing that may hold on to it -/
def okO : Option D → Option D → Bool
  | _, none => true
  | some d, some e => al e || (un d && eqD d e)
  | none, some e => al e
def okBs : Gm → Gm → Bool
  | [], [] => true
  | o :: Γ, p :: Γ2 => okO o p && okBs Γ Γ2
  | _, _ => false
def okB : Gm → Gm → Nat → Bool
  | _ :: Γ, _ :: Γ2, 0 => okBs Γ Γ2
  | o :: Γ, p :: Γ2, i + 1 => okO o p && okB Γ Γ2 i
  | _, _, _ => false
mutual
/-- is the slot looked at -/
def rdE (i : Nat) : E → Bool
  | .int _ => false | .bl _ => false | .non => false | .str _ => false
  | .loc j => i == j | .auto j => i == j | .mov j => i == j
  | .tup es => rdL i es | .lst es => rdL i es
  | .idx a b => rdE i a || rdE i b
  | .pr _ es => rdL i es
  | .and_ es => rdL i es | .or_ es => rdL i es | .not_ a => rdE i a
  | .ite c a b => rdE i c || rdE i a || rdE i b
  | .chain _ _ a b c => rdE i a || rdE i b || rdE i c
  | .call _ es => rdL i es
  | .cio _ _ es => rdL i es
  | .comp _ _ src cond elt _ => rdL i src || rdL i cond || rdE i elt
  | .comp2 _ _ src cond _ _ src2 cond2 elt _ _ => rdL i src || rdL i cond || rdL i src2 || rdL i cond2 || rdE i elt
  | .mut j ps _ es => i == j || rdL i ps || rdL i es
def rdL (i : Nat) : List E → Bool
  | [] => false
  | e :: es => rdE i e || rdL i es
end

/-! ### the evaluator -/
/-- the callees: how many arguments are handed back changed; what they tell -/
abbrev Fn := List D → Option (D × List D)
abbrev Tab := Str → Option (Nat × Nat × Fn)
inductive R where
  | nx (Γ : Gm) | rt (d : D) (Γ : Gm) | bk (Γ : Gm) | ct (Γ : Gm)
mutual
def asgT : T → D → Gm → Option Gm
  | .n i, d, Γ => if i < Γ.length then some (Γ.set i (some d)) else none
  | .t ts, .tup ds, Γ => asgTs ts ds Γ
  | .t _, _, _ => none
def asgTs : List T → List D → Gm → Option Gm
  | [], [], Γ => some Γ
  | t :: ts, d :: ds, Γ => (asgT t d Γ).bind fun Γ' => asgTs ts ds Γ'
  | _, _, _ => none
end
def wipeG (Γ : Gm) : List Nat → Gm
  | [] => Γ
  | v :: vs => (wipeG Γ vs).set v none
mutual
def tIn (own : List Nat) : T → Bool
  | .n i => own.contains i
  | .t ts => tIns own ts
def tIns (own : List Nat) : List T → Bool
  | [] => true
  | t :: ts => tIn own t && tIns own ts
end
/-- behind a block: its own names are the outer ones again -/
def backG (Γ0 Γ : Gm) : List Nat → Gm
  | [] => Γ
  | v :: vs => (backG Γ0 Γ vs).set v (Γ0.getD v none)
/-- the outer names that a block hides own nothing -/
def hideOk (Γ : Gm) (own : List Nat) : Bool := own.all fun v => match Γ[v]? with | some (some d) => un d | some none => true | none => false
def compL (f : D → Gm → Option (List D × Gm)) : List D → Gm → Option (List D × Gm)
  | [], Γ => some ([], Γ)
  | d :: ds, Γ => (f d Γ).bind fun (r, Γ1) => (compL f ds Γ1).bind fun (rs, Γ2) => some (r ++ rs, Γ2)
def forL (f : D → Gm → Option R) : List D → Gm → Option R
  | [], Γ => some (.nx Γ)
  | d :: ds, Γ => match f d Γ with
    | some (.nx Γ') => forL f ds Γ'
    | some (.ct Γ') => forL f ds Γ'
    | some (.bk Γ') => some (.nx Γ')
    | some (.rt d Γ') => some (.rt d Γ')
    | none => none
def whlL (c : Gm → Option (Bool × Gm)) (f : Gm → Option R) : Nat → Gm → Option R
  | 0, _ => none
  | n + 1, Γ => match c Γ with
    | some (true, Γ1) => (match f Γ1 with
      | some (.nx Γ') => whlL c f n Γ'
      | some (.ct Γ') => whlL c f n Γ'
      | some (.bk Γ') => some (.nx Γ')
      | some (.rt d Γ') => some (.rt d Γ')
      | none => none)
    | some (false, Γ1) => some (.nx Γ1)
    | none => none
def getS (Γ : Gm) (i : Nat) : Option D := (Γ[i]?).join
def getSs (Γ : Gm) : List Nat → Option (List D)
  | [] => some []
  | i :: r => (getS Γ i).bind fun d => (getSs Γ r).map (d :: ·)
def setSs (Γ : Gm) : List Nat → List D → Gm
  | i :: r, d :: ds => setSs (Γ.set i (some d)) r ds
  | _, _ => Γ
/-- a change at the end of a path through owned lists -/
def updP (f : D → Option (D × D)) : List D → D → Option (D × D)
  | [], d => f d
  | .int i :: p, .lst true ds => (ixD ds.length i).bind fun j => (ds[j]?).bind fun x => (updP f p x).bind fun (r, x') => some (r, .lst true (ds.set j x'))
  | _, _ => none
/-- .. also through a tuple, one place deep -/
def updQ (f : D → Option (D × D)) : List D → D → Option (D × D)
  | [.int i], .tup ds => (ixD ds.length i).bind fun j => (ds[j]?).bind fun x => (f x).bind fun (r, x') => some (r, .tup (ds.set j x'))
  | ps, d => updP f ps d
/-- a list stands at the end of a path of one place at most -/
def isLAt : List D → D → Bool
  | [], .lst _ _ => true
  | [p], .lst o ds => match idxF (.lst o ds) p with | some (.lst _ _) => true | _ => false
  | _, _ => false
def isLAtQ : List D → D → Bool
  | [p], .tup ds => match idxF (.tup ds) p with | some (.lst _ _) => true | _ => false
  | ps, d => isLAt ps d
def mmF : Mm → List D → D → Option (D × D)
  | .append, [x], .lst true ds => if ds.length < sizeLine then some (.non, .lst true (ds ++ [x])) else none
  | .extend, [.lst _ xs], .lst true ds => if unL xs && szOk (ds.length + xs.length) then some (.non, .lst true (ds ++ xs)) else none
  | .pop, [], .lst true ds => (ds[ds.length - 1]?).map fun x => (x, .lst true ds.dropLast)
  | .getAt, [.int i], .lst true ds => (ixD ds.length i).bind fun k => (ds[k]?).bind fun x => if un x then some (x, .lst true ds) else none
  | .popAt, [.int i], .lst true ds => if decide (-(2 ^ 63) ≤ i ∧ i < 2 ^ 63) then (ixD ds.length i).bind fun k => (ds[k]?).map fun x => (x, .lst true (ds.eraseIdx k)) else none
  | .insert, [.int i, x], .lst true ds => if decide (ds.length < sizeLine) && decide (0 ≤ i ∧ i < 2 ^ 63) then some (.non, .lst true (ds.take i.toNat ++ [x] ++ ds.drop i.toNat)) else none
  | _, _, _ => none
def setF (k v : D) : D → Option (D × D)
  | .lst true ds => match k with
    | .int i => (ixD ds.length i).map fun j => (.non, .lst true (ds.set j v))
    | _ => none
  | _ => none

def isI : D → Bool
  | .int _ => true | _ => false
/-- how an expression is asked: as a value of one's own, as an operand that is only looked at, as a test -/
inductive Md where
  | val | opd | tst
  deriving DecidableEq
def fin (m : Md) (x : D × Gm) : D × Gm := match m with | .val => x | _ => (frz x.1, x.2)
/-- a part that is owned elsewhere -/
def fin2 (m : Md) (d : D) (Γ : Gm) : Option (D × Gm) := match m with | .val => if un d then some (d, Γ) else none | _ => some (d, Γ)
mutual
def ev (Φ : Tab) : E → Md → Gm → Option (D × Gm)
  | .int i, _, Γ => some (.int i, Γ)
  | .bl b, _, Γ => some (.bl b, Γ)
  | .non, _, Γ => some (.non, Γ)
  | .str s, _, Γ => some (.str s, Γ)
  | .loc i, m, Γ => (getS Γ i).bind fun d => fin2 m d Γ
  | .auto i, _, Γ => (getS Γ i).bind fun d => some (frz d, Γ.set i (some (frz d)))
  | .mov i, m, Γ => (getS Γ i).bind fun d => some (fin m (d, Γ.set i none))
  | .tup es, m, Γ => (evEs Φ es Γ).bind fun (ds, Γ) => if szOk ds.length then some (fin m (.tup ds, Γ)) else none
  | .lst es, m, Γ => (evEs Φ es Γ).bind fun (ds, Γ) => if szOk ds.length then some (fin m (.lst true ds, Γ)) else none
  | .idx a b, m, Γ => (ev Φ a .opd Γ).bind fun (x, Γ1) => if (root a).isNone || pur b then (ev Φ b .val Γ1).bind fun (y, Γ2) => (idxF x y).bind fun r => fin2 m r Γ2 else none
  | .pr p es, m, Γ => (evOs Φ es Γ).bind fun (ds, Γ) => (prF p ds).map fun r => fin m (r, Γ)
  | .and_ es, m, Γ => match m with
    | .tst => evTAnd Φ es Γ
    | m => (evAnd Φ es Γ).map (fin m)
  | .or_ es, m, Γ => match m with
    | .tst => evTOr Φ es Γ
    | m => (evOr Φ es Γ).map (fin m)
  | .not_ a, _, Γ => (ev Φ a .tst Γ).bind fun (d, Γ) => (truD d).map fun b => (.bl (!b), Γ)
  | .ite c a b, m, Γ => (ev Φ c .tst Γ).bind fun (d, Γ) => (truD d).bind fun t => (if t then ev Φ a .val Γ else ev Φ b .val Γ).map (fin m)
  | .chain p q a b c, _, Γ => if pur a && pur b && pur c then (ev Φ a .opd Γ).bind fun (x, Γ1) => (ev Φ b .opd Γ1).bind fun (y, Γ2) => (prF p [x, y]).bind fun r => match r with
      | .bl true => (ev Φ c .opd Γ2).bind fun (z, Γ3) => (prF q [y, z]).bind fun r => match r with
        | .bl t => some (.bl t, Γ3)
        | _ => none
      | .bl false => some (.bl false, Γ2)
      | _ => none
    else none
  | .call f es, m, Γ => (evOs Φ es Γ).bind fun (ds, Γ) => match Φ f with
    | some (np, 0, φ) => if ds.length = np then (φ (frzL ds)).bind fun (r, _) => if unL ds || al r then some (fin m (r, Γ)) else none else none
    | _ => none
  | .cio f io es, m, Γ0 => if (getSs Γ0 io).isSome then (evOs Φ es Γ0).bind fun (ds, Γ) => match Φ f with
    | some (np, n, φ) => if n = io.length && unL ds && decide io.Nodup && np = n + ds.length then (getSs Γ io).bind fun xs => (φ (xs ++ ds)).bind fun (r, xs') => if xs'.length = xs.length then some (fin m (r, setSs Γ io xs')) else none
      else if n = io.length && purL es && decide io.Nodup then (evOs Φ es (clr Γ0 io)).bind fun (ds, _) => if np = n + ds.length then (getSs Γ0 io).bind fun xs => (φ (xs ++ frzL ds)).bind fun (r, xs') => if xs'.length = xs.length && al r && alL xs' then some (fin m (r, setSs Γ0 io xs')) else none else none else none
    | none => none else none
  | .comp t k src cond elt own, m, Γ => (evOs Φ src Γ).bind fun (ds, Γ1) => (itF k ds).bind fun items =>
      if hideOk Γ1 own && (unL ds || (purL cond && pur elt)) && tIn own t then
        (compL (fun d Γ => (asgT t d Γ).bind fun Γ => (evCond Φ cond Γ).bind fun (b, Γ) => if b then (ev Φ elt .val Γ).bind fun (r, Γ) => if hideOk Γ own then some ([r], wipeG Γ own) else none else if hideOk Γ own then some ([], wipeG Γ own) else none) items (wipeG Γ1 own)).bind fun (rs, Γ2) =>
        if rs.length ≤ sizeLine then some (fin m (.lst true rs, backG Γ1 Γ2 own)) else none
      else none
  | .comp2 t k src cond t2 k2 src2 cond2 elt own own2, m, Γ => (evOs Φ src Γ).bind fun (ds, Γ1) => (itF k ds).bind fun items =>
      if hideOk Γ1 own && (unL ds || (purL cond && purL src2 && purL cond2 && pur elt)) && tIn own t && tIn own2 t2 && own2.all own.contains then
        (compL (fun d Γ => (asgT t d Γ).bind fun Γ => (evCond Φ cond Γ).bind fun (b, Γ) => if b then
            (evOs Φ src2 Γ).bind fun (ds2, Γ) => (itF k2 ds2).bind fun items2 => if hideOk Γ own && (unL ds2 || (purL cond2 && pur elt)) then
              (compL (fun d Γ => (asgT t2 d Γ).bind fun Γ => (evCond Φ cond2 Γ).bind fun (b, Γ) => if b then (ev Φ elt .val Γ).bind fun (r, Γ) => if hideOk Γ own then some ([r], wipeG Γ own2) else none else if hideOk Γ own then some ([], wipeG Γ own2) else none) items2 (wipeG Γ own2)).bind fun (rs, Γ) => some (rs, wipeG Γ own)
            else none
          else if hideOk Γ own then some ([], wipeG Γ own) else none) items (wipeG Γ1 own)).bind fun (rs, Γ2) =>
        if rs.length ≤ sizeLine then some (fin m (.lst true rs, backG Γ1 Γ2 own)) else none
      else none
  | .mut i path mm es, m, Γ => if (purL es || path.isEmpty) && decide (path.length ≤ 1) && (getS Γ i).isSome then
      (evEs Φ path Γ).bind fun (ps, Γ1) => (getS Γ1 i).bind fun x1 => if isLAtQ ps x1 then (evEs Φ es Γ1).bind fun (ds, Γ2) => (getS Γ2 i).bind fun x => (updQ (mmF mm ds) ps x).bind fun (r, x') => some (fin m (r, Γ2.set i (some x')))
      else none
    else if decide (path.length = 1) && (getS Γ i).isSome then
      (evEs Φ path Γ).bind fun (ps, Γ1) => (getS Γ1 i).bind fun x1 => if isLAtQ ps x1 then
        if rdL i es then (evEs Φ es (Γ1.set i (some (frz x1)))).bind fun (ds, Γ2) => if alL ds && okB Γ1 Γ2 i then (updQ (mmF mm ds) ps x1).bind fun (r, x') => some (fin m (r, Γ2.set i (some x'))) else none
        else (evEs Φ es (Γ1.set i none)).bind fun (ds, Γ2) => if Γ2[i]?.any Option.isNone then (updQ (mmF mm ds) ps x1).bind fun (r, x') => some (fin m (r, Γ2.set i (some x'))) else none
      else none
    else none
def evEs (Φ : Tab) : List E → Gm → Option (List D × Gm)
  | [], Γ => some ([], Γ)
  | e :: es, Γ => (ev Φ e .val Γ).bind fun (d, Γ) => (evEs Φ es Γ).bind fun (ds, Γ) => some (d :: ds, Γ)
def evOs (Φ : Tab) : List E → Gm → Option (List D × Gm)
  | [], Γ => some ([], Γ)
  | e :: es, Γ => (ev Φ e .opd Γ).bind fun (d, Γ) => if (root e).isNone || purL es then (evOs Φ es Γ).bind fun (ds, Γ) => some (d :: ds, Γ) else none
def evTAnd (Φ : Tab) : List E → Gm → Option (D × Gm)
  | [], Γ => none
  | e :: es, Γ => (ev Φ e .tst Γ).bind fun (d, Γ) => (truD d).bind fun b => if b then (match es with | [] => some (.bl true, Γ) | _ :: _ => evTAnd Φ es Γ) else some (.bl false, Γ)
def evTOr (Φ : Tab) : List E → Gm → Option (D × Gm)
  | [], Γ => none
  | e :: es, Γ => (ev Φ e .tst Γ).bind fun (d, Γ) => (truD d).bind fun b => if b then some (.bl true, Γ) else (match es with | [] => some (.bl false, Γ) | _ :: _ => evTOr Φ es Γ)
/-- as values -/
def evAnd (Φ : Tab) : List E → Gm → Option (D × Gm)
  | [], Γ => none
  | e :: es, Γ => (ev Φ e .val Γ).bind fun (d, Γ) => match es with
    | [] => some (d, Γ)
    | _ :: _ => if un d then (truD d).bind fun b => if b then evAnd Φ es Γ else some (d, Γ) else none
def evOr (Φ : Tab) : List E → Gm → Option (D × Gm)
  | [], Γ => none
  | e :: es, Γ => (ev Φ e .val Γ).bind fun (d, Γ) => match es with
    | [] => some (d, Γ)
    | _ :: _ => if un d then (truD d).bind fun b => if b then some (d, Γ) else evOr Φ es Γ else none
def evCond (Φ : Tab) : List E → Gm → Option (Bool × Gm)
  | [], Γ => some (true, Γ)
  | e :: _, Γ => (ev Φ e .tst Γ).bind fun (d, Γ) => (truD d).map fun b => (b, Γ)
end
abbrev evE (Φ : Tab) (e : E) (Γ : Gm) : Option (D × Gm) := ev Φ e .val Γ
abbrev evO (Φ : Tab) (e : E) (Γ : Gm) : Option (D × Gm) := ev Φ e .opd Γ
def evT (Φ : Tab) (e : E) (Γ : Gm) : Option (Bool × Gm) := (ev Φ e .tst Γ).bind fun (d, Γ) => (truD d).map fun b => (b, Γ)
/-- xs.extend(ys) -/
def extF : D → D → Option D
  | .lst true l, .lst _ xs => if unL xs && szOk (l.length + xs.length) then some (.lst true (l ++ xs)) else none
  | _, _ => none
mutual
def evS (Φ : Tab) : Sm → Gm → Option R
  | .asg t e, Γ => (evE Φ e Γ).bind fun (d, Γ) => (asgT t d Γ).map .nx
  | .par i j a b, Γ => (evE Φ a Γ).bind fun (x, Γ) => (evE Φ b Γ).bind fun (y, Γ) => if i < Γ.length && j < Γ.length && i ≠ j then some (.nx ((Γ.set i (some x)).set j (some y))) else none
  | .par3 i j l a b c, Γ => (evE Φ a Γ).bind fun (x, Γ) => (evE Φ b Γ).bind fun (y, Γ) => (evE Φ c Γ).bind fun (z, Γ) => if i < Γ.length && j < Γ.length && l < Γ.length && i ≠ j && i ≠ l && j ≠ l && un x && un y && un z then some (.nx (((Γ.set i (some x)).set j (some y)).set l (some z))) else none
  | .aug i p e, Γ => (getS Γ i).bind fun x => if isI x then (ev Φ e .opd Γ).bind fun (y, Γ) => if isI y then (prF p [x, y]).map fun z => .nx (Γ.set i (some z)) else none else none
  | .set i path k e, Γ => if purL path && (path.isEmpty || pur k) then (ev Φ e .val Γ).bind fun (v, Γ) => if (getS Γ i).isSome then (evEs Φ path Γ).bind fun (ps, Γ) => (getS Γ i).bind fun x1 => if isLAt ps x1 then (ev Φ k .val Γ).bind fun (kd, Γ) => (getS Γ i).bind fun x => (updP (setF kd v) ps x).map fun (_, x') => .nx (Γ.set i (some x')) else none else none else none
  | .augset i path k p e, Γ => if path.isEmpty && pur k && pur e && (getS Γ i).isSome then (ev Φ k .val Γ).bind fun (kd, Γ) => (getS Γ i).bind fun x1 => if isLAt [] x1 then (idxF x1 kd).bind fun old => (ev Φ e .opd Γ).bind fun (y, Γ) => (getS Γ i).bind fun x => if isI old && isI y then (prF p [old, y]).bind fun z => (updP (setF kd z) [] x).map fun (_, x') => .nx (Γ.set i (some x')) else none else none else none
  | .ex e, Γ => (evE Φ e Γ).map fun (_, Γ) => .nx Γ
  | .ext i j, Γ => (getS Γ i).bind fun x => (getS Γ j).bind fun y => if i = j then none else (extF x y).map fun z => .nx (Γ.set i (some z))
  | .iff c a b, Γ => (evT Φ c Γ).bind fun (t, Γ) => if t then evSs Φ a Γ else evSs Φ b Γ
  | .for_ t k src body, Γ => (evOs Φ src Γ).bind fun (ds, Γ1) => (itF k ds).bind fun items =>
      if unL ds then forL (fun d Γ => (asgT t d Γ).bind fun Γ => evSs Φ body Γ) items Γ1 else none
  | .whl n c body, Γ => whlL (fun Γ => evT Φ c Γ) (fun Γ => evSs Φ body Γ) n Γ
  | .ret e, Γ => (evE Φ e Γ).map fun (d, Γ) => .rt d Γ
  | .retN, Γ => some (.rt .non Γ)
  | .brk, Γ => some (.bk Γ)
  | .cont, Γ => some (.ct Γ)
  | .pass, Γ => some (.nx Γ)
  | .dead, Γ => none
def evSs (Φ : Tab) : List Sm → Gm → Option R
  | [], Γ => some (.nx Γ)
  | s :: r, Γ => (evS Φ s Γ).bind fun x => match x with
    | .nx Γ' => evSs Φ r Γ'
    | x => some x
end
/-- a def: so many slots, n arguments handed back -/
def evF (Φ : Tab) (slots n : Nat) (body : List Sm) : Fn := fun ds =>
  if ds.length ≤ slots then
    match evSs Φ body (ds.map some ++ List.replicate (slots - ds.length) none) with
    | some (.nx Γ) => (getSs Γ (List.range n)).map fun xs => (.non, xs)
    | some (.rt d Γ) => (getSs Γ (List.range n)).map fun xs => (d, xs)
    | _ => none
  else none
end Sk

namespace Sk
open PySem PySem.Spec PyProof.Rows L2

structure Grow (fr : Addr → Prop) (H : Hp) (fr' : Addr → Prop) (B : List Addr) (H' : Hp) : Prop where
  same : ∀ b x, H b = some x → H' b = some x
  ff : ∀ b, fr b → fr' b
  fn : ∀ b, fr' b → fr b ∨ H b = none
  bn : ∀ b ∈ B, H b = none
  nd : B.Nodup
  dj : ∀ b ∈ B, ¬ fr' b
  dm : ∀ b, fr' b → ∃ x, H' b = some x
abbrev Dm (fr : Addr → Prop) (H : Hp) : Prop := ∀ b, fr b → ∃ x, H b = some x
def VwL (K : PySem.W.Frag) (fr : Addr → Prop) (H : Hp) (ds : List D) (vs : List V) : Prop := ∃ B, OwL K fr H ds vs B
def Vw (K : PySem.W.Frag) (fr : Addr → Prop) (H : Hp) (d : D) (v : V) : Prop := ∃ B, Ow K fr H d v B
def Res (K : PySem.W.Frag) (fr : Addr → Prop) (H : Hp) (d : D) (Q : VK) : Prop := ∀ v H' fr' B, Grow fr H fr' B H' → Ow K fr' H' d v B → Q v H'
def rP (K : PySem.W.Frag) (p : Pr) (vs : List V) (H : Hp) (Q : VK) : Prop := ∃ fr ds d, Dm fr H ∧ VwL K fr H ds vs ∧ prF p ds = some d ∧ Res K fr H d Q

section
variable {K : PySem.W.Frag} {fr fr' : Addr → Prop} {H H' : Hp} {d : D} {Q : VK}
theorem Grow.refl (h : Dm fr H) : Grow fr H fr [] H := ⟨fun _ _ e => e, fun _ e => e, fun _ e => .inl e, (fun _ e => nomatch e), List.nodup_nil, (fun _ e => nomatch e), h⟩
theorem Grow.newL {p : Addr} {o : HO} (h : Dm fr H) (hp : H p = none) : Grow fr H fr [p] (upd H p o) := by
  refine ⟨fun b x e => by rw [upd_ne (ne_of_none e hp)]; exact e, fun _ e => e, fun _ e => .inl e, fun b e => ?_, List.nodup_cons.mpr ⟨by simp, List.nodup_nil⟩, fun b e f => ?_, fun b e => ?_⟩
  · rw [List.mem_singleton] at e; rw [e]; exact hp
  · rw [List.mem_singleton] at e; subst e
    obtain ⟨x, q⟩ := h _ f
    rw [hp] at q; cases q
  · obtain ⟨x, q⟩ := h _ e
    exact ⟨x, by rw [upd_ne (ne_of_none q hp)]; exact q⟩
theorem Grow.newT {p : Addr} {o : HO} (h : Dm fr H) (hp : H p = none) : Grow fr H (fun b => fr b ∨ b = p) [] (upd H p o) := by
  refine ⟨fun b x e => by rw [upd_ne (ne_of_none e hp)]; exact e, fun _ e => .inl e, fun b e => ?_, (fun _ e => nomatch e), List.nodup_nil, (fun _ e => nomatch e), fun b e => ?_⟩
  · rcases e with e | e
    · exact .inl e
    · exact .inr (by rw [e]; exact hp)
  · rcases e with e | e
    · obtain ⟨x, q⟩ := h _ e
      exact ⟨x, by rw [upd_ne (ne_of_none q hp)]; exact q⟩
    · exact ⟨o, by rw [e]; exact upd_same⟩
theorem Res.int {i : Int} (h : Dm fr H) (q : Res K fr H (.int i) Q) : Q (.int i) H := q _ _ _ _ (Grow.refl h) (by unfold Ow; exact ⟨rfl, rfl⟩)
theorem Res.bl {i : Bool} (h : Dm fr H) (q : Res K fr H (.bl i) Q) : Q (.bl i) H := q _ _ _ _ (Grow.refl h) (by unfold Ow; exact ⟨rfl, rfl⟩)
theorem Res.str {i : Str} (h : Dm fr H) (q : Res K fr H (.str i) Q) : Q (.str i) H := q _ _ _ _ (Grow.refl h) (by unfold Ow; exact ⟨rfl, rfl⟩)
theorem Res.non (h : Dm fr H) (q : Res K fr H .non Q) : Q .non H := q _ _ _ _ (Grow.refl h) (by unfold Ow; exact ⟨rfl, rfl⟩)
theorem Res.same {v : V} (h : Dm fr H) (q : Res K fr H d Q) (o : Ow K fr H d v []) : Q v H := q _ _ _ _ (Grow.refl h) o
theorem OwL.grow {ds : List D} {vs : List V} {B C : List Addr} (g : Grow fr H fr' C H') (o : OwL K fr H ds vs B) : OwL K fr' H' ds vs B := o.mono g.ff _ _ _ fun b x _ e => g.same b x e
theorem Ow.grow {d : D} {v : V} {B C : List Addr} (g : Grow fr H fr' C H') (o : Ow K fr H d v B) : Ow K fr' H' d v B := o.mono g.ff _ _ _ fun b x _ e => g.same b x e
/-- a new list of parts that are not owned; a new tuple -/
theorem Res.lst {ds : List D} {vs : List V} (h : Dm fr H) (q : Res K fr H (.lst true ds) Q) (o : OwL K fr H ds vs []) : ∀ p, H p = none → Q (.ref p) (upd H p (.lst vs)) := fun p hp => by
  refine q _ _ _ _ (Grow.newL h hp) ?_
  unfold Ow
  exact ⟨p, vs, [], rfl, upd_same, o.grow (Grow.newL h hp), (fun z => by cases z), fun _ => rfl⟩
theorem Res.tup {ds : List D} {vs : List V} (h : Dm fr H) (q : Res K fr H (.tup ds) Q) (o : OwL K fr H ds vs []) : ∀ p, H p = none → Q (.ref p) (upd H p (.tup vs)) := fun p hp => by
  refine q _ _ _ _ (Grow.newT h hp) ?_
  unfold Ow
  exact ⟨p, vs, rfl, .inl ⟨.inr rfl, upd_same⟩, o.grow (Grow.newT h hp)⟩

theorem OwL.cons_inv {d : D} {ds : List D} {vs : List V} {A : List Addr} (h : OwL K fr H (d :: ds) vs A) : ∃ v us B C, vs = v :: us ∧ Ow K fr H d v B ∧ OwL K fr H ds us C ∧ A = B ++ C := by
  unfold OwL at h; exact h
theorem OwL.nil_inv {vs : List V} {A : List Addr} (h : OwL K fr H [] vs A) : vs = [] ∧ A = [] := by
  unfold OwL at h; exact h
theorem OwL.cons {d : D} {ds : List D} {v : V} {vs : List V} {B C : List Addr} (h : Ow K fr H d v B) (g : OwL K fr H ds vs C) : OwL K fr H (d :: ds) (v :: vs) (B ++ C) := by
  unfold OwL; exact ⟨v, vs, B, C, rfl, h, g, rfl⟩
theorem VwL.one {ds : List D} {v : V} (h : VwL K fr H ds [v]) : ∃ d, ds = [d] ∧ Vw K fr H d v := by
  obtain ⟨B, h⟩ := h
  have hl := h.len
  match ds, hl with
  | [d], _ =>
    obtain ⟨v', us, B, C, e, h1, h2, _⟩ := h.cons_inv
    cases e
    exact ⟨d, rfl, B, h1⟩
theorem VwL.two {ds : List D} {v w : V} (h : VwL K fr H ds [v, w]) : ∃ d e, ds = [d, e] ∧ Vw K fr H d v ∧ Vw K fr H e w := by
  obtain ⟨B, h⟩ := h
  have hl := h.len
  match ds, hl with
  | [d, e], _ =>
    obtain ⟨v', us, B, C, e1, h1, h2, _⟩ := h.cons_inv
    obtain ⟨w', us', B', C', e2, h3, h4, _⟩ := h2.cons_inv
    cases e1
    cases e2
    exact ⟨d, e, rfl, ⟨B, h1⟩, ⟨B', h3⟩⟩
theorem Vw.int {i : Int} {v : V} (h : Vw K fr H (.int i) v) : v = .int i := by obtain ⟨B, h⟩ := h; unfold Ow at h; exact h.1
theorem Vw.bl {i : Bool} {v : V} (h : Vw K fr H (.bl i) v) : v = .bl i := by obtain ⟨B, h⟩ := h; unfold Ow at h; exact h.1
theorem Vw.str {i : Str} {v : V} (h : Vw K fr H (.str i) v) : v = .str i := by obtain ⟨B, h⟩ := h; unfold Ow at h; exact h.1
theorem Vw.non {v : V} (h : Vw K fr H .non v) : v = .non := by obtain ⟨B, h⟩ := h; unfold Ow at h; exact h.1
theorem Vw.lst {o : Bool} {ds : List D} {v : V} (h : Vw K fr H (.lst o ds) v) : ∃ a vs B, v = .ref a ∧ H a = some (.lst vs) ∧ OwL K fr H ds vs B := by
  obtain ⟨B, h⟩ := h; unfold Ow at h
  obtain ⟨a, vs, B, e, ha, hl, _⟩ := h
  exact ⟨a, vs, B, e, ha, hl⟩
theorem Vw.tup {ds : List D} {v : V} (h : Vw K fr H (.tup ds) v) : ∃ a vs B, v = .ref a ∧ TupAt K fr H a vs ∧ OwL K fr H ds vs B := by
  obtain ⟨B, h⟩ := h; unfold Ow at h
  obtain ⟨a, vs, e, ha, hl⟩ := h
  exact ⟨a, vs, B, e, ha, hl⟩
theorem Vw.scr {ns : List Int} {v : V} (h : Vw K fr H (.scr ns) v) : ∃ a, v = .ref a ∧ ScrAt K fr H a (ns.map V.int) := by
  obtain ⟨B, h⟩ := h; unfold Ow at h
  exact h.1
theorem OwL.noB {ds : List D} {vs : List V} {B : List Addr} (h : OwL K fr H ds vs B) (u : unL ds = true) : OwL K fr H ds vs [] := by
  have e := OwL.un ds vs B h u
  subst e; exact h
theorem ints_ow : ∀ {ns : List Int}, OwL K fr H (ns.map D.int) (ns.map V.int) []
  | [] => OwL.nil
  | n :: r => OwL.cons (B := []) (C := []) (by unfold Ow; exact ⟨rfl, rfl⟩) ints_ow
/-- a list, tuple or the script that is looked at -/
theorem Vw.seq {x : D} {ds : List D} {v : V} (h : Vw K fr H x v) (e : dSeq x = some ds) : ∃ a vs B, v = .ref a ∧ (SqL K H a vs ∨ SqT K H a vs) ∧ OwL K fr H ds vs B := by
  cases x with
  | tup _ =>
    cases e
    obtain ⟨a, vs, B, e, ha, hl⟩ := h.tup
    exact ⟨a, vs, B, e, .inr ha.sq, hl⟩
  | lst _ _ =>
    cases e
    obtain ⟨a, vs, B, e, ha, hl⟩ := h.lst
    exact ⟨a, vs, B, e, .inl (.of ha), hl⟩
  | scr _ =>
    cases e
    obtain ⟨a, e, ha⟩ := h.scr
    exact ⟨a, _, [], e, .inl ha.sq, ints_ow⟩
  | _ => cases e

/-! ### as data -/
mutual
theorem Ow.dp : ∀ (d : D) (v : V) (A : List Addr), Ow K fr H d v A → Dp K H v (py d)
  | .non, v, A, h => by unfold Ow at h; rw [h.1]; exact .non
  | .bl b, v, A, h => by unfold Ow at h; rw [h.1]; exact .bl b
  | .int b, v, A, h => by unfold Ow at h; rw [h.1]; exact .int b
  | .str b, v, A, h => by unfold Ow at h; rw [h.1]; exact .str b
  | .scr ns, v, A, h => by
    unfold Ow at h
    obtain ⟨⟨a, e, h⟩, _⟩ := h
    rw [e]
    refine .lst h.sq ?_
    have : ∀ l : List Int, DpAll K H (l.map V.int) (l.map PyData.int) := fun l => by
      induction l with
      | nil => exact .nil
      | cons n r ih => exact .cons (.int n) ih
    exact this ns
  | .tup ds, v, A, h => by
    unfold Ow at h
    obtain ⟨a, vs, e, h, hl⟩ := h
    rw [e]
    exact .tup h.sq (OwL.dp ds vs A hl)
  | .lst o ds, v, A, h => by
    unfold Ow at h
    obtain ⟨a, vs, B, e, ha, hl, _⟩ := h
    rw [e]
    exact .lst (.of ha) (OwL.dp ds vs B hl)
theorem OwL.dp : ∀ (ds : List D) (vs : List V) (A : List Addr), OwL K fr H ds vs A → DpAll K H vs (pyL ds)
  | [], vs, A, h => by unfold OwL at h; rw [h.1]; exact .nil
  | d :: ds, vs, A, h => by
    unfold OwL at h
    obtain ⟨v, us, B, C, e, h1, h2, eA⟩ := h
    rw [e]
    exact .cons (Ow.dp d v B h1) (OwL.dp ds us C h2)
end
end
end Sk

namespace Sk
open PySem PySem.Spec PyProof.Rows L2
section
variable {K : PySem.W.Frag} {fr fr' : Addr → Prop} {H H' : Hp} {d : D} {Q : VK}
theorem is_bool_gen {M : Model} {A : Around} {E : Value → Shared → Prop} {s : Shared} {Q : Value → Shared → Prop} {v : Value} {b : Bool} (nb : ∀ i, v ≠ .builtin i) (h : Q (.bool (v == .bool b)) s) : wpAny M A (compareOp .Is v (.bool b)) Q E s := by
  cases v with
  | builtin i => exact absurd rfl (nb i)
  | _ => exact wpAny_pure h
theorem isnot_bool_gen {M : Model} {A : Around} {E : Value → Shared → Prop} {s : Shared} {Q : Value → Shared → Prop} {v : Value} {b : Bool} (nb : ∀ i, v ≠ .builtin i) (h : Q (.bool (!(v == .bool b))) s) : wpAny M A (compareOp .IsNot v (.bool b)) Q E s := by
  cases v with
  | builtin i => exact absurd rfl (nb i)
  | _ => exact wpAny_pure h
mutual
theorem dep_ok : ∀ (n : Nat) (d : D), dep n d = true → (py d).canLay0 = true ∧ (py d).depth ≤ n
  | n, .non, h => ⟨rfl, Nat.zero_le _⟩
  | n, .bl _, h => ⟨rfl, Nat.zero_le _⟩
  | n, .int _, h => ⟨rfl, Nat.zero_le _⟩
  | n, .str _, h => ⟨by unfold dep at h; exact h, Nat.zero_le _⟩
  | 0, .scr ns, h => by unfold dep at h; simp at h
  | 0, .tup ds, h => by unfold dep at h; cases h
  | 0, .lst o ds, h => by unfold dep at h; cases h
  | n + 1, .scr ns, h => by
    unfold py
    have : ∀ l : List Int, PyData.canLayAll0 (l.map PyData.int) = true ∧ PyData.depthAll (l.map PyData.int) ≤ 0 := fun l => by
      induction l with
      | nil => exact ⟨rfl, Nat.le_refl _⟩
      | cons a r ih => exact ⟨by show (PyData.canLay0 (.int a) && _) = true; rw [ih.1]; rfl, by show max 0 _ ≤ 0; rw [Nat.max_def]; split <;> omega⟩
    exact ⟨(this ns).1, by show PyData.depthAll _ + 1 ≤ n + 1; have := (this ns).2; omega⟩
  | n + 1, .tup ds, h => by
    unfold dep at h; unfold py
    have := depL_ok n ds h
    exact ⟨this.1, by show PyData.depthAll _ + 1 ≤ n + 1; omega⟩
  | n + 1, .lst o ds, h => by
    unfold dep at h; unfold py
    have := depL_ok n ds h
    exact ⟨this.1, by show PyData.depthAll _ + 1 ≤ n + 1; omega⟩
theorem depL_ok : ∀ (n : Nat) (ds : List D), depL n ds = true → PyData.canLayAll0 (pyL ds) = true ∧ PyData.depthAll (pyL ds) ≤ n
  | n, [], h => ⟨rfl, Nat.zero_le _⟩
  | n, d :: ds, h => by
    unfold depL at h; unfold pyL
    rw [Bool.and_eq_true] at h
    have h1 := dep_ok n d h.1
    have h2 := depL_ok n ds h.2
    exact ⟨by show (PyData.canLay0 (py d) && _) = true; rw [h1.1, h2.1]; rfl, by show max _ _ ≤ n; rw [Nat.max_def]; split <;> omega⟩
end
theorem dep_shaped {d : D} (h : dep 60 d = true) : SeqAt.shaped (py d) = true := by
  have := dep_ok 60 d h
  unfold SeqAt.shaped
  rw [this.1, decide_eq_true (by omega)]; rfl
theorem depL_shaped {ds : List D} (h : depL 60 ds = true) : SeqAt.shaped (.list (pyL ds)) = true := by
  have := depL_ok 60 ds h
  unfold SeqAt.shaped
  rw [show PyData.canLay0 (.list (pyL ds)) = PyData.canLayAll0 (pyL ds) from rfl, this.1, decide_eq_true (by show PyData.depthAll _ + 1 ≤ 64; omega)]; rfl
theorem Vw.dp {d : D} {v : V} (h : Vw K fr H d v) : Dp K H v (py d) := by obtain ⟨B, h⟩ := h; exact h.dp
theorem pyL_map : ∀ ds : List D, pyL ds = ds.map py
  | [] => rfl
  | d :: ds => by unfold pyL; rw [pyL_map ds]; rfl
theorem anyEq_py (x : D) (ds : List D) : anyEq x ds = (pyL ds).any fun z => PyData.eqv z (py x) := by
  rw [pyL_map, List.any_map]; rfl
end

section
variable {X : Cx}
theorem prF_two_inv {p : Pr} {ds : List D} {vs : List V} {x y : V} (h : vs = [x, y]) : True := trivial

/-- the two-place operators -/
theorem o_add : OpR X (binaryOp .Add) (fun x y => rP X.K .add [x, y]) := by
  intro pins s σ H x y v u Q I rx ry h
  obtain ⟨fr, ds, d, dm, vw, e, q⟩ := h
  obtain ⟨a, b, rfl, va, vb⟩ := vw.two
  match a, b, e with
  | .int i, .int j, e =>
    cases e
    obtain rfl := va.int
    obtain rfl := vb.int
    exact op_add pins s σ H _ _ v u Q I rx ry ⟨i, j, rfl, rfl, Res.int dm q⟩
  | .str i, .str j, e =>
    obtain rfl := va.str
    obtain rfl := vb.str
    simp only [prF] at e
    split at e
    · rename_i hz
      cases e
      exact op_add_str pins s σ H _ _ v u Q I rx ry ⟨i, j, rfl, rfl, of_decide_eq_true hz, Res.str dm q⟩
    · cases e
  | .lst _ xs, .lst _ ys, e =>
    simp only [prF] at e
    split at e
    · rename_i hz
      cases e
      simp only [Bool.and_eq_true] at hz
      obtain ⟨a1, vs1, B1, rfl, h1, o1⟩ := va.lst
      obtain ⟨a2, vs2, B2, rfl, h2, o2⟩ := vb.lst
      have o := (o1.noB hz.1.1).app (o2.noB hz.1.2)
      exact op_cat pins s σ H _ _ v u Q I rx ry ⟨a1, a2, vs1, vs2, rfl, rfl, h1, h2, by rw [o1.len, o2.len]; exact of_decide_eq_true hz.2, Res.lst dm q o⟩
    · cases e
  | .tup xs, .tup ys, e =>
    simp only [prF] at e
    split at e
    · rename_i hz
      cases e
      simp only [Bool.and_eq_true] at hz
      obtain ⟨a1, vs1, B1, rfl, h1, o1⟩ := va.tup
      obtain ⟨a2, vs2, B2, rfl, h2, o2⟩ := vb.tup
      have o := (o1.noB hz.1.1).app (o2.noB hz.1.2)
      refine op_catA pins s σ H _ _ v u Q I rx ry ⟨a1, a2, vs1, vs2, rfl, rfl, h1.sq, h2.sq, by rw [o1.len, o2.len]; exact of_decide_eq_true hz.2, fun e1 => ?_, fun _ e2 => ?_, fun _ _ => Res.tup dm q o⟩
      · have : xs = [] := by
          have := o1.len; rw [e1] at this; exact List.eq_nil_of_length_eq_zero this.symm
        subst this
        refine Res.same dm q ?_
        unfold Ow
        exact ⟨a2, vs2, rfl, h2, o2.noB hz.1.2⟩
      · have : ys = [] := by
          have := o2.len; rw [e2] at this; exact List.eq_nil_of_length_eq_zero this.symm
        subst this
        refine Res.same dm q ?_
        unfold Ow
        exact ⟨a1, vs1, rfl, h1, by rw [List.append_nil]; exact o1.noB hz.1.1⟩
    · cases e
theorem o_sub : OpR X (binaryOp .Sub) (fun x y => rP X.K .sub [x, y]) := by
  intro pins s σ H x y v u Q I rx ry h
  obtain ⟨fr, ds, d, dm, vw, e, q⟩ := h
  obtain ⟨a, b, rfl, va, vb⟩ := vw.two
  match a, b, e with
  | .int i, .int j, e =>
    cases e
    obtain rfl := va.int
    obtain rfl := vb.int
    exact op_sub pins s σ H _ _ v u Q I rx ry ⟨i, j, rfl, rfl, Res.int dm q⟩
theorem o_band : OpR X (binaryOp .BitAnd) (fun x y => rP X.K .band [x, y]) := by
  intro pins s σ H x y v u Q I rx ry h
  obtain ⟨fr, ds, d, dm, vw, e, q⟩ := h
  obtain ⟨a, b, rfl, va, vb⟩ := vw.two
  match a, b, e with
  | .int i, .int j, e =>
    cases e
    obtain rfl := va.int
    obtain rfl := vb.int
    exact op_and pins s σ H _ _ v u Q I rx ry ⟨i, j, rfl, rfl, Res.int dm q⟩
theorem o_mul : OpR X (binaryOp .Mult) (fun x y => rP X.K .mul [x, y]) := by
  intro pins s σ H x y v u Q I rx ry h
  obtain ⟨fr, ds, d, dm, vw, e, q⟩ := h
  obtain ⟨a, b, rfl, va, vb⟩ := vw.two
  match a, b, e with
  | .int i, .int j, e =>
    obtain rfl := va.int
    obtain rfl := vb.int
    simp only [prF] at e
    split at e
    · rename_i hz
      cases e
      simp only [mulOk, Bool.or_eq_true, decide_eq_true_eq] at hz
      rcases hz with (hz | hz) | hz
      · exact op_mul pins s σ H _ _ v u Q I rx ry ⟨i, j, rfl, rfl, .inl (by omega), Res.int dm q⟩
      · exact op_mul pins s σ H _ _ v u Q I rx ry ⟨i, j, rfl, rfl, .inr (by omega), Res.int dm q⟩
      · exact op_mulW pins s σ H _ _ v u Q I rx ry ⟨i, j, rfl, rfl, hz, Res.int dm q⟩
    · cases e
  | .str z, .int j, e =>
    obtain rfl := va.str
    obtain rfl := vb.int
    simp only [prF] at e
    split at e
    · rename_i hz
      cases e
      simp only [Bool.and_eq_true, decide_eq_true_eq] at hz
      obtain ⟨⟨h1, h2⟩, h3⟩ := hz
      have h3 := of_decide_eq_true h3
      obtain ⟨t, rfl⟩ := rx
      obtain ⟨t', rfl⟩ := ry
      have hsl := sizeLine_eq
      have q := Res.str dm q
      refine PySem.P.mul_str (by rw [decide_eq_false (by omega), decide_eq_false (by omega)]; rfl) (fun g1 g2 => ?_) (fun g1 g2 => ?_) ?_
      · have hj : (0 : Int) < j := by omega
        have : (z.length : Int) * j ≤ 2 ^ 63 - 1 := by
          have e1 : ((z.length * j.toNat : Nat) : Int) = (z.length : Int) * j := by rw [Int.natCast_mul, Int.toNat_of_nonneg (by omega)]
          omega
        have := Int.le_ediv_of_mul_le hj this
        omega
      · unfold PySem.Builtin.Str.tooLong
        exact decide_eq_false (by omega)
      · split
        · rename_i hj
          have e1 : repS z j.toNat = Str.empty := by
            rw [show j.toNat = 0 by omega]; rfl
          rw [e1] at q
          exact ⟨by decide, .str _, H, I.tok _, ⟨_, rfl⟩, q⟩
        · split
          · rename_i hj hz1
            have e1 : repS z j.toNat = z := by
              rw [Bool.or_eq_true, beq_iff_eq, beq_iff_eq] at hz1
              rcases hz1 with rfl | hz1
              · show (⟨#[] ++ z.cps⟩ : Str) = z
                rw [Array.empty_append]
              · have hc : z.cps = #[] := Array.eq_empty_of_size_eq_zero hz1
                have : ∀ n, (List.replicate n z.cps).foldl (· ++ ·) #[] = #[] := fun n => by
                  rw [hc]
                  induction n with
                  | zero => rfl
                  | succ n ih => rw [List.replicate_succ, List.foldl_cons]; exact ih
                unfold repS
                rw [this, ← hc]
            rw [e1] at q
            exact ⟨.str _, H, I, ⟨t, rfl⟩, q⟩
          · have hlen : (repS z j.toNat).length = z.length * j.toNat := by
              have : ∀ n (b : Array Nat), ((List.replicate n z.cps).foldl (· ++ ·) b).size = b.size + z.cps.size * n := fun n => by
                induction n with
                | zero => intro b; simp
                | succ n ih =>
                  intro b
                  rw [List.replicate_succ, List.foldl_cons, ih, Array.size_append, Nat.mul_succ]
                  omega
              show ((List.replicate j.toNat z.cps).foldl (· ++ ·) #[]).size = _
              rw [this]
              simp [Str.length]
            exact ⟨by rw [← hlen] at h3; exact h3, .str _, H, I.tok _, ⟨_, rfl⟩, q⟩
    · cases e
  | .lst _ xs, .int j, e =>
    obtain rfl := vb.int
    simp only [prF] at e
    split at e
    · rename_i hz
      cases e
      simp only [Bool.and_eq_true, decide_eq_true_eq] at hz
      obtain ⟨a1, vs1, B1, rfl, h1, o1⟩ := va.lst
      have o1 := o1.noB hz.1.1
      have rep : ∀ n, OwL X.K fr H (List.replicate n xs).flatten (List.replicate n vs1).flatten [] := fun n => by
        induction n with
        | zero => exact OwL.nil
        | succ n ih => rw [List.replicate_succ, List.replicate_succ, List.flatten_cons, List.flatten_cons]; exact o1.app ih
      exact op_rep pins s σ H _ _ v u Q I rx ry ⟨a1, j, vs1, rfl, rfl, h1, hz.1.2.1, hz.1.2.2, by rw [o1.len]; exact of_decide_eq_true hz.2, Res.lst dm q (rep _)⟩
    · cases e
def CDivX (i j : Int) : Prop := j ≠ 0 ∧ (j.natAbs < 1073741824 ∨ j.natAbs.log2 < 9000)
theorem op_fdivX : OpR X (binaryOp .FloorDiv) (rI CDivX fun i j => .int (i.fdiv j)) := opI fun _ _ _ _ _ _ _ hc q => floordiv_int hc.1 q (.inl (hc.2.elim PyProof.noPylong_small PyProof.noPylong_of_log2))
theorem o_fdiv : OpR X (binaryOp .FloorDiv) (fun x y => rP X.K .fdiv [x, y]) := by
  intro pins s σ H x y v u Q I rx ry h
  obtain ⟨fr, ds, d, dm, vw, e, q⟩ := h
  obtain ⟨a, b, rfl, va, vb⟩ := vw.two
  match a, b, e with
  | .int i, .int j, e =>
    obtain rfl := va.int
    obtain rfl := vb.int
    simp only [prF] at e
    split at e
    · rename_i hz
      cases e
      simp only [divOk, Bool.or_eq_true, decide_eq_true_eq] at hz
      rcases hz with hz | hz
      · refine op_fdivW pins s σ H _ _ v u Q I rx ry ⟨i, j, rfl, rfl, hz, ?_⟩
        show Q (.int (i / j)) H
        rw [← Int.fdiv_eq_ediv_of_nonneg _ (by omega)]
        exact Res.int dm q
      · exact op_fdivX pins s σ H _ _ v u Q I rx ry ⟨i, j, rfl, rfl, hz, Res.int dm q⟩
    · cases e
theorem o_mod : OpR X (binaryOp .Mod) (fun x y => rP X.K .mod [x, y]) := by
  intro pins s σ H x y v u Q I rx ry h
  obtain ⟨fr, ds, d, dm, vw, e, q⟩ := h
  obtain ⟨a, b, rfl, va, vb⟩ := vw.two
  match a, b, e with
  | .int i, .int j, e =>
    obtain rfl := va.int
    obtain rfl := vb.int
    simp only [prF] at e
    split at e
    · rename_i hz
      cases e
      exact op_modN pins s σ H _ _ v u Q I rx ry ⟨i, j, rfl, rfl, hz, Res.int dm q⟩
    · cases e
theorem pow_ok {i j : Int} (h : powOk i j = true) : CPow i j := by
  have h2 : 0 ≤ j ∧ j ≤ 1000000 ∧ i.natAbs < 2 ^ 64 := of_decide_eq_true h
  exact h2
theorem o_pow : OpR X (binaryOp .Pow) (fun x y => rP X.K .pow [x, y]) := by
  intro pins s σ H x y v u Q I rx ry h
  obtain ⟨fr, ds, d, dm, vw, e, q⟩ := h
  obtain ⟨a, b, rfl, va, vb⟩ := vw.two
  match a, b, e with
  | .int i, .int j, e =>
    obtain rfl := va.int
    obtain rfl := vb.int
    simp only [prF] at e
    split at e
    · rename_i hz
      cases e
      exact op_pow pins s σ H _ _ v u Q I rx ry ⟨i, j, rfl, rfl, pow_ok hz, Res.int dm q⟩
    · cases e
theorem o_eq (hu : X.A.units + 64 < cLine) : OpR X (compareOp .Eq) (fun x y => rP X.K .eq [x, y]) := by
  intro pins s σ H x y v u Q I rx ry h
  obtain ⟨fr, ds, d, dm, vw, e, q⟩ := h
  obtain ⟨a, b, rfl, va, vb⟩ := vw.two
  simp only [prF, eqF] at e
  split at e
  · rename_i hz
    cases e
    simp only [eqOk, Bool.and_eq_true] at hz
    exact op_eqD hu pins s σ H _ _ v u Q I rx ry ⟨_, _, va.dp, vb.dp, dep_shaped hz.1, dep_shaped hz.2, Res.bl dm q⟩
  · cases e
theorem o_ne (hu : X.A.units + 64 < cLine) : OpR X (compareOp .NotEq) (fun x y => rP X.K .ne [x, y]) := by
  intro pins s σ H x y v u Q I rx ry h
  obtain ⟨fr, ds, d, dm, vw, e, q⟩ := h
  obtain ⟨a, b, rfl, va, vb⟩ := vw.two
  simp only [prF, eqF] at e
  split at e
  · rename_i hz
    cases e
    simp only [eqOk, Bool.and_eq_true] at hz
    exact op_neD hu pins s σ H _ _ v u Q I rx ry ⟨_, _, va.dp, vb.dp, dep_shaped hz.1, dep_shaped hz.2, Res.bl dm q⟩
  · cases e
theorem ltF_inv {a b : D} {c : Bool} (h : ltF a b = some c) : (∃ i j, a = .int i ∧ b = .int j ∧ c = decide (i < j)) ∨ ltV a b = some c := by
  unfold ltF at h
  split at h
  · cases h
    exact .inl ⟨_, _, rfl, rfl, rfl⟩
  · exact .inr h
theorem ltV_inv {a b : D} {c : Bool} (h : ltV a b = some c) : ((py a).depth ≤ 60 ∧ (py b).depth ≤ 60) ∧ PySem.W.alike (py a) (py b) = true ∧ py a ≠ .none ∧ c = PySem.W.dataLt (py a) (py b) := by
  unfold ltV at h
  split at h
  · rename_i hz
    simp only [Bool.and_eq_true] at hz
    cases h
    refine ⟨⟨(dep_ok 60 a hz.1.1.1).2, (dep_ok 60 b hz.1.1.2).2⟩, hz.1.2, fun e => ?_, rfl⟩
    cases a <;> first | (simp [nonD] at hz; done) | (simp [py] at e; done)
  · cases h
theorem o_gt (hu : X.A.units + 64 < cLine) : OpR X (compareOp .Gt) (fun x y => rP X.K .gt [x, y]) := by
  intro pins s σ H x y v u Q I rx ry h
  obtain ⟨fr, ds, d, dm, vw, e, q⟩ := h
  obtain ⟨a, b, rfl, va, vb⟩ := vw.two
  obtain ⟨c, hc, rfl⟩ := Option.map_eq_some_iff.mp (show (ltF b a).map D.bl = some d from e)
  rcases ltF_inv hc with ⟨i, j, rfl, rfl, rfl⟩ | hc
  rotate_left
  · obtain ⟨hd, ha, hn, rfl⟩ := ltV_inv hc
    obtain ⟨as1, r1⟩ := Dp.reads I (py a) x v va.dp rx
    obtain ⟨as2, r2⟩ := Dp.reads I (py b) y u vb.dp ry
    exact PySem.W.gt_data r1 r2 (by rw [PySem.W.alike_comm]; exact ha) (PySem.W.ne_none_both ha hn) (by omega) ⟨.bl _, H, I, rfl, Res.bl dm q⟩
  obtain rfl := va.int
  obtain rfl := vb.int
  exact op_gt pins s σ H _ _ v u Q I rx ry ⟨j, i, rfl, rfl, Res.bl dm q⟩
theorem o_le (hu : X.A.units + 64 < cLine) : OpR X (compareOp .LtE) (fun x y => rP X.K .le [x, y]) := by
  intro pins s σ H x y v u Q I rx ry h
  obtain ⟨fr, ds, d, dm, vw, e, q⟩ := h
  obtain ⟨a, b, rfl, va, vb⟩ := vw.two
  obtain ⟨c, hc, rfl⟩ := Option.map_eq_some_iff.mp (show (ltF b a).map (fun c => D.bl (!c)) = some d from e)
  rcases ltF_inv hc with ⟨i, j, rfl, rfl, rfl⟩ | hc
  rotate_left
  · obtain ⟨hd, ha, hn, rfl⟩ := ltV_inv hc
    obtain ⟨as1, r1⟩ := Dp.reads I (py a) x v va.dp rx
    obtain ⟨as2, r2⟩ := Dp.reads I (py b) y u vb.dp ry
    exact PySem.W.le_data r1 r2 (by rw [PySem.W.alike_comm]; exact ha) (PySem.W.ne_none_both ha hn) (by omega) ⟨.bl _, H, I, rfl, Res.bl dm q⟩
  obtain rfl := va.int
  obtain rfl := vb.int
  refine op_le pins s σ H _ _ v u Q I rx ry ⟨j, i, rfl, rfl, ?_⟩
  have := Res.bl dm q
  show Q (.bl (decide (j ≤ i))) H
  rw [show decide (j ≤ i) = !decide (i < j) by by_cases h : i < j <;> simp [h] <;> omega]
  exact this
theorem o_ge (hu : X.A.units + 64 < cLine) : OpR X (compareOp .GtE) (fun x y => rP X.K .ge [x, y]) := by
  intro pins s σ H x y v u Q I rx ry h
  obtain ⟨fr, ds, d, dm, vw, e, q⟩ := h
  obtain ⟨a, b, rfl, va, vb⟩ := vw.two
  obtain ⟨c, hc, rfl⟩ := Option.map_eq_some_iff.mp (show (ltF a b).map (fun c => D.bl (!c)) = some d from e)
  rcases ltF_inv hc with ⟨i, j, rfl, rfl, rfl⟩ | hc
  rotate_left
  · obtain ⟨hd, ha, hn, rfl⟩ := ltV_inv hc
    obtain ⟨as1, r1⟩ := Dp.reads I (py a) x v va.dp rx
    obtain ⟨as2, r2⟩ := Dp.reads I (py b) y u vb.dp ry
    exact PySem.W.ge_data r1 r2 ha hn (by omega) ⟨.bl _, H, I, rfl, Res.bl dm q⟩
  obtain rfl := va.int
  obtain rfl := vb.int
  refine op_ge pins s σ H _ _ v u Q I rx ry ⟨i, j, rfl, rfl, ?_⟩
  have := Res.bl dm q
  show Q (.bl (decide (j ≤ i))) H
  rw [show decide (j ≤ i) = !decide (i < j) by by_cases h : i < j <;> simp [h] <;> omega]
  exact this
theorem o_neg : UnR X (unaryOp .USub) (fun x => rP X.K .neg [x]) := by
  intro pins s σ H x v Q I rx h
  obtain ⟨fr, ds, d, dm, vw, e, q⟩ := h
  obtain ⟨a, rfl, va⟩ := vw.one
  match a, e with
  | .int i, e =>
    cases e
    obtain rfl := va.int
    exact un_neg pins s σ H _ v Q I rx ⟨i, rfl, Res.int dm q⟩
theorem Vw.isN {K : PySem.W.Frag} {fr : Addr → Prop} {H : Hp} {a : D} {v : V} (h : Vw K fr H a v) : decide (v = .non) = nonD a := by
  cases a with
  | non => rw [h.non]; rfl
  | bl b => rw [h.bl]; rfl
  | int b => rw [h.int]; rfl
  | str b => rw [h.str]; rfl
  | scr b => obtain ⟨a, e, _⟩ := h.scr; rw [e]; rfl
  | tup b => obtain ⟨a, _, _, e, _⟩ := h.tup; rw [e]; rfl
  | lst o b => obtain ⟨a, _, _, e, _⟩ := h.lst; rw [e]; rfl
theorem Vw.isB {K : PySem.W.Frag} {fr : Addr → Prop} {H : Hp} {a : D} {v : V} {u : Value} {b : Bool} (h : Vw K fr H a v) (r : RelV v u) : (u == .bool b) = isBD b a ∧ ∀ i, u ≠ .builtin i := by
  cases a with
  | non => rw [h.non] at r; cases r; exact ⟨rfl, fun _ z => nomatch z⟩
  | bl c => rw [h.bl] at r; cases r; exact ⟨by cases c <;> cases b <;> rfl, fun _ z => nomatch z⟩
  | int c => rw [h.int] at r; obtain ⟨t, rfl⟩ := r; exact ⟨rfl, fun _ z => nomatch z⟩
  | str c => rw [h.str] at r; obtain ⟨t, rfl⟩ := r; exact ⟨rfl, fun _ z => nomatch z⟩
  | scr c => obtain ⟨a, e, _⟩ := h.scr; rw [e] at r; cases r; exact ⟨rfl, fun _ z => nomatch z⟩
  | tup c => obtain ⟨a, _, _, e, _⟩ := h.tup; rw [e] at r; cases r; exact ⟨rfl, fun _ z => nomatch z⟩
  | lst o c => obtain ⟨a, _, _, e, _⟩ := h.lst; rw [e] at r; cases r; exact ⟨rfl, fun _ z => nomatch z⟩
theorem o_isN : OpR X (compareOp .Is) (fun x y H Q => y = .non ∧ rP X.K .isN [x] H Q) := by
  intro pins s σ H x y v u Q I rx ry h
  obtain ⟨rfl, fr, ds, d, dm, vw, e, q⟩ := h
  obtain ⟨a, rfl, va⟩ := vw.one
  cases e
  have := Res.bl dm q
  rw [← va.isN] at this
  exact op_isN pins s σ H x .non v u Q I rx ry ⟨rfl, this⟩
theorem o_notN : OpR X (compareOp .IsNot) (fun x y H Q => y = .non ∧ rP X.K .notN [x] H Q) := by
  intro pins s σ H x y v u Q I rx ry h
  obtain ⟨rfl, fr, ds, d, dm, vw, e, q⟩ := h
  obtain ⟨a, rfl, va⟩ := vw.one
  cases e
  have := Res.bl dm q
  refine op_notN pins s σ H x .non v u Q I rx ry ⟨rfl, ?_⟩
  rw [va.isN]
  exact this
theorem o_isB {b : Bool} : OpR X (compareOp .Is) (fun x y H Q => y = .bl b ∧ rP X.K (.isB b) [x] H Q) := by
  intro pins s σ H x y v u Q I rx ry h
  obtain ⟨rfl, fr, ds, d, dm, vw, e, q⟩ := h
  obtain ⟨a, rfl, va⟩ := vw.one
  cases e
  have := Res.bl dm q
  cases ry
  obtain ⟨e1, e2⟩ := va.isB (b := b) rx
  refine is_bool_gen e2 ⟨.bl (v == .bool b), H, I, rfl, ?_⟩
  rw [e1]
  exact this
theorem o_notB {b : Bool} : OpR X (compareOp .IsNot) (fun x y H Q => y = .bl b ∧ rP X.K (.notB b) [x] H Q) := by
  intro pins s σ H x y v u Q I rx ry h
  obtain ⟨rfl, fr, ds, d, dm, vw, e, q⟩ := h
  obtain ⟨a, rfl, va⟩ := vw.one
  cases e
  have := Res.bl dm q
  cases ry
  obtain ⟨e1, e2⟩ := va.isB (b := b) rx
  refine isnot_bool_gen e2 ⟨.bl (!(v == .bool b)), H, I, rfl, ?_⟩
  rw [e1]
  exact this
/-! ### in -/
theorem flat_of {K : PySem.W.Frag} {fr : Addr → Prop} {H : Hp} {a : D} {v : V} (h : Vw K fr H a v) (s : scalD a = true) : flatV v = true := by
  cases a with
  | non => rw [h.non]; rfl
  | bl c => rw [h.bl]; rfl
  | int c => rw [h.int]; rfl
  | str c => rw [h.str]; rfl
  | _ => cases s
theorem eqV_of {K : PySem.W.Frag} {fr : Addr → Prop} {H : Hp} {a b : D} {v w : V} (h : Vw K fr H a v) (g : Vw K fr H b w) (s : scalD a = true) (t : scalD b = true) : eqV v w = PyData.eqv (py a) (py b) := by
  cases a with
  | non => rw [h.non]; cases b with
    | non => rw [g.non]; rfl
    | bl c => rw [g.bl]; rfl
    | int c => rw [g.int]; rfl
    | str c => rw [g.str]; rfl
    | _ => cases t
  | bl c => rw [h.bl]; cases b with
    | non => rw [g.non]; rfl
    | bl c => rw [g.bl]; rfl
    | int c => rw [g.int]; rfl
    | str c => rw [g.str]; rfl
    | _ => cases t
  | int c => rw [h.int]; cases b with
    | non => rw [g.non]; rfl
    | bl c => rw [g.bl]; rfl
    | int c => rw [g.int]; rfl
    | str c => rw [g.str]; rfl
    | _ => cases t
  | str c => rw [h.str]; cases b with
    | non => rw [g.non]; rfl
    | bl c => rw [g.bl]; rfl
    | int c => rw [g.int]; rfl
    | str c => rw [g.str]; rfl
    | _ => cases t
  | _ => cases s
theorem flats_of {K : PySem.W.Frag} {fr : Addr → Prop} {H : Hp} {x : D} {v : V} (hx : Vw K fr H x v) (sx : scalD x = true) : ∀ {ds : List D} {vs : List V} {B : List Addr}, OwL K fr H ds vs B → ds.all scalD = true → vs.all flatV = true ∧ inV v vs = anyEq x ds
  | [], vs, B, h, s => by obtain ⟨rfl, _⟩ := h.nil_inv; exact ⟨rfl, rfl⟩
  | d :: ds, vs, B, h, s => by
    obtain ⟨w, us, B', C, rfl, h1, h2, _⟩ := h.cons_inv
    rw [List.all_cons, Bool.and_eq_true] at s
    obtain ⟨a1, a2⟩ := flats_of hx sx h2 s.2
    refine ⟨?_, ?_⟩
    · rw [List.all_cons, flat_of ⟨_, h1⟩ s.1, a1]; rfl
    · unfold inV anyEq at *
      rw [List.any_cons, List.any_cons, a2, eqV_of ⟨_, h1⟩ hx s.1 sx]
theorem in_rule (hu : X.A.units + 65 < cLine) {neg : Bool} {pins : List (Addr × Obj)} {s : Shared} {σ : St} {H : Hp} {x y : V} {v u : Value} {Q : VK} {a b : D} {c : Bool} {fr : Addr → Prop} (I : L2.Inv X pins σ H s) (rx : RelV x v) (ry : RelV y u)
    (va : Vw X.K fr H a x) (vb : Vw X.K fr H b y) (e : inF a b = some c) (q : Q (.bl (if neg then !c else c)) H) : wpAny (model X.prog X.w) X.A (compareOp (if neg then .NotIn else .In) v u) (EP X pins σ Q) X.xe s := by
  match b, e with
  | .lst _ ds, e =>
    simp only [inF] at e
    split at e
    · rename_i hz
      cases e
      rw [Bool.and_eq_true] at hz
      rw [anyEq_py] at q
      cases neg with
      | false => exact op_inD hu pins s σ H x y v u Q I rx ry ⟨_, _, va.dp, vb.dp, dep_shaped hz.1, depL_shaped hz.2, q⟩
      | true => exact op_notInD hu pins s σ H x y v u Q I rx ry ⟨_, _, va.dp, vb.dp, dep_shaped hz.1, depL_shaped hz.2, q⟩
    · cases e
  | .scr ns, e =>
    simp only [inF] at e
    split at e
    · rename_i hz
      cases e
      have e2 : (ns.map D.int).map py = ns.map PyData.int := by rw [List.map_map]; rfl
      rw [anyEq_py, pyL_map, e2] at q
      have sh : SeqAt.shaped (.list (ns.map PyData.int)) = true := dep_shaped (d := .scr ns) rfl
      cases neg with
      | false => exact op_inD hu pins s σ H x y v u Q I rx ry ⟨_, _, va.dp, vb.dp, dep_shaped hz, sh, q⟩
      | true => exact op_notInD hu pins s σ H x y v u Q I rx ry ⟨_, _, va.dp, vb.dp, dep_shaped hz, sh, q⟩
    · cases e
  | .tup ds, e =>
    simp only [inF] at e
    split at e
    · rename_i hz
      cases e
      rw [Bool.and_eq_true] at hz
      obtain ⟨p, vs, B, rfl, hp, o⟩ := vb.tup
      obtain ⟨f1, f2⟩ := flats_of va hz.1 o hz.2
      rw [← f2] at q
      cases neg with
      | false => exact op_in_seq pins s σ H x _ v u Q I rx ry ⟨p, vs, rfl, .inr hp.sq, flat_of va hz.1, f1, q⟩
      | true => exact op_notIn_seq pins s σ H x _ v u Q I rx ry ⟨p, vs, rfl, .inr hp.sq, flat_of va hz.1, f1, q⟩
    · cases e
theorem o_in (hu : X.A.units + 65 < cLine) : OpR X (compareOp .In) (fun x y => rP X.K .isin [x, y]) := by
  intro pins s σ H x y v u Q I rx ry h
  obtain ⟨fr, ds, d, dm, vw, e, q⟩ := h
  obtain ⟨a, b, rfl, va, vb⟩ := vw.two
  obtain ⟨c, hc, rfl⟩ := Option.map_eq_some_iff.mp (show (inF a b).map D.bl = some d from e)
  exact in_rule (neg := false) hu I rx ry va vb hc (Res.bl dm q)
theorem o_notin (hu : X.A.units + 65 < cLine) : OpR X (compareOp .NotIn) (fun x y => rP X.K .notin [x, y]) := by
  intro pins s σ H x y v u Q I rx ry h
  obtain ⟨fr, ds, d, dm, vw, e, q⟩ := h
  obtain ⟨a, b, rfl, va, vb⟩ := vw.two
  obtain ⟨c, hc, rfl⟩ := Option.map_eq_some_iff.mp (show (inF a b).map (fun b => D.bl (!b)) = some d from e)
  exact in_rule (neg := true) hu I rx ry va vb hc (Res.bl dm q)
end
end Sk

namespace Sk
open PySem PySem.Spec PyProof.Rows L2
theorem dInts_inv : ∀ {ds : List D} {ns : List Int}, dInts ds = some ns → ds = ns.map D.int
  | [], ns, h => by cases h; rfl
  | d :: ds, ns, h => by
    cases d with
    | int i =>
      obtain ⟨r, h1, rfl⟩ := Option.map_eq_some_iff.mp (show (dInts ds).map (i :: ·) = some ns from h)
      rw [dInts_inv h1]; rfl
    | _ => cases h
theorem dInts_map : ∀ {ns : List Int}, dInts (ns.map D.int) = some ns
  | [] => rfl
  | n :: r => by show (dInts (r.map D.int)).map (n :: ·) = _; rw [dInts_map]; rfl
theorem dBls_inv : ∀ {ds : List D} {ns : List Bool}, dBls ds = some ns → ds = ns.map D.bl
  | [], ns, h => by cases h; rfl
  | d :: ds, ns, h => by
    cases d with
    | bl i =>
      obtain ⟨r, h1, rfl⟩ := Option.map_eq_some_iff.mp (show (dBls ds).map (i :: ·) = some ns from h)
      rw [dBls_inv h1]; rfl
    | _ => cases h
theorem dBls_map : ∀ {ns : List Bool}, dBls (ns.map D.bl) = some ns
  | [] => rfl
  | n :: r => by show (dBls (r.map D.bl)).map (n :: ·) = _; rw [dBls_map]; rfl
theorem maxI_spec {ns : List Int} {m : Int} (h : maxI ns = some m) : m ∈ ns ∧ ∀ y ∈ ns, y ≤ m := by
  cases ns with
  | nil => cases h
  | cons x r =>
    have h' : r.foldl (fun a b => if b > a then b else a) x = m := Option.some.inj h
    clear h
    induction r generalizing x with
    | nil => subst h'; exact ⟨List.mem_cons_self, fun y hy => by rw [List.mem_singleton] at hy; rw [hy]; exact Int.le_refl _⟩
    | cons z t ih =>
      rw [List.foldl_cons] at h'
      obtain ⟨h1, h2⟩ := ih _ h'
      refine ⟨?_, fun y hy => ?_⟩
      · rcases List.mem_cons.mp h1 with q | q
        · split at q
          · rw [q]; simp
          · rw [q]; simp
        · simp [q]
      · have := h2 _ List.mem_cons_self
        rcases List.mem_cons.mp hy with q | q
        · split at this <;> omega
        · rcases List.mem_cons.mp q with q | q
          · split at this <;> omega
          · exact h2 y (List.mem_cons_of_mem _ q)
theorem minI_spec {ns : List Int} {m : Int} (h : minI ns = some m) : m ∈ ns ∧ ∀ y ∈ ns, m ≤ y := by
  cases ns with
  | nil => cases h
  | cons x r =>
    have h' : r.foldl (fun a b => if b < a then b else a) x = m := Option.some.inj h
    clear h
    induction r generalizing x with
    | nil => subst h'; exact ⟨List.mem_cons_self, fun y hy => by rw [List.mem_singleton] at hy; rw [hy]; exact Int.le_refl _⟩
    | cons z t ih =>
      rw [List.foldl_cons] at h'
      obtain ⟨h1, h2⟩ := ih _ h'
      refine ⟨?_, fun y hy => ?_⟩
      · rcases List.mem_cons.mp h1 with q | q
        · split at q
          · rw [q]; simp
          · rw [q]; simp
        · simp [q]
      · have := h2 _ List.mem_cons_self
        rcases List.mem_cons.mp hy with q | q
        · split at this <;> omega
        · rcases List.mem_cons.mp q with q | q
          · split at this <;> omega
          · exact h2 y (List.mem_cons_of_mem _ q)
section
variable {K : PySem.W.Frag} {fr fr' : Addr → Prop} {H H' : Hp} {d : D} {Q : VK}
theorem ints_vs : ∀ {ns : List Int} {vs : List V} {B : List Addr}, OwL K fr H (ns.map D.int) vs B → vs = ns.map V.int
  | [], vs, B, h => h.nil_inv.1
  | n :: r, vs, B, h => by
    obtain ⟨w, us, B', C, rfl, h1, h2, _⟩ := h.cons_inv
    rw [ints_vs h2, (show Vw K fr H (.int n) w from ⟨_, h1⟩).int]; rfl
theorem bls_vs : ∀ {ns : List Bool} {vs : List V} {B : List Addr}, OwL K fr H (ns.map D.bl) vs B → vs = ns.map V.bl
  | [], vs, B, h => h.nil_inv.1
  | n :: r, vs, B, h => by
    obtain ⟨w, us, B', C, rfl, h1, h2, _⟩ := h.cons_inv
    rw [bls_vs h2, (show Vw K fr H (.bl n) w from ⟨_, h1⟩).bl]; rfl
end
section
variable {X : Cx}
theorem c_len : CallR X (.builtin "len") (rP X.K .len) := by
  intro pins s σ H xs us Q I r h
  obtain ⟨fr, ds, d, dm, vw, e, q⟩ := h
  match ds, e with
  | [a], e =>
    obtain ⟨B, o⟩ := vw
    obtain ⟨v, us', B1, C, rfl, h1, h2, _⟩ := o.cons_inv
    obtain ⟨rfl, _⟩ := h2.nil_inv
    have va : Vw X.K fr H a v := ⟨_, h1⟩
    cases a with
    | str z =>
      obtain rfl := va.str
      simp only [prF] at e
      split at e
      · rename_i hz
        cases e
        exact call_len pins s σ H _ us Q I r ⟨_, _, rfl, ⟨of_decide_eq_true hz, rfl⟩, Res.int dm q⟩
      · cases e
    | tup z =>
      cases e
      obtain ⟨p, vs, B, rfl, hp, o⟩ := va.tup
      refine call_len pins s σ H _ us Q I r ⟨_, _, rfl, .inr ⟨vs, hp.sq, rfl⟩, ?_⟩
      rw [o.len]; exact Res.int dm q
    | lst o z =>
      cases e
      obtain ⟨p, vs, B, rfl, hp, o⟩ := va.lst
      refine call_len pins s σ H _ us Q I r ⟨_, _, rfl, .inl ⟨vs, .of hp, rfl⟩, ?_⟩
      rw [o.len]; exact Res.int dm q
    | scr z =>
      cases e
      obtain ⟨p, rfl, hp⟩ := va.scr
      refine call_len pins s σ H _ us Q I r ⟨_, _, rfl, .inl ⟨_, hp.sq, rfl⟩, ?_⟩
      rw [List.length_map]
      have := Res.int dm q
      rw [List.length_map] at this
      exact this
    | _ => cases e
  | [], e => cases e
  | x :: y :: r, e => cases x <;> cases e
theorem VwL.one' {K : PySem.W.Frag} {fr : Addr → Prop} {H : Hp} {a : D} {vs : List V} (h : VwL K fr H [a] vs) : ∃ v, vs = [v] ∧ Vw K fr H a v := by
  obtain ⟨B, o⟩ := h
  obtain ⟨v, us', B1, C, rfl, h1, h2, _⟩ := o.cons_inv
  obtain ⟨rfl, _⟩ := h2.nil_inv
  exact ⟨v, rfl, _, h1⟩
theorem VwL.two' {K : PySem.W.Frag} {fr : Addr → Prop} {H : Hp} {a b : D} {vs : List V} (h : VwL K fr H [a, b] vs) : ∃ v w, vs = [v, w] ∧ Vw K fr H a v ∧ Vw K fr H b w := by
  obtain ⟨B, o⟩ := h
  obtain ⟨v, us', B1, C, rfl, h1, h2, _⟩ := o.cons_inv
  obtain ⟨w, rfl, h3⟩ := VwL.one' ⟨_, h2⟩
  exact ⟨v, w, rfl, ⟨_, h1⟩, h3⟩
theorem VwL.three' {K : PySem.W.Frag} {fr : Addr → Prop} {H : Hp} {a b c : D} {vs : List V} (h : VwL K fr H [a, b, c] vs) : ∃ v w u, vs = [v, w, u] ∧ Vw K fr H a v ∧ Vw K fr H b w ∧ Vw K fr H c u := by
  obtain ⟨B, o⟩ := h
  obtain ⟨v, us', B1, C, rfl, h1, h2, _⟩ := o.cons_inv
  obtain ⟨w, u, rfl, h3, h4⟩ := VwL.two' ⟨_, h2⟩
  exact ⟨v, w, u, rfl, ⟨_, h1⟩, h3, h4⟩
theorem c_int : CallR X (.type "int") (rP X.K .int_) := by
  intro pins s σ H xs us Q I r h
  obtain ⟨fr, ds, d, dm, vw, e, q⟩ := h
  match ds, e with
  | [.int a], e =>
    cases e
    obtain ⟨v, rfl, h1⟩ := vw.one'
    obtain rfl := h1.int
    exact call_int1 pins s σ H _ us Q I r (.inl ⟨a, rfl, Res.int dm q⟩)
  | [.bl a], e =>
    cases e
    obtain ⟨v, rfl, h1⟩ := vw.one'
    obtain rfl := h1.bl
    exact call_int1 pins s σ H _ us Q I r (.inr ⟨a, rfl, Res.int dm q⟩)
theorem c_abs : CallR X (.builtin "abs") (rP X.K .abs_) := by
  intro pins s σ H xs us Q I r h
  obtain ⟨fr, ds, d, dm, vw, e, q⟩ := h
  match ds, e with
  | [.int a], e =>
    cases e
    obtain ⟨v, rfl, h1⟩ := vw.one'
    obtain rfl := h1.int
    exact call_abs pins s σ H _ us Q I r ⟨a, rfl, Res.int dm q⟩
theorem c_min2 (hc : X.calm = true) : CallR X (.builtin "min") (rP X.K .min2) := by
  intro pins s σ H xs us Q I r h
  obtain ⟨fr, ds, d, dm, vw, e, q⟩ := h
  match ds, e with
  | [.int a, .int b], e =>
    cases e
    obtain ⟨v, w, rfl, h1, h2⟩ := vw.two'
    obtain rfl := h1.int
    obtain rfl := h2.int
    exact call_min2 hc pins s σ H _ us Q I r ⟨a, b, rfl, Res.int dm q⟩
theorem c_max2 (hc : X.calm = true) : CallR X (.builtin "max") (rP X.K .max2) := by
  intro pins s σ H xs us Q I r h
  obtain ⟨fr, ds, d, dm, vw, e, q⟩ := h
  match ds, e with
  | [.int a, .int b], e =>
    cases e
    obtain ⟨v, w, rfl, h1, h2⟩ := vw.two'
    obtain rfl := h1.int
    obtain rfl := h2.int
    exact call_max2 hc pins s σ H _ us Q I r ⟨a, b, rfl, Res.int dm q⟩
theorem c_sum (hc : X.calm = true) : CallR X (.builtin "sum") (rP X.K .sum) := by
  intro pins s σ H xs us Q I r h
  obtain ⟨fr, ds, d, dm, vw, e, q⟩ := h
  match ds, e with
  | [.lst _ a], e =>
    obtain ⟨ns, hn, rfl⟩ := Option.map_eq_some_iff.mp (show (dInts a).map (fun ns => D.int ns.sum) = some d from e)
    obtain rfl := dInts_inv hn
    obtain ⟨v, rfl, h1⟩ := vw.one'
    obtain ⟨p, vs, B, rfl, hp, o⟩ := h1.lst
    obtain rfl := ints_vs o
    exact cr_sum hc pins s σ H _ us Q I r ⟨p, ns, rfl, .of hp, Res.int dm q⟩
  | [.tup a], e =>
    obtain ⟨ns, hn, rfl⟩ := Option.map_eq_some_iff.mp (show (dInts a).map (fun ns => D.int ns.sum) = some d from e)
    obtain rfl := dInts_inv hn
    obtain ⟨v, rfl, h1⟩ := vw.one'
    obtain ⟨p, vs, B, rfl, hp, o⟩ := h1.tup
    obtain rfl := ints_vs o
    obtain ⟨its, rv, ht, _⟩ := I.tuple hp.sq
    rw [Vals.ref1 r]
    have hi := rv.ints
    obtain ⟨xs, hx⟩ := hi.allInts.items
    have hn : numsOf its.toArray.toList = ns := by rw [show its.toArray.toList = its from rfl, hi.numsOf]
    have ht : s.heap.IsTuple p its.toArray := ht
    rw [hx] at ht hn
    rw [nums_intItems] at hn
    refine PySem.W.ktm_sumG (I.ok.hd hc) ht fun h' tk t' hk => ⟨.int ns.sum, H, I.kept hk, ?_, Res.int dm q⟩
    have e2 : preSum (numAt xs) xs.size = ns.sum := by
      rw [preSum_eq, List.take_of_length_le (by simp), hn]
    rw [e2]
    exact ⟨_, rfl⟩
theorem c_all (hc : X.calm = true) : CallR X (.builtin "all") (rP X.K .all1) := by
  intro pins s σ H xs us Q I r h
  obtain ⟨fr, ds, d, dm, vw, e, q⟩ := h
  match ds, e with
  | [.lst _ a], e =>
    obtain ⟨ns, hn, rfl⟩ := Option.map_eq_some_iff.mp (show (dBls a).map (fun ns => D.bl (ns.all id)) = some d from e)
    obtain rfl := dBls_inv hn
    obtain ⟨v, rfl, h1⟩ := vw.one'
    obtain ⟨p, vs, B, rfl, hp, o⟩ := h1.lst
    obtain rfl := bls_vs o
    exact cr_all hc pins s σ H _ us Q I r ⟨p, ns, rfl, .of hp, Res.bl dm q⟩
theorem c_any (hc : X.calm = true) : CallR X (.builtin "any") (rP X.K .any1) := by
  intro pins s σ H xs us Q I r h
  obtain ⟨fr, ds, d, dm, vw, e, q⟩ := h
  match ds, e with
  | [.lst _ a], e =>
    obtain ⟨ns, hn, rfl⟩ := Option.map_eq_some_iff.mp (show (dBls a).map (fun ns => D.bl (ns.any id)) = some d from e)
    obtain rfl := dBls_inv hn
    obtain ⟨v, rfl, h1⟩ := vw.one'
    obtain ⟨p, vs, B, rfl, hp, o⟩ := h1.lst
    obtain rfl := bls_vs o
    exact cr_any hc pins s σ H _ us Q I r ⟨p, ns, rfl, .of hp, Res.bl dm q⟩
theorem c_list : CallR X (.type "list") (rP X.K .lst1) := by
  intro pins s σ H xs us Q I r h
  obtain ⟨fr, ds, d, dm, vw, e, q⟩ := h
  match ds, e with
  | [a], e =>
    simp only [prF] at e
    split at e
    · rename_i zs hz
      split at e
      · rename_i hu
        cases e
        obtain ⟨v, rfl, h1⟩ := vw.one'
        obtain ⟨p, vs, B, rfl, hp, o⟩ := h1.seq hz
        exact call_list_of pins s σ H _ us Q I r ⟨p, vs, rfl, hp, Res.lst dm q (o.noB hu)⟩
      · cases e
    · cases e
  | [], e => cases e
  | x :: y :: r, e => cases x <;> cases e
theorem c_tuple : CallR X (.type "tuple") (rP X.K .tup1) := by
  intro pins s σ H xs us Q I r h
  obtain ⟨fr, ds, d, dm, vw, e, q⟩ := h
  match ds, e with
  | [a], e =>
    simp only [prF] at e
    split at e
    · rename_i zs hz
      split at e
      · rename_i hu
        cases e
        obtain ⟨v, rfl, h1⟩ := vw.one'
        cases a with
        | tup ds =>
          cases hz
          obtain ⟨p, vs, B, rfl, hp, o⟩ := h1.tup
          refine call_tupleT pins s σ H _ us Q I r ⟨p, vs, rfl, hp.sq, Res.same dm q ?_⟩
          unfold Ow
          exact ⟨p, vs, rfl, hp, o.noB hu⟩
        | lst o ds =>
          cases hz
          obtain ⟨p, vs, B, rfl, hp, o⟩ := h1.lst
          exact call_tuple_of pins s σ H _ us Q I r ⟨p, vs, rfl, .inl ⟨.of hp, Res.tup dm q (o.noB hu)⟩⟩
        | scr ns =>
          cases hz
          obtain ⟨p, rfl, hp⟩ := h1.scr
          exact call_tuple_of pins s σ H _ us Q I r ⟨p, _, rfl, .inl ⟨hp.sq, Res.tup dm q ints_ow⟩⟩
        | _ => cases hz
      · cases e
    · cases e
  | [], e => cases e
  | x :: y :: r, e => cases x <;> cases e
theorem o_ltV (hu : X.A.units + 64 < cLine) {pins : List (Addr × Obj)} {s : Shared} {σ : St} {H : Hp} {x y : V} {v u : Value} {Q : VK} {fr : Addr → Prop} {a b : D} {c : Bool} (I : Inv X pins σ H s) (rx : RelV x v) (ry : RelV y u) (va : Vw X.K fr H a x) (vb : Vw X.K fr H b y) (hc : ltV a b = some c) (q : Q (.bl c) H) :
    wpAny (model X.prog X.w) X.A (compareOp .Lt v u) (EP X pins σ Q) X.xe s := by
  obtain ⟨hd, ha, hn, rfl⟩ := ltV_inv hc
  obtain ⟨as1, r1⟩ := Dp.reads I (py a) x v va.dp rx
  obtain ⟨as2, r2⟩ := Dp.reads I (py b) y u vb.dp ry
  exact PySem.W.lt_data r1 r2 ha hn (by omega) ⟨.bl _, H, I, rfl, q⟩
theorem o_lt (hu : X.A.units + 64 < cLine) : OpR X (compareOp .Lt) (fun x y => rP X.K .lt [x, y]) := by
  intro pins s σ H x y v u Q I rx ry h
  obtain ⟨fr, ds, d, dm, vw, e, q⟩ := h
  obtain ⟨a, b, rfl, va, vb⟩ := vw.two
  obtain ⟨c, hc, rfl⟩ := Option.map_eq_some_iff.mp (show (ltF2 a b).map D.bl = some d from e)
  unfold ltF2 at hc
  split at hc
  · rename_i as bs
    split at hc
    · rename_i ns ms h1 h3
      cases hc
      obtain rfl := dInts_inv h1
      obtain rfl := dInts_inv h3
      obtain ⟨p, vs, B, rfl, hp, o⟩ := va.tup
      obtain rfl := ints_vs o
      obtain ⟨p2, vs2, B2, rfl, hp2, o2⟩ := vb.tup
      obtain rfl := ints_vs o2
      exact op_ltT (by omega) pins s σ H _ _ v u Q I rx ry ⟨p, p2, ns, ms, rfl, rfl, hp.sq, hp2.sq, Res.bl dm q⟩
    · exact o_ltV hu I rx ry va vb hc (Res.bl dm q)
  · rcases ltF_inv hc with ⟨i, j, rfl, rfl, rfl⟩ | hc
    · obtain rfl := va.int
      obtain rfl := vb.int
      exact op_lt pins s σ H _ _ v u Q I rx ry ⟨i, j, rfl, rfl, Res.bl dm q⟩
    · exact o_ltV hu I rx ry va vb hc (Res.bl dm q)
end
end Sk

namespace Sk
open PySem PySem.Spec PyProof.Rows L2
section
variable {K : PySem.W.Frag} {fr fr' : Addr → Prop} {H H' : Hp} {d : D} {Q : VK}
theorem OwL.at : ∀ {ds : List D} {vs : List V} {B : List Addr} {j : Nat} {d : D}, OwL K fr H ds vs B → ds[j]? = some d → ∃ v B', vs[j]? = some v ∧ Ow K fr H d v B' ∧ ∀ b ∈ B', b ∈ B
  | [], _, _, j, d, h, e => by simp at e
  | x :: ds, vs, B, j, d, h, e => by
    obtain ⟨w, us, B', C, rfl, h1, h2, rfl⟩ := h.cons_inv
    cases j with
    | zero =>
      rw [List.getElem?_cons_zero] at e
      cases e
      exact ⟨w, B', rfl, h1, fun b hb => List.mem_append_left _ hb⟩
    | succ j =>
      rw [List.getElem?_cons_succ] at e
      obtain ⟨v, B2, g1, g2, g3⟩ := OwL.at h2 e
      exact ⟨v, B2, by rw [List.getElem?_cons_succ]; exact g1, g2, fun b hb => List.mem_append_right _ (g3 b hb)⟩
/-- a[b] by values -/
def rIdx (K : PySem.W.Frag) : R2 := fun x y H Q => ∃ fr a b d Ba, Dm fr H ∧ Ow K fr H a x Ba ∧ Vw K fr H b y ∧ idxF a b = some d ∧ ∀ v B, Ow K fr H d v B → (∀ c ∈ B, c ∈ Ba) → Q v H
theorem ixD_lt {n : Nat} {i : Int} {j : Nat} (h : ixD n i = some j) : j < n := by
  unfold ixD at h
  split at h
  · split at h
    · cases h; omega
    · cases h
  · split at h
    · cases h; omega
    · cases h
end
section
variable {X : Cx}
theorem o_idx : IxR X (rIdx X.K) := by
  intro value slice pins s σ H x y v u Q I rx ry h hs
  obtain ⟨fr, a, b, d, Ba, dm, oa, vb, e, q⟩ := h
  match a, b, e with
  | .tup ds, .int i, e =>
    obtain rfl := vb.int
    unfold Ow at oa
    obtain ⟨p, vs, rfl, hp, o⟩ := oa
    obtain ⟨j, hj, hd⟩ := Option.bind_eq_some_iff.mp (show (ixD ds.length i).bind (ds[·]?) = some d from e)
    obtain ⟨w, B', g1, g2, g3⟩ := o.at hd
    refine ix_tup value slice pins s σ H _ _ v u Q I rx ry ⟨p, vs, i, w, rfl, rfl, hp.sq, ?_, q w B' g2 g3⟩ hs
    show (ixD vs.length i).bind _ = _
    rw [o.len, hj]; exact g1
  | .lst o' ds, .int i, e =>
    obtain rfl := vb.int
    unfold Ow at oa
    obtain ⟨p, vs, B, rfl, hp, o, h0, h1⟩ := oa
    obtain ⟨j, hj, hd⟩ := Option.bind_eq_some_iff.mp (show (ixD ds.length i).bind (ds[·]?) = some d from e)
    obtain ⟨w, B', g1, g2, g3⟩ := o.at hd
    have sub : ∀ c ∈ B', c ∈ Ba := fun c hc => by
      cases o' with
      | false => obtain ⟨_, eB, eA⟩ := h0 rfl; have := g3 c hc; rw [eB] at this; cases this
      | true => rw [h1 rfl]; exact List.mem_cons_of_mem _ (g3 c hc)
    refine ix_list value slice pins s σ H _ _ v u Q I rx ry ⟨p, vs, i, w, rfl, rfl, .of hp, ?_, q w B' g2 sub⟩ hs
    show (ixD vs.length i).bind _ = _
    rw [o.len, hj]; exact g1
  | .scr ns, .int i, e =>
    obtain rfl := vb.int
    unfold Ow at oa
    obtain ⟨⟨p, rfl, hp⟩, rfl⟩ := oa
    obtain ⟨m, hm, rfl⟩ := Option.map_eq_some_iff.mp (show ((ixD ns.length i).bind (ns[·]?)).map D.int = some d from e)
    obtain ⟨j, hj, hd⟩ := Option.bind_eq_some_iff.mp hm
    refine ix_list value slice pins s σ H _ _ v u Q I rx ry ⟨p, _, i, .int m, rfl, rfl, hp.sq, ?_, q (.int m) [] (by unfold Ow; exact ⟨rfl, rfl⟩) (fun _ z => nomatch z)⟩ hs
    show (ixD (ns.map V.int).length i).bind _ = _
    rw [List.length_map, hj]
    show (ns.map V.int)[j]? = _
    rw [List.getElem?_map, hd]; rfl
  | .str z, .int i, e =>
    obtain rfl := vb.int
    unfold Ow at oa
    obtain ⟨rfl, rfl⟩ := oa
    simp only [idxF] at e
    split at e
    · rename_i hz
      obtain ⟨m, hm, rfl⟩ := Option.map_eq_some_iff.mp e
      exact ix_str value slice pins s σ H _ _ v u Q I rx ry ⟨z, i, m, rfl, rfl, of_decide_eq_true hz, hm, q (.str ⟨#[m]⟩) [] (by unfold Ow; exact ⟨rfl, rfl⟩) (fun _ z => nomatch z)⟩ hs
    · cases e
theorem OwL.take {K : PySem.W.Frag} {fr : Addr → Prop} {H : Hp} : ∀ {ds : List D} {vs : List V} (n : Nat), OwL K fr H ds vs [] → OwL K fr H (ds.take n) (vs.take n) []
  | _, _, 0, _ => by rw [List.take_zero, List.take_zero]; exact OwL.nil
  | [], vs, n + 1, h => by obtain ⟨rfl, _⟩ := h.nil_inv; exact OwL.nil
  | d :: ds, vs, n + 1, h => by
    obtain ⟨w, us, B', C, rfl, h1, h2, e⟩ := h.cons_inv
    obtain ⟨rfl, rfl⟩ := List.append_eq_nil_iff.mp e.symm
    exact OwL.cons (B := []) (C := []) h1 (OwL.take n h2)
theorem OwL.drop {K : PySem.W.Frag} {fr : Addr → Prop} {H : Hp} : ∀ {ds : List D} {vs : List V} (n : Nat), OwL K fr H ds vs [] → OwL K fr H (ds.drop n) (vs.drop n) []
  | _, _, 0, h => h
  | [], vs, n + 1, h => by obtain ⟨rfl, _⟩ := h.nil_inv; exact OwL.nil
  | d :: ds, vs, n + 1, h => by
    obtain ⟨w, us, B', C, rfl, h1, h2, e⟩ := h.cons_inv
    obtain ⟨rfl, rfl⟩ := List.append_eq_nil_iff.mp e.symm
    exact OwL.drop n h2
theorem OwL.cut {K : PySem.W.Frag} {fr : Addr → Prop} {H : Hp} {ds : List D} {vs : List V} (lo hi : Option Int) (h : OwL K fr H ds vs []) : OwL K fr H (cutL ds lo hi) (cutV vs lo hi) [] := by
  unfold cutL cutV
  rw [h.len]
  exact OwL.take _ (OwL.drop _ h)
def rSlc (K : PySem.W.Frag) : V → Option Int → Option Int → Hp → VK → Prop := fun x lo hi H Q => ∃ fr a d, Dm fr H ∧ Vw K fr H a x ∧ slcF a lo hi = some d ∧ Res K fr H d Q
theorem cut_all {α : Type} {xs : List α} {lo hi : Option Int} (h : HT.sIx xs.length 0 lo = 0 ∧ HT.sIx xs.length xs.length hi = xs.length) : cutL xs lo hi = xs := by
  unfold cutL
  rw [h.1, h.2, List.drop_zero, Nat.sub_zero, List.take_length]
theorem o_slc : SlR X (rSlc X.K) := by
  intro pins s σ H x v vl vu lo hi sl Q I rx hs pl pu h
  obtain ⟨fr, a, d, dm, va, e, q⟩ := h
  match a, e with
  | .lst _ ds, e =>
    simp only [slcF] at e
    split at e
    · rename_i hu
      cases e
      obtain ⟨p, vs, B, rfl, hp, o⟩ := va.lst
      exact sl_list pins s σ H _ v vl vu lo hi sl Q I rx hs pl pu ⟨p, vs, rfl, .of hp, Res.lst dm q ((o.noB hu).cut lo hi)⟩
    · cases e
  | .tup ds, e =>
    simp only [slcF] at e
    split at e
    · rename_i hu
      cases e
      obtain ⟨p, vs, B, rfl, hp, o⟩ := va.tup
      refine sl_tupA pins s σ H _ v vl vu lo hi sl Q I rx hs pl pu ⟨p, vs, rfl, hp.sq, fun hw => ?_, fun _ => Res.tup dm q ((o.noB hu).cut lo hi)⟩
      rw [o.len] at hw
      rw [cut_all hw] at q
      refine Res.same dm q ?_
      unfold Ow
      exact ⟨p, vs, rfl, hp, o.noB hu⟩
    · cases e
  | .str z, e =>
    simp only [slcF] at e
    split at e
    · rename_i hz
      cases e
      obtain rfl := va.str
      exact sl_str pins s σ H _ v vl vu lo hi sl Q I rx hs pl pu ⟨z, rfl, of_decide_eq_true hz, Res.str dm q⟩
    · cases e
/-- truth -/
theorem truV_of {K : PySem.W.Frag} {fr : Addr → Prop} {H : Hp} {a : D} {v : V} {k : Bool} (h : Vw K fr H a v) (e : truD a = some k) : TruV K v H k := by
  cases a with
  | non => cases e; rw [h.non]; exact rfl
  | bl b => cases e; rw [h.bl]; exact rfl
  | int b => cases e; rw [h.int]; exact rfl
  | str b =>
    rw [h.str]
    simp only [truD] at e
    split at e
    · rename_i hz
      cases e
      refine ⟨of_decide_eq_true hz, ?_⟩
      cases b.length <;> simp <;> omega
    · cases e
  | scr b =>
    cases e
    obtain ⟨a, rfl, hp⟩ := h.scr
    exact .inl ⟨_, hp.sq, by cases b <;> rfl⟩
  | tup b =>
    cases e
    obtain ⟨a, vs, B, rfl, hp, o⟩ := h.tup
    refine .inr (.inl ⟨_, hp.sq, ?_⟩)
    have := o.len
    cases b <;> cases vs <;> first | rfl | simp at this
  | lst o b =>
    cases e
    obtain ⟨a, vs, B, rfl, hp, o⟩ := h.lst
    refine .inl ⟨_, .of hp, ?_⟩
    have := o.len
    cases b <;> cases vs <;> first | rfl | simp at this
theorem unL_at' : ∀ {ds : List D} {j : Nat} {d : D}, unL ds = true → ds[j]? = some d → un d = true
  | [], j, d, _, e => by simp at e
  | x :: r, 0, d, u, e => by
    unfold unL at u; rw [Bool.and_eq_true] at u
    cases e; exact u.1
  | x :: r, j + 1, d, u, e => by
    unfold unL at u; rw [Bool.and_eq_true] at u
    exact unL_at' (ds := r) (j := j) u.2 (by simpa using e)
def ltP (a b : D) : Bool := PySem.W.dataLt (py a) (py b)
def gtP (a b : D) : Bool := PySem.W.dataLt (py b) (py a)
theorem Ow.un' {K : PySem.W.Frag} {fr : Addr → Prop} {H : Hp} {d : D} {v : V} {B : List Addr} (h : Ow K fr H d v B) (u : Sk.un d = true) : Ow K fr H d v [] := by
  have := Ow.un d v B h u
  subst this
  exact h
theorem pyL_getD (ds : List D) (i : Nat) : (pyL ds).getD i .none = py (ds.getD i .non) := by
  rw [pyL_map, List.getD_eq_getElem?_getD, List.getD_eq_getElem?_getD, List.getElem?_map]
  cases ds[i]? <;> rfl
theorem cmpAll_inv {ds : List D} (h : cmpAll ds = true) : PySem.W.AlikeAll (pyL ds) ∧ PyData.depthAll (pyL ds) ≤ 60 := by
  unfold cmpAll at h
  rw [List.all_eq_true] at h
  have h1 : ∀ x ∈ ds, dep 60 x = true ∧ nonD x = false ∧ ∀ y ∈ ds, PySem.W.alike (py x) (py y) = true := fun x hx => by
    have := h x hx
    simp only [Bool.and_eq_true, Bool.not_eq_true', List.all_eq_true] at this
    exact ⟨this.1.1, this.1.2, this.2⟩
  refine ⟨⟨fun x hx y hy => ?_, fun x hx e => ?_⟩, ?_⟩
  · rw [pyL_map] at hx hy
    obtain ⟨a, ha, rfl⟩ := List.mem_map.mp hx
    obtain ⟨b, hb, rfl⟩ := List.mem_map.mp hy
    exact (h1 a ha).2.2 b hb
  · rw [pyL_map] at hx
    obtain ⟨a, ha, rfl⟩ := List.mem_map.mp hx
    have := (h1 a ha).2.1
    cases a <;> first | (simp [nonD] at this; done) | (simp [py] at e; done)
  · refine (depL_ok 60 ds ?_).2
    have : ∀ l : List D, (∀ x ∈ l, dep 60 x = true) → depL 60 l = true := by
      intro l
      induction l with
      | nil => intro _; simp [depL]
      | cons x r ih =>
        intro hx
        unfold depL
        rw [hx x List.mem_cons_self, ih fun y hy => hx y (List.mem_cons_of_mem _ hy)]
        rfl
    exact this ds fun x hx => (h1 x hx).1
end
section
variable {X : Cx}
theorem leastD_call {prog : Program} {w : World} {A : Around} {E : Value → Shared → Prop} {s : Shared} {l : Addr} {vs : List Value} {x : D} {xs : List D} {as1 : List Addr} {Q : Value → Shared → Prop} (hh : A.handled = none) (hl : s.heap.IsList l vs.toArray) (hr : ReadsAll s.heap vs (pyL (x :: xs)) as1) (ha : cmpAll (x :: xs) = true) (hu : A.units + 65 < cLine)
    (h : ∀ (v : Value) (i : Nat), vs[i]? = some v → (x :: xs)[i]? = some (xs.foldl (fun a y => if PySem.W.dataLt (py y) (py a) then y else a) x) → ∀ h' tk, (∀ b o, s.heap.get? b = some o → h'.get? b = some o) → Q v { s with heap := h', toks := tk }) :
    wpAny (model prog w) A (call (.builtin "min") [.ref l]) Q E s := by
  obtain ⟨al1, dp1⟩ := cmpAll_inv ha
  have hr' : ReadsAll s.heap vs.toArray.toList (pyL (x :: xs)) as1 := by simpa using hr
  have hn : vs.toArray.size = xs.length + 1 := by
    have := PySem.W.readsAll_len hr'
    rw [this, pyL_map, List.length_map, List.length_cons]
  have hb : (fun i j => PySem.W.dataLt ((pyL (x :: xs)).getD i .none) ((pyL (x :: xs)).getD j .none)) = fun i j => ltP ((x :: xs).getD i .non) ((x :: xs).getD j .non) := by
    funext i j
    rw [pyL_getD, pyL_getD]
    rfl
  refine call_min_walkH (PySem.W.iter_listW (A := A.in1) hh hl fun s2 e1 W st hfp hw hk => ?_)
  refine ⟨_, _, _, _, _, _, _, s.heap, _, rfl, W, st, hfp, by omega, hw, hk, PySem.W.cmpIn_lt (A := A.in1) hr' al1 (by show A.units + 1 + _ < _; omega), fun v s' hP m => ?_⟩
  obtain ⟨h', tk, rfl, hk'⟩ := PySem.W.moved_old e1 rfl m
  rw [hb, show vs.toArray.size - 1 = xs.length by omega] at hP
  obtain ⟨i1, i2⟩ := PySem.W.argBest_fold ltP D.non x xs xs.length (Nat.le_refl _)
  rw [List.take_length] at i2
  obtain ⟨kk, hkk⟩ : ∃ kk, kk = argBest (fun i j => ltP ((x :: xs).getD i .non) ((x :: xs).getD j .non)) xs.length := ⟨_, rfl⟩
  rw [← hkk] at hP i1 i2
  have hlt : kk < (x :: xs).length := by rw [List.length_cons]; omega
  refine h v kk (by simpa using hP) ?_ h' tk hk'
  rw [List.getElem?_eq_getElem hlt]
  rw [List.getD_eq_getElem?_getD, List.getElem?_eq_getElem hlt] at i2
  exact congrArg some i2
theorem mostD_call {prog : Program} {w : World} {A : Around} {E : Value → Shared → Prop} {s : Shared} {l : Addr} {vs : List Value} {x : D} {xs : List D} {as1 : List Addr} {Q : Value → Shared → Prop} (hh : A.handled = none) (hl : s.heap.IsList l vs.toArray) (hr : ReadsAll s.heap vs (pyL (x :: xs)) as1) (ha : cmpAll (x :: xs) = true) (hu : A.units + 65 < cLine)
    (h : ∀ (v : Value) (i : Nat), vs[i]? = some v → (x :: xs)[i]? = some (xs.foldl (fun a y => if PySem.W.dataLt (py a) (py y) then y else a) x) → ∀ h' tk, (∀ b o, s.heap.get? b = some o → h'.get? b = some o) → Q v { s with heap := h', toks := tk }) :
    wpAny (model prog w) A (call (.builtin "max") [.ref l]) Q E s := by
  obtain ⟨al1, dp1⟩ := cmpAll_inv ha
  have hr' : ReadsAll s.heap vs.toArray.toList (pyL (x :: xs)) as1 := by simpa using hr
  have hn : vs.toArray.size = xs.length + 1 := by
    have := PySem.W.readsAll_len hr'
    rw [this, pyL_map, List.length_map, List.length_cons]
  have hb : (fun i j => PySem.W.dataLt ((pyL (x :: xs)).getD j .none) ((pyL (x :: xs)).getD i .none)) = fun i j => gtP ((x :: xs).getD i .non) ((x :: xs).getD j .non) := by
    funext i j
    rw [pyL_getD, pyL_getD]
    rfl
  refine call_max_walkH (PySem.W.iter_listW (A := A.in1) hh hl fun s2 e1 W st hfp hw hk => ?_)
  refine ⟨_, _, _, _, _, _, _, s.heap, _, rfl, W, st, hfp, by omega, hw, hk, PySem.W.cmpIn_gt (A := A.in1) hr' al1 (by show A.units + 1 + _ < _; omega), fun v s' hP m => ?_⟩
  obtain ⟨h', tk, rfl, hk'⟩ := PySem.W.moved_old e1 rfl m
  rw [hb, show vs.toArray.size - 1 = xs.length by omega] at hP
  obtain ⟨i1, i2⟩ := PySem.W.argBest_fold gtP D.non x xs xs.length (Nat.le_refl _)
  rw [List.take_length] at i2
  obtain ⟨kk, hkk⟩ : ∃ kk, kk = argBest (fun i j => gtP ((x :: xs).getD i .non) ((x :: xs).getD j .non)) xs.length := ⟨_, rfl⟩
  rw [← hkk] at hP i1 i2
  have hlt : kk < (x :: xs).length := by rw [List.length_cons]; omega
  refine h v kk (by simpa using hP) ?_ h' tk hk'
  rw [List.getElem?_eq_getElem hlt]
  rw [List.getD_eq_getElem?_getD, List.getElem?_eq_getElem hlt] at i2
  exact congrArg some i2
theorem leastD_callT {prog : Program} {w : World} {A : Around} {E : Value → Shared → Prop} {s : Shared} {l : Addr} {vs : List Value} {x : D} {xs : List D} {as1 : List Addr} {Q : Value → Shared → Prop} (hh : A.handled = none) (hl : s.heap.IsTuple l vs.toArray) (hr : ReadsAll s.heap vs (pyL (x :: xs)) as1) (ha : cmpAll (x :: xs) = true) (hu : A.units + 65 < cLine)
    (h : ∀ (v : Value) (i : Nat), vs[i]? = some v → (x :: xs)[i]? = some (xs.foldl (fun a y => if PySem.W.dataLt (py y) (py a) then y else a) x) → ∀ h' tk, (∀ b o, s.heap.get? b = some o → h'.get? b = some o) → Q v { s with heap := h', toks := tk }) :
    wpAny (model prog w) A (call (.builtin "min") [.ref l]) Q E s := by
  obtain ⟨al1, dp1⟩ := cmpAll_inv ha
  have hr' : ReadsAll s.heap vs.toArray.toList (pyL (x :: xs)) as1 := by simpa using hr
  have hn : vs.toArray.size = xs.length + 1 := by
    have := PySem.W.readsAll_len hr'
    rw [this, pyL_map, List.length_map, List.length_cons]
  have hb : (fun i j => PySem.W.dataLt ((pyL (x :: xs)).getD i .none) ((pyL (x :: xs)).getD j .none)) = fun i j => ltP ((x :: xs).getD i .non) ((x :: xs).getD j .non) := by
    funext i j
    rw [pyL_getD, pyL_getD]
    rfl
  refine call_min_walkH (PySem.W.iter_tupleW (A := A.in1) hh hl fun s2 e1 W st hfp hw hk => ?_)
  refine ⟨_, _, _, _, _, _, _, s.heap, _, rfl, W, st, hfp, by omega, hw, hk, PySem.W.cmpIn_lt (A := A.in1) hr' al1 (by show A.units + 1 + _ < _; omega), fun v s' hP m => ?_⟩
  obtain ⟨h', tk, rfl, hk'⟩ := PySem.W.moved_old e1 rfl m
  rw [hb, show vs.toArray.size - 1 = xs.length by omega] at hP
  obtain ⟨i1, i2⟩ := PySem.W.argBest_fold ltP D.non x xs xs.length (Nat.le_refl _)
  rw [List.take_length] at i2
  obtain ⟨kk, hkk⟩ : ∃ kk, kk = argBest (fun i j => ltP ((x :: xs).getD i .non) ((x :: xs).getD j .non)) xs.length := ⟨_, rfl⟩
  rw [← hkk] at hP i1 i2
  have hlt : kk < (x :: xs).length := by rw [List.length_cons]; omega
  refine h v kk (by simpa using hP) ?_ h' tk hk'
  rw [List.getElem?_eq_getElem hlt]
  rw [List.getD_eq_getElem?_getD, List.getElem?_eq_getElem hlt] at i2
  exact congrArg some i2
theorem mostD_callT {prog : Program} {w : World} {A : Around} {E : Value → Shared → Prop} {s : Shared} {l : Addr} {vs : List Value} {x : D} {xs : List D} {as1 : List Addr} {Q : Value → Shared → Prop} (hh : A.handled = none) (hl : s.heap.IsTuple l vs.toArray) (hr : ReadsAll s.heap vs (pyL (x :: xs)) as1) (ha : cmpAll (x :: xs) = true) (hu : A.units + 65 < cLine)
    (h : ∀ (v : Value) (i : Nat), vs[i]? = some v → (x :: xs)[i]? = some (xs.foldl (fun a y => if PySem.W.dataLt (py a) (py y) then y else a) x) → ∀ h' tk, (∀ b o, s.heap.get? b = some o → h'.get? b = some o) → Q v { s with heap := h', toks := tk }) :
    wpAny (model prog w) A (call (.builtin "max") [.ref l]) Q E s := by
  obtain ⟨al1, dp1⟩ := cmpAll_inv ha
  have hr' : ReadsAll s.heap vs.toArray.toList (pyL (x :: xs)) as1 := by simpa using hr
  have hn : vs.toArray.size = xs.length + 1 := by
    have := PySem.W.readsAll_len hr'
    rw [this, pyL_map, List.length_map, List.length_cons]
  have hb : (fun i j => PySem.W.dataLt ((pyL (x :: xs)).getD j .none) ((pyL (x :: xs)).getD i .none)) = fun i j => gtP ((x :: xs).getD i .non) ((x :: xs).getD j .non) := by
    funext i j
    rw [pyL_getD, pyL_getD]
    rfl
  refine call_max_walkH (PySem.W.iter_tupleW (A := A.in1) hh hl fun s2 e1 W st hfp hw hk => ?_)
  refine ⟨_, _, _, _, _, _, _, s.heap, _, rfl, W, st, hfp, by omega, hw, hk, PySem.W.cmpIn_gt (A := A.in1) hr' al1 (by show A.units + 1 + _ < _; omega), fun v s' hP m => ?_⟩
  obtain ⟨h', tk, rfl, hk'⟩ := PySem.W.moved_old e1 rfl m
  rw [hb, show vs.toArray.size - 1 = xs.length by omega] at hP
  obtain ⟨i1, i2⟩ := PySem.W.argBest_fold gtP D.non x xs xs.length (Nat.le_refl _)
  rw [List.take_length] at i2
  obtain ⟨kk, hkk⟩ : ∃ kk, kk = argBest (fun i j => gtP ((x :: xs).getD i .non) ((x :: xs).getD j .non)) xs.length := ⟨_, rfl⟩
  rw [← hkk] at hP i1 i2
  have hlt : kk < (x :: xs).length := by rw [List.length_cons]; omega
  refine h v kk (by simpa using hP) ?_ h' tk hk'
  rw [List.getElem?_eq_getElem hlt]
  rw [List.getD_eq_getElem?_getD, List.getElem?_eq_getElem hlt] at i2
  exact congrArg some i2
theorem c_min1 (hc : X.calm = true) (hu : X.A.units + 65 < cLine) : CallR X (.builtin "min") (rP X.K .min1) := by
  intro pins s σ H xs us Q I rr h
  obtain ⟨fr, ds, d, dm, vw, e, q⟩ := h
  match ds, e with
  | [.lst o1 a], e =>
    obtain ⟨v, rfl, h1⟩ := vw.one'
    obtain ⟨p, vs, B, rfl, hp, o⟩ := h1.lst
    have e' : (match dInts a with
      | some ns => (minI ns).map D.int
      | none => if unL a && cmpAll a then leastD a else none) = some d := e
    split at e'
    · rename_i ns hn
      obtain ⟨m, hm, rfl⟩ := Option.map_eq_some_iff.mp e'
      obtain rfl := dInts_inv hn
      obtain rfl := ints_vs o
      obtain ⟨s1, s2⟩ := minI_spec hm
      refine cr_min hc pins s σ H _ us Q I rr ⟨p, ns, rfl, .of hp, List.length_pos_of_mem s1, fun k hk1 hk2 => ?_⟩
      have : k = m := Int.le_antisymm (hk2 m s1) (s2 k hk1)
      subst this
      exact Res.int dm q
    · split at e'
      · rename_i hz
        rw [Bool.and_eq_true] at hz
        cases a with
        | nil => cases e'
        | cons x r =>
          cases e'
          obtain ⟨its, rv, hl, _⟩ := I.list (.of hp)
          rw [Vals.ref1 rr]
          obtain ⟨as1, hr⟩ := Dp.readsAll I _ _ _ (OwL.dp _ _ _ o) rv
          exact leastD_call (I.ok.hd hc) hl.isList hr hz.2 hu fun v i hv hi h' tk hk => by
            obtain ⟨w, B', g1, g2, _⟩ := o.at hi
            obtain ⟨u, hu2, hr2⟩ := rv.get g1
            rw [hv] at hu2
            cases hu2
            have gn : Ow X.K fr H _ w [] := g2.un' (unL_at' hz.1 hi)
            exact ⟨w, H, I.kept hk, hr2, Res.same dm q gn⟩
      · cases e'
  | [.tup a], e =>
    obtain ⟨v, rfl, h1⟩ := vw.one'
    obtain ⟨p, vs, B, rfl, hp, o⟩ := h1.tup
    have e' : (if unL a && cmpAll a then leastD a else none) = some d := e
    split at e'
    · rename_i hz
      rw [Bool.and_eq_true] at hz
      cases a with
      | nil => cases e'
      | cons x r =>
        cases e'
        obtain ⟨its, rv, hl, _⟩ := I.tuple hp.sq
        rw [Vals.ref1 rr]
        obtain ⟨as1, hr⟩ := Dp.readsAll I _ _ _ (OwL.dp _ _ _ o) rv
        exact leastD_callT (I.ok.hd hc) hl hr hz.2 hu fun v i hv hi h' tk hk => by
          obtain ⟨w, B', g1, g2, _⟩ := o.at hi
          obtain ⟨u, hu2, hr2⟩ := rv.get g1
          rw [hv] at hu2
          cases hu2
          have gn : Ow X.K fr H _ w [] := g2.un' (unL_at' hz.1 hi)
          exact ⟨w, H, I.kept hk, hr2, Res.same dm q gn⟩
    · cases e'
theorem c_max1 (hc : X.calm = true) (hu : X.A.units + 65 < cLine) : CallR X (.builtin "max") (rP X.K .max1) := by
  intro pins s σ H xs us Q I rr h
  obtain ⟨fr, ds, d, dm, vw, e, q⟩ := h
  match ds, e with
  | [.lst o1 a], e =>
    obtain ⟨v, rfl, h1⟩ := vw.one'
    obtain ⟨p, vs, B, rfl, hp, o⟩ := h1.lst
    have e' : (match dInts a with
      | some ns => (maxI ns).map D.int
      | none => if unL a && cmpAll a then mostD a else none) = some d := e
    split at e'
    · rename_i ns hn
      obtain ⟨m, hm, rfl⟩ := Option.map_eq_some_iff.mp e'
      obtain rfl := dInts_inv hn
      obtain rfl := ints_vs o
      obtain ⟨s1, s2⟩ := maxI_spec hm
      refine cr_max hc pins s σ H _ us Q I rr ⟨p, ns, rfl, .of hp, List.length_pos_of_mem s1, fun k hk1 hk2 => ?_⟩
      have : k = m := Int.le_antisymm (s2 k hk1) (hk2 m s1)
      subst this
      exact Res.int dm q
    · split at e'
      · rename_i hz
        rw [Bool.and_eq_true] at hz
        cases a with
        | nil => cases e'
        | cons x r =>
          cases e'
          obtain ⟨its, rv, hl, _⟩ := I.list (.of hp)
          rw [Vals.ref1 rr]
          obtain ⟨as1, hr⟩ := Dp.readsAll I _ _ _ (OwL.dp _ _ _ o) rv
          exact mostD_call (I.ok.hd hc) hl.isList hr hz.2 hu fun v i hv hi h' tk hk => by
            obtain ⟨w, B', g1, g2, _⟩ := o.at hi
            obtain ⟨u, hu2, hr2⟩ := rv.get g1
            rw [hv] at hu2
            cases hu2
            have gn : Ow X.K fr H _ w [] := g2.un' (unL_at' hz.1 hi)
            exact ⟨w, H, I.kept hk, hr2, Res.same dm q gn⟩
      · cases e'
  | [.tup a], e =>
    obtain ⟨v, rfl, h1⟩ := vw.one'
    obtain ⟨p, vs, B, rfl, hp, o⟩ := h1.tup
    have e' : (if unL a && cmpAll a then mostD a else none) = some d := e
    split at e'
    · rename_i hz
      rw [Bool.and_eq_true] at hz
      cases a with
      | nil => cases e'
      | cons x r =>
        cases e'
        obtain ⟨its, rv, hl, _⟩ := I.tuple hp.sq
        rw [Vals.ref1 rr]
        obtain ⟨as1, hr⟩ := Dp.readsAll I _ _ _ (OwL.dp _ _ _ o) rv
        exact mostD_callT (I.ok.hd hc) hl hr hz.2 hu fun v i hv hi h' tk hk => by
          obtain ⟨w, B', g1, g2, _⟩ := o.at hi
          obtain ⟨u, hu2, hr2⟩ := rv.get g1
          rw [hv] at hu2
          cases hu2
          have gn : Ow X.K fr H _ w [] := g2.un' (unL_at' hz.1 hi)
          exact ⟨w, H, I.kept hk, hr2, Res.same dm q gn⟩
    · cases e'
end
end Sk

namespace Sk
open PySem PySem.Spec PyProof.Rows L2
section
variable {X : Cx}
theorem call_repr_str : CallR X (.builtin "repr") (fun xs H Q => ∃ i, xs = [.str i] ∧ (reprText i).length ≤ sizeLine ∧ Q (.str (reprText i)) H) := by
  intro pins s σ H xs us Q I r h
  obtain ⟨i, rfl, hz, q⟩ := h
  obtain ⟨u, rfl, t, rfl⟩ := vals1 r
  exact PySem.P.repr_of_str ⟨.str _, H, I.tok _, ⟨_, rfl⟩, q⟩ hz
theorem c_repr : CallR X (.builtin "repr") (rP X.K .repr) := by
  intro pins s σ H xs us Q I r h
  obtain ⟨fr, ds, d, dm, vw, e, q⟩ := h
  match ds, e with
  | [.int a], e =>
    simp only [prF] at e
    split at e
    · rename_i hz
      cases e
      obtain ⟨v, rfl, h1⟩ := vw.one'
      obtain rfl := h1.int
      exact SkE.call_repr_int pins s σ H _ us Q I r ⟨a, rfl, hz, Res.str dm q⟩
    · cases e
  | [.str a], e =>
    simp only [prF] at e
    split at e
    · rename_i hz
      cases e
      obtain ⟨v, rfl, h1⟩ := vw.one'
      obtain rfl := h1.str
      exact call_repr_str pins s σ H _ us Q I r ⟨a, rfl, of_decide_eq_true hz, Res.str dm q⟩
    · cases e
theorem c_str : CallR X (.type "str") (rP X.K .str1) := by
  intro pins s σ H xs us Q I r h
  obtain ⟨fr, ds, d, dm, vw, e, q⟩ := h
  match ds, e with
  | [.int a], e =>
    simp only [prF] at e
    split at e
    · rename_i hz
      cases e
      obtain ⟨v, rfl, h1⟩ := vw.one'
      obtain rfl := h1.int
      exact call_str_int pins s σ H _ us Q I r ⟨a, rfl, hz, Res.str dm q⟩
    · cases e
theorem OwL.each {K : PySem.W.Frag} {fr : Addr → Prop} {H : Hp} {s : Shared} : ∀ {ds : List D} {vs : List V} {us : List Value}, OwL K fr H ds vs [] → Vals vs us → PySem.W.EachIs (fun u d => ∃ v, RelV v u ∧ Ow K fr H d v []) us ds
  | [], vs, us, o, r => by
    obtain ⟨rfl, _⟩ := o.nil_inv
    cases r
    exact .nil
  | d :: ds, vs, us, o, r => by
    obtain ⟨w, ws, B, C, rfl, h1, h2, e⟩ := o.cons_inv
    obtain ⟨rfl, rfl⟩ := List.append_eq_nil_iff.mp e.symm
    cases r with
    | cons r1 r2 => exact .cons ⟨w, r1, h1⟩ (OwL.each (s := s) h2 r2)
theorem OwL.ofEach {K : PySem.W.Frag} {fr : Addr → Prop} {H : Hp} : ∀ {ds : List D} {us : List Value}, PySem.W.EachIs (fun u d => ∃ v, RelV v u ∧ Ow K fr H d v []) us ds → ∃ vs, OwL K fr H ds vs [] ∧ Vals vs us
  | _, _, .nil => ⟨[], OwL.nil, .nil⟩
  | _, _, .cons ⟨v, r, o⟩ t => by
    obtain ⟨vs, h1, h2⟩ := OwL.ofEach t
    exact ⟨v :: vs, OwL.cons (B := []) (C := []) o h1, .cons r h2⟩
/-- the type of a value -/
def tyD : D → String
  | .non => "NoneType" | .bl _ => "bool" | .int _ => "int" | .str _ => "str" | .scr _ => "list" | .tup _ => "tuple" | .lst _ _ => "list"
theorem Vw.ty {K : PySem.W.Frag} {fr : Addr → Prop} {H : Hp} {d : D} {v : V} (h : Vw K fr H d v) : TyX K H v (.type (tyD d)) := by
  cases d with
  | non => obtain rfl := h.non; exact .base .non
  | bl b => obtain rfl := h.bl; exact .base (.bl b)
  | int b => obtain rfl := h.int; exact .base (.int b)
  | str b => obtain rfl := h.str; exact .base (.str b)
  | scr ns =>
    obtain ⟨a, rfl, ha⟩ := h.scr
    rcases ha with ⟨_, z⟩ | ⟨o, its, n, e, c, _⟩
    · rcases z with z | ⟨ob, z⟩
      · exact .base (.lst z)
      · exact .base (.frz z)
    · exact .kList e c
  | tup ds =>
    obtain ⟨a, vs, B, rfl, ha, _⟩ := h.tup
    rcases ha with ⟨_, z⟩ | ⟨o, its, n, e, c, _⟩
    · exact .base (.tup z)
    · exact .kTuple e c
  | lst o ds =>
    obtain ⟨a, vs, B, rfl, ha, _⟩ := h.lst
    exact .base (.lst ha)
def tyNames : List String := ["str", "int", "bool", "tuple", "list"]
theorem isa_kit : (["NoneType", "bool", "int", "str", "list", "tuple"].all fun a => tyNames.all fun t => kitB a t == some (a == t || (a == "bool" && t == "int"))) = true := by decide +kernel
theorem cm (a b : String) : (a == b) = (b == a) := by
  by_cases h : a = b
  · subst h; rfl
  · rw [beq_eq_false_iff_ne.mpr h, beq_eq_false_iff_ne.mpr (Ne.symm h)]
theorem isaD_kit (d : D) {t : String} (h : t ∈ tyNames) : kitB (tyD d) t = some (isaD t d) := by
  have k := isa_kit
  rw [List.all_eq_true] at k
  have go : ∀ a ∈ ["NoneType", "bool", "int", "str", "list", "tuple"], kitB a t = some (a == t || (a == "bool" && t == "int")) := fun a ha => by
    have := k a ha
    rw [List.all_eq_true] at this
    simpa using this t h
  have hn : t ≠ "NoneType" := fun e => by subst e; revert h; decide
  cases d with
  | non => rw [show tyD .non = "NoneType" from rfl, go _ (by simp)]; simp [isaD, Ne.symm hn]
  | bl b => rw [show tyD (.bl b) = "bool" from rfl, go _ (by simp)]; rw [cm "bool" t]; simp [isaD, Bool.or_comm]
  | int b => rw [show tyD (.int b) = "int" from rfl, go _ (by simp)]; rw [cm "int" t]; simp [isaD]
  | str b => rw [show tyD (.str b) = "str" from rfl, go _ (by simp)]; rw [cm "str" t]; simp [isaD]
  | scr b => rw [show tyD (.scr b) = "list" from rfl, go _ (by simp)]; rw [cm "list" t]; simp [isaD]
  | tup b => rw [show tyD (.tup b) = "tuple" from rfl, go _ (by simp)]; rw [cm "tuple" t]; simp [isaD]
  | lst o b => rw [show tyD (.lst o b) = "list" from rfl, go _ (by simp)]; rw [cm "list" t]; simp [isaD]
theorem isa_of {t : String} {v : V} {H : Hp} {Q : VK} (ht : t ∈ tyNames) (h : rP X.K (.isa t) [v] H Q) : rIsi X.K [v, .ty t] H Q := by
  obtain ⟨fr, ds, d, dm, vw, e, q⟩ := h
  obtain ⟨a, rfl, h1⟩ := vw.one
  cases e
  exact ⟨v, .ty t, _, _, _, rfl, .ty t, h1.ty, kit_ty (isaD_kit a ht), Res.bl dm q⟩
theorem rangeL_len {lo : Int} : ∀ {n : Nat}, (rangeL lo n).length = n
  | 0 => rfl
  | n + 1 => by unfold rangeL; rw [List.length_cons, rangeL_len]
theorem rangeL_vs {K : PySem.W.Frag} {fr : Addr → Prop} {H : Hp} : ∀ (n : Nat) (lo : Int), OwL K fr H (rangeL lo n) ((List.range n).map fun i => V.int (lo + (i : Nat))) []
  | 0, lo => OwL.nil
  | n + 1, lo => by
    unfold rangeL
    rw [List.range_succ_eq_map, List.map_cons, List.map_map]
    have := rangeL_vs (K := K) (fr := fr) (H := H) n (lo + 1)
    refine OwL.cons (B := []) (C := []) (by unfold Ow; exact ⟨by simp, rfl⟩) ?_
    have e : (List.range n).map ((fun i => V.int (lo + ((i : Nat) : Int))) ∘ Nat.succ) = (List.range n).map fun i => V.int (lo + 1 + ((i : Nat) : Int)) := by
      apply List.map_congr_left
      intro i _
      show V.int (lo + ((i + 1 : Nat) : Int)) = _
      congr 1
      omega
    rw [e]; exact this
theorem range1_of {v : V} {H : Hp} {Q : VK} (h : rP X.K .range1 [v] H Q) : ∃ n, v = .int n ∧ RgOk 0 n ∧ ∀ q, H q = none → Q (.ref q) (upd H q (.lst (rgV 0 n))) := by
  obtain ⟨fr, ds, d, dm, vw, e, q⟩ := h
  obtain ⟨a, rfl, h1⟩ := vw.one
  match a, e with
  | .int n, e =>
    simp only [prF] at e
    split at e
    · rename_i hz
      have hz := of_decide_eq_true hz
      cases e
      obtain rfl := h1.int
      refine ⟨n, rfl, ⟨by omega, by omega, hz.1, hz.2.1, by rw [Int.sub_zero]; exact hz.2.2⟩, Res.lst dm q ?_⟩
      unfold rgV
      rw [Int.sub_zero]
      exact rangeL_vs _ _
    · cases e
theorem range2_of {v w : V} {H : Hp} {Q : VK} (h : rP X.K .range2 [v, w] H Q) : ∃ i j, v = .int i ∧ w = .int j ∧ RgOk i j ∧ ∀ q, H q = none → Q (.ref q) (upd H q (.lst (rgV i j))) := by
  obtain ⟨fr, ds, d, dm, vw, e, q⟩ := h
  obtain ⟨a, b, rfl, h1, h2⟩ := vw.two
  match a, b, e with
  | .int i, .int j, e =>
    simp only [prF] at e
    split at e
    · rename_i hz
      have hz := of_decide_eq_true hz
      cases e
      obtain rfl := h1.int
      obtain rfl := h2.int
      exact ⟨i, j, rfl, rfl, hz, Res.lst dm q (rangeL_vs _ _)⟩
    · cases e
theorem trange1_of {v : V} {H : Hp} {Q : VK} (h : rP X.K .trange1 [v] H Q) : ∃ n, v = .int n ∧ RgOk 0 n ∧ ∀ q, H q = none → Q (.ref q) (upd H q (.tup (rgV 0 n))) := by
  obtain ⟨fr, ds, d, dm, vw, e, q⟩ := h
  obtain ⟨a, rfl, h1⟩ := vw.one
  match a, e with
  | .int n, e =>
    simp only [prF] at e
    split at e
    · rename_i hz
      have hz := of_decide_eq_true hz
      cases e
      obtain rfl := h1.int
      refine ⟨n, rfl, ⟨by omega, by omega, hz.1, hz.2.1, by rw [Int.sub_zero]; exact hz.2.2⟩, Res.tup dm q ?_⟩
      unfold rgV
      rw [Int.sub_zero]
      exact rangeL_vs _ _
    · cases e
end
end Sk

namespace Sk
open PySem PySem.Spec PyProof.Rows L2
section
variable {X : Cx}
def isLstD : D → Bool
  | .lst _ _ => true | _ => false
def isStrD : D → Bool
  | .str _ => true | _ => false
/-- a method with one operand, by values, where what it stands at is of a kind -/
def rMT (K : PySem.W.Frag) (p : Pr) (c : D → Bool) : V → List V → Hp → VK → Prop := fun x xs H Q => ∃ fr d1 d2 d y, xs = [y] ∧ c d1 = true ∧ Dm fr H ∧ Vw K fr H d1 x ∧ Vw K fr H d2 y ∧ prF p [d1, d2] = some d ∧ Res K fr H d Q
theorem m_indexL (hu : X.A.units + 65 < cLine) : MtR X "list.index" (rMT X.K .index isLstD) := by
  intro pins s σ H x xs v us Q I rx rxs h
  obtain ⟨fr, d1, d2, d, y, rfl, hc, dm, v1, v2, e, q⟩ := h
  match d1, hc with
  | .lst o ds, _ =>
    simp only [prF] at e
    split at e
    · rename_i hz
      rw [Bool.and_eq_true] at hz
      obtain ⟨j, hj, rfl⟩ := Option.map_eq_some_iff.mp e
      obtain ⟨h1, h2, h3⟩ := List.findIdx?_eq_some_iff_getElem.mp hj
      have vl := v1
      obtain ⟨a, vs, B, rfl, ha, ow⟩ := v1.lst
      exact mt_indexD hu pins s σ H _ _ v us Q I rx rxs ⟨a, y, py d2, pyL ds, j, (pyL ds)[j], rfl, rfl, vl.dp, v2.dp, depL_shaped hz.2, dep_shaped hz.1, List.getElem?_eq_getElem h1, h2, fun m z' hm hz' => by
        obtain ⟨hlt, rfl⟩ := List.getElem?_eq_some_iff.mp hz'
        have := h3 m hm
        simpa using this, Res.int dm q⟩
    · cases e
theorem m_countL (hu : X.A.units + 65 < cLine) : MtR X "list.count" (rMT X.K .count isLstD) := by
  intro pins s σ H x xs v us Q I rx rxs h
  obtain ⟨fr, d1, d2, d, y, rfl, hc, dm, v1, v2, e, q⟩ := h
  match d1, hc with
  | .lst o ds, _ =>
    simp only [prF] at e
    split at e
    · rename_i hz
      rw [Bool.and_eq_true] at hz
      cases e
      obtain ⟨a, vs, B, rfl, ha, ow⟩ := v1.lst
      cases rx
      obtain ⟨u, rfl, ru⟩ := rxs.one
      obtain ⟨its, rv, hl, _⟩ := I.list (.of ha)
      obtain ⟨as1, hr⟩ := Dp.readsAll I _ _ _ (OwL.dp _ _ _ ow) rv
      obtain ⟨as2, hr2⟩ := Dp.reads I (py d2) y u v2.dp ru
      have s1 := depL_shaped hz.2
      have s2 := dep_shaped hz.1
      have l1 : PyData.canLayAll0 (pyL ds) = true := SeqAt.canLay_of_shaped s1
      have l2 := SeqAt.canLay_of_shaped s2
      refine SeqAt.count_list_data hl.isList (xs := pyL ds) (d := py d2) (by simpa using hr) hr2 (PyData.plainAll_of_canLay0 _ l1) (PyData.plain_of_canLay0 _ l2) ?_ ⟨.int _, H, I.tok _, ⟨_, rfl⟩, Res.int dm q⟩
      have := (dep_ok 60 d2 hz.1).2
      omega
    · cases e
theorem m_countS : MtR X "str.count" (rMT X.K .count isStrD) := by
  intro pins s σ H x xs v us Q I rx rxs h
  obtain ⟨fr, d1, d2, d, y, rfl, hc, dm, v1, v2, e, q⟩ := h
  match d1, d2, hc, e with
  | .str a, .str b, _, e =>
    cases e
    obtain rfl := v1.str
    obtain rfl := v2.str
    exact mt_count pins s σ H _ _ v us Q I rx rxs ⟨a, b, rfl, rfl, Res.int dm q⟩
theorem dStrs_inv : ∀ {ds : List D} {ns : List Str}, dStrs ds = some ns → ds = ns.map D.str
  | [], ns, h => by cases h; rfl
  | d :: ds, ns, h => by
    cases d with
    | str i =>
      obtain ⟨r, h1, rfl⟩ := Option.map_eq_some_iff.mp (show (dStrs ds).map (i :: ·) = some ns from h)
      rw [dStrs_inv h1]; rfl
    | _ => cases h
theorem strs_vs {K : PySem.W.Frag} {fr : Addr → Prop} {H : Hp} : ∀ {ns : List Str} {vs : List V} {B : List Addr}, OwL K fr H (ns.map D.str) vs B → vs = ns.map V.str
  | [], vs, B, h => h.nil_inv.1
  | n :: r, vs, B, h => by
    obtain ⟨w, us, B', C, rfl, h1, h2, _⟩ := h.cons_inv
    rw [strs_vs h2, (show Vw K fr H (.str n) w from ⟨_, h1⟩).str]; rfl
theorem m_joinS : MtR X "str.join" (rMT X.K .join isStrD) := by
  intro pins s σ H x xs v us Q I rx rxs h
  obtain ⟨fr, d1, d2, d, y, rfl, hc, dm, v1, v2, e, q⟩ := h
  match d1, d2, hc, e with
  | .str a, .lst o ds, _, e =>
    simp only [prF] at e
    obtain ⟨ys, h1, h2⟩ := Option.bind_eq_some_iff.mp e
    split at h2
    · rename_i hz
      cases h2
      obtain rfl := dStrs_inv h1
      obtain rfl := v1.str
      obtain ⟨p, vs, B, rfl, hp, ow⟩ := v2.lst
      obtain rfl := strs_vs ow
      exact mt_join pins s σ H _ _ v us Q I rx rxs ⟨a, p, ys, rfl, rfl, .inl (.of hp), of_decide_eq_true hz, Res.str dm q⟩
    · cases h2
  | .str a, .tup ds, _, e =>
    simp only [prF] at e
    obtain ⟨ys, h1, h2⟩ := Option.bind_eq_some_iff.mp e
    split at h2
    · rename_i hz
      cases h2
      obtain rfl := dStrs_inv h1
      obtain rfl := v1.str
      obtain ⟨p, vs, B, rfl, hp, ow⟩ := v2.tup
      obtain rfl := strs_vs ow
      exact mt_join pins s σ H _ _ v us Q I rx rxs ⟨a, p, ys, rfl, rfl, .inr hp.sq, of_decide_eq_true hz, Res.str dm q⟩
    · cases h2
theorem own_strs {K : PySem.W.Frag} {fr : Addr → Prop} {H : Hp} : ∀ ys : List Str, OwL K fr H (ys.map D.str) (ys.map V.str) []
  | [] => OwL.nil
  | y :: ys => by
    have o : Ow K fr H (.str y) (.str y) [] := by unfold Ow; exact ⟨rfl, rfl⟩
    exact OwL.cons o (own_strs ys)
theorem m_splitS : MtR X "str.split" (rMT X.K .split isStrD) := by
  intro pins s σ H x xs v us Q I rx rxs h
  obtain ⟨fr, d1, d2, d, y, rfl, hc, dm, v1, v2, e, q⟩ := h
  match d1, d2, hc, e with
  | .str a, .str b, _, e =>
    simp only [prF] at e
    split at e
    · rename_i hz
      rw [Bool.and_eq_true] at hz
      cases e
      obtain rfl := v1.str
      obtain rfl := v2.str
      exact mt_split pins s σ H _ _ v us Q I rx rxs ⟨a, b, rfl, rfl, by simpa using hz.1, of_decide_eq_true hz.2, Res.lst dm q (own_strs _)⟩
    · cases e
/-- the facts of a method at a kind of value -/
structure MFact (X : Cx) (p : Pr) (name : Str) (c : D → Bool) : Prop where
  ex : ∃ T id, PlainAttrs T ∧ Slot T name id ∧ typeOf (.builtin id) = pure (.type "method_descriptor") ∧ MtR X id (rMT X.K p c) ∧ ∀ fr H d v, c d = true → Vw X.K fr H d v → tyV X.K T v H
theorem tyV_lst {K : PySem.W.Frag} {fr : Addr → Prop} {H : Hp} {d : D} {v : V} (hc : isLstD d = true) (h : Vw K fr H d v) : tyV K "list" v H := by
  match d, hc with
  | .lst o ds, _ =>
    obtain ⟨p, vs, B, rfl, hp, ow⟩ := h.lst
    exact .inl ⟨rfl, vs, .of hp⟩
theorem tyV_str {K : PySem.W.Frag} {fr : Addr → Prop} {H : Hp} {d : D} {v : V} (hc : isStrD d = true) (h : Vw K fr H d v) : tyV K "str" v H := by
  match d, hc with
  | .str z, _ =>
    obtain rfl := h.str
    exact rfl
theorem f_indexL (hu : X.A.units + 65 < cLine) : MFact X .index "index" isLstD := ⟨"list", "list.index", PySem.F.plainAttrs_list, PySem.F.slot_list_index, PySem.F.type_list_index, m_indexL hu, fun _ _ _ _ => tyV_lst⟩
theorem f_countL (hu : X.A.units + 65 < cLine) : MFact X .count "count" isLstD := ⟨"list", "list.count", PySem.F.plainAttrs_list, PySem.F.slot_list_count, PySem.F.type_list_count, m_countL hu, fun _ _ _ _ => tyV_lst⟩
theorem f_countS : MFact X .count "count" isStrD := ⟨"str", "str.count", PySem.F.plainAttrs_str, PySem.F.slot_str_count, PySem.F.type_str_count, m_countS, fun _ _ _ _ => tyV_str⟩
theorem f_joinS : MFact X .join "join" isStrD := ⟨"str", "str.join", PySem.F.plainAttrs_str, PySem.F.slot_str_join, PySem.F.type_str_join, m_joinS, fun _ _ _ _ => tyV_str⟩
theorem f_splitS : MFact X .split "split" isStrD := ⟨"str", "str.split", PySem.F.plainAttrs_str, PySem.F.slot_str_split, PySem.F.type_str_split, m_splitS, fun _ _ _ _ => tyV_str⟩
/-- the methods with one operand -/
def mt1 : Str → Option Pr := fun f => if f == ("index" : Str) then some .index else if f == ("count" : Str) then some .count else if f == ("join" : Str) then some .join else if f == ("split" : Str) then some .split else none
theorem mfact (hu : X.A.units + 65 < cLine) {f : Str} {p : Pr} (h : mt1 f = some p) {d1 d2 d : D} (e : prF p [d1, d2] = some d) : ∃ c, c d1 = true ∧ MFact X p f c := by
  unfold mt1 at h
  split at h
  · rename_i hf
    obtain rfl := eq_of_beq hf
    cases h
    cases d1 with
    | lst o ds => exact ⟨isLstD, rfl, f_indexL hu⟩
    | tup ds => exact absurd e (by simp [prF])
    | _ => cases e
  · split at h
    · rename_i hf
      obtain rfl := eq_of_beq hf
      cases h
      cases d1 with
      | lst o ds => exact ⟨isLstD, rfl, f_countL hu⟩
      | str ds => exact ⟨isStrD, rfl, f_countS⟩
      | tup ds => exact absurd e (by simp [prF])
      | _ => cases e
    · split at h
      · rename_i hf
        obtain rfl := eq_of_beq hf
        cases h
        cases d1 with
        | str ds => exact ⟨isStrD, rfl, f_joinS⟩
        | _ => cases e
      · split at h
        · rename_i hf
          obtain rfl := eq_of_beq hf
          cases h
          cases d1 with
          | str ds => exact ⟨isStrD, rfl, f_splitS⟩
          | _ => cases e
        · cases h
end
end Sk

namespace Sk
open PySem PySem.Spec PyProof.Rows L2
section
variable {prog : Program} {w : World} {A : Around} {E : Value → Shared → Prop} {s : Shared}
open PySem.W in
/-- sorted(t) of a tuple -/
theorem sorted_tupV {κ : Heap → PyProof.Rows.KeyKind} {t : Addr} {vs : List Value} {Q : Value → Shared → Prop} (ht : s.heap.IsTuple t vs.toArray) (hL : vs.length ≤ sizeLine)
    (S : ∀ h1 : Heap, (∀ b o, s.heap.get? b = some o → h1.get? b = some o) → SortsAt prog w A.in1.in1 { s with heap := sortingHeap (h1.push (seqObj "list" vs.toArray 0)) h1.objs.size vs } (κ h1) vs)
    (h : ∀ h1 : Heap, (∀ b o, s.heap.get? b = some o → h1.get? b = some o) → Q (.ref h1.objs.size) { s with heap := sortedHeap (h1.push (seqObj "list" vs.toArray 0)) h1.objs.size vs (sortVals (κ h1) false vs vs).toArray }) :
    wpAny (model prog w) A (call (.builtin "sorted") [.ref t]) Q E s := by
  obtain ⟨o, ho, hc, n, hd⟩ := id ht
  refine PySem.Calls.call_function_entry kind_sorted plain_sorted entry_sorted (args_sorted1 _) ?_
  unfold Builtin.«sorted»
  refine wpAny_bind (m := PySem.checkCount "sorted" 1 1 _) (wpAny_pure ?_)
  refine wpAny_bind (wpAny_collect_seq t (T := "tuple") (.inr rfl) ho hc hd (fun h1 hk => ?_) (by rw [List.size_toArray]; exact hL))
  refine wpAny_bind (wpAny_newList ?_ hL)
  refine wpAny_bind (wpAny_holding (wpAny_call_entry_kw slot_list_sort ⟨_, Heap.get?_push_size _ rfl, rfl⟩ entry_list_sort ?body (args_list_sort _)))
  case body =>
    show wpAny (model prog w) A.in1.in1 (Builtin.«list.sort» ⟨[.ref h1.objs.size], []⟩) _ _ _
    refine list_sort_vals (κ := κ h1) (n := 0) (a := h1.objs.size) (vs := vs) (s := { s with heap := h1.push (seqObj "list" vs.toArray 0) }) (Heap.get?_push_size _ rfl) (S h1 hk) hL ?_
    exact ⟨_, rfl, wpAny_pure ⟨_, rfl, h h1 hk⟩⟩
open PySem.W in
theorem sorted_tupV' {bs : List D} {t : Addr} {vs : List Value} {Q : Value → Shared → Prop} (ht : s.heap.IsTuple t vs.toArray) (hL : vs.length ≤ sizeLine)
    (er : ∀ h1 : Heap, (∀ b o, s.heap.get? b = some o → h1.get? b = some o) → EachIs (fun v b => ∃ as, Reads (sortingHeap (h1.push (seqObj "list" vs.toArray 0)) h1.objs.size vs) v (py b) as) vs bs) (hal : AllAlike (bs.map py)) (hk : Sortable (bs.map py)) (hu : ∀ b ∈ bs, A.units + 2 + (py b).depth < cLine)
    (h : ∀ h1 : Heap, (∀ b o, s.heap.get? b = some o → h1.get? b = some o) → ∀ out : List Value, (∀ R : Value → D → Prop, EachIs R vs bs → EachIs R out (sortD bs)) → Q (.ref h1.objs.size) { s with heap := sortedHeap (h1.push (seqObj "list" vs.toArray 0)) h1.objs.size vs out.toArray }) :
    wpAny (model prog w) A (call (.builtin "sorted") [.ref t]) Q E s := by
  refine sorted_tupV (κ := fun h1 => dataKind (sortingHeap (h1.push (seqObj "list" vs.toArray 0)) h1.objs.size vs) (bs.map py)) ht hL (fun h1 hk1 => ?_) fun h1 hk1 => ?_
  · exact SortsAt.data (s := { s with heap := sortingHeap (h1.push (seqObj "list" vs.toArray 0)) h1.objs.size vs }) (each_map (R := fun v d => ∃ as, Reads (sortingHeap (h1.push (seqObj "list" vs.toArray 0)) h1.objs.size vs) v d as) py (er h1 hk1)) hal hk (bound_map hu)
  · exact h h1 hk1 _ fun R e => sortVals_data false e (er h1 hk1) hal
end
section
variable {X : Cx}
theorem srt_facts {K : PySem.W.Frag} {fr : Addr → Prop} {H : Hp} {a : List D} (hz : srtOk a = true) : (unL a = true ∧ a.length ≤ sizeLine) ∧ (∀ x ∈ a, dep 60 x = true) ∧ PySem.W.AllAlike (a.map py) ∧ PySem.W.Sortable (a.map py) := by
  unfold srtOk at hz
  simp only [Bool.and_eq_true, Bool.or_eq_true, decide_eq_true_eq] at hz
  obtain ⟨⟨⟨hz1, hz2⟩, hz3⟩, hz4⟩ := hz
  obtain ⟨al1, dp1⟩ := cmpAll_inv hz2
  have hz2' : ∀ x ∈ a, dep 60 x = true := fun x hx => by
    unfold cmpAll at hz2
    rw [List.all_eq_true] at hz2
    have := hz2 x hx
    simp only [Bool.and_eq_true] at this
    exact this.1.1
  refine ⟨⟨hz1, hz4⟩, hz2', fun x hx y hy => al1.1 x (by rw [pyL_map]; exact hx) y (by rw [pyL_map]; exact hy), ?_⟩
  rcases hz3 with z | z
  · refine .inl fun x hx => ?_
    obtain ⟨y, hy, rfl⟩ := List.mem_map.mp hx
    have := List.all_eq_true.mp z y hy
    cases y with
    | tup ds =>
      cases ds with
      | nil => simp [tupD] at this
      | cons b r => exact ⟨py b, pyL r, by rw [py, pyL]⟩
    | _ => simp [tupD] at this
  · refine .inr fun x hx => ?_
    obtain ⟨y, hy, rfl⟩ := List.mem_map.mp hx
    have hny := al1.2 (py y) (by rw [pyL_map]; exact List.mem_map_of_mem hy)
    refine ⟨hny, fun xs e => ?_⟩
    have := List.all_eq_true.mp z y hy
    cases y <;> first | (simp [notTup] at this; done) | (simp [py] at e; done)
theorem c_sorted1 (hu : X.A.units + 65 < cLine) : CallR X (.builtin "sorted") (rP X.K .sorted1) := by
  intro pins s σ H xs us Q I r h
  obtain ⟨fr, ds, d, dm, vw, e, q⟩ := h
  match ds, e with
  | [.lst _ a], e =>
    have e' : (match dInts a with
      | some ns => some (D.lst true ((ns.mergeSort fun a b => decide (a ≤ b)).map D.int))
      | none => if srtOk a then some (D.lst true (sortD a)) else none) = some d := e
    split at e'
    · rename_i ns hn
      cases e'
      obtain rfl := dInts_inv hn
      obtain ⟨v, rfl, h1⟩ := vw.one'
      obtain ⟨p, vs, B, rfl, hp, o⟩ := h1.lst
      obtain rfl := ints_vs o
      refine cr_sortedI pins s σ H _ us Q I r ⟨p, ns, rfl, .of hp, fun ns' p2 h1 h2 h3 => ?_⟩
      have e1 : ns' = ns.mergeSort fun a b => decide (a ≤ b) := by
        refine List.Perm.eq_of_pairwise (le := fun a b : Int => a ≤ b) (fun a b _ _ x y => Int.le_antisymm x y) h2 ?_ (h1.trans (List.mergeSort_perm _ _).symm)
        refine (List.pairwise_mergeSort (fun a b c x y => ?_) (fun a b => ?_) ns).imp fun {a b} x => of_decide_eq_true x
        · exact decide_eq_true (Int.le_trans (of_decide_eq_true x) (of_decide_eq_true y))
        · rw [Bool.or_eq_true, decide_eq_true_eq, decide_eq_true_eq]
          exact Int.le_total a b
      subst e1
      refine Res.lst dm q ?_ p2 h3
      have : ∀ l : List Int, OwL X.K fr H (l.map D.int) (l.map V.int) [] := fun l => by
        induction l with
        | nil => exact OwL.nil
        | cons x l ih => exact OwL.cons (B := []) (C := []) (by unfold Ow; exact ⟨rfl, rfl⟩) ih
      exact this _
    · split at e'
      · rename_i hz
        cases e'
        obtain ⟨⟨hz1, hz4⟩, hz2', hall, hsrt⟩ := srt_facts (K := X.K) (fr := fr) (H := H) hz
        obtain ⟨v, rfl, h1⟩ := vw.one'
        obtain ⟨p, vs, B, rfl, hp, o⟩ := h1.lst
        have o := o.noB hz1
        obtain ⟨its, rv, hl, _⟩ := I.list (.of hp)
        rw [Vals.ref1 r]
        obtain ⟨as1, hr⟩ := Dp.readsAll I _ _ _ (OwL.dp _ _ _ o) rv
        have he := OwL.each (s := s) o rv
        have her : PySem.W.EachIs (fun v b => ∃ as, Reads s.heap v (py b) as) its a := PySem.W.readsAll_each py (by rw [← pyL_map]; exact hr)
        refine PySem.W.sorted_data (enc := py) (R := fun u d => ∃ v, RelV v u ∧ Ow X.K fr H d v []) (bs := a) hl.isList he her hall hsrt hz4 (fun b hb => ?_) ?_
        · have := (dep_ok 60 b (hz2' b hb)).2
          show X.A.units + 2 + _ < _
          omega
        · intro out hol heo
          obtain ⟨ws, ow, rw_⟩ := OwL.ofEach heo
          obtain ⟨ep, he'⟩ := PyProof.Rows.sortedAll_at s.heap its out.toArray
          have hlen : ws.length ≤ sizeLine := by rw [rw_.length, hol]; exact hz4
          exact ⟨.ref _, upd H (s.heap.objs.size + 1) (.lst ws), I.laid (t' := s.toks) (fun _ _ => PyProof.Rows.sortedAll_old) (Nat.le_succ _) ⟨hlen, out, ep, rw_, he'⟩, rfl, Res.lst dm q ow _ (I.hok.fresh (Nat.le_succ _))⟩
      · cases e'
  | [.tup a], e =>
    have e' : (if srtOk a then some (D.lst true (sortD a)) else none) = some d := e
    split at e'
    · rename_i hz
      cases e'
      obtain ⟨⟨hz1, hz4⟩, hz2', hall, hsrt⟩ := srt_facts (K := X.K) (fr := fr) (H := H) hz
      obtain ⟨v, rfl, h1⟩ := vw.one'
      obtain ⟨p, vs, B, rfl, hp, o⟩ := h1.tup
      have o := o.noB hz1
      obtain ⟨its, rv, hl, _⟩ := I.tuple hp.sq
      rw [Vals.ref1 r]
      obtain ⟨as1, hr⟩ := Dp.readsAll I _ _ _ (OwL.dp _ _ _ o) rv
      have he := OwL.each (s := s) o rv
      have her : PySem.W.EachIs (fun v b => ∃ as, Reads s.heap v (py b) as) its a := PySem.W.readsAll_each py (by rw [← pyL_map]; exact hr)
      have hit : its.length = a.length := he.length
      have keep : ∀ (h1 : Heap), (∀ b o, s.heap.get? b = some o → h1.get? b = some o) → ∀ b o, s.heap.get? b = some o → (PySem.W.sortingHeap (h1.push (seqObj "list" its.toArray 0)) h1.objs.size its).get? b = some o := fun h1 hk b o hb =>
        PySem.W.sortingHeap_old (Nat.ne_of_lt (Heap.lt_size (hk b o hb))) (Heap.get?_push_of_some _ (hk b o hb))
      have her' : ∀ (h1 : Heap), (∀ b o, s.heap.get? b = some o → h1.get? b = some o) → PySem.W.EachIs (fun v b => ∃ as, Reads (PySem.W.sortingHeap (h1.push (seqObj "list" its.toArray 0)) h1.objs.size its) v (py b) as) its a := fun h1 hk =>
        her.mono fun _ _ ⟨as, r⟩ => ⟨as, PyProof.Rows.Reads.keeps (keep h1 hk) r⟩
      refine sorted_tupV' (bs := a) hl (by omega) her' hall hsrt (fun b hb => ?_) fun h1 hk out hout => ?_
      · have := (dep_ok 60 b (hz2' b hb)).2
        show X.A.units + 2 + _ < _
        omega
      · have heo := hout _ he
        obtain ⟨ws, ow, rw_⟩ := OwL.ofEach heo
        obtain ⟨ep, he'⟩ := PyProof.Rows.sortedHeap_at (vs := its) (n := 0) (out := out.toArray) (show (h1.push (seqObj "list" its.toArray 0)).get? h1.objs.size = some (seqObj "list" its.toArray 0) from Heap.get?_push_size _ rfl)
        have hlen : ws.length ≤ sizeLine := by
          rw [ow.len]
          unfold sortD
          rw [List.length_mergeSort]
          exact hz4
        have I1 : Inv X pins σ H { s with heap := h1 } := I.kept (t' := s.toks) hk
        have hold : ∀ b o, h1.get? b = some o → (sortedHeap (h1.push (seqObj "list" its.toArray 0)) h1.objs.size its out.toArray).get? b = some o := fun b o hb => by
          have hlt := Heap.lt_size hb
          rw [PyProof.Rows.sortedHeap_old (Nat.ne_of_lt hlt) (by rw [Heap.size_push]; exact Nat.lt_succ_of_lt hlt)]
          exact Heap.get?_push_of_some _ hb
        exact ⟨.ref _, upd H h1.objs.size (.lst ws), I1.laid (t' := s.toks) hold (Nat.le_refl _) ⟨hlen, out, ep, rw_, he'⟩, rfl, Res.lst dm q ow _ (I1.hok.fresh (Nat.le_refl _))⟩
    · cases e'
end
end Sk

namespace Sk
open PySem PySem.Spec PyProof.Rows L2

/-! ### the look: does a written expression say what the short one says -/
structure Cc where
  N : List Str
  fns : List Str
  sc : Scope
  blk : Option Scope
def visOk (c : Cc) (i : Nat) (x : Str) : Bool :=
  decide (c.N[i]? = some x) && (match c.sc.names.lookup x with | some .local => true | some .cell => true | some .free => true | _ => false) && !(x == ("__debug__" : Str)) && !(x == ("__classdict__" : Str))
def locOk (c : Cc) (i : Nat) (x : Str) : Bool :=
  decide (c.N[i]? = some x) && (match c.sc.names.lookup x with | some .local => true | some .cell => (match c.blk with | none => true | some s => s.names.lookup x == some .cell) | _ => false)
def glbOk (c : Cc) (x : Str) : Bool := decide (c.sc.names.lookup x = some .globalImplicit) && !(x == ("__debug__" : Str)) && !(x == ("__name__" : Str))
def binP : Operator → Option Pr
  | .Add => some .add | .Sub => some .sub | .Mult => some .mul | .FloorDiv => some .fdiv | .Mod => some .mod | .Pow => some .pow | .BitAnd => some .band | _ => none
def cmpP : CmpOp → Option Pr
  | .Eq => some .eq | .NotEq => some .ne | .Lt => some .lt | .LtE => some .le | .Gt => some .gt | .GtE => some .ge | .In => some .isin | .NotIn => some .notin | _ => none
def notSet : Expr → Bool
  | .Set _ _ _ => false | _ => true
def notStar : Expr → Bool
  | .Starred _ _ => false | _ => true
def notSlice : Expr → Bool
  | .Slice _ _ _ _ => false | _ => true
/-- a built-in's name: its operation with so many arguments -/
def blt1 : Str → Option Pr := fun f =>
  if f == ("len" : Str) then some .len else if f == ("int" : Str) then some .int_ else if f == ("abs" : Str) then some .abs_ else if f == ("min" : Str) then some .min1 else if f == ("max" : Str) then some .max1
  else if f == ("sum" : Str) then some .sum else if f == ("all" : Str) then some .all1 else if f == ("any" : Str) then some .any1 else if f == ("list" : Str) then some .lst1 else if f == ("tuple" : Str) then some .tup1 else if f == ("repr" : Str) then some .repr else if f == ("sorted" : Str) then some .sorted1 else if f == ("str" : Str) then some .str1 else none
def blt2 : Str → Option Pr := fun f => if f == ("min" : Str) then some .min2 else if f == ("max" : Str) then some .max2 else none
def bltP (f : Str) : Nat → Option Pr
  | 1 => blt1 f
  | 2 => blt2 f
  | _ => none
def bnames : List Str := ["len", "int", "abs", "min", "max", "sum", "all", "any", "list", "tuple", "range", "enumerate", "zip", "reversed", "isinstance", "repr", "sorted", "str", "bool"]
/-- isinstance(a, T); list(range(x)) -/
def isaX (c : Cc) (p : Pr) (f : Str) : List Expr → Option (List Expr)
  | [a, .Name t _] => match p with
    | .isa T => if f == ("isinstance" : Str) && glbOk c "isinstance" && glbOk c t && tyNames.contains T && decide (t = Str.ofString T) && notStar a then some [a] else none
    | _ => none
  | [.Call (.Name g _) [x] [] _] => if decide (p = .range1) && f == ("list" : Str) && g == ("range" : Str) && glbOk c "list" && glbOk c "range" then some [x] else if decide (p = .trange1) && f == ("tuple" : Str) && g == ("range" : Str) && glbOk c "tuple" && glbOk c "range" then some [x] else none
  | [.Call (.Name g _) [x, y] [] _] => if decide (p = .range2) && f == ("list" : Str) && g == ("range" : Str) && glbOk c "list" && glbOk c "range" then some [x, y] else none
  | _ => none

def notBool : E → Bool
  | .and_ _ => false | .or_ _ => false | _ => true
/-- the arguments that are handed over to be changed: names -/
def chkIo (c : Cc) : List Nat → List Expr → Bool
  | [], [] => true
  | i :: is, .Name x _ :: xs => visOk c i x && chkIo c is xs
  | _, _ => false
def blkCc (c : Cc) (scope : Scope) : Cc := { c with sc := relS scope c.sc, blk := some scope }
def ownP (c : Cc) (own : List Nat) : List (Str × Nat) := own.map fun i => (c.N.getD i default, i)
mutual
/-- targets -/
def chkG (c : Cc) : T → Expr → Bool
  | .n i, .Name x _ => locOk c i x
  | .t ts, .Tuple xs _ _ => chkGs c ts xs
  | _, _ => false
def chkGs (c : Cc) : List T → List Expr → Bool
  | [], [] => true
  | t :: ts, x :: xs => notStar x && chkG c t x && chkGs c ts xs
  | _, _ => false
end
def isTupX : Expr → Bool
  | .Tuple _ _ _ => true | _ => false
/-- what is walked: the written sources -/
def itX (c : Cc) (k : Ik) (tg it : Expr) : Option (List Expr) := match k with
  | .val => some [it]
  | .range => match it with
    | .Call (.Name f _) xs [] _ => if f == ("range" : Str) && glbOk c ("range" : Str) && (xs.length == 1 || xs.length == 2 || xs.length == 3) then some xs else none
    | _ => none
  | .enum => match it with
    | .Call (.Name f _) [x] [] _ => if f == ("enumerate" : Str) && glbOk c ("enumerate" : Str) && isTupX tg then some [x] else none
    | _ => none
  | .zip => match it with
    | .Call (.Name f _) [x, y] [] _ => if f == ("zip" : Str) && glbOk c ("zip" : Str) && isTupX tg then some [x, y] else none
    | .Call (.Name f _) [x, y, z] [] _ => if f == ("zip" : Str) && glbOk c ("zip" : Str) && isTupX tg then some [x, y, z] else none
    | _ => none
  | .rev => match it with
    | .Call (.Name f _) [x] [] _ => if f == ("reversed" : Str) && glbOk c ("reversed" : Str) then some [x] else none
    | _ => none
def cmp1 : CmpOp → Expr → Option Pr
  | .Is, .Constant .none _ _ => some .isN
  | .IsNot, .Constant .none _ _ => some .notN
  | .Is, .Constant (.bool b) _ _ => some (.isB b)
  | .IsNot, .Constant (.bool b) _ _ => some (.notB b)
  | _, _ => none
def notCall0 : Expr → Bool
  | .Call _ _ _ _ => false | _ => true
/-- "c" + x.replace("y", "z") -/
def crepX (p : Pr) : Expr → Operator → Expr → Option (List Expr)
  | .Constant (.str w) _ _, .Add, .Call (.Attribute o name apos) [.Constant (.str y) _ _, .Constant (.str z) _ _] [] cpos => if p = .crep w y z ∧ name = "replace" ∧ (y == z) = false ∧ (apos.endLine == cpos.line) = true ∧ notCall0 o = true then some [o] else none
  | _, _, _ => none
/-- an operation's operands as they are written -/
def prX0 (c : Cc) (p : Pr) : Expr → Option (List Expr)
  | .BinOp a op b _ => if binP op = some p then some [a, b] else crepX p a op b
  | .UnaryOp .USub a _ => if p = .neg then some [a] else none
  | .Compare a [op] [b] _ => match cmp1 op b with
    | some q => if p = q then some [a] else none
    | none => if cmpP op = some p ∧ notSet b = true then some [a, b] else none
  | .Call (.Name f _) args [] _ => if bltP f args.length = some p ∧ glbOk c f = true ∧ bnames.contains f = true then some args else isaX c p f args
  | .Call (.Attribute o name apos) [y] [] cpos => if mt1 name = some p ∧ (apos.endLine == cpos.line) = true ∧ notCall0 o = true then some [o, y] else none
  | .Subscript b (.Slice none none none _) _ => if p = .slc false false then some [b] else none
  | .Subscript b (.Slice (some lo) none none _) _ => if p = .slc true false then some [b, lo] else none
  | .Subscript b (.Slice none (some hi) none _) _ => if p = .slc false true then some [b, hi] else none
  | .Subscript b (.Slice (some lo) (some hi) none _) _ => if p = .slc true true then some [b, lo, hi] else none
  | .Subscript b (.Slice none none (some (.UnaryOp .USub (.Constant (.int 1) _ _) _)) _) _ => if p = .rev then some [b] else none
  | .JoinedStr [.FormattedValue a k none _] _ => if p = .fs1 ∧ k = -1 then some [a] else none
  | .JoinedStr [.FormattedValue a k none _, .Constant (.str s) _ _, .FormattedValue b k2 none _] _ => if p = .fj s ∧ k = -1 ∧ k2 = -1 then some [a, b] else none
  | _ => none
/-- what may be looked at as a whole that is frozen -/
def idX : Expr → Bool
  | .Name _ _ => true | .ListComp _ _ _ _ => true | .List _ _ => true | _ => false
def prX (c : Cc) (p : Pr) (x : Expr) : Option (List Expr) := if p = .id1 then (if idX x then some [x] else none) else prX0 c p x
def mName : Mm → Str
  | .append => "append" | .extend => "extend" | .pop => "pop" | .popAt => "pop" | .insert => "insert" | .getAt => "__getitem__"
def mArity : Mm → Nat
  | .append => 1 | .extend => 1 | .pop => 0 | .popAt => 1 | .insert => 2 | .getAt => 1
/-- a list's method that changes it: where the list stands, the arguments -/
def mutX (m : Mm) : Expr → Option (Expr × List Expr)
  | .Call (.Attribute o name apos) args [] cpos => if m ≠ .getAt ∧ mName m = name ∧ args.length = mArity m ∧ (apos.endLine == cpos.line) = true then some (o, args) else none
  | _ => none
/-- o[..] by a method's name -/
def getX : Mm → Expr → Option (Str × Expr)
  | .getAt, .Subscript (.Name y _) z _ => some (y, z)
  | _, _ => none
/-- a def's name: what stands ahead of the key's mark -/
def bse (f : Str) : Str := ⟨(f.cps.toList.takeWhile fun c => c != 35).toArray⟩
/-- a call of a def of the text -/
def callX (c : Cc) (f : Str) : Expr → Option (List Expr)
  | .Call (.Name g _) args [] _ => if bse f = g ∧ glbOk c (bse f) = true ∧ c.fns.contains f = true ∧ args.isEmpty = false then some args else none
  | _ => none
/-- a number that the module holds -/
def cstX (c : Cc) (f : Str) : Expr → Bool
  | .Name g _ => decide (bse f = g) && glbOk c (bse f) && c.fns.contains f
  | _ => false
mutual
def chk (c : Cc) : E → Expr → Bool
  | .int i, .Constant (.int j) _ _ => decide (i = j)
  | .bl b, .Constant (.bool d) _ _ => b == d
  | .non, .Constant .none _ _ => true
  | .str s, .Constant (.str t) _ _ => decide (s = t)
  | .loc i, .Name x _ => visOk c i x
  | .auto i, .Name x _ => visOk c i x
  | .mov i, .Name x _ => visOk c i x
  | .tup es, .Tuple xs _ _ => chks c es xs
  | .lst es, .List xs _ => chks c es xs
  | .idx a b, .Subscript x y _ => notSlice y && chk c a x && chk c b y
  | .pr p es, x => (match prX c p x with | some xs => chks c es xs | none => false)
  | .and_ es, .BoolOp .And xs _ => chks c es xs
  | .or_ es, .BoolOp .Or xs _ => chks c es xs
  | .not_ a, .UnaryOp .Not x _ => notBool a && chk c a x
  | .ite t a b, .IfExp x y z _ => chkT c t x && chk c a y && chk c b z
  | .chain p q a b d, .Compare x [op, op'] [y, z] _ => decide (cmpP op = some p) && decide (cmpP op' = some q) && notSet y && notSet z && chk c a x && chk c b y && chk c d z
  | .call f es, x => (match callX c f x with | some xs => chks c es xs | none => es.isEmpty && cstX c f x)
  | .cio f io es, x => (match callX c f x with | some xs => chkIo c io (xs.take io.length) && !io.isEmpty && chks c es (xs.drop io.length) | none => false)
  | .mut i [] m es, x => (match mutX m x with | some (.Name y _, args) => visOk c i y && chks c es args | _ => (match getX m x with | some (y, z) => visOk c i y && notSlice z && chks c es [z] | none => false))
  | .mut i [p] m es, x => (match mutX m x with | some (.Subscript (.Name y _) z _, args) => visOk c i y && notSlice z && chk c p z && chks c es args | _ => false)
  | .comp t k src cond elt own, .ListComp x [⟨tg, it, ifs, z⟩] scope _ => z == 0 && notSet it && (match itX c k tg it with | some xs => chks c src xs | none => false) && blkC c.N c.sc scope (ownP c own) && chkG (blkCc c scope) t tg && chkTs (blkCc c scope) cond ifs && decide (cond.length ≤ 1) && chk (blkCc c scope) elt x
  | .comp2 t k src cond t2 k2 src2 cond2 elt own own2, .ListComp x [⟨tg, it, ifs, z⟩, ⟨tg2, it2, ifs2, z2⟩] scope _ => z == 0 && z2 == 0 && notSet it && notSet it2 && (match itX c k tg it with | some xs => chks c src xs | none => false) && blkC c.N c.sc scope (ownP c own) && own2.all own.contains && chkG (blkCc c scope) t tg && chkTs (blkCc c scope) cond ifs && decide (cond.length ≤ 1) &&
      (match itX (blkCc c scope) k2 tg2 it2 with | some xs => chks (blkCc c scope) src2 xs | none => false) && chkG (blkCc c scope) t2 tg2 && chkTs (blkCc c scope) cond2 ifs2 && decide (cond2.length ≤ 1) && chk (blkCc c scope) elt x
  | _, _ => false
/-- in a test -/
def chkT (c : Cc) : E → Expr → Bool
  | .not_ a, .UnaryOp .Not x _ => chkT c a x
  | .and_ es, .BoolOp .And xs _ => chkTs c es xs
  | .or_ es, .BoolOp .Or xs _ => chkTs c es xs
  | .int i, .Constant (.int j) _ _ => decide (i = j)
  | .bl b, .Constant (.bool d) _ _ => b == d
  | .non, .Constant .none _ _ => true
  | .str s, .Constant (.str t) _ _ => decide (s = t)
  | .loc i, .Name x _ => visOk c i x
  | .idx a b, .Subscript x y _ => notSlice y && chk c a x && chk c b y
  | .pr p es, x => (match prX c p x with | some xs => chks c es xs | none => false)
  | .chain p q a b d, .Compare x [op, op'] [y, z] _ => decide (cmpP op = some p) && decide (cmpP op' = some q) && notSet y && notSet z && chk c a x && chk c b y && chk c d z
  | .call f es, x => (match callX c f x with | some xs => chks c es xs | none => es.isEmpty && cstX c f x)
  | .cio f io es, x => (match callX c f x with | some xs => chkIo c io (xs.take io.length) && !io.isEmpty && chks c es (xs.drop io.length) | none => false)
  | _, _ => false
def chks (c : Cc) : List E → List Expr → Bool
  | [], [] => true
  | e :: es, x :: xs => notStar x && chk c e x && chks c es xs
  | _, _ => false
def chkTs (c : Cc) : List E → List Expr → Bool
  | [], [] => true
  | e :: es, x :: xs => chkT c e x && chkTs c es xs
  | _, _ => false
end

/-! ### readings -/
section
variable (Φ : Tab) (K : PySem.W.Frag)
def Sm' (H H' : Hp) : Prop := ∀ b x, H b = some x → H' b = some x
structure Vp (fr : Addr → Prop) (A : List Addr) (H : Hp) (Γ' : Gm) (σ : St) (ds : List D) (vs : List V) (fr' : Addr → Prop) (A' B : List Addr) (H' : Hp) : Prop where
  s : S K fr' A' Γ' σ H'
  o : OwL K fr' H' ds vs B
  bs : ∀ b ∈ B, b ∈ A'
  ex : Ext A fr H A' fr' H'
def WE (e : E) : TE := fun σ H Q => ∃ fr A Γ d Γ', S K fr A Γ σ H ∧ ev Φ e .val Γ = some (d, Γ') ∧ ∀ v H' fr' A' B, Po K fr A H Γ' σ [d] [v] fr' A' B H' → (pur e = true → Sm' H H' ∧ A' = A) → Q v H'
def WO (e : E) : TE := fun σ H Q => ∃ fr A Γ d Γ', S K fr A Γ σ H ∧ ev Φ e .opd Γ = some (d, Γ') ∧ ∀ v H' fr' A' B, Vp K fr A H Γ' σ [d] [v] fr' A' B H' → (pur e = true → Sm' H H' ∧ A' = A) → Q v H'
def WT (e : E) : TT := fun σ H Q => ∃ fr A Γ d Γ' t, S K fr A Γ σ H ∧ ev Φ e .tst Γ = some (d, Γ') ∧ truD d = some t ∧ ∀ H' fr' A', S K fr' A' Γ' σ H' → Ext A fr H A' fr' H' → (pur e = true → Sm' H H' ∧ A' = A) → Q t H'
def WEs (es : List E) : TA := fun σ H Q => ∃ fr A Γ ds Γ', S K fr A Γ σ H ∧ evEs Φ es Γ = some (ds, Γ') ∧ ∀ vs H' fr' A' B, Po K fr A H Γ' σ ds vs fr' A' B H' → (purL es = true → Sm' H H' ∧ A' = A) → Q vs H'
def WOs (es : List E) : TA := fun σ H Q => ∃ fr A Γ ds Γ', S K fr A Γ σ H ∧ evOs Φ es Γ = some (ds, Γ') ∧ ∀ vs H' fr' A' B, Vp K fr A H Γ' σ ds vs fr' A' B H' → (purL es = true → Sm' H H' ∧ A' = A) → Q vs H'
end
theorem pe_imp {X : Cx} {x : Expr} {t t' : TE} (h : PE X x t) (g : ∀ σ H Q, t' σ H Q → t σ H Q) : PE X x t' := ⟨fun pins s σ H Q I q => h.run pins s σ H Q I (g σ H Q q)⟩
theorem pt_imp {X : Cx} {x : Expr} {t t' : TT} (h : PT X x t) (g : ∀ σ H Q, t' σ H Q → t σ H Q) : PT X x t' := ⟨fun pins s σ H Q I q => h.run pins s σ H Q I (g σ H Q q)⟩
theorem pa_imp {X : Cx} {x : List Expr} {t t' : TA} (h : PA X x t) (g : ∀ σ H Q, t' σ H Q → t σ H Q) : PA X x t' := ⟨fun pos pins s σ H Q I q => h.run pos pins s σ H Q I (g σ H Q q)⟩

section
variable {K : PySem.W.Frag} {fr fr' fr1 fr2 : Addr → Prop} {H H' H1 H2 : Hp} {A A' A1 A2 B B1 B2 C : List Addr} {Γ Γ' Γ1 Γ2 : Gm} {σ σ' : St} {d : D} {v : V} {ds : List D} {vs : List V}
theorem Sm'.refl : Sm' H H := fun _ _ h => h
theorem Sm'.trans (a : Sm' H H1) (b : Sm' H1 H2) : Sm' H H2 := fun c x h => b c x (a c x h)
/-- temporaries are let go and frozen -/
theorem Po.toV (p : Po K fr A H Γ' σ ds vs fr' A' B H') : Vp K fr A H Γ' σ (frzL ds) vs (fun b => fr' b ∨ b ∈ B) A' [] H' := by
  have nA : ∀ b ∈ B, b ∉ A' := fun b hb hc => disj_of p.nd hc hb
  refine ⟨p.s.keep (fun b h => .inl h) (fun _ _ _ h => h) (fun b hb hf => ?_) (fun b hf => ?_), OwL.frz ds vs B p.o (fun _ h => .inl h) (fun _ h => .inr h), (fun _ h => nomatch h), ⟨p.ex.kp, fun b h => .inl (p.ex.ff b h), fun b hb => p.ex.aa b (List.mem_append_left _ hb), fun b hf => ?_⟩⟩
  · rcases hf with hf | hf
    · exact p.s.dj b hb hf
    · exact nA b hf hb
  · rcases hf with hf | hf
    · exact p.s.dm b hf
    · obtain ⟨x, q⟩ := p.o.dom _ _ _ b hf
      exact ⟨_, q⟩
  · rcases hf with hf | hf
    · exact p.ex.fa b hf
    · rcases p.ex.aa b (List.mem_append_right _ hf) with z | z
      · exact .inr (.inl z)
      · exact .inr (.inr z)
theorem Po.val (h : S K fr A Γ σ H) (o : Ow K fr H d v []) : Po K fr A H Γ σ [d] [v] fr A [] H :=
  ⟨h, OwL.one.mpr o, by rw [List.append_nil]; exact h.nd, (fun _ z => nomatch z), by rw [List.append_nil]; exact .refl⟩
/-- something that grew -/
theorem S.grow (h : S K fr A Γ σ H) (g : Grow fr H fr' B H') : S K fr' A Γ σ H' ∧ (A ++ B).Nodup ∧ Ext A fr H (A ++ B) fr' H' := by
  refine ⟨h.keep g.ff (fun b x _ e => g.same b x e) (fun b hb hf => ?_) g.dm, List.nodup_append.mpr ⟨h.nd, g.nd, fun x hx y hy e => ?_⟩, ⟨fun b x e _ => g.same b x e, g.ff, fun b hb => ?_, fun b hf => ?_⟩⟩
  · rcases g.fn b hf with z | z
    · exact h.dj b hb z
    · obtain ⟨x, q⟩ := h.adom hb
      rw [z] at q; cases q
  · subst e
    obtain ⟨z, q⟩ := h.adom hx
    rw [g.bn x hy] at q; cases q
  · rcases List.mem_append.mp hb with z | z
    · exact .inl z
    · exact .inr (g.bn b z)
  · rcases g.fn b hf with z | z
    · exact .inl z
    · exact .inr (.inr z)
theorem Po.grow (h : S K fr A Γ σ H) (g : Grow fr H fr' B H') (o : Ow K fr' H' d v B) : Po K fr A H Γ σ [d] [v] fr' A B H' := by
  obtain ⟨h1, h2, h3⟩ := h.grow g
  exact ⟨h1, OwL.one.mpr o, h2, g.dj, h3⟩
/-- behind operands that are only looked at -/
theorem Vp.po (p : Vp K fr A H Γ' σ ds vs fr1 A1 B1 H1) (q : Po K fr1 A1 H1 Γ2 σ [d] [v] fr2 A2 B2 H2) : Po K fr A H Γ2 σ [d] [v] fr2 A2 B2 H2 := ⟨q.s, q.o, q.nd, q.dj, p.ex.trans q.ex⟩
theorem Vp.nil (h : S K fr A Γ σ H) : Vp K fr A H Γ σ [] [] fr A [] H := ⟨h, OwL.nil, (fun _ z => nomatch z), .refl⟩
/-- two operands, one after the other -/
theorem Vp.seq {es : List D} {us : List V} (p : Vp K fr A H Γ1 σ [d] [v] fr1 A1 B1 H1) (q : Vp K fr1 A1 H1 Γ2 σ es us fr2 A2 B2 H2) (h : un d = true ∨ (Sm' H1 H2 ∧ A2 = A1)) : ∃ B, Vp K fr A H Γ2 σ (d :: es) (v :: us) fr2 A2 B H2 := by
  have o := OwL.one.mp p.o
  rcases h with h | ⟨h, rfl⟩
  · have e := o.un d v B1 h
    subst e
    have o' : Ow K fr2 H2 d v [] := o.mono q.ex.ff _ _ _ fun b x hb e => q.ex.kp b x e fun hc => by
      rcases hb with hb | hb
      · exact p.s.dj b hc hb
      · cases hb
    exact ⟨[] ++ B2, q.s, OwL.cons o' q.o, q.bs, p.ex.trans q.ex⟩
  · have o' : Ow K fr2 H2 d v B1 := o.mono q.ex.ff _ _ _ fun b x _ e => h b x e
    exact ⟨B1 ++ B2, q.s, OwL.cons o' q.o, fun b hb => (List.mem_append.mp hb).elim (p.bs b) (q.bs b), p.ex.trans q.ex⟩
end

/-! ### what the evaluator's operands are -/
theorem fin2_opd {d : D} {Γ : Gm} : fin2 .opd d Γ = some (d, Γ) := rfl
theorem fin2_tst {d : D} {Γ : Gm} : fin2 .tst d Γ = some (d, Γ) := rfl
theorem idxF_un {a b d : D} (h : idxF a b = some d) (u : un a = true) : un d = true := by
  have key : ∀ (ds : List D) (j : Nat), unL ds = true → ds[j]? = some d → un d = true := by
    intro ds
    induction ds with
    | nil => intro j _ e; simp at e
    | cons x r ih =>
      intro j u e
      unfold unL at u
      rw [Bool.and_eq_true] at u
      cases j with
      | zero => rw [List.getElem?_cons_zero] at e; cases e; exact u.1
      | succ j => rw [List.getElem?_cons_succ] at e; exact ih j u.2 e
  match a, b, h with
  | .tup ds, .int i, h =>
    obtain ⟨j, hj, hd⟩ := Option.bind_eq_some_iff.mp (show (ixD ds.length i).bind (ds[·]?) = some d from h)
    exact key ds j (by simpa [un] using u) hd
  | .lst o ds, .int i, h =>
    obtain ⟨j, hj, hd⟩ := Option.bind_eq_some_iff.mp (show (ixD ds.length i).bind (ds[·]?) = some d from h)
    unfold un at u
    rw [Bool.and_eq_true] at u
    exact key ds j u.2 hd
  | .scr ns, .int i, h =>
    obtain ⟨m, hm, rfl⟩ := Option.map_eq_some_iff.mp (show ((ixD ns.length i).bind (ns[·]?)).map D.int = some d from h)
    rfl
  | .str z, .int i, h =>
    simp only [idxF] at h
    split at h
    · obtain ⟨m, hm, rfl⟩ := Option.map_eq_some_iff.mp h
      rfl
    · cases h
end Sk

namespace Sk
open PySem PySem.Spec PyProof.Rows L2
theorem getS_eq {Γ : Gm} {i : Nat} {d : D} (h : getS Γ i = some d) : Γ[i]? = some (some d) := by
  unfold getS at h
  cases q : Γ[i]? with
  | none => rw [q] at h; cases h
  | some o => rw [q] at h; cases o with
    | none => cases h
    | some d' => cases h; rfl
theorem isPlain {x : Expr} {env : Env} (h : (match x with | .UnaryOp .Not _ _ => false | .BoolOp _ _ _ => false | .IfExp _ _ _ _ => false | .Compare _ _ _ _ => false | _ => true) = true) :
    ∀ whole, isTrue x env whole = (do let v ← whole; standAt x.pos; holding [v] (truthy v)) := by
  intro whole
  cases x with
  | UnaryOp op a p => cases op with
    | Not => cases h
    | _ => rfl
  | BoolOp _ _ _ => cases h
  | IfExp _ _ _ _ => cases h
  | Compare _ _ _ _ => cases h
  | _ => rfl
def plainX : Expr → Bool
  | .UnaryOp .Not _ _ => false | .BoolOp _ _ _ => false | .IfExp _ _ _ _ => false | .Compare _ _ _ _ => false | _ => true
section
variable {Φ : Tab} {X : Cx}
theorem s_lit {e : E} {d : D} {v : V} {x : Expr} (he : ∀ m Γ, ev Φ e m Γ = some (d, Γ)) (hv : ∀ fr H, Ow X.K fr H d v []) (h : PE X x (tC v)) : PE X x (WE Φ X.K e) ∧ PE X x (WO Φ X.K e) := by
  refine ⟨pe_imp h fun σ H Q q => ?_, pe_imp h fun σ H Q q => ?_⟩
  · obtain ⟨fr, A, Γ, d', Γ', s, e1, k⟩ := q
    rw [he] at e1; cases e1
    exact k v H fr A [] (Po.val s (hv _ _)) fun _ => ⟨Sm'.refl, rfl⟩
  · obtain ⟨fr, A, Γ, d', Γ', s, e1, k⟩ := q
    rw [he] at e1; cases e1
    exact k v H fr A [] ⟨s, OwL.one.mpr (hv _ _), (fun _ z => nomatch z), .refl⟩ fun _ => ⟨Sm'.refl, rfl⟩
/-- from a value to an operand that is looked at -/
theorem s_opd {e : E} {x : Expr} (he : ∀ Γ, ev Φ e .opd Γ = (ev Φ e .val Γ).map (fin .opd)) (h : PE X x (WE Φ X.K e)) : PE X x (WO Φ X.K e) := by
  refine pe_imp h fun σ H Q q => ?_
  obtain ⟨fr, A, Γ, d', Γ', s, e1, k⟩ := q
  rw [he] at e1
  obtain ⟨⟨d, Γ2⟩, e2, e3⟩ := Option.map_eq_some_iff.mp e1
  cases e3
  exact ⟨fr, A, Γ, d, Γ2, s, e2, fun v H' fr' A' B p pc => k v H' _ A' [] p.toV pc⟩
theorem s_tst {e : E} {x : Expr} (he : ∀ Γ, ev Φ e .tst Γ = ev Φ e .opd Γ) (hx : plainX x = true) (h : PE X x (WO Φ X.K e)) : PT X x (WT Φ X.K e) := by
  refine pt_imp (pt_truth h (isPlain hx)) fun σ H Q q => ?_
  obtain ⟨fr, A, Γ, d, Γ', t, s, e1, e2, k⟩ := q
  rw [he] at e1
  exact ⟨fr, A, Γ, d, Γ', s, e1, fun v H' fr' A' B p pc => ⟨t, truV_of ⟨B, OwL.one.mp p.o⟩ e2, k H' fr' A' p.s p.ex pc⟩⟩

theorem s_loc {i : Nat} {x : Expr} (h : PE X x (tVar i)) : PE X x (WE Φ X.K (.loc i)) ∧ PE X x (WO Φ X.K (.loc i)) := by
  refine ⟨pe_imp h fun σ H Q q => ?_, pe_imp h fun σ H Q q => ?_⟩
  · obtain ⟨fr, A, Γ, d', Γ', s, e1, k⟩ := q
    simp only [ev, fin2] at e1
    obtain ⟨d, e2, e3⟩ := Option.bind_eq_some_iff.mp e1
    split at e3
    · rename_i hu
      cases e3
      obtain ⟨v, B, h1, h2, h3⟩ := s.sl.get (getS_eq e2)
      have := h2.un _ v B hu
      subst this
      exact ⟨v, h1, k v H fr A [] (Po.val s h2) fun _ => ⟨Sm'.refl, rfl⟩⟩
    · cases e3
  · obtain ⟨fr, A, Γ, d', Γ', s, e1, k⟩ := q
    simp only [ev, fin2] at e1
    obtain ⟨d, e2, e3⟩ := Option.bind_eq_some_iff.mp e1
    cases e3
    obtain ⟨v, B, h1, h2, h3⟩ := s.sl.get (getS_eq e2)
    exact ⟨v, h1, k v H fr A B ⟨s, OwL.one.mpr h2, h3, .refl⟩ fun _ => ⟨Sm'.refl, rfl⟩⟩
theorem nodup_perm_append {A B C : List Addr} (p : A.Perm (B ++ C)) (h : A.Nodup) : (B ++ C).Nodup := p.nodup_iff.mp h
theorem s_mov {i : Nat} {x : Expr} (h : PE X x (tVar i)) : PE X x (WE Φ X.K (.mov i)) := by
  refine pe_imp h fun σ H Q q => ?_
  obtain ⟨fr, A, Γ, d', Γ', s, e1, k⟩ := q
  simp only [ev, fin] at e1
  obtain ⟨d, e2, e3⟩ := Option.bind_eq_some_iff.mp e1
  cases e3
  obtain ⟨v, B, C, h1, h2, h3, h4, _⟩ := s.sl.take (getS_eq e2)
  have nd := nodup_perm_append h3 s.nd
  refine ⟨v, h1, k v H fr C B ⟨⟨h4, (List.nodup_append.mp nd).2.1, fun b hb => s.dj b (h3.mem_iff.mpr (List.mem_append_right _ hb)), s.dm⟩, OwL.one.mpr h2, List.perm_append_comm.nodup_iff.mp nd, fun b hb => s.dj b (h3.mem_iff.mpr (List.mem_append_left _ hb)), ?_⟩ fun z => by cases z⟩
  exact Ext.refl.less fun b hb => h3.mem_iff.mpr (by simpa [or_comm] using hb)
theorem s_auto {i : Nat} {x : Expr} (h : PE X x (tVar i)) : PE X x (WE Φ X.K (.auto i)) := by
  refine pe_imp h fun σ H Q q => ?_
  obtain ⟨fr, A, Γ, d', Γ', s, e1, k⟩ := q
  simp only [ev] at e1
  obtain ⟨d, e2, e3⟩ := Option.bind_eq_some_iff.mp e1
  cases e3
  obtain ⟨v, B, C, h1, h2, h3, h4, h5⟩ := s.sl.take (getS_eq e2)
  have nd := nodup_perm_append h3 s.nd
  have mA : ∀ b, b ∈ A ↔ b ∈ B ∨ b ∈ C := fun b => by rw [h3.mem_iff, List.mem_append]
  have hz : Ow X.K (fun b => fr b ∨ b ∈ B) H (frz d) v [] := h2.frz d v B (fun _ z => .inl z) fun _ z => .inr z
  have h4' : SlO X.K (fun b => fr b ∨ b ∈ B) H (Γ.set i none) σ C := h4.mono (fun _ z => .inl z) fun _ _ _ z => z
  obtain ⟨A', p, q5⟩ := h5 (fun b => fr b ∨ b ∈ B) H (frz d) v [] C σ h4' h1 hz
  have mA' : ∀ b, b ∈ A' ↔ b ∈ C := fun b => by rw [p.mem_iff]; simp
  have hs : S X.K (fun b => fr b ∨ b ∈ B) A' (Γ.set i (some (frz d))) σ H := by
    refine ⟨q5, p.nodup_iff.mpr (by simpa using (List.nodup_append.mp nd).2.1), fun b hb hf => ?_, fun b hf => ?_⟩
    · have hc := (mA' b).mp hb
      rcases hf with hf | hf
      · exact s.dj b ((mA b).mpr (.inr hc)) hf
      · exact (List.nodup_append.mp nd).2.2 b hf b hc rfl
    · rcases hf with hf | hf
      · exact s.dm b hf
      · obtain ⟨z, q⟩ := h2.dom d v B b hf
        exact ⟨_, q⟩
  refine ⟨v, h1, k v H _ A' [] ⟨hs, OwL.one.mpr hz, by rw [List.append_nil]; exact hs.nd, (fun _ z => nomatch z), ⟨fun _ _ z _ => z, fun _ z => .inl z, fun b hb => ?_, fun b hf => ?_⟩⟩ fun z => by cases z⟩
  · rw [List.append_nil] at hb
    exact .inl ((mA b).mpr (.inr ((mA' b).mp hb)))
  · rcases hf with hf | hf
    · exact .inl hf
    · exact .inr (.inl ((mA b).mpr (.inl hf)))

theorem s_tup {es : List E} {xs : List Expr} {k0 : Nat} {pos : Pos} (h : PA X xs (WEs Φ X.K es)) : PE X (.Tuple xs k0 pos) (WE Φ X.K (.tup es)) := by
  refine pe_imp (pe_tup h) fun σ H Q q => ?_
  obtain ⟨fr, A, Γ, d', Γ', s, e1, k⟩ := q
  simp only [ev, fin] at e1
  obtain ⟨⟨ds, Γ2⟩, e2, e3⟩ := Option.bind_eq_some_iff.mp e1
  simp only at e3
  split at e3
  · rename_i hz
    cases e3
    refine ⟨fr, A, Γ, ds, Γ', s, e2, fun vs H' fr' A' B p pc => ⟨by rw [p.o.len]; exact of_decide_eq_true hz, fun a ha => ?_⟩⟩
    have g : Grow fr' H' (fun b => fr' b ∨ b = a) [] (upd H' a (.tup vs)) := Grow.newT p.s.dm ha
    obtain ⟨h1, h2, h3⟩ := p.s.grow g
    have e3 := h3.less (A2 := A') fun b hb => List.mem_append_left _ hb
    obtain ⟨k1, k2, k3, k4⟩ := p.stay e3
    refine k _ _ _ A' B ⟨h1, OwL.one.mpr ?_, p.nd, k2, k4⟩ fun hp => ?_
    · unfold Ow
      exact ⟨a, vs, rfl, .inl ⟨.inr rfl, upd_same⟩, k1⟩
    · obtain ⟨z1, z2⟩ := pc hp
      exact ⟨z1.trans g.same, z2⟩
  · cases e3
theorem s_lst {es : List E} {xs : List Expr} {pos : Pos} (h : PA X xs (WEs Φ X.K es)) : PE X (.List xs pos) (WE Φ X.K (.lst es)) := by
  refine pe_imp (pe_lst h) fun σ H Q q => ?_
  obtain ⟨fr, A, Γ, d', Γ', s, e1, k⟩ := q
  simp only [ev, fin] at e1
  obtain ⟨⟨ds, Γ2⟩, e2, e3⟩ := Option.bind_eq_some_iff.mp e1
  simp only at e3
  split at e3
  · rename_i hz
    cases e3
    refine ⟨fr, A, Γ, ds, Γ', s, e2, fun vs H' fr' A' B p pc => ⟨by rw [p.o.len]; exact of_decide_eq_true hz, fun a ha => ?_⟩⟩
    have g : Grow fr' H' fr' [a] (upd H' a (.lst vs)) := Grow.newL p.s.dm ha
    obtain ⟨h1, h2, h3⟩ := p.s.grow g
    have e3 := h3.less (A2 := A') fun b hb => List.mem_append_left _ hb
    obtain ⟨k1, k2, k3, k4⟩ := p.stay e3
    have naB : a ∉ B := fun hb => by
      obtain ⟨z, q⟩ := p.o.dom _ _ _ a hb
      rw [ha] at q; cases q
    have naA : a ∉ A' := fun hb => by
      obtain ⟨z, q⟩ := p.s.adom hb
      rw [ha] at q; cases q
    refine k _ _ _ A' (a :: B) ⟨h1, OwL.one.mpr ?_, ?_, fun b hb => ?_, ⟨k4.kp, k4.ff, fun b hb => ?_, k4.fa⟩⟩ fun hp => ?_
    · unfold Ow
      exact ⟨a, vs, B, rfl, upd_same, k1, (fun z => by cases z), fun _ => rfl⟩
    · rw [List.perm_middle.nodup_iff, List.nodup_cons]
      exact ⟨by rw [List.mem_append]; exact fun z => z.elim naA naB, p.nd⟩
    · rcases List.mem_cons.mp hb with rfl | hb
      · exact g.dj b List.mem_cons_self
      · exact k2 b hb
    · rcases List.mem_append.mp hb with hb | hb
      · exact k4.aa b (List.mem_append_left _ hb)
      · rcases List.mem_cons.mp hb with rfl | hb
        · by_cases q : b ∈ A
          · exact .inl q
          · right
            cases z : H b with
            | none => rfl
            | some o => rw [p.ex.kp b o z q] at ha; cases ha
        · exact k4.aa b (List.mem_append_right _ hb)
    · obtain ⟨z1, z2⟩ := pc hp
      exact ⟨z1.trans g.same, z2⟩
  · cases e3
/-- a[b] -/
theorem plainIx {y : Expr} (h : notSlice y = true) : PlainIx y := by
  intro o i
  cases y <;> first | rfl | cases h
end
end Sk

namespace Sk
open PySem PySem.Spec PyProof.Rows L2
section
variable {Φ : Tab} {X : Cx}
/-- argument lists -/
theorem star_cons {x : Expr} {xs : List Expr} {env : Env} (h : notStar x = true) : starEach (x :: xs) env = (false, eval x env) :: starEach xs env := by
  cases x <;> first | rfl | cases h
theorem s_nilE : PA X [] (WEs Φ X.K []) := by
  refine pa_imp pa_nil fun σ H Q q => ?_
  obtain ⟨fr, A, Γ, d', Γ', s, e1, k⟩ := q
  simp only [evEs] at e1
  cases e1
  exact k [] H fr A [] (Po.nil s) fun _ => ⟨Sm'.refl, rfl⟩
theorem s_consE {e : E} {es : List E} {x : Expr} {xs : List Expr} (hs : notStar x = true) (h1 : PE X x (WE Φ X.K e)) (h2 : PA X xs (WEs Φ X.K es)) : PA X (x :: xs) (WEs Φ X.K (e :: es)) := by
  refine pa_imp (pa_cons h1 h2 (star_cons hs)) fun σ H Q q => ?_
  obtain ⟨fr, A, Γ, d', Γ', s, e1, k⟩ := q
  simp only [evEs] at e1
  obtain ⟨⟨d, Γ1⟩, e2, e3⟩ := Option.bind_eq_some_iff.mp e1
  obtain ⟨⟨ds, Γ2⟩, e4, e5⟩ := Option.bind_eq_some_iff.mp e3
  cases e5
  refine ⟨fr, A, Γ, d, Γ1, s, e2, fun v H1 fr1 A1 B1 p1 pc1 => ⟨fr1, A1, Γ1, ds, _, p1.s, e4, fun vs H2 fr2 A2 B2 p2 pc2 => ?_⟩⟩
  refine k (v :: vs) H2 fr2 A2 (B1 ++ B2) (p1.seq p2) fun hp => ?_
  simp only [purL, Bool.and_eq_true] at hp
  obtain ⟨z1, z2⟩ := pc1 hp.1
  obtain ⟨z3, z4⟩ := pc2 hp.2
  exact ⟨z1.trans z3, z4.trans z2⟩
/-- where a rootless operand owns nothing -/
def RU (Φ : Tab) (e : E) : Prop := root e = none → ∀ Γ d Γ', ev Φ e .opd Γ = some (d, Γ') → un d = true
theorem s_nilO : PA X [] (WOs Φ X.K []) := by
  refine pa_imp pa_nil fun σ H Q q => ?_
  obtain ⟨fr, A, Γ, d', Γ', s, e1, k⟩ := q
  simp only [evOs] at e1
  cases e1
  exact k [] H fr A [] (Vp.nil s) fun _ => ⟨Sm'.refl, rfl⟩
theorem s_consO {e : E} {es : List E} {x : Expr} {xs : List Expr} (hs : notStar x = true) (hr : RU Φ e) (h1 : PE X x (WO Φ X.K e)) (h2 : PA X xs (WOs Φ X.K es)) : PA X (x :: xs) (WOs Φ X.K (e :: es)) := by
  refine pa_imp (pa_cons h1 h2 (star_cons hs)) fun σ H Q q => ?_
  obtain ⟨fr, A, Γ, d', Γ', s, e1, k⟩ := q
  simp only [evOs] at e1
  obtain ⟨⟨d, Γ1⟩, e2, e3⟩ := Option.bind_eq_some_iff.mp e1
  simp only at e3
  split at e3
  · rename_i hr0
    obtain ⟨⟨ds, Γ2⟩, e4, e5⟩ := Option.bind_eq_some_iff.mp e3
    cases e5
    refine ⟨fr, A, Γ, d, Γ1, s, e2, fun v H1 fr1 A1 B1 p1 pc1 => ⟨fr1, A1, Γ1, ds, _, p1.s, e4, fun vs H2 fr2 A2 B2 p2 pc2 => ?_⟩⟩
    have hh : un d = true ∨ (Sm' H1 H2 ∧ A2 = A1) := by
      simp only [Bool.or_eq_true] at hr0
      rcases hr0 with z | z
      · exact .inl (hr (by simpa using z) Γ d Γ1 e2)
      · exact .inr (pc2 z)
    obtain ⟨B, p⟩ := p1.seq p2 hh
    refine k (v :: vs) H2 fr2 A2 B p fun hp => ?_
    simp only [purL, Bool.and_eq_true] at hp
    obtain ⟨z1, z2⟩ := pc1 hp.1
    obtain ⟨z3, z4⟩ := pc2 hp.2
    exact ⟨z1.trans z3, z4.trans z2⟩
  · cases e3

/-! ### a[b] -/
theorem s_idx {a b : E} {x y : Expr} {pos : Pos} (hs : notSlice y = true) (hr : RU Φ a) (h1 : PE X x (WO Φ X.K a)) (h2 : PE X y (WE Φ X.K b)) : PE X (.Subscript x y pos) (WE Φ X.K (.idx a b)) ∧ PE X (.Subscript x y pos) (WO Φ X.K (.idx a b)) := by
  have key : ∀ (m : Md) (d : D) (Γ Γ' : Gm), ev Φ (.idx a b) m Γ = some (d, Γ') → ∃ x Γ1 y, ev Φ a .opd Γ = some (x, Γ1) ∧ ((root a).isNone || pur b) = true ∧ ev Φ b .val Γ1 = some (y, Γ') ∧ idxF x y = some d ∧ (m = .val → un d = true) := by
    intro m d Γ Γ' h
    simp only [ev] at h
    obtain ⟨⟨x, Γ1⟩, e2, e3⟩ := Option.bind_eq_some_iff.mp h
    simp only at e3
    split at e3
    · rename_i hp
      obtain ⟨⟨y, Γ2⟩, e4, e5⟩ := Option.bind_eq_some_iff.mp e3
      obtain ⟨r, e6, e7⟩ := Option.bind_eq_some_iff.mp e5
      cases m with
      | val =>
        simp only [fin2] at e7
        split at e7
        · rename_i hu
          cases e7
          exact ⟨x, Γ1, y, e2, hp, e4, e6, fun _ => hu⟩
        · cases e7
      | opd => cases e7; exact ⟨x, Γ1, y, e2, hp, e4, e6, fun z => by cases z⟩
      | tst => cases e7; exact ⟨x, Γ1, y, e2, hp, e4, e6, fun z => by cases z⟩
    · cases e3
  -- both ways: the element that is looked at
  have both : ∀ (σ : St) (H : Hp) (Q : VK) (fr : Addr → Prop) (A : List Addr) (Γ Γ' Γ1 : Gm) (d xd yd : D), S X.K fr A Γ σ H → ev Φ a .opd Γ = some (xd, Γ1) → ((root a).isNone || pur b) = true → ev Φ b .val Γ1 = some (yd, Γ') → idxF xd yd = some d →
      (∀ v H' fr' A' B, Vp X.K fr A H Γ' σ [d] [v] fr' A' B H' → (pur (.idx a b) = true → Sm' H H' ∧ A' = A) → Q v H') → tOp (rIdx X.K) (WO Φ X.K a) (WE Φ X.K b) σ H Q := by
    intro σ H Q fr A Γ Γ' Γ1 d xd yd s e2 hp e4 e6 k
    refine ⟨fr, A, Γ, xd, Γ1, s, e2, fun v H1 fr1 A1 B1 p1 pc1 => ⟨fr1, A1, Γ1, yd, Γ', p1.s, e4, fun w H2 fr2 A2 B2 p2 pc2 => ?_⟩⟩
    have hh : un xd = true ∨ (Sm' H1 H2 ∧ A2 = A1) := by
      simp only [Bool.or_eq_true] at hp
      rcases hp with z | z
      · exact .inl (hr (by simpa using z) Γ xd Γ1 e2)
      · exact .inr (pc2 z)
    obtain ⟨B, p⟩ := p1.seq p2.toV hh
    obtain ⟨v', us, Bx, C, ev1, o1, o2, eB⟩ := p.o.cons_inv
    cases ev1
    obtain ⟨w', us', By, C', ev2, o3, o4, eC⟩ := o2.cons_inv
    cases ev2
    have yi : frz yd = yd := by
      match xd, yd, e6 with
      | .tup _, .int _, _ => rfl
      | .lst _ _, .int _, _ => rfl
      | .scr _, .int _, _ => rfl
      | .str _, .int _, _ => rfl
    rw [yi] at o3
    refine ⟨_, xd, yd, d, Bx, p.s.dm, o1, ⟨By, o3⟩, e6, fun z Bz oz sz => ?_⟩
    refine k z H2 _ A2 Bz ⟨p.s, OwL.one.mpr oz, fun c hc => p.bs c ?_, p.ex⟩ fun hp => ?_
    · rw [eB]; exact List.mem_append_left _ (sz c hc)
    · simp only [pur, Bool.and_eq_true] at hp
      obtain ⟨z1, z2⟩ := pc1 hp.1
      obtain ⟨z3, z4⟩ := pc2 hp.2
      exact ⟨z1.trans z3, z4.trans z2⟩
  refine ⟨pe_imp (pe_ix o_idx h1 h2 (plainIx hs)) fun σ H Q q => ?_, pe_imp (pe_ix o_idx h1 h2 (plainIx hs)) fun σ H Q q => ?_⟩
  · obtain ⟨fr, A, Γ, d, Γ', s, e1, k⟩ := q
    obtain ⟨xd, Γ1, yd, e2, hp, e4, e6, hu⟩ := key .val d Γ Γ' e1
    refine both σ H Q fr A Γ Γ' Γ1 d xd yd s e2 hp e4 e6 fun v H' fr' A' B p pc => ?_
    have eB := (OwL.one.mp p.o).un d v B (hu rfl)
    subst eB
    exact k v H' fr' A' [] ⟨p.s, p.o, by rw [List.append_nil]; exact p.s.nd, (fun _ z => nomatch z), by rw [List.append_nil]; exact p.ex⟩ pc
  · obtain ⟨fr, A, Γ, d, Γ', s, e1, k⟩ := q
    obtain ⟨xd, Γ1, yd, e2, hp, e4, e6, hu⟩ := key .opd d Γ Γ' e1
    exact both σ H Q fr A Γ Γ' Γ1 d xd yd s e2 hp e4 e6 k

/-! ### operations -/
/-- behind the operands: the operation -/
theorem pr_end {p : Pr} {es : List E} {σ : St} {H : Hp} {Q : VK} (h : WE Φ X.K (.pr p es) σ H Q) : WOs Φ X.K es σ H fun vs H1 => rP X.K p vs H1 Q := by
  obtain ⟨fr, A, Γ, d, Γ', s, e1, k⟩ := h
  simp only [ev, fin] at e1
  obtain ⟨⟨ds, Γ1⟩, e2, e3⟩ := Option.bind_eq_some_iff.mp e1
  obtain ⟨r, e4, e5⟩ := Option.map_eq_some_iff.mp e3
  cases e5
  refine ⟨fr, A, Γ, ds, _, s, e2, fun vs H1 fr1 A1 B1 p1 pc1 => ⟨fr1, ds, d, p1.s.dm, ⟨B1, p1.o⟩, e4, fun v H' fr' B g o => ?_⟩⟩
  have p2 := Po.grow p1.s g o
  refine k v H' fr' A1 B ⟨p2.s, p2.o, p2.nd, p2.dj, p1.ex.trans p2.ex⟩ fun hp => ?_
  obtain ⟨z1, z2⟩ := pc1 hp
  exact ⟨z1.trans g.same, z2⟩
theorem pr_end1 {e : E} {p : Pr} {σ : St} {H : Hp} {Q : VK} (h : WE Φ X.K (.pr p [e]) σ H Q) : WO Φ X.K e σ H fun v H1 => rP X.K p [v] H1 Q := by
  obtain ⟨fr, A, Γ, ds, Γ', s, e1, k⟩ := pr_end h
  simp only [evOs] at e1
  obtain ⟨⟨d, Γ1⟩, e2, e3⟩ := Option.bind_eq_some_iff.mp e1
  simp only [purL, Bool.or_true, ite_true] at e3
  cases e3
  exact ⟨fr, A, Γ, d, _, s, e2, fun v H1 fr1 A1 B1 p1 pc1 => k [v] H1 fr1 A1 B1 p1 fun hp => pc1 (by simpa [purL] using hp)⟩
theorem pr_end2 {a b : E} {p : Pr} {σ : St} {H : Hp} {Q : VK} (hr : RU Φ a) (h : WE Φ X.K (.pr p [a, b]) σ H Q) : WO Φ X.K a σ H fun v H1 => WO Φ X.K b σ H1 fun w H2 => rP X.K p [v, w] H2 Q := by
  obtain ⟨fr, A, Γ, ds, Γ', s, e1, k⟩ := pr_end h
  simp only [evOs] at e1
  obtain ⟨⟨d, Γ1⟩, e2, e3⟩ := Option.bind_eq_some_iff.mp e1
  simp only [purL, Bool.or_true, Bool.and_true, ite_true] at e3
  split at e3
  · rename_i hp
    obtain ⟨⟨ds', Γ2⟩, e4, e5⟩ := Option.bind_eq_some_iff.mp e3
    obtain ⟨⟨d2, Γ3⟩, e6, e7⟩ := Option.bind_eq_some_iff.mp e4
    cases e7
    cases e5
    refine ⟨fr, A, Γ, d, Γ1, s, e2, fun v H1 fr1 A1 B1 p1 pc1 => ⟨fr1, A1, Γ1, d2, _, p1.s, e6, fun w H2 fr2 A2 B2 p2 pc2 => ?_⟩⟩
    have hh : un d = true ∨ (Sm' H1 H2 ∧ A2 = A1) := by
      simp only [Bool.or_eq_true] at hp
      rcases hp with z | z
      · exact .inl (hr (by simpa using z) Γ d Γ1 e2)
      · exact .inr (pc2 z)
    obtain ⟨B, p⟩ := p1.seq p2 hh
    refine k [v, w] H2 fr2 A2 B p fun hp => ?_
    simp only [purL, Bool.and_true, Bool.and_eq_true] at hp
    obtain ⟨z1, z2⟩ := pc1 hp.1
    obtain ⟨z3, z4⟩ := pc2 hp.2
    exact ⟨z1.trans z3, z4.trans z2⟩
  · cases e3
theorem s_bin {p : Pr} {a b : E} {x y : Expr} {op : Operator} {pos : Pos} (ho : OpR X (binaryOp op) (fun v w => rP X.K p [v, w])) (hr : RU Φ a) (h1 : PE X x (WO Φ X.K a)) (h2 : PE X y (WO Φ X.K b)) : PE X (.BinOp x op y pos) (WE Φ X.K (.pr p [a, b])) :=
  pe_imp (pe_op ho h1 h2) fun σ H Q q => pr_end2 hr q
theorem s_un {p : Pr} {a : E} {x : Expr} {op : UnaryOp} {pos : Pos} (ho : UnR X (unaryOp op) (fun v => rP X.K p [v])) (h1 : PE X x (WO Φ X.K a)) : PE X (.UnaryOp op x pos) (WE Φ X.K (.pr p [a])) :=
  pe_imp (pe_un ho h1) fun σ H Q q => pr_end1 q
/-- what is tested -/
theorem pr_tst {p : Pr} {es : List E} {σ : St} {H : Hp} {Q : Bool → Hp → Prop} (h : WT Φ X.K (.pr p es) σ H Q) (hb : ∀ ds d, prF p ds = some d → ∃ t, d = .bl t) : WE Φ X.K (.pr p es) σ H fun v H' => ∃ t, v = .bl t ∧ Q t H' := by
  obtain ⟨fr, A, Γ, d, Γ', t, s, e1, e2, k⟩ := h
  simp only [ev, fin] at e1
  obtain ⟨⟨ds, Γ1⟩, e3, e4⟩ := Option.bind_eq_some_iff.mp e1
  obtain ⟨r, e5, e6⟩ := Option.map_eq_some_iff.mp e4
  obtain ⟨t', rfl⟩ := hb ds r e5
  cases e6
  cases e2
  refine ⟨fr, A, Γ, .bl t, Γ1, s, ?_, fun v H' fr' A' B p pc => ?_⟩
  · simp only [ev, fin, e3, Option.bind_some, e5, Option.map_some]
  · have o := OwL.one.mp p.o
    have hv : v = .bl t := (show Vw X.K fr' H' (.bl t) v from ⟨B, o⟩).bl
    have eB := o.un _ v B rfl
    subst eB
    exact ⟨t, hv, k H' fr' A' p.s (p.ex.less fun b hb => List.mem_append_left _ hb) pc⟩
theorem s_cmp {p : Pr} {a b : E} {x y : Expr} {op : CmpOp} {pos : Pos} (ho : OpR X (compareOp op) (fun v w => rP X.K p [v, w])) (hm : behindInMarks op y = false) (hb : ∀ ds d, prF p ds = some d → ∃ t, d = .bl t) (hr : RU Φ a) (h1 : PE X x (WO Φ X.K a)) (h2 : PE X y (WO Φ X.K b)) :
    PE X (.Compare x [op] [y] pos) (WE Φ X.K (.pr p [a, b])) ∧ PT X (.Compare x [op] [y] pos) (WT Φ X.K (.pr p [a, b])) :=
  ⟨pe_imp (pe_cmpR ho h1 h2 hm) fun σ H Q q => pr_end2 hr q, pt_imp (pt_cmpR ho h1 h2 hm) fun σ H Q q => pr_end2 hr (pr_tst q hb)⟩
theorem s_cmp1 {p : Pr} {a : E} {x y : Expr} {op : CmpOp} {pos : Pos} {c : V} (ho : OpR X (compareOp op) (fun v w H Q => w = c ∧ rP X.K p [v] H Q)) (hm : behindInMarks op y = false) (hb : ∀ ds d, prF p ds = some d → ∃ t, d = .bl t) (h1 : PE X x (WO Φ X.K a)) (h2 : PE X y (tC c)) :
    PE X (.Compare x [op] [y] pos) (WE Φ X.K (.pr p [a])) ∧ PT X (.Compare x [op] [y] pos) (WT Φ X.K (.pr p [a])) := by
  have mono : ∀ {σ H Q}, WO Φ X.K a σ H (fun v H1 => rP X.K p [v] H1 Q) → tOp (fun v w H Q => w = c ∧ rP X.K p [v] H Q) (WO Φ X.K a) (tC c) σ H Q := by
    intro σ H Q h
    obtain ⟨fr, A, Γ, d, Γ', s, e1, k⟩ := h
    exact ⟨fr, A, Γ, d, Γ', s, e1, fun v H' fr' A' B p pc => ⟨rfl, k v H' fr' A' B p pc⟩⟩
  exact ⟨pe_imp (pe_cmpR ho h1 h2 hm) fun σ H Q q => mono (pr_end1 q), pt_imp (pt_cmpR ho h1 h2 hm) fun σ H Q q => mono (pr_end1 (pr_tst q hb))⟩
end
end Sk

namespace Sk
open PySem PySem.Spec PyProof.Rows L2
/-! ### a def's promise -/
def spF (K : PySem.W.Frag) (np n : Nat) (φ : Fn) : Sp := fun vs H Q _ => ∃ fr A ds r xs', vs.length = np ∧ n ≤ ds.length ∧ Dm fr H ∧ A.Nodup ∧ (∀ b ∈ A, ¬ fr b) ∧ OwL K fr H (ds.take n) (vs.take n) A ∧ OwL K fr H (ds.drop n) (vs.drop n) [] ∧ φ ds = some (r, xs') ∧
  ∀ v H' fr' A' B, OwL K fr' H' xs' (vs.take n) A' → Ow K fr' H' r v B → (A' ++ B).Nodup → (∀ b ∈ A' ++ B, ¬ fr' b) → Dm fr' H' → Ext A fr H (A' ++ B) fr' H' → Q v H'
def gcdF : Fn := fun ds => match ds with
  | [.int i, .int j] => some (.int (Int.gcd i j), [])
  | _ => none
def cstF (i : Int) : Fn := fun ds => match ds with
  | [] => some (.int i, [])
  | _ => none
structure FnG (X : Cx) (f : Str) (np n : Nat) (φ : Fn) : Prop where
  ex : (n = 0 ∧ np = 2 ∧ φ = gcdF ∧ X.mg f = some (.builtin "math.gcd")) ∨ (∃ (a : Addr) (fd : FuncData) (ps : List Str) (k : Nat), 0 < np ∧ X.mg f = some (.ref a) ∧ PySem.W.keepIn X.K (.ref a) = true ∧ Binds X.K fd ps [] ∧ FnOk X.prog X.w X.K X.mg X.base CX0 k a fd ps (spF X.K np n φ) ∧ Room k X.A) ∨ ∃ (i : Int) (t : Tok), n = 0 ∧ np = 0 ∧ φ = cstF i ∧ X.mg f = some (.int i t)
structure Gd (Φ : Tab) (X : Cx) (c : Cc) : Prop where
  N : X.N = c.N
  nd : X.N.Nodup
  sc : X.env.scope = c.sc
  calm : X.calm = true
  fn : ∀ x, X.fn x = (match c.blk with | none => true | some s => s.names.lookup x == some .cell)
  bi : ∀ f ∈ bnames, X.mg f = none
  fs : ∀ f ∈ c.fns, ∃ np n φ, Φ f = some (np, n, φ) ∧ FnG X (bse f) np n φ
  hu : X.A.units + 65 < cLine
section
variable {Φ : Tab} {X : Cx} {c : Cc}
theorem gl_of (g : Gd Φ X c) {f : Str} (h : glbOk c f = true) : Gl X f ∧ (f == ("__debug__" : Str)) = false ∧ f ≠ "__name__" := by
  unfold glbOk at h
  simp only [Bool.and_eq_true, decide_eq_true_eq, Bool.not_eq_true'] at h
  refine ⟨?_, h.1.2, fun z => ?_⟩
  · unfold Gl Env.kindOf
    rw [g.sc]; exact h.1.1
  · rw [z] at h; exact absurd h.2 (by simp)
theorem vis_of (g : Gd Φ X c) {i : Nat} {x : Str} {pos : Pos} (h : visOk c i x = true) : PE X (.Name x pos) (tVar i) := by
  unfold visOk at h
  simp only [Bool.and_eq_true, decide_eq_true_eq, Bool.not_eq_true'] at h
  obtain ⟨⟨⟨h1, h2⟩, h3⟩, h4⟩ := h
  refine pe_var (by rw [g.N]; exact h1) ?_ h3 h4
  unfold Vis
  rw [g.sc]
  split at h2 <;> first | exact .inl (by assumption) | exact .inr (.inl (by assumption)) | exact .inr (.inr (by assumption)) | cases h2
theorem star_all {c : Cc} {env : Env} : ∀ {es : List E} {xs : List Expr}, chks c es xs = true → ∀ p, (backTo p (starEach xs env)).any (·.1) = false := by
  have nost : ∀ {es : List E} {xs : List Expr}, chks c es xs = true → ∀ y ∈ starEach xs env, y.1 = false := by
    intro es xs
    induction xs generalizing es with
    | nil => intro _ y hy; cases hy
    | cons x r ih =>
      intro h y hy
      cases es with
      | nil => simp [chks] at h
      | cons e es =>
        simp only [chks, Bool.and_eq_true] at h
        rw [star_cons h.1.1] at hy
        rcases List.mem_cons.mp hy with rfl | hy
        · rfl
        · exact ih h.2 y hy
  intro es xs h p
  rw [List.any_eq_false]
  intro y hy
  have : ∀ l : List (Bool × Sem Value), (∀ z ∈ l, z.1 = false) → ∀ z ∈ backTo p l, z.1 = false := by
    intro l hl z hz
    unfold backTo at hz
    obtain ⟨w, hw, rfl⟩ := List.mem_map.mp hz
    exact hl w hw
  rw [this _ (nost h) y hy]; simp

/-! ### built-ins by their names -/
theorem s_blB {p : Pr} {es : List E} {f : Str} {id : String} {x : Expr} {xs : List Expr} {pf pos : Pos} (g : Gd Φ X c) (hg : glbOk c f = true) (hb : f ∈ bnames) (hv : bootBuiltins f = some (.builtin id)) (hc : CallR X (.builtin id) (rP X.K p)) (hs : chks c es (x :: xs) = true) (h : PA X (x :: xs) (WOs Φ X.K es)) :
    PE X (.Call (.Name f pf) (x :: xs) [] pos) (WE Φ X.K (.pr p es)) := by
  obtain ⟨g1, g2, g3⟩ := gl_of g hg
  cases es with
  | nil => simp [chks] at hs
  | cons e es =>
    simp only [chks, Bool.and_eq_true] at hs
    exact pe_imp (pe_callB hc g1 (g.bi f hb) hv h g3 g2 (star_cons hs.1.1) (star_all hs.2 _)) fun σ H Q q => pr_end q
theorem s_blT {p : Pr} {es : List E} {f : Str} {T : String} {x : Expr} {xs : List Expr} {pf pos : Pos} (g : Gd Φ X c) (hg : glbOk c f = true) (hb : f ∈ bnames) (hv : bootBuiltins f = some (.type T)) (hc : CallR X (.type T) (rP X.K p)) (hs : chks c es (x :: xs) = true) (h : PA X (x :: xs) (WOs Φ X.K es)) :
    PE X (.Call (.Name f pf) (x :: xs) [] pos) (WE Φ X.K (.pr p es)) := by
  obtain ⟨g1, g2, g3⟩ := gl_of g hg
  cases es with
  | nil => simp [chks] at hs
  | cons e es =>
    simp only [chks, Bool.and_eq_true] at hs
    exact pe_imp (pe_callTy hc g1 (g.bi f hb) hv h g3 g2 (star_cons hs.1.1) (star_all hs.2 _)) fun σ H Q q => pr_end q
theorem ite_or {c : Bool} {a p : Pr} {b : Option Pr} (h : (if c = true then some a else b) = some p) : (c = true ∧ a = p) ∨ b = some p := by
  cases c with
  | true => rw [if_pos rfl] at h; exact .inl ⟨rfl, Option.some.inj h⟩
  | false => rw [if_neg (by decide)] at h; exact .inr h
theorem s_blt1 {p : Pr} {es : List E} {f : Str} {x : Expr} {pf pos : Pos} (g : Gd Φ X c) (hg : glbOk c f = true) (hm : f ∈ bnames) (hp : blt1 f = some p) (hs : chks c es [x] = true) (h : PA X [x] (WOs Φ X.K es)) :
    PE X (.Call (.Name f pf) [x] [] pos) (WE Φ X.K (.pr p es)) := by
  have hc := g.calm
  unfold blt1 at hp
  rcases ite_or hp with ⟨e, rfl⟩ | hp
  · obtain rfl := eq_of_beq e
    exact s_blB g hg hm (by decide +kernel) c_len hs h
  rcases ite_or hp with ⟨e, rfl⟩ | hp
  · obtain rfl := eq_of_beq e
    exact s_blT g hg hm (by decide +kernel) c_int hs h
  rcases ite_or hp with ⟨e, rfl⟩ | hp
  · obtain rfl := eq_of_beq e
    exact s_blB g hg hm (by decide +kernel) c_abs hs h
  rcases ite_or hp with ⟨e, rfl⟩ | hp
  · obtain rfl := eq_of_beq e
    exact s_blB g hg hm (by decide +kernel) (c_min1 hc g.hu) hs h
  rcases ite_or hp with ⟨e, rfl⟩ | hp
  · obtain rfl := eq_of_beq e
    exact s_blB g hg hm (by decide +kernel) (c_max1 hc g.hu) hs h
  rcases ite_or hp with ⟨e, rfl⟩ | hp
  · obtain rfl := eq_of_beq e
    exact s_blB g hg hm (by decide +kernel) (c_sum hc) hs h
  rcases ite_or hp with ⟨e, rfl⟩ | hp
  · obtain rfl := eq_of_beq e
    exact s_blB g hg hm (by decide +kernel) (c_all hc) hs h
  rcases ite_or hp with ⟨e, rfl⟩ | hp
  · obtain rfl := eq_of_beq e
    exact s_blB g hg hm (by decide +kernel) (c_any hc) hs h
  rcases ite_or hp with ⟨e, rfl⟩ | hp
  · obtain rfl := eq_of_beq e
    exact s_blT g hg hm (by decide +kernel) c_list hs h
  rcases ite_or hp with ⟨e, rfl⟩ | hp
  · obtain rfl := eq_of_beq e
    exact s_blT g hg hm (by decide +kernel) c_tuple hs h
  rcases ite_or hp with ⟨e, rfl⟩ | hp
  · obtain rfl := eq_of_beq e
    exact s_blB g hg hm (by decide +kernel) c_repr hs h
  rcases ite_or hp with ⟨e, rfl⟩ | hp
  · obtain rfl := eq_of_beq e
    exact s_blB g hg hm (by decide +kernel) (c_sorted1 g.hu) hs h
  rcases ite_or hp with ⟨e, rfl⟩ | hp
  · obtain rfl := eq_of_beq e
    exact s_blT g hg hm (by decide +kernel) c_str hs h
  cases hp
theorem s_blt2 {p : Pr} {es : List E} {f : Str} {x y : Expr} {pf pos : Pos} (g : Gd Φ X c) (hg : glbOk c f = true) (hm : f ∈ bnames) (hp : blt2 f = some p) (hs : chks c es [x, y] = true) (h : PA X [x, y] (WOs Φ X.K es)) :
    PE X (.Call (.Name f pf) [x, y] [] pos) (WE Φ X.K (.pr p es)) := by
  have hc := g.calm
  simp only [blt2, beq_iff_eq] at hp
  split at hp
  · rename_i e; subst e; injection hp with hp; subst hp; exact s_blB g hg hm (by decide +kernel) (c_min2 hc) hs h
  · split at hp
    · rename_i e; subst e; injection hp with hp; subst hp; exact s_blB g hg hm (by decide +kernel) (c_max2 hc) hs h
    · cases hp
theorem s_blt {p : Pr} {es : List E} {f : Str} {xs : List Expr} {pf pos : Pos} (g : Gd Φ X c) (hg : glbOk c f = true) (hb : bnames.contains f = true) (hp : bltP f xs.length = some p) (hs : chks c es xs = true) (h : PA X xs (WOs Φ X.K es)) :
    PE X (.Call (.Name f pf) xs [] pos) (WE Φ X.K (.pr p es)) := by
  have hm : f ∈ bnames := by simpa using hb
  match xs, hp, hs, h with
  | [x], hp, hs, h => exact s_blt1 g hg hm hp hs h
  | [x, y], hp, hs, h => exact s_blt2 g hg hm hp hs h

theorem wo_imp {e : E} {σ : St} {H : Hp} {Q Q' : VK} (h : WO Φ X.K e σ H Q) (g : ∀ v H', Q v H' → Q' v H') : WO Φ X.K e σ H Q' := by
  obtain ⟨fr, A, Γ, d, Γ', s, e1, k⟩ := h
  exact ⟨fr, A, Γ, d, Γ', s, e1, fun v H' fr' A' B p pc => g v H' (k v H' fr' A' B p pc)⟩
/-- isinstance(a, T); list(range(a)) -/
theorem s_isaX {p : Pr} {es : List E} {f : Str} {args xs : List Expr} {pf pos : Pos} (g : Gd Φ X c) (hx : isaX c p f args = some xs) (h : ∀ x, xs = [x] → ∃ e, es = [e] ∧ notStar x = true ∧ PE X x (WO Φ X.K e)) (h2 : ∀ x y, xs = [x, y] → ∃ e f, es = [e, f] ∧ notStar x = true ∧ notStar y = true ∧ RU Φ e ∧ PE X x (WO Φ X.K e) ∧ PE X y (WO Φ X.K f)) : PE X (.Call (.Name f pf) args [] pos) (WE Φ X.K (.pr p es)) := by
  unfold isaX at hx
  split at hx
  · rename_i a t pt
    split at hx
    · rename_i T
      split at hx
      · rename_i hc
        cases hx
        simp only [Bool.and_eq_true, beq_iff_eq, decide_eq_true_eq] at hc
        obtain ⟨⟨⟨⟨⟨rfl, hg⟩, hgt⟩, hT⟩, rfl⟩, hs⟩ := hc
        have hT : T ∈ tyNames := by simpa using hT
        obtain ⟨e, rfl, _, h1⟩ := h a rfl
        obtain ⟨g1, g2, g3⟩ := gl_of g hg
        obtain ⟨t1, t2, t3⟩ := gl_of g hgt
        have hb : Str.ofString T ∈ bnames ∧ bootBuiltins (Str.ofString T) = some (.type T) := by
          simp only [tyNames, List.mem_cons, List.not_mem_nil, or_false] at hT
          rcases hT with rfl | rfl | rfl | rfl | rfl
          · exact ⟨by decide +kernel, by decide +kernel⟩
          · exact ⟨by decide +kernel, by decide +kernel⟩
          · exact ⟨by decide +kernel, by decide +kernel⟩
          · exact ⟨by decide +kernel, by decide +kernel⟩
          · exact ⟨by decide +kernel, by decide +kernel⟩
        exact pe_imp (pe_callB call_isi g1 (g.bi _ (by decide +kernel)) (by decide +kernel) (pa_cons h1 (pa_cons (pe_bltn (v := .ty T) t1 (g.bi _ hb.1) hb.2 rfl t3 t2) pa_nil) (star_cons hs)) g3 g2 (star_cons hs) rfl) fun σ H Q q => wo_imp (pr_end1 q) fun v H' z => isa_of hT z
      · cases hx
    · cases hx
  · rename_i gn pg x pc
    split at hx
    · rename_i hc
      cases hx
      simp only [Bool.and_eq_true, beq_iff_eq, decide_eq_true_eq] at hc
      obtain ⟨⟨⟨⟨rfl, rfl⟩, rfl⟩, hg⟩, hgr⟩ := hc
      obtain ⟨e, rfl, hs, h1⟩ := h x rfl
      obtain ⟨g1, g2, g3⟩ := gl_of g hg
      obtain ⟨r1, r2, r3⟩ := gl_of g hgr
      exact pe_imp (pe_listRg g.calm g1 (g.bi _ (by decide +kernel)) (prg_1 r1 (g.bi _ (by decide +kernel)) h1 (star_cons hs)) rfl) fun σ H Q q => wo_imp (pr_end1 q) fun v H' z => range1_of z
    · split at hx
      · rename_i hc
        cases hx
        simp only [Bool.and_eq_true, beq_iff_eq, decide_eq_true_eq] at hc
        obtain ⟨⟨⟨⟨rfl, rfl⟩, rfl⟩, hg⟩, hgr⟩ := hc
        obtain ⟨e, rfl, hs, h1⟩ := h x rfl
        obtain ⟨g1, g2, g3⟩ := gl_of g hg
        obtain ⟨r1, r2, r3⟩ := gl_of g hgr
        exact pe_imp (pe_tupRg g.calm g1 (g.bi _ (by decide +kernel)) (prg_1 r1 (g.bi _ (by decide +kernel)) h1 (star_cons hs)) rfl) fun σ H Q q => wo_imp (pr_end1 q) fun v H' z => trange1_of z
      · cases hx
  · rename_i gn pg x y pc
    split at hx
    · rename_i hc
      cases hx
      simp only [Bool.and_eq_true, beq_iff_eq, decide_eq_true_eq] at hc
      obtain ⟨⟨⟨⟨rfl, rfl⟩, rfl⟩, hg⟩, hgr⟩ := hc
      obtain ⟨e, f, rfl, hs, hs2, hr, k1, k2⟩ := h2 x y rfl
      obtain ⟨g1, g2, g3⟩ := gl_of g hg
      obtain ⟨r1, r2, r3⟩ := gl_of g hgr
      have st2 : starEach [y] X.env = [(false, eval y X.env)] := star_cons hs2
      exact pe_imp (pe_listRg g.calm g1 (g.bi _ (by decide +kernel)) (prg_2 r1 (g.bi _ (by decide +kernel)) k1 k2 (by rw [star_cons hs, st2]) st2 (by rw [st2]; rfl)) rfl) fun σ H Q q => wo_imp (pr_end2 hr q) fun v H' z => wo_imp z fun w H2 z => range2_of z
    · cases hx
  · cases hx

/-! ### the text's own defs -/
theorem evOs_len {es : List E} : ∀ {Γ Γ' : Gm} {ds : List D}, evOs Φ es Γ = some (ds, Γ') → ds.length = es.length := by
  induction es with
  | nil => intro Γ Γ' ds h; simp only [evOs] at h; cases h; rfl
  | cons e es ih =>
    intro Γ Γ' ds h
    simp only [evOs] at h
    obtain ⟨⟨d, Γ1⟩, e2, e3⟩ := Option.bind_eq_some_iff.mp h
    simp only at e3
    split at e3
    · obtain ⟨⟨ds', Γ2⟩, e4, e5⟩ := Option.bind_eq_some_iff.mp e3
      cases e5
      rw [List.length_cons, List.length_cons, ih e4]
    · cases e3
/-- behind a call that changes nothing of ours -/
theorem call_end {K : PySem.W.Frag} {fr1 fr2 : Addr → Prop} {A1 B1 B2 : List Addr} {Γ1 : Gm} {σ : St} {H1 H2 : Hp} {ds : List D} {vs : List V} {r : D} {v : V} (s : S K fr1 A1 Γ1 σ H1) (o : OwL K fr1 H1 ds vs B1) (bs : ∀ b ∈ B1, b ∈ A1) (or_ : Ow K fr2 H2 r v B2) (nd : B2.Nodup) (dj : ∀ b ∈ B2, ¬ fr2 b) (dm : Dm fr2 H2)
    (ex : Ext [] (fun b => fr1 b ∨ b ∈ B1) H1 B2 fr2 H2) (hu : unL ds = true ∨ al r = true) : ∃ fr3, Po K fr1 A1 H1 Γ1 σ [r] [v] fr3 A1 B2 H2 ∧ Sm' H1 H2 := by
  have same : Sm' H1 H2 := fun b x e => ex.kp b x e (fun z => nomatch z)
  have new : ∀ b ∈ B2, H1 b = none := fun b hb => (ex.aa b hb).resolve_left (fun z => nomatch z)
  refine ⟨fun b => fr1 b ∨ (fr2 b ∧ b ∉ A1), ⟨s.keep (fun _ z => .inl z) (fun b x _ e => same b x e) (fun b hb hf => ?_) (fun b hf => ?_), OwL.one.mpr ?_, List.nodup_append.mpr ⟨s.nd, nd, fun x hx y hy e => ?_⟩, fun b hb hf => ?_, ⟨fun b x e _ => same b x e, fun _ z => .inl z, fun b hb => ?_, fun b hf => ?_⟩⟩, same⟩
  · rcases hf with hf | hf
    · exact s.dj b hb hf
    · exact hf.2 hb
  · rcases hf with hf | hf
    · obtain ⟨x, q⟩ := s.dm b hf; exact ⟨x, same b x q⟩
    · exact dm b hf.1
  · by_cases hz : unL ds = true
    · have e := OwL.un ds vs B1 o hz
      subst e
      refine or_.mono (fun b hf => ?_) _ _ _ fun _ _ _ z => z
      rcases ex.fa b hf with z | z | z
      · rcases z with z | z
        · exact .inl z
        · cases z
      · cases z
      · refine .inr ⟨hf, fun hA => ?_⟩
        obtain ⟨x, q⟩ := s.adom hA
        rw [z] at q; cases q
    · refine or_.al (fun b ws hf ht => .inr ⟨hf, fun hA => ?_⟩) _ _ _ (hu.resolve_left hz)
      obtain ⟨x, q⟩ := s.adom hA
      rw [same b _ q] at ht; cases ht
  · subst e
    obtain ⟨z, q⟩ := s.adom hx
    rw [new x hy] at q; cases q
  · rcases hf with hf | hf
    · obtain ⟨x, q⟩ := s.dm b hf
      rw [new b hb] at q; cases q
    · exact dj b hb hf.1
  · rcases List.mem_append.mp hb with z | z
    · exact .inl z
    · exact .inr (new b z)
  · rcases hf with hf | hf
    · exact .inl hf
    · rcases ex.fa b hf.1 with z | z | z
      · rcases z with z | z
        · exact .inl z
        · exact absurd (bs b z) hf.2
      · cases z
      · exact .inr (.inr z)
theorem gcdF_inv {ds : List D} {r : D} {xs : List D} (h : gcdF (frzL ds) = some (r, xs)) : ∃ i j, ds = [.int i, .int j] ∧ r = .int (Int.gcd i j) := by
  match ds, h with
  | [], h => cases h
  | [a], h => cases a <;> simp [frzL, Sk.frz, gcdF] at h
  | [a, b], h =>
    cases a <;> cases b <;> simp [frzL, Sk.frz, gcdF] at h
    obtain ⟨rfl, _⟩ := h
    exact ⟨_, _, rfl, rfl⟩
  | a :: b :: c :: r, h => simp [frzL, gcdF] at h
theorem vwl_two' {K : PySem.W.Frag} {fr : Addr → Prop} {H : Hp} {i j : Int} {vs : List V} {B : List Addr} (h : OwL K fr H [.int i, .int j] vs B) : ∃ v w, vs = [v, w] ∧ Vw K fr H (.int i) v ∧ Vw K fr H (.int j) w := by
  obtain ⟨v, us, B1, C1, rfl, h1, h2, _⟩ := h.cons_inv
  obtain ⟨w, us', B2, C2, rfl, h3, h4, _⟩ := h2.cons_inv
  obtain ⟨rfl, _⟩ := h4.nil_inv
  exact ⟨v, w, rfl, ⟨_, h1⟩, ⟨_, h3⟩⟩
theorem s_call {f : Str} {es : List E} {x : Expr} {xs : List Expr} {pf pos : Pos} (g : Gd Φ X c) (hg : glbOk c (bse f) = true) (hf : f ∈ c.fns) (hs : chks c es (x :: xs) = true) (h : PA X (x :: xs) (WOs Φ X.K es)) :
    PE X (.Call (.Name (bse f) pf) (x :: xs) [] pos) (WE Φ X.K (.call f es)) := by
  obtain ⟨g1, g2, g3⟩ := gl_of g hg
  obtain ⟨np, n, φ, hφ, ⟨⟨rfl, rfl, rfl, em⟩ | ⟨a, fd, ps, k, e0, e1, e2, e3, e4, e5⟩ | ⟨i0, t0, rfl, rfl, rfl, em⟩⟩⟩ := g.fs f hf
  rotate_left 2
  · refine ⟨fun pins s σ H Q I q => ?_⟩
    obtain ⟨fr, A, Γ, d, Γ', s, ee, kk⟩ := q
    exfalso
    simp only [ev, hφ] at ee
    obtain ⟨⟨ds, Γ1⟩, h2, h3⟩ := Option.bind_eq_some_iff.mp ee
    have hl := evOs_len h2
    cases es with
    | nil => simp [chks] at hs
    | cons e es =>
      simp only at h3
      split at h3
      · rename_i hnp
        rw [hl] at hnp
        simp at hnp
      · cases h3
  · cases es with
    | nil => simp [chks] at hs
    | cons e es =>
      simp only [chks, Bool.and_eq_true] at hs
      refine pe_imp (pe_callBfun cr_gcd g1 em h g2 (star_cons hs.1.1) (star_all hs.2 _)) fun σ H Q q => ?_
      obtain ⟨fr, A, Γ, d, Γ', s, ee, kk⟩ := q
      simp only [ev, hφ] at ee
      obtain ⟨⟨ds, Γ1⟩, h2, h3⟩ := Option.bind_eq_some_iff.mp ee
      simp only at h3
      split at h3
      · rename_i hnp
        obtain ⟨⟨r, xs'⟩, h4, h5⟩ := Option.bind_eq_some_iff.mp h3
        obtain ⟨i, j, rfl, rfl⟩ := gcdF_inv h4
        simp [fin, unL, un] at h5
        obtain ⟨rfl, rfl⟩ := h5
        refine ⟨fr, A, Γ, _, _, s, h2, fun vs H1 fr1 A1 B1 p1 pc1 => ?_⟩
        obtain ⟨d1, d2, e0, v1, v2⟩ := vwl_two' p1.o
        obtain rfl := v1.int
        obtain rfl := v2.int
        subst e0
        refine ⟨i, j, rfl, ?_⟩
        exact kk _ H1 fr1 A1 [] (p1.po (Po.val p1.s (by unfold Ow; exact ⟨rfl, rfl⟩))) pc1
      · cases h3
  cases es with
  | nil => simp [chks] at hs
  | cons e es =>
    simp only [chks, Bool.and_eq_true] at hs
    refine pe_imp (pe_call e4 e5 g1 e1 e2 e3 .nil pass0 h g2 (star_cons hs.1.1) (star_all hs.2 _)) fun σ H Q q => ?_
    obtain ⟨fr, A, Γ, d, Γ', s, ee, kk⟩ := q
    simp only [ev, hφ] at ee
    obtain ⟨⟨ds, Γ1⟩, h2, h3⟩ := Option.bind_eq_some_iff.mp ee
    cases n with
    | succ n => cases h3
    | zero =>
      simp only at h3
      split at h3
      · rename_i hnp
        obtain ⟨⟨r, xs'⟩, h4, h5⟩ := Option.bind_eq_some_iff.mp h3
        simp only [fin] at h5
        split at h5
        · rename_i hu
          cases h5
          refine ⟨fr, A, Γ, ds, _, s, h2, fun vs H1 fr1 A1 B1 p1 pc1 => ?_⟩
          show spF X.K np 0 φ (vs ++ []) H1 Q E0
          rw [List.append_nil]
          have ow : OwL X.K (fun b => fr1 b ∨ b ∈ B1) H1 (frzL ds) vs [] := OwL.frz ds vs B1 p1.o (fun _ z => .inl z) fun _ z => .inr z
          refine ⟨fun b => fr1 b ∨ b ∈ B1, [], frzL ds, _, xs', by rw [p1.o.len, hnp], Nat.zero_le _, fun b hb => ?_, List.nodup_nil, (fun _ z => nomatch z), OwL.nil, ow, h4, fun v H2 fr2 A2 B2 o1 o2 nd dj dm ex => ?_⟩
          · rcases hb with hb | hb
            · exact p1.s.dm b hb
            · obtain ⟨z, q⟩ := p1.s.adom (p1.bs b hb); exact ⟨_, q⟩
          · have hl := o1.len
            have eA : A2 = [] := by
              cases xs' with
              | nil => exact o1.nil_inv.2
              | cons _ _ => simp at hl
            subst eA
            rw [Bool.or_eq_true] at hu
            obtain ⟨fr3, p3, sm⟩ := call_end p1.s p1.o p1.bs o2 nd dj dm ex hu
            refine kk v H2 fr3 A1 B2 ⟨p3.s, p3.o, p3.nd, p3.dj, p1.ex.trans p3.ex⟩ fun hp => ?_
            obtain ⟨z1, z2⟩ := pc1 hp
            exact ⟨z1.trans sm, z2⟩
        · cases h5
      · cases h3
theorem s_cst {f : Str} {pf : Pos} (g : Gd Φ X c) (hg : glbOk c (bse f) = true) (hf : f ∈ c.fns) : PE X (.Name (bse f) pf) (WE Φ X.K (.call f [])) := by
  obtain ⟨g1, g2, g3⟩ := gl_of g hg
  obtain ⟨np, n, φ, hφ, ⟨⟨rfl, rfl, rfl, em⟩ | ⟨a, fd, ps, k, e0, e1, e2, e3, e4, e5⟩ | ⟨i, t, rfl, rfl, rfl, em⟩⟩⟩ := g.fs f hf
  · refine ⟨fun pins s σ H Q I q => ?_⟩
    obtain ⟨fr, A, Γ, d, Γ', s, ee, kk⟩ := q
    simp [ev, hφ, evOs] at ee
  · refine ⟨fun pins s σ H Q I q => ?_⟩
    obtain ⟨fr, A, Γ, d, Γ', s, ee, kk⟩ := q
    cases n with
    | succ n => simp [ev, hφ, evOs] at ee
    | zero =>
      simp only [ev, hφ, evOs, Option.bind_some, List.length_nil] at ee
      split at ee
      · omega
      · cases ee
  · refine pe_imp (pe_glob (v := .int i) g1 em ⟨t, rfl⟩ g2) fun σ H Q q => ?_
    obtain ⟨fr, A, Γ, d, Γ', s, ee, kk⟩ := q
    simp [ev, hφ, evOs, cstF, fin, frzL, unL] at ee
    obtain ⟨rfl, rfl⟩ := ee
    exact kk _ H fr A [] (Po.val s (by unfold Ow; exact ⟨rfl, rfl⟩)) fun _ => ⟨.refl, rfl⟩
end
end Sk

namespace Sk
open PySem PySem.Spec PyProof.Rows L2
/-- slots at io, their values -/
def Slots (σ : St) : List Nat → List V → Prop
  | [], vs => vs = []
  | i :: r, vs => ∃ v us, vs = v :: us ∧ σ[i]? = some (some v) ∧ Slots σ r us
theorem getS_set_ne {Γ : Gm} {i j : Nat} {o : Option D} (h : i ≠ j) : getS (Γ.set i o) j = getS Γ j := by
  unfold getS; rw [List.getElem?_set_ne h]
theorem getSs_set {Γ : Gm} {i : Nat} {o : Option D} : ∀ {io : List Nat}, i ∉ io → getSs (Γ.set i o) io = getSs Γ io
  | [], _ => rfl
  | j :: r, h => by
    simp only [List.mem_cons, not_or] at h
    unfold getSs
    rw [getS_set_ne h.1, getSs_set h.2]
section
variable {K : PySem.W.Frag} {fr fr' : Addr → Prop} {H H' : Hp}
theorem takes : ∀ {io : List Nat} {Γ : Gm} {σ : St} {A : List Addr} {xs : List D}, SlO K fr H Γ σ A → io.Nodup → getSs Γ io = some xs → ∃ vs B C, Slots σ io vs ∧ OwL K fr H xs vs B ∧ A.Perm (B ++ C) ∧ SlO K fr H (clr Γ io) σ C
  | [], Γ, σ, A, xs, h, _, e => by
    cases e
    exact ⟨[], [], A, rfl, OwL.nil, List.Perm.refl _, h⟩
  | i :: r, Γ, σ, A, xs, h, nd, e => by
    unfold getSs at e
    obtain ⟨d, e1, e2⟩ := Option.bind_eq_some_iff.mp e
    obtain ⟨ds, e3, rfl⟩ := Option.map_eq_some_iff.mp e2
    obtain ⟨v, B, C, h1, h2, h3, h4, _⟩ := h.take (getS_eq e1)
    rw [List.nodup_cons] at nd
    obtain ⟨vs, B', C', g1, g2, g3, g4⟩ := takes h4 nd.2 (by rw [getSs_set nd.1]; exact e3)
    refine ⟨v :: vs, B ++ B', C', ⟨v, vs, rfl, h1, g1⟩, OwL.cons h2 g2, ?_, g4⟩
    rw [List.append_assoc]
    exact h3.trans ((List.Perm.refl B).append g3)
theorem clr_len : ∀ {io : List Nat} {Γ : Gm}, (clr Γ io).length = Γ.length
  | [], _ => rfl
  | i :: r, Γ => by unfold clr; rw [clr_len, List.length_set]
theorem clr_set {i : Nat} : ∀ {io : List Nat} {Γ : Gm}, clr (Γ.set i none) io = (clr Γ io).set i none
  | [], _ => rfl
  | j :: r, Γ => by
    unfold clr
    rw [← clr_set]
    by_cases h : i = j
    · subst h; rfl
    · rw [List.set_comm _ _ h]
theorem setSs_set {i : Nat} {d : D} : ∀ {io : List Nat} {ds : List D} {Γ : Gm}, i ∉ io → setSs (Γ.set i (some d)) io ds = (setSs Γ io ds).set i (some d)
  | [], _, _, _ => by unfold setSs; rfl
  | j :: r, [], _, _ => by unfold setSs; rfl
  | j :: r, x :: ds, Γ, h => by
    simp only [List.mem_cons, not_or] at h
    unfold setSs
    rw [List.set_comm _ _ h.1, setSs_set h.2]
theorem refill : ∀ {io : List Nat} {Γ : Gm} {σ : St} {C : List Addr} {xs : List D} {vs : List V} {B : List Addr}, SlO K fr H (clr Γ io) σ C → io.Nodup → Slots σ io vs → OwL K fr H xs vs B → ∃ A, A.Perm (B ++ C) ∧ SlO K fr H (setSs Γ io xs) σ A
  | [], Γ, σ, C, xs, vs, B, h, _, sl, o => by
    cases sl
    cases xs with
    | nil => exact ⟨C, by rw [o.nil_inv.2]; exact List.Perm.refl _, h⟩
    | cons x r => have := o.len; simp at this
  | i :: r, Γ, σ, C, xs, vs, B, h, nd, sl, o => by
    obtain ⟨v, us, rfl, s1, s2⟩ := sl
    rw [List.nodup_cons] at nd
    cases xs with
    | nil => have := o.len; simp at this
    | cons x ds =>
      obtain ⟨v', us', B1, B2, e, o1, o2, rfl⟩ := o.cons_inv
      cases e
      have h' : SlO K fr H (clr (Γ.set i none) r) σ C := h
      obtain ⟨A1, p1, q1⟩ := refill (Γ := Γ.set i none) h' nd.2 s2 o2
      have e1 : setSs (Γ.set i none) r ds = (setSs Γ r ds).set i none := by
        have gen : ∀ (io : List Nat) (ds : List D) (Γ : Gm), i ∉ io → setSs (Γ.set i none) io ds = (setSs Γ io ds).set i none := by
          intro io
          induction io with
          | nil => intro ds Γ _; unfold setSs; rfl
          | cons j io ih =>
            intro ds Γ hn
            simp only [List.mem_cons, not_or] at hn
            cases ds with
            | nil => unfold setSs; rfl
            | cons y ds => unfold setSs; rw [List.set_comm _ _ hn.1, ih _ _ hn.2]
        exact gen r ds Γ nd.1
      rw [e1] at q1
      obtain ⟨A2, p2, q2⟩ := SlO.fill q1 s1 o1
      refine ⟨A2, p2.trans (((List.Perm.refl B1).append p1).trans (by rw [List.append_assoc])), ?_⟩
      unfold setSs
      rw [setSs_set nd.1]
      exact q2
end
section
variable {Φ : Tab} {X : Cx} {c : Cc}
theorem starN {x : Str} {p : Pos} {xs : List Expr} {env : Env} : starEach (.Name x p :: xs) env = (false, eval (.Name x p) env) :: starEach xs env := rfl
/-- names, then operands -/
def tIo (σ0 : St) : List Nat → TA → TA
  | [], t => t
  | i :: r, t => tCons (tVar i) (tIo σ0 r t)
theorem pa_io (g : Gd Φ X c) {t : TA} : ∀ {io : List Nat} {xs ys : List Expr}, chkIo c io xs = true → PA X ys t → PA X (xs ++ ys) (tIo [] io t)
  | [], xs, ys, h, ha => by
    cases xs with
    | nil => exact ha
    | cons _ _ => simp [chkIo] at h
  | i :: r, xs, ys, h, ha => by
    match xs, h with
    | .Name x p :: xs, h =>
      simp only [chkIo, Bool.and_eq_true] at h
      exact pa_cons (vis_of g h.1) (pa_io g h.2 ha) starN
theorem tIo_run {σ : St} {H : Hp} {t : TA} : ∀ {io : List Nat} {vs : List V} {Q : List V → Hp → Prop}, Slots σ io vs → t σ H (fun ws H1 => Q (vs ++ ws) H1) → tIo [] io t σ H Q
  | [], vs, Q, h, q => by cases h; exact q
  | i :: r, vs, Q, h, q => by
    obtain ⟨v, us, rfl, h1, h2⟩ := h
    exact ⟨v, h1, tIo_run (Q := fun ws H1 => Q (v :: ws) H1) h2 q⟩
theorem Slots.uniq {σ : St} : ∀ {io : List Nat} {vs ws : List V}, Slots σ io vs → Slots σ io ws → vs = ws
  | [], _, _, h, g => by cases h; cases g; rfl
  | i :: r, vs, ws, h, g => by
    obtain ⟨v, us, rfl, h1, h2⟩ := h
    obtain ⟨w, us', rfl, g1, g2⟩ := g
    rw [h1] at g1; cases g1
    rw [Slots.uniq h2 g2]
theorem Slots.len {σ : St} : ∀ {io : List Nat} {vs : List V}, Slots σ io vs → vs.length = io.length
  | [], _, h => by cases h; rfl
  | i :: r, vs, h => by
    obtain ⟨v, us, rfl, h1, h2⟩ := h
    rw [List.length_cons, List.length_cons, Slots.len h2]
theorem slots_of {K : PySem.W.Frag} {fr : Addr → Prop} {H : Hp} {Γ : Gm} {σ : St} {A : List Addr} (h : SlO K fr H Γ σ A) : ∀ {io : List Nat} {xs : List D}, getSs Γ io = some xs → ∃ vs, Slots σ io vs
  | [], _, _ => ⟨[], rfl⟩
  | i :: r, xs, e => by
    unfold getSs at e
    obtain ⟨d, e1, e2⟩ := Option.bind_eq_some_iff.mp e
    obtain ⟨ds, e3, _⟩ := Option.map_eq_some_iff.mp e2
    obtain ⟨v, B, h1, _, _⟩ := h.get (getS_eq e1)
    obtain ⟨us, h2⟩ := slots_of h e3
    exact ⟨v :: us, v, us, rfl, h1, h2⟩
theorem s_cio {f : Str} {io : List Nat} {es : List E} {xs ys : List Expr} {pf pos : Pos} (g : Gd Φ X c) (hg : glbOk c (bse f) = true) (hf : f ∈ c.fns) (hn : io ≠ []) (hx : chkIo c io xs = true) (hs : chks c es ys = true) (h : PA X ys (WOs Φ X.K es)) :
    PE X (.Call (.Name (bse f) pf) (xs ++ ys) [] pos) (WE Φ X.K (.cio f io es)) := by
  obtain ⟨g1, g2, g3⟩ := gl_of g hg
  obtain ⟨np, n, φ, hφ, ⟨⟨rfl, rfl, rfl, em⟩ | ⟨a, fd, ps, k, e0, e1, e2, e3, e4, e5⟩ | ⟨i0, t0, rfl, rfl, rfl, em⟩⟩⟩ := g.fs f hf
  rotate_left 2
  · refine ⟨fun pins s σ H Q I q => ?_⟩
    obtain ⟨fr, A, Γ, d, Γ', s, ee, kk⟩ := q
    exfalso
    simp only [ev, hφ] at ee
    split at ee
    · obtain ⟨⟨ds, Γ1⟩, h2, h3⟩ := Option.bind_eq_some_iff.mp ee
      simp only at h3
      split at h3
      · rename_i hc
        simp only [Bool.and_eq_true, decide_eq_true_eq] at hc
        have := hc.1.1.1
        exact hn (List.length_eq_zero_iff.mp this.symm)
      · split at h3
        · rename_i hc
          simp only [Bool.and_eq_true, decide_eq_true_eq] at hc
          have := hc.1.1
          exact hn (List.length_eq_zero_iff.mp this.symm)
        · cases h3
    · cases ee
  · refine ⟨fun pins s σ H Q I q => ?_⟩
    obtain ⟨fr, A, Γ, d, Γ', s, ee, kk⟩ := q
    exfalso
    simp only [ev, hφ] at ee
    split at ee
    · obtain ⟨⟨ds, Γ1⟩, h2, h3⟩ := Option.bind_eq_some_iff.mp ee
      simp only at h3
      split at h3
      · rename_i hc
        simp only [Bool.and_eq_true, decide_eq_true_eq] at hc
        have := hc.1.1.1
        exact hn (List.length_eq_zero_iff.mp this.symm)
      · split at h3
        · rename_i hc
          simp only [Bool.and_eq_true, decide_eq_true_eq] at hc
          have := hc.1.1
          exact hn (List.length_eq_zero_iff.mp this.symm)
        · cases h3
    · cases ee
  have ha := pa_io g hx h
  match io, hn, xs, hx, ha with
  | i :: r, _, .Name x p :: xs, hx, ha =>
    have hpl : (backTo pos (starEach (xs ++ ys) X.env)).any (·.1) = false := by
      simp only [chkIo, Bool.and_eq_true] at hx
      have st : ∀ {io : List Nat} {xs : List Expr}, chkIo c io xs = true → ∀ y ∈ backTo pos (starEach (xs ++ ys) X.env), y.1 = false := by
        intro io
        induction io with
        | nil =>
          intro xs hx y hy
          cases xs with
          | nil =>
            have := star_all (env := X.env) hs pos
            rw [List.any_eq_false] at this
            have := this y hy
            simpa using this
          | cons _ _ => simp [chkIo] at hx
        | cons j r ih =>
          intro xs hx y hy
          match xs, hx with
          | .Name x p :: xs, hx =>
            simp only [chkIo, Bool.and_eq_true] at hx
            rw [List.cons_append, starN] at hy
            unfold backTo at hy
            rw [List.map_cons] at hy
            rcases List.mem_cons.mp hy with rfl | hy
            · rfl
            · exact ih hx.2 y hy
      rw [List.any_eq_false]
      intro y hy
      rw [st hx.2 y hy]; simp
    refine pe_imp (pe_call e4 e5 g1 e1 e2 e3 .nil pass0 ha g2 starN hpl) fun σ H Q q => ?_
    obtain ⟨fr, A, Γ, d, Γ', s, ee, kk⟩ := q
    simp only [ev, hφ] at ee
    split at ee
    · rename_i h0
      obtain ⟨xs0, h0⟩ := Option.isSome_iff_exists.mp h0
      obtain ⟨⟨ds, Γ1⟩, h2, h3⟩ := Option.bind_eq_some_iff.mp ee
      simp only at h3
      split at h3
      · rename_i hc
        simp only [Bool.and_eq_true, decide_eq_true_eq] at hc
        obtain ⟨⟨⟨hc1, hc2⟩, hc3⟩, hc4⟩ := hc
        obtain ⟨iods, h4, h5⟩ := Option.bind_eq_some_iff.mp h3
        obtain ⟨⟨rv, xs'⟩, h6, h7⟩ := Option.bind_eq_some_iff.mp h5
        simp only [fin] at h7
        split at h7
        · rename_i hlx
          cases h7
          obtain ⟨vs0, sl0⟩ := slots_of s.sl h0
          refine tIo_run (io := i :: r) sl0 ⟨fr, A, Γ, ds, Γ1, s, h2, fun ws H1 fr1 A1 B1 p1 pc1 => ?_⟩
          show spF X.K np n φ ((vs0 ++ ws) ++ []) H1 Q E0
          rw [List.append_nil]
          have eB := OwL.un ds ws B1 p1.o hc2
          subst eB
          obtain ⟨vs1, Aio, C, sl1, o1, pm, sC⟩ := takes p1.s.sl hc3 h4
          have e01 := sl0.uniq sl1
          subst e01
          have lv : vs0.length = n := by rw [sl0.len, hc1]
          have lx : iods.length = n := by rw [← o1.len, lv]
          have nd := nodup_perm_append pm p1.s.nd
          have mA : ∀ b, b ∈ A1 ↔ b ∈ Aio ∨ b ∈ C := fun b => by rw [pm.mem_iff, List.mem_append]
          refine ⟨fr1, Aio, iods ++ ds, d, xs', ?_, ?_, p1.s.dm, (List.nodup_append.mp nd).1, fun b hb => p1.s.dj b ((mA b).mpr (.inl hb)), ?_, ?_, h6, fun v H2 fr2 A2 B2 u1 u2 nd2 dj2 dm2 ex2 => ?_⟩
          · rw [List.length_append, lv, p1.o.len]; exact hc4.symm
          · rw [List.length_append]; omega
          · rw [List.take_left' lx, List.take_left' lv]; exact o1
          · rw [List.drop_left' lx, List.drop_left' lv]; exact p1.o
          · rw [List.take_left' lv] at u1
            have nC : ∀ b ∈ C, b ∉ Aio := fun b hb hc => (List.nodup_append.mp nd).2.2 b hc b hb rfl
            have cdom : ∀ b ∈ C, ∃ x, H1 b = some x := fun b hb => by
              obtain ⟨z, q⟩ := p1.s.adom ((mA b).mpr (.inr hb)); exact ⟨_, q⟩
            have cfr : ∀ b ∈ C, ¬ fr2 b := fun b hb hf => by
              rcases ex2.fa b hf with z | z | z
              · exact p1.s.dj b ((mA b).mpr (.inr hb)) z
              · exact nC b hb z
              · obtain ⟨x, q⟩ := cdom b hb; rw [z] at q; cases q
            have cA2 : ∀ b ∈ C, b ∉ A2 ++ B2 := fun b hb hf => by
              rcases ex2.aa b hf with z | z
              · exact nC b hb z
              · obtain ⟨x, q⟩ := cdom b hb; rw [z] at q; cases q
            have sC2 : SlO X.K fr2 H2 (clr Γ1 (i :: r)) σ C := sC.mono ex2.ff fun b x hb e => ex2.kp b x e fun hc => by
              rcases hb with hb | hb
              · exact p1.s.dj b ((mA b).mpr (.inl hc)) hb
              · exact nC b hb hc
            obtain ⟨A3, pm3, s3⟩ := refill sC2 hc3 sl0 u1
            have mA3 : ∀ b, b ∈ A3 ↔ b ∈ A2 ∨ b ∈ C := fun b => by rw [pm3.mem_iff, List.mem_append]
            have S3 : S X.K fr2 A3 (setSs Γ1 (i :: r) xs') σ H2 := by
              refine ⟨s3, pm3.nodup_iff.mpr (List.nodup_append.mpr ⟨(List.nodup_append.mp nd2).1, (List.nodup_append.mp nd).2.1, fun x hx y hy e => ?_⟩), fun b hb => ?_, dm2⟩
              · subst e; exact cA2 x hy (List.mem_append_left _ hx)
              · rcases (mA3 b).mp hb with z | z
                · exact dj2 b (List.mem_append_left _ z)
                · exact cfr b z
            have ex3 : Ext A1 fr1 H1 (A3 ++ B2) fr2 H2 := by
              refine ⟨fun b x e hb => ex2.kp b x e fun hc => hb ((mA b).mpr (.inl hc)), ex2.ff, fun b hb => ?_, fun b hf => ?_⟩
              · rcases List.mem_append.mp hb with z | z
                · rcases (mA3 b).mp z with z | z
                  · rcases ex2.aa b (List.mem_append_left _ z) with y | y
                    · exact .inl ((mA b).mpr (.inl y))
                    · exact .inr y
                  · exact .inl ((mA b).mpr (.inr z))
                · rcases ex2.aa b (List.mem_append_right _ z) with y | y
                  · exact .inl ((mA b).mpr (.inl y))
                  · exact .inr y
              · rcases ex2.fa b hf with z | z | z
                · exact .inl z
                · exact .inr (.inl ((mA b).mpr (.inl z)))
                · exact .inr (.inr z)
            refine kk v H2 fr2 A3 B2 ⟨S3, OwL.one.mpr u2, List.nodup_append.mpr ⟨S3.nd, (List.nodup_append.mp nd2).2.1, fun x hx y hy e => ?_⟩, fun b hb => dj2 b (List.mem_append_right _ hb), p1.ex.trans ex3⟩ fun z => by cases z
            subst e
            rcases (mA3 x).mp hx with z | z
            · exact (List.nodup_append.mp nd2).2.2 x z x hy rfl
            · exact cA2 x z (List.mem_append_right _ hy)
        · cases h7
      · split at h3
        · rename_i _ hc
          simp only [Bool.and_eq_true, decide_eq_true_eq] at hc
          obtain ⟨⟨hc1, hc2⟩, hc3⟩ := hc
          obtain ⟨⟨ds2, Γ2⟩, h2', h3'⟩ := Option.bind_eq_some_iff.mp h3
          simp only at h3'
          split at h3'
          · rename_i hc4
            obtain ⟨iods, h4, h5⟩ := Option.bind_eq_some_iff.mp h3'
            obtain ⟨⟨rv, xs'⟩, h6, h7⟩ := Option.bind_eq_some_iff.mp h5
            simp only [fin] at h7
            split at h7
            · rename_i hlx
              simp only [Bool.and_eq_true, decide_eq_true_eq] at hlx
              obtain ⟨⟨hlx, hal1⟩, hal2⟩ := hlx
              cases h7
              obtain ⟨vs0, Aio, C, sl0, o1, pm, sC⟩ := takes s.sl hc3 h4
              have nd := nodup_perm_append pm s.nd
              have mA : ∀ b, b ∈ A ↔ b ∈ Aio ∨ b ∈ C := fun b => by rw [pm.mem_iff, List.mem_append]
              have nC : ∀ b ∈ C, b ∉ Aio := fun b hb hc => (List.nodup_append.mp nd).2.2 b hc b hb rfl
              refine tIo_run (io := i :: r) sl0 ⟨fr, C, clr Γ (i :: r), ds2, Γ2, ⟨sC, (List.nodup_append.mp nd).2.1, fun b hb => s.dj b ((mA b).mpr (.inr hb)), s.dm⟩, h2', fun ws H1 fr1 A1 B1 p1 pc1 => ?_⟩
              obtain ⟨sm, eA⟩ := pc1 hc2
              subst eA
              show spF X.K np n φ ((vs0 ++ ws) ++ []) H1 Q E0
              rw [List.append_nil]
              have lv : vs0.length = n := by rw [sl0.len, hc1]
              have lx : iods.length = n := by rw [← o1.len, lv]
              have adom : ∀ b ∈ A, ∃ x, H b = some (.lst x) := fun b hb => s.adom hb
              have nf1 : ∀ b ∈ Aio, ¬ fr1 b := fun b hb hf => by
                rcases p1.ex.fa b hf with z | z | z
                · exact s.dj b ((mA b).mpr (.inl hb)) z
                · exact nC b z hb
                · obtain ⟨x, q⟩ := adom b ((mA b).mpr (.inl hb)); rw [z] at q; cases q
              have cdom : ∀ b ∈ A1, ∃ x, H1 b = some (.lst x) := fun b hb => p1.s.adom hb
              have ow : OwL X.K (fun b => fr1 b ∨ b ∈ B1) H1 (frzL ds2) ws [] := OwL.frz ds2 ws B1 p1.o (fun _ z => .inl z) fun _ z => .inr z
              have o1' : OwL X.K (fun b => fr1 b ∨ b ∈ B1) H1 iods vs0 Aio := OwL.mono (fun b z => .inl (p1.ex.ff b z)) _ _ _ o1 fun b x _ e => sm b x e
              refine ⟨fun b => fr1 b ∨ b ∈ B1, Aio, iods ++ frzL ds2, d, xs', ?_, ?_, fun b hb => ?_, (List.nodup_append.mp nd).1, fun b hb hf => ?_, ?_, ?_, h6, fun v H2 fr2 A2 B2 u1 u2 nd2 dj2 dm2 ex2 => ?_⟩
              · rw [List.length_append, lv, p1.o.len]; exact hc4.symm
              · rw [List.length_append]; omega
              · rcases hb with hb | hb
                · exact p1.s.dm b hb
                · obtain ⟨x, q⟩ := cdom b (p1.bs b hb); exact ⟨_, q⟩
              · rcases hf with hf | hf
                · exact nf1 b hb hf
                · exact nC b (p1.bs b hf) hb
              · rw [List.take_left' lx, List.take_left' lv]; exact o1'
              · rw [List.drop_left' lx, List.drop_left' lv]; exact ow
              · rw [List.take_left' lv] at u1
                have keepC : ∀ b ∈ A1, ∃ x, H2 b = some (.lst x) := fun b hb => by
                  obtain ⟨x, q⟩ := cdom b hb; exact ⟨x, ex2.kp b _ q (nC b hb)⟩
                have hal : ∀ b ws, fr2 b → H2 b = some (.tup ws) → fr1 b ∨ (fr2 b ∧ b ∉ A1) := fun b ws hf ht => .inr ⟨hf, fun hA => by
                  obtain ⟨x, q⟩ := keepC b hA; rw [ht] at q; cases q⟩
                have w1 := OwL.al hal _ _ _ u1 hal2
                have w2 := u2.al hal _ _ _ hal1
                have up : ∀ b, fr1 b → fr2 b := fun b z => ex2.ff b (.inl z)
                have sC2 : SlO X.K (fun b => fr1 b ∨ (fr2 b ∧ b ∉ A1)) H2 (clr Γ (i :: r)) σ A1 := sC.mono (fun b z => .inl (p1.ex.ff b z)) fun b x hb e => ex2.kp b x (sm b x e) fun hc => by
                  rcases hb with hb | hb
                  · exact s.dj b ((mA b).mpr (.inl hc)) hb
                  · exact nC b hb hc
                have cA2 : ∀ b ∈ A1, b ∉ A2 ++ B2 := fun b hb hf => by
                  rcases ex2.aa b hf with z | z
                  · exact nC b hb z
                  · obtain ⟨x, q⟩ := cdom b hb; rw [z] at q; cases q
                obtain ⟨A3, pm3, s3⟩ := refill sC2 hc3 sl0 w1
                have mA3 : ∀ b, b ∈ A3 ↔ b ∈ A2 ∨ b ∈ A1 := fun b => by rw [pm3.mem_iff, List.mem_append]
                have S3 : S X.K (fun b => fr1 b ∨ (fr2 b ∧ b ∉ A1)) A3 (setSs Γ (i :: r) xs') σ H2 := by
                  refine ⟨s3, pm3.nodup_iff.mpr (List.nodup_append.mpr ⟨(List.nodup_append.mp nd2).1, (List.nodup_append.mp nd).2.1, fun x hx y hy e => ?_⟩), fun b hb hf => ?_, fun b hf => ?_⟩
                  · subst e; exact cA2 x hy (List.mem_append_left _ hx)
                  · rcases (mA3 b).mp hb with z | z
                    · rcases hf with hf | hf
                      · exact dj2 b (List.mem_append_left _ z) (up b hf)
                      · exact dj2 b (List.mem_append_left _ z) hf.1
                    · rcases hf with hf | hf
                      · exact p1.s.dj b z hf
                      · exact hf.2 z
                  · rcases hf with hf | hf
                    · exact dm2 b (up b hf)
                    · exact dm2 b hf.1
                have ex1 : Ext A fr H A fr1 H1 := ⟨fun b x e _ => sm b x e, p1.ex.ff, fun b hb => .inl hb, fun b hf => by
                  rcases p1.ex.fa b hf with z | z | z
                  · exact .inl z
                  · exact .inr (.inl ((mA b).mpr (.inr z)))
                  · exact .inr (.inr z)⟩
                have ex3 : Ext A fr1 H1 (A3 ++ B2) (fun b => fr1 b ∨ (fr2 b ∧ b ∉ A1)) H2 := by
                  refine ⟨fun b x e hb => ex2.kp b x e fun hc => hb ((mA b).mpr (.inl hc)), fun b z => .inl z, fun b hb => ?_, fun b hf => ?_⟩
                  · rcases List.mem_append.mp hb with z | z
                    · rcases (mA3 b).mp z with z | z
                      · rcases ex2.aa b (List.mem_append_left _ z) with y | y
                        · exact .inl ((mA b).mpr (.inl y))
                        · exact .inr y
                      · exact .inl ((mA b).mpr (.inr z))
                    · rcases ex2.aa b (List.mem_append_right _ z) with y | y
                      · exact .inl ((mA b).mpr (.inl y))
                      · exact .inr y
                  · rcases hf with hf | hf
                    · exact .inl hf
                    · rcases ex2.fa b hf.1 with z | z | z
                      · rcases z with z | z
                        · exact .inl z
                        · exact absurd (p1.bs b z) hf.2
                      · exact .inr (.inl ((mA b).mpr (.inl z)))
                      · exact .inr (.inr z)
                refine kk v H2 (fun b => fr1 b ∨ (fr2 b ∧ b ∉ A1)) A3 B2 ⟨S3, OwL.one.mpr w2, List.nodup_append.mpr ⟨S3.nd, (List.nodup_append.mp nd2).2.1, fun x hx y hy e => ?_⟩, fun b hb hf => ?_, ex1.trans ex3⟩ fun z => by cases z
                · subst e
                  rcases (mA3 x).mp hx with z | z
                  · exact (List.nodup_append.mp nd2).2.2 x z x hy rfl
                  · exact cA2 x z (List.mem_append_right _ hy)
                · rcases hf with hf | hf
                  · exact dj2 b (List.mem_append_right _ hb) (up b hf)
                  · exact dj2 b (List.mem_append_right _ hb) hf.1
            · cases h7
          · cases h3'
        · cases h3
    · cases ee
end
end Sk

namespace Sk
open PySem PySem.Spec PyProof.Rows L2
section
variable {Φ : Tab} {X : Cx} {c : Cc}
/-! ### and, or, not, if .. else -/
def WAnd (Φ : Tab) (K : PySem.W.Frag) (es : List E) : TE := fun σ H Q => ∃ fr A Γ d Γ', S K fr A Γ σ H ∧ evAnd Φ es Γ = some (d, Γ') ∧ ∀ v H' fr' A' B, Po K fr A H Γ' σ [d] [v] fr' A' B H' → (purL es = true → Sm' H H' ∧ A' = A) → Q v H'
def WOr (Φ : Tab) (K : PySem.W.Frag) (es : List E) : TE := fun σ H Q => ∃ fr A Γ d Γ', S K fr A Γ σ H ∧ evOr Φ es Γ = some (d, Γ') ∧ ∀ v H' fr' A' B, Po K fr A H Γ' σ [d] [v] fr' A' B H' → (purL es = true → Sm' H H' ∧ A' = A) → Q v H'
theorem Po.un {K : PySem.W.Frag} {fr fr' : Addr → Prop} {A A' B : List Addr} {H H' : Hp} {Γ' : Gm} {σ : St} {d : D} {v : V} (p : Po K fr A H Γ' σ [d] [v] fr' A' B H') (u : un d = true) : B = [] ∧ Ow K fr' H' d v [] ∧ Ext A fr H A' fr' H' := by
  have o := OwL.one.mp p.o
  have e := o.un d v B u
  subst e
  exact ⟨rfl, o, p.ex.less fun b hb => List.mem_append_left _ hb⟩
theorem s_and1 {e : E} {x : Expr} {pos : Pos} (h : PE X x (WE Φ X.K e)) : PE X (.BoolOp .And [x] pos) (WAnd Φ X.K [e]) := by
  refine pe_imp (pe_one h) fun σ H Q q => ?_
  obtain ⟨fr, A, Γ, d, Γ', s, e1, k⟩ := q
  simp only [evAnd] at e1
  obtain ⟨⟨d1, Γ1⟩, e2, e3⟩ := Option.bind_eq_some_iff.mp e1
  cases e3
  exact ⟨fr, A, Γ, d1, Γ1, s, e2, fun v H' fr' A' B p pc => k v H' fr' A' B p fun z => pc (by simpa [purL] using z)⟩
theorem s_or1 {e : E} {x : Expr} {pos : Pos} (h : PE X x (WE Φ X.K e)) : PE X (.BoolOp .Or [x] pos) (WOr Φ X.K [e]) := by
  refine pe_imp (pe_one h) fun σ H Q q => ?_
  obtain ⟨fr, A, Γ, d, Γ', s, e1, k⟩ := q
  simp only [evOr] at e1
  obtain ⟨⟨d1, Γ1⟩, e2, e3⟩ := Option.bind_eq_some_iff.mp e1
  cases e3
  exact ⟨fr, A, Γ, d1, Γ1, s, e2, fun v H' fr' A' B p pc => k v H' fr' A' B p fun z => pc (by simpa [purL] using z)⟩
theorem s_andC {e e2 : E} {es : List E} {x y : Expr} {ys : List Expr} {pos : Pos} (h : PE X x (WE Φ X.K e)) (h2 : PE X (.BoolOp .And (y :: ys) pos) (WAnd Φ X.K (e2 :: es))) : PE X (.BoolOp .And (x :: y :: ys) pos) (WAnd Φ X.K (e :: e2 :: es)) := by
  refine pe_imp (pe_andT h h2) fun σ H Q q => ?_
  obtain ⟨fr, A, Γ, d, Γ', s, e1, k⟩ := q
  rw [evAnd] at e1
  obtain ⟨⟨d1, Γ1⟩, e3, e4⟩ := Option.bind_eq_some_iff.mp e1
  simp only at e4
  split at e4
  · rename_i hu
    obtain ⟨b, e5, e6⟩ := Option.bind_eq_some_iff.mp e4
    refine ⟨fr, A, Γ, d1, Γ1, s, e3, fun v H1 fr1 A1 B1 p1 pc1 => ?_⟩
    obtain ⟨eB, o, ex⟩ := p1.un hu
    refine ⟨b, truV_of ⟨_, o⟩ e5, ?_⟩
    cases b with
    | true =>
      refine iteT ⟨fr1, A1, Γ1, d, Γ', p1.s, e6, fun w H2 fr2 A2 B2 p2 pc2 => k w H2 fr2 A2 B2 ⟨p2.s, p2.o, p2.nd, p2.dj, ex.trans p2.ex⟩ fun hp => ?_⟩
      rw [purL, Bool.and_eq_true] at hp
      obtain ⟨z1, z2⟩ := pc1 hp.1
      obtain ⟨z3, z4⟩ := pc2 hp.2
      exact ⟨z1.trans z3, z4.trans z2⟩
    | false =>
      cases e6
      refine iteF (k v H1 fr1 A1 B1 p1 fun hp => ?_)
      rw [purL, Bool.and_eq_true] at hp
      exact pc1 hp.1
  · cases e4
theorem s_orC {e e2 : E} {es : List E} {x y : Expr} {ys : List Expr} {pos : Pos} (h : PE X x (WE Φ X.K e)) (h2 : PE X (.BoolOp .Or (y :: ys) pos) (WOr Φ X.K (e2 :: es))) : PE X (.BoolOp .Or (x :: y :: ys) pos) (WOr Φ X.K (e :: e2 :: es)) := by
  refine pe_imp (pe_orT h h2) fun σ H Q q => ?_
  obtain ⟨fr, A, Γ, d, Γ', s, e1, k⟩ := q
  rw [evOr] at e1
  obtain ⟨⟨d1, Γ1⟩, e3, e4⟩ := Option.bind_eq_some_iff.mp e1
  simp only at e4
  split at e4
  · rename_i hu
    obtain ⟨b, e5, e6⟩ := Option.bind_eq_some_iff.mp e4
    refine ⟨fr, A, Γ, d1, Γ1, s, e3, fun v H1 fr1 A1 B1 p1 pc1 => ?_⟩
    obtain ⟨eB, o, ex⟩ := p1.un hu
    refine ⟨b, truV_of ⟨_, o⟩ e5, ?_⟩
    cases b with
    | false =>
      refine iteF ⟨fr1, A1, Γ1, d, Γ', p1.s, e6, fun w H2 fr2 A2 B2 p2 pc2 => k w H2 fr2 A2 B2 ⟨p2.s, p2.o, p2.nd, p2.dj, ex.trans p2.ex⟩ fun hp => ?_⟩
      rw [purL, Bool.and_eq_true] at hp
      obtain ⟨z1, z2⟩ := pc1 hp.1
      obtain ⟨z3, z4⟩ := pc2 hp.2
      exact ⟨z1.trans z3, z4.trans z2⟩
    | true =>
      cases e6
      refine iteT (k v H1 fr1 A1 B1 p1 fun hp => ?_)
      rw [purL, Bool.and_eq_true] at hp
      exact pc1 hp.1
  · cases e4
theorem s_and {es : List E} {x : Expr} (h : PE X x (WAnd Φ X.K es)) : PE X x (WE Φ X.K (.and_ es)) := by
  refine pe_imp h fun σ H Q q => ?_
  obtain ⟨fr, A, Γ, d, Γ', s, e1, k⟩ := q
  simp only [ev] at e1
  obtain ⟨⟨d1, Γ1⟩, e2, e3⟩ := Option.map_eq_some_iff.mp e1
  cases e3
  exact ⟨fr, A, Γ, _, _, s, e2, k⟩
theorem s_or {es : List E} {x : Expr} (h : PE X x (WOr Φ X.K es)) : PE X x (WE Φ X.K (.or_ es)) := by
  refine pe_imp h fun σ H Q q => ?_
  obtain ⟨fr, A, Γ, d, Γ', s, e1, k⟩ := q
  simp only [ev] at e1
  obtain ⟨⟨d1, Γ1⟩, e2, e3⟩ := Option.map_eq_some_iff.mp e1
  cases e3
  exact ⟨fr, A, Γ, _, _, s, e2, k⟩
theorem s_not {a : E} {x : Expr} {pos : Pos} (he : ∀ Γ, ev Φ a .tst Γ = ev Φ a .opd Γ) (h : PE X x (WO Φ X.K a)) : PE X (.UnaryOp .Not x pos) (WE Φ X.K (.not_ a)) := by
  refine pe_imp (pe_notT h) fun σ H Q q => ?_
  obtain ⟨fr, A, Γ, d, Γ', s, e1, k⟩ := q
  simp only [ev, he] at e1
  obtain ⟨⟨d1, Γ1⟩, e2, e3⟩ := Option.bind_eq_some_iff.mp e1
  obtain ⟨b, e4, e5⟩ := Option.map_eq_some_iff.mp e3
  cases e5
  refine ⟨fr, A, Γ, d1, Γ1, s, e2, fun v H1 fr1 A1 B1 p1 pc1 => ⟨b, truV_of ⟨_, OwL.one.mp p1.o⟩ e4, ?_⟩⟩
  have p2 := Po.val (d := .bl (!b)) (v := .bl (!b)) p1.s (by unfold Ow; exact ⟨rfl, rfl⟩)
  exact k (.bl (!b)) H1 fr1 A1 [] (p1.po p2) pc1
theorem s_ite {t a b : E} {x y z : Expr} {pos : Pos} (ht : PT X x (WT Φ X.K t)) (h1 : PE X y (WE Φ X.K a)) (h2 : PE X z (WE Φ X.K b)) : PE X (.IfExp x y z pos) (WE Φ X.K (.ite t a b)) := by
  refine pe_imp (pe_ifExp ht h1 h2) fun σ H Q q => ?_
  obtain ⟨fr, A, Γ, d, Γ', s, e1, k⟩ := q
  simp only [ev] at e1
  obtain ⟨⟨d1, Γ1⟩, e2, e3⟩ := Option.bind_eq_some_iff.mp e1
  obtain ⟨tb, e4, e5⟩ := Option.bind_eq_some_iff.mp e3
  obtain ⟨⟨d2, Γ2⟩, e6, e7⟩ := Option.map_eq_some_iff.mp e5
  cases e7
  refine ⟨fr, A, Γ, d1, Γ1, tb, s, e2, e4, fun H1 fr1 A1 s1 ex1 pc1 => ?_⟩
  cases tb with
  | true =>
    refine iteT ⟨fr1, A1, Γ1, _, _, s1, e6, fun w H2 fr2 A2 B2 p2 pc2 => k w H2 fr2 A2 B2 ⟨p2.s, p2.o, p2.nd, p2.dj, ex1.trans p2.ex⟩ fun hp => ?_⟩
    simp only [pur, Bool.and_eq_true] at hp
    obtain ⟨z1, z2⟩ := pc1 hp.1.1
    obtain ⟨z3, z4⟩ := pc2 hp.1.2
    exact ⟨z1.trans z3, z4.trans z2⟩
  | false =>
    refine iteF ⟨fr1, A1, Γ1, _, _, s1, e6, fun w H2 fr2 A2 B2 p2 pc2 => k w H2 fr2 A2 B2 ⟨p2.s, p2.o, p2.nd, p2.dj, ex1.trans p2.ex⟩ fun hp => ?_⟩
    simp only [pur, Bool.and_eq_true] at hp
    obtain ⟨z1, z2⟩ := pc1 hp.1.1
    obtain ⟨z3, z4⟩ := pc2 hp.2
    exact ⟨z1.trans z3, z4.trans z2⟩
/-! ### tests -/
theorem t_not {a : E} {x : Expr} {pos : Pos} (h : PT X x (WT Φ X.K a)) : PT X (.UnaryOp .Not x pos) (WT Φ X.K (.not_ a)) := by
  refine pt_imp (pt_not h) fun σ H Q q => ?_
  obtain ⟨fr, A, Γ, d, Γ', t, s, e1, e2, k⟩ := q
  simp only [ev] at e1
  obtain ⟨⟨d1, Γ1⟩, e3, e4⟩ := Option.bind_eq_some_iff.mp e1
  obtain ⟨b, e5, e6⟩ := Option.map_eq_some_iff.mp e4
  cases e6
  cases e2
  exact ⟨fr, A, Γ, d1, Γ1, b, s, e3, e5, k⟩
def WTA (Φ : Tab) (K : PySem.W.Frag) (es : List E) : TT := fun σ H Q => ∃ fr A Γ t Γ', S K fr A Γ σ H ∧ evTAnd Φ es Γ = some (.bl t, Γ') ∧ ∀ H' fr' A', S K fr' A' Γ' σ H' → Ext A fr H A' fr' H' → (purL es = true → Sm' H H' ∧ A' = A) → Q t H'
def WTO (Φ : Tab) (K : PySem.W.Frag) (es : List E) : TT := fun σ H Q => ∃ fr A Γ t Γ', S K fr A Γ σ H ∧ evTOr Φ es Γ = some (.bl t, Γ') ∧ ∀ H' fr' A', S K fr' A' Γ' σ H' → Ext A fr H A' fr' H' → (purL es = true → Sm' H H' ∧ A' = A) → Q t H'
theorem t_and1 {e : E} {x : Expr} {pos : Pos} (h : PT X x (WT Φ X.K e)) : PW X (.BoolOp .And [x] pos) (WTA Φ X.K [e]) := by
  refine ⟨fun wh pins s σ H Q I q => (pw_and1 h).run wh pins s σ H Q I ?_⟩
  obtain ⟨fr, A, Γ, t, Γ', s, e1, k⟩ := q
  rw [evTAnd] at e1
  obtain ⟨⟨d1, Γ1⟩, e2, e3⟩ := Option.bind_eq_some_iff.mp e1
  obtain ⟨b, e4, e5⟩ := Option.bind_eq_some_iff.mp e3
  cases b <;> cases e5 <;> exact ⟨fr, A, Γ, d1, _, _, s, e2, e4, fun H' fr' A' s' ex pc => k H' fr' A' s' ex fun z => pc (by simpa [purL] using z)⟩
theorem t_or1 {e : E} {x : Expr} {pos : Pos} (h : PT X x (WT Φ X.K e)) : PW X (.BoolOp .Or [x] pos) (WTO Φ X.K [e]) := by
  refine ⟨fun wh pins s σ H Q I q => (pw_or1 h).run wh pins s σ H Q I ?_⟩
  obtain ⟨fr, A, Γ, t, Γ', s, e1, k⟩ := q
  rw [evTOr] at e1
  obtain ⟨⟨d1, Γ1⟩, e2, e3⟩ := Option.bind_eq_some_iff.mp e1
  obtain ⟨b, e4, e5⟩ := Option.bind_eq_some_iff.mp e3
  cases b <;> cases e5 <;> exact ⟨fr, A, Γ, d1, _, _, s, e2, e4, fun H' fr' A' s' ex pc => k H' fr' A' s' ex fun z => pc (by simpa [purL] using z)⟩
theorem t_andC {e e2 : E} {es : List E} {x y : Expr} {ys : List Expr} {pos : Pos} (h : PT X x (WT Φ X.K e)) (h2 : PW X (.BoolOp .And (y :: ys) pos) (WTA Φ X.K (e2 :: es))) : PW X (.BoolOp .And (x :: y :: ys) pos) (WTA Φ X.K (e :: e2 :: es)) := by
  refine ⟨fun wh pins s σ H Q I q => (pw_and h h2).run wh pins s σ H Q I ?_⟩
  obtain ⟨fr, A, Γ, t, Γ', s, e1, k⟩ := q
  rw [evTAnd] at e1
  obtain ⟨⟨d1, Γ1⟩, e3, e4⟩ := Option.bind_eq_some_iff.mp e1
  obtain ⟨b, e5, e6⟩ := Option.bind_eq_some_iff.mp e4
  refine ⟨fr, A, Γ, d1, Γ1, b, s, e3, e5, fun H1 fr1 A1 s1 ex1 pc1 => ?_⟩
  cases b with
  | true =>
    refine iteT ⟨fr1, A1, Γ1, t, Γ', s1, e6, fun H2 fr2 A2 s2 ex2 pc2 => k H2 fr2 A2 s2 (ex1.trans ex2) fun hp => ?_⟩
    rw [purL, Bool.and_eq_true] at hp
    obtain ⟨z1, z2⟩ := pc1 hp.1
    obtain ⟨z3, z4⟩ := pc2 hp.2
    exact ⟨z1.trans z3, z4.trans z2⟩
  | false =>
    cases e6
    refine iteF (k H1 fr1 A1 s1 ex1 fun hp => ?_)
    rw [purL, Bool.and_eq_true] at hp
    exact pc1 hp.1
theorem t_orC {e e2 : E} {es : List E} {x y : Expr} {ys : List Expr} {pos : Pos} (h : PT X x (WT Φ X.K e)) (h2 : PW X (.BoolOp .Or (y :: ys) pos) (WTO Φ X.K (e2 :: es))) : PW X (.BoolOp .Or (x :: y :: ys) pos) (WTO Φ X.K (e :: e2 :: es)) := by
  refine ⟨fun wh pins s σ H Q I q => (pw_or h h2).run wh pins s σ H Q I ?_⟩
  obtain ⟨fr, A, Γ, t, Γ', s, e1, k⟩ := q
  rw [evTOr] at e1
  obtain ⟨⟨d1, Γ1⟩, e3, e4⟩ := Option.bind_eq_some_iff.mp e1
  obtain ⟨b, e5, e6⟩ := Option.bind_eq_some_iff.mp e4
  refine ⟨fr, A, Γ, d1, Γ1, b, s, e3, e5, fun H1 fr1 A1 s1 ex1 pc1 => ?_⟩
  cases b with
  | false =>
    refine iteF ⟨fr1, A1, Γ1, t, Γ', s1, e6, fun H2 fr2 A2 s2 ex2 pc2 => k H2 fr2 A2 s2 (ex1.trans ex2) fun hp => ?_⟩
    rw [purL, Bool.and_eq_true] at hp
    obtain ⟨z1, z2⟩ := pc1 hp.1
    obtain ⟨z3, z4⟩ := pc2 hp.2
    exact ⟨z1.trans z3, z4.trans z2⟩
  | true =>
    cases e6
    refine iteT (k H1 fr1 A1 s1 ex1 fun hp => ?_)
    rw [purL, Bool.and_eq_true] at hp
    exact pc1 hp.1
theorem evTAnd_bl {es : List E} : ∀ {Γ Γ' : Gm} {d : D}, evTAnd Φ es Γ = some (d, Γ') → ∃ t, d = .bl t := by
  induction es with
  | nil => intro Γ Γ' d h; cases h
  | cons e es ih =>
    intro Γ Γ' d h
    rw [evTAnd] at h
    obtain ⟨⟨d1, Γ1⟩, e3, e4⟩ := Option.bind_eq_some_iff.mp h
    obtain ⟨b, e5, e6⟩ := Option.bind_eq_some_iff.mp e4
    cases b with
    | false => cases e6; exact ⟨_, rfl⟩
    | true =>
      cases es with
      | nil => cases e6; exact ⟨_, rfl⟩
      | cons e2 es => exact ih e6
theorem evTOr_bl {es : List E} : ∀ {Γ Γ' : Gm} {d : D}, evTOr Φ es Γ = some (d, Γ') → ∃ t, d = .bl t := by
  induction es with
  | nil => intro Γ Γ' d h; cases h
  | cons e es ih =>
    intro Γ Γ' d h
    rw [evTOr] at h
    obtain ⟨⟨d1, Γ1⟩, e3, e4⟩ := Option.bind_eq_some_iff.mp h
    obtain ⟨b, e5, e6⟩ := Option.bind_eq_some_iff.mp e4
    cases b with
    | true => cases e6; exact ⟨_, rfl⟩
    | false =>
      cases es with
      | nil => cases e6; exact ⟨_, rfl⟩
      | cons e2 es => exact ih e6
theorem t_and {es : List E} {x : Expr} (h : PW X x (WTA Φ X.K es)) : PT X x (WT Φ X.K (.and_ es)) := by
  refine pt_imp h.pt fun σ H Q q => ?_
  obtain ⟨fr, A, Γ, d, Γ', t, s, e1, e2, k⟩ := q
  simp only [ev] at e1
  obtain ⟨t', rfl⟩ := evTAnd_bl e1
  cases e2
  exact ⟨fr, A, Γ, _, Γ', s, e1, k⟩
theorem t_or {es : List E} {x : Expr} (h : PW X x (WTO Φ X.K es)) : PT X x (WT Φ X.K (.or_ es)) := by
  refine pt_imp h.pt fun σ H Q q => ?_
  obtain ⟨fr, A, Γ, d, Γ', t, s, e1, e2, k⟩ := q
  simp only [ev] at e1
  obtain ⟨t', rfl⟩ := evTOr_bl e1
  cases e2
  exact ⟨fr, A, Γ, _, Γ', s, e1, k⟩
end
end Sk

namespace Sk
open PySem PySem.Spec PyProof.Rows L2
section
variable {Φ : Tab} {X : Cx} {c : Cc}
theorem Vw.mono {K : PySem.W.Frag} {fr fr' : Addr → Prop} {H H' : Hp} {d : D} {v : V} (h : Vw K fr H d v) (hf : ∀ b, fr b → fr' b) (hs : Sm' H H') : Vw K fr' H' d v := by
  obtain ⟨B, o⟩ := h
  exact ⟨B, o.mono hf _ _ _ fun b x _ e => hs b x e⟩
/-- a < b < c -/
theorem chain_go {p q : Pr} {a b d : E} {σ : St} {H : Hp} {Q : VK} (h : WE Φ X.K (.chain p q a b d) σ H Q) :
    tChain (fun v w => rP X.K p [v, w]) (fun v w => rP X.K q [v, w]) (WO Φ X.K a) (WO Φ X.K b) (WO Φ X.K d) σ H Q := by
  obtain ⟨fr, A, Γ, r, Γ', s, e1, k⟩ := h
  simp only [ev] at e1
  split at e1
  · rename_i hp
    simp only [Bool.and_eq_true] at hp
    obtain ⟨⟨d1, Γ1⟩, e2, e3⟩ := Option.bind_eq_some_iff.mp e1
    obtain ⟨⟨d2, Γ2⟩, e4, e5⟩ := Option.bind_eq_some_iff.mp e3
    obtain ⟨r1, e6, e7⟩ := Option.bind_eq_some_iff.mp e5
    refine ⟨fr, A, Γ, d1, Γ1, s, e2, fun v H1 fr1 A1 B1 p1 pc1 => ⟨fr1, A1, Γ1, d2, Γ2, p1.s, e4, fun w H2 fr2 A2 B2 p2 pc2 => ?_⟩⟩
    obtain ⟨m1, a1⟩ := pc1 hp.1.1
    obtain ⟨m2, a2⟩ := pc2 hp.1.2
    have v1 : Vw X.K fr2 H2 d1 v := (show Vw X.K fr1 H1 d1 v from ⟨_, OwL.one.mp p1.o⟩).mono p2.ex.ff m2
    have v2 : Vw X.K fr2 H2 d2 w := ⟨_, OwL.one.mp p2.o⟩
    have vv : VwL X.K fr2 H2 [d1, d2] [v, w] := by
      obtain ⟨B, o⟩ := v1
      obtain ⟨C, o'⟩ := v2
      exact ⟨B ++ C, OwL.cons o (OwL.one.mpr o')⟩
    refine ⟨fr2, [d1, d2], r1, p2.s.dm, vv, e6, fun z H3 fr3 B3 g3 o3 => ?_⟩
    obtain ⟨h31, h32, h33⟩ := p2.s.grow g3
    match r1, e7, o3 with
    | .bl false, e7, o3 =>
      cases e7
      have hz : z = .bl false := (show Vw X.K fr3 H3 (.bl false) z from ⟨_, o3⟩).bl
      subst hz
      have eB := o3.un _ _ _ rfl
      subst eB
      refine ⟨false, rfl, iteF (k _ H3 fr3 A2 [] ⟨h31, OwL.one.mpr o3, h32, g3.dj, (p1.ex.trans p2.ex).trans h33⟩ fun _ => ⟨(m1.trans m2).trans g3.same, a2.trans a1⟩)⟩
    | .bl true, e7, o3 =>
      obtain ⟨⟨d3, Γ3⟩, e8, e9⟩ := Option.bind_eq_some_iff.mp e7
      obtain ⟨r2, e10, e11⟩ := Option.bind_eq_some_iff.mp e9
      have hz : z = .bl true := (show Vw X.K fr3 H3 (.bl true) z from ⟨_, o3⟩).bl
      subst hz
      have eB := o3.un _ _ _ rfl
      subst eB
      rw [List.append_nil] at h33
      refine ⟨true, rfl, iteT ⟨fr3, A2, Γ2, d3, Γ3, h31, e8, fun u H4 fr4 A4 B4 p4 pc4 => ?_⟩⟩
      obtain ⟨m4, a4⟩ := pc4 hp.2
      have v2' : Vw X.K fr4 H4 d2 w := (v2.mono g3.ff g3.same).mono p4.ex.ff m4
      have vv2 : VwL X.K fr4 H4 [d2, d3] [w, u] := by
        obtain ⟨B, o⟩ := v2'
        exact ⟨B ++ B4, OwL.cons o p4.o⟩
      refine ⟨fr4, [d2, d3], r2, p4.s.dm, vv2, e10, fun y H5 fr5 B5 g5 o5 => ?_⟩
      obtain ⟨h51, h52, h53⟩ := p4.s.grow g5
      match r2, e11, o5 with
      | .bl t, e11, o5 =>
        cases e11
        exact k _ H5 fr5 A4 B5 ⟨h51, OwL.one.mpr o5, h52, g5.dj, (((p1.ex.trans p2.ex).trans h33).trans p4.ex).trans h53⟩ fun _ => ⟨(((m1.trans m2).trans g3.same).trans m4).trans g5.same, a4.trans (a2.trans a1)⟩
  · cases e1
theorem lastM {op op' : CmpOp} {y z : Expr} (h : notSet z = true) : lastMarks [op, op'] [y, z] = false := by
  show behindInMarks op' z = false
  cases z <;> first | rfl | cases h
theorem behM {op : CmpOp} {y : Expr} (h : notSet y = true) : behindInMarks op y = false := by
  cases y <;> first | rfl | cases h
theorem chain_tst {p q : Pr} {a b d : E} {σ : St} {H : Hp} {Q : Bool → Hp → Prop} (h : WT Φ X.K (.chain p q a b d) σ H Q) : WE Φ X.K (.chain p q a b d) σ H fun v H' => ∃ t, v = .bl t ∧ Q t H' := by
  obtain ⟨fr, A, Γ, r, Γ', t, s, e1, e2, k⟩ := h
  have e0 : ev Φ (.chain p q a b d) .val Γ = some (r, Γ') := by simp only [ev] at e1 ⊢; exact e1
  have hb : ∃ t, r = .bl t := by
    simp only [ev] at e0
    split at e0
    · obtain ⟨⟨d1, Γ1⟩, _, e3⟩ := Option.bind_eq_some_iff.mp e0
      obtain ⟨⟨d2, Γ2⟩, _, e5⟩ := Option.bind_eq_some_iff.mp e3
      obtain ⟨r1, _, e7⟩ := Option.bind_eq_some_iff.mp e5
      match r1, e7 with
      | .bl false, e7 => cases e7; exact ⟨_, rfl⟩
      | .bl true, e7 =>
        obtain ⟨⟨d3, Γ3⟩, _, e9⟩ := Option.bind_eq_some_iff.mp e7
        obtain ⟨r2, _, e11⟩ := Option.bind_eq_some_iff.mp e9
        match r2, e11 with
        | .bl t, e11 => cases e11; exact ⟨_, rfl⟩
    · cases e0
  obtain ⟨t', rfl⟩ := hb
  cases e2
  refine ⟨fr, A, Γ, _, Γ', s, e0, fun v H' fr' A' B p pc => ?_⟩
  have o := OwL.one.mp p.o
  have hv : v = .bl t := (show Vw X.K fr' H' (.bl t) v from ⟨B, o⟩).bl
  exact ⟨t, hv, k H' fr' A' p.s (p.ex.less fun b hb => List.mem_append_left _ hb) pc⟩
/-! ### slices -/
theorem slc_end {p : Pr} {x : D} {lo hi : Option Int} {ds : List D} {v : V} {vs : List V} {H : Hp} {Q : VK} (hp : ∀ d, prF p ds = some d → slcF x lo hi = some d) (hx : ∀ fr, VwL X.K fr H ds vs → Vw X.K fr H x v) (h : ∃ fr d, Dm fr H ∧ VwL X.K fr H ds vs ∧ prF p ds = some d ∧ Res X.K fr H d Q) : rSlc X.K v lo hi H Q := by
  obtain ⟨fr, d, dm, vw, e, q⟩ := h
  exact ⟨fr, x, d, dm, hx fr vw, hp d e, q⟩
theorem s_slc0 {a : E} {x : Expr} {p2 pos : Pos} (h : PE X x (WO Φ X.K a)) : PE X (.Subscript x (.Slice none none none p2) pos) (WE Φ X.K (.pr (.slc false false) [a])) := by
  refine pe_imp (pe_slice o_slc h po_none po_none) fun σ H Q q => ?_
  obtain ⟨fr, A, Γ, d, Γ', s, e, k⟩ := pr_end1 q
  refine ⟨fr, A, Γ, d, Γ', s, e, fun v H1 fr1 A1 B1 p1 pc1 => ?_⟩
  obtain ⟨fr2, ds, d2, dm, vw, e2, q2⟩ := k v H1 fr1 A1 B1 p1 pc1
  obtain ⟨d3, rfl, v3⟩ := vw.one
  exact ⟨fr2, d3, d2, dm, v3, e2, q2⟩
theorem OwL.rev {K : PySem.W.Frag} {fr : Addr → Prop} {H : Hp} : ∀ {ds : List D} {vs : List V}, OwL K fr H ds vs [] → OwL K fr H ds.reverse vs.reverse []
  | [], vs, h => by obtain ⟨rfl, _⟩ := h.nil_inv; exact OwL.nil
  | d :: ds, vs, h => by
    obtain ⟨w, us, B', C, rfl, h1, h2, e⟩ := h.cons_inv
    obtain ⟨rfl, rfl⟩ := List.append_eq_nil_iff.mp e.symm
    rw [List.reverse_cons, List.reverse_cons]
    have := (OwL.rev h2).app (OwL.one.mpr h1)
    simpa using this
theorem rev_cps (x : Str) (u : Tok) : PySem.Txt.sliceBy x none none (-1, u) = revS x := by
  have h := PyProof.Rows.step_rev_list x u
  have e : (Txt.sliceBy x none none (-1, u)).cps = x.cps.reverse := by
    apply Array.ext'
    rw [h, Array.toList_reverse]
    refine List.ext_getElem (by simp [Str.length]) fun i h1 h2 => ?_
    have hx : i < x.cps.size := by simpa [Str.length] using h1
    have hx2 : x.length - 1 - i < x.cps.size := by show x.cps.size - 1 - i < _; omega
    simp only [List.getElem_map, List.getElem_range, List.getElem_reverse, Array.getD, hx2, dif_pos]
    rfl
  show (⟨(Txt.sliceBy x none none (-1, u)).cps⟩ : Str) = _
  rw [e]; rfl
theorem sliceApplied_back {prog : Program} {w : World} {A : Around} {E : Value → Shared → Prop} {s : Shared} {sl : Addr} {n : Nat} {u : Tok} {Q : Int × Int × Nat → Shared → Prop} (hs : s.heap.IsSliceOf sl .none .none (.int (-1) u))
    (h : Q ((n : Int) - 1, -1, n) s) : wpAny (model prog w) A (Builtin.Slice.sliceApplied (.ref sl) (pure (n : Int))) Q E s := by
  obtain ⟨os, hos, hcs, hds⟩ := id hs
  unfold Builtin.Slice.sliceApplied Builtin.Slice.sliceFields
  refine wpAny_bind (wpAny_bind (wpAny_field hos hds (x := .none) rfl (wpAny_bind (wpAny_field hos hds (x := .none) rfl (wpAny_bind (wpAny_field hos hds (x := .int (-1) u) rfl (wpAny_pure ?_)))))))
  refine wpAny_bind (slicePart_int ?_)
  show wpAny _ _ (if ((-1 : Int) == 0) = true then _ else _) _ _ s
  rw [if_neg (by decide)]
  refine wpAny_bind (slicePart_none (wpAny_bind (slicePart_none (wpAny_bind (wpAny_pure ?_)))))
  show wpAny _ _ (match Builtin.Slice.sliceAdjust none none (-1) (n : Int) with | (lo, hi) => pure (lo, (-1 : Int), Builtin.Slice.slicePlaces lo hi (-1))) _ _ s
  have e1 : Builtin.Slice.sliceAdjust none none (-1) (n : Int) = ((n : Int) - 1, -1) := by
    unfold Builtin.Slice.sliceAdjust
    simp
  have e2 : Builtin.Slice.slicePlaces ((n : Int) - 1) (-1) (-1) = n := by
    unfold Builtin.Slice.slicePlaces
    rw [if_neg (by omega)]
    by_cases h0 : n = 0
    · subst h0; simp
    · rw [if_pos (by omega)]
      have : ((n : Int) - 1 - -1 - 1) / (- -1) = (n : Int) - 1 := by simp
      rw [this]
      omega
  rw [e1]
  show wpAny _ _ (pure ((n : Int) - 1, (-1 : Int), Builtin.Slice.slicePlaces ((n : Int) - 1) (-1) (-1))) _ _ s
  rw [e2]
  exact wpAny_pure h
theorem pick_back (xs : Array Value) : ((List.range xs.size).filterMap fun (m : Nat) => xs[((xs.size : Int) - 1 + (m : Int) * -1).toNat]?).toArray = xs.toList.reverse.toArray := by
  congr 1
  have e : (fun (m : Nat) => xs[((xs.size : Int) - 1 + (m : Int) * -1).toNat]?) = (fun x => xs[x]?) ∘ fun (m : Nat) => ((xs.size : Int) - 1 + (m : Int) * -1).toNat := rfl
  rw [e, ← List.filterMap_map]
  have e2 : (List.range xs.size).map (fun (m : Nat) => ((xs.size : Int) - 1 + (m : Int) * -1).toNat) = (List.range xs.size).reverse := by
    rw [← PySem.W.krv_range]
    exact List.map_congr_left fun m hm => by
      have := List.mem_range.mp hm
      omega
  rw [e2, List.filterMap_reverse, PySem.W.krv_all]
theorem getItem_tuple_back {prog : Program} {w : World} {A : Around} {E : Value → Shared → Prop} {s : Shared} {t sl : Addr} {items : Array Value} {u : Tok} {Q : Value → Shared → Prop} (ht : IsTup s.heap t items) (hs : s.heap.IsSliceOf sl .none .none (.int (-1) u))
    (h : Q (.ref s.heap.objs.size) { s with heap := s.heap.push { cls := .type "tuple", data := .seq items.toList.reverse.toArray } })
    (hsz : items.size ≤ sizeLine) : wpAny (model prog w) A (getItem (.ref t) (.ref sl)) Q E s := by
  have htake : sizeOk (.seq items.toList.reverse.toArray) := by
    show items.toList.reverse.toArray.size ≤ sizeLine
    rw [List.size_toArray, List.length_reverse, Array.length_toList]
    exact hsz
  obtain ⟨os, hos, hcs, hds⟩ := id hs
  have hTs : s.TypeIs (.ref sl) "slice" := ⟨os, hos, hcs⟩
  unfold getItem
  try with_reducible refine wpAny_holding ?_
  first | refine wpAny_bind (wpAny_pure ?_) | skip
  refine wpAny_bind (wpAny_sequenceKey ht.typeIs (by decide) ?_)
  refine wpAny_bind (wpAny_callSpecial?_slot (name := Str.ofString "__getitem__") ht.typeIs PyProof.Rows.slot_tuple_getitem
    (wpAny_call_entry PyProof.Rows.slot_tuple_getitem ht.typeIs entry_tuple_getitem ?_ (args_tuple_getitem _ _)))
  show wpAny _ _ (Builtin.Tuple.tupleItemsOf (.ref t) >>= _) _ _ s
  refine wpAny_bind (tupleItemsOf_ ht ?_)
  refine wpAny_bind (wpAny_typeOf hTs ?_)
  rw [if_pos (by decide)]
  refine wpAny_bind (sliceApplied_back hs ?_)
  have hno : ¬ ((((items.size : Int) - 1) == 0 && (-1 : Int) == 1 && items.size == items.size) = true) := by simp
  show wpAny _ _ (if (((items.size : Int) - 1) == 0 && (-1 : Int) == 1 && items.size == items.size) = true then _ else _) _ _ s
  rw [if_neg hno, pick_back]
  first
    | exact wpAny_bind (m := Builtin.Tuple.tupleExact _) (wpAny_newObj_type (wpAny_pure ⟨_, rfl, wpAny_pure h⟩) htake)
    | exact wpAny_bind (m := Builtin.Tuple.tupleExact _) (wpAny_newObj_type (wpAny_bind (wpAny_pure (wpAny_pure ⟨_, rfl, wpAny_pure h⟩))) htake)
    | exact wpAny_bind (wpAny_bind (m := Builtin.Tuple.tupleExact _) (wpAny_newObj_type (wpAny_pure (wpAny_pure ⟨_, rfl, wpAny_pure h⟩)) htake))
    | exact wpAny_bind (wpAny_bind (m := Builtin.Tuple.tupleExact _) (wpAny_newObj_type (wpAny_pure ⟨_, rfl, wpAny_pure h⟩) htake))
def tRevA (K : PySem.W.Frag) (te : TE) : TE := fun σ H Q => te σ H fun x H1 => (∃ a xs, x = .ref a ∧ SqL K H1 a xs ∧ ∀ p, H1 p = none → Q (.ref p) (upd H1 p (.lst xs.reverse))) ∨ (∃ z, x = .str z ∧ z.length ≤ sizeLine ∧ Q (.str (revS z)) H1) ∨ ∃ a xs, x = .ref a ∧ SqT K H1 a xs ∧ ∀ p, H1 p = none → Q (.ref p) (upd H1 p (.tup xs.reverse))
theorem pe_revA {e : Expr} {te : TE} {k : Nat} {p1 p2 p3 pos : Pos} (he : PE X e te) : PE X (.Subscript e (.Slice none none (some (.UnaryOp .USub (.Constant (.int 1) k p1) p2)) p3) pos) (tRevA X.K te) := by
  refine ⟨fun pins s σ H Q I h => ?_⟩
  refine Subscript_ (thn (he.run pins s σ H _ I h) fun v s1 ⟨x, H1, I1, r1, q1⟩ => ?_)
  have hst : PO X (some (.UnaryOp .USub (.Constant (.int 1) k p1) p2)) (tPart (tUn (rU fun i => .int (-i)) (tC (.int 1)))) := po_some (pe_un un_neg pe_int)
  refine wpAny_Slice (thn (po_none.run pins s1 σ H1 (fun o H2 => o = none ∧ H2 = H1) I1 ⟨rfl, rfl⟩) fun vl s2 ⟨l, H2, I2, pl, el, e2⟩ => ?_)
  subst el e2
  refine thn (po_none.run pins s2 σ H2 (fun o H3 => o = none ∧ H3 = H2) I2 ⟨rfl, rfl⟩) fun vu s3 ⟨u, H3, I3, pu, eu, e3⟩ => ?_
  subst eu e3
  refine thn (hst.run pins s3 σ H3 (fun o H4 => o = some (-1) ∧ H4 = H3) I3 ⟨1, rfl, -1, rfl, rfl, rfl⟩) fun vs s4 ⟨o, H4, I4, ps, eo, e4⟩ => ?_
  subst eo e4
  have I5 : Inv X pins σ H4 { s4 with heap := s4.heap.push { cls := .type "slice", data := .fields #[vl, vu, vs] } } := I4.kept (t' := s4.toks) fun b ob q => Heap.get?_push_of_some _ q
  rcases q1 with ⟨a, xs, ex, hx, q⟩ | ⟨z, ex, hz, q⟩ | ⟨a, xs, ex, hx, q⟩
  · subst ex
    cases r1
    obtain ⟨its, r, ht, hz⟩ := I5.list hx
    have hlen := r.length
    show wpAny (model X.prog X.w) X.A (subscriptTail e (.Slice none none (some (.UnaryOp .USub (.Constant (.int 1) k p1) p2)) p3) (.ref a) (.ref s4.heap.objs.size)) (EP X pins σ Q) X.xe { s4 with heap := s4.heap.push { cls := .type "slice", data := .fields #[vl, vu, vs] } }
    refine tail_any (ops := [.ref a, .ref s4.heap.objs.size]) ht.isList.typeIs (PySem.slot_list_getitem.lookup) ?_ (by with_unfolding_all rfl)
    refine wpAny_getItem_list_slice ht.isList (Heap.IsSliceOf.new _ vl vu vs) pl pu ps (by decide) ?_ (by rw [List.size_toArray]; omega)
    rw [PySem.W.krv_pick]
    refine ⟨.ref _, _, I5.laid (t' := s4.toks) (o := .lst xs.reverse) (fun b ob q => Heap.get?_push_of_some _ q) (Nat.le_refl _) ?_, rfl, q _ (I5.hok.fresh (Nat.le_refl _))⟩
    exact ⟨by rw [List.length_reverse]; exact hz, _, 0, r.reverse, Heap.get?_push_size _ rfl⟩
  · subst ex
    obtain ⟨t, rfl⟩ := r1
    show wpAny (model X.prog X.w) X.A (subscriptTail e (.Slice none none (some (.UnaryOp .USub (.Constant (.int 1) k p1) p2)) p3) (.str z t) (.ref s4.heap.objs.size)) (EP X pins σ Q) X.xe { s4 with heap := s4.heap.push { cls := .type "slice", data := .fields #[vl, vu, vs] } }
    refine tail_any (ops := [.str z t, .ref s4.heap.objs.size]) (typeIs_str _ _ _) (F.slot_str_getitem.lookup) ?_ (by with_unfolding_all rfl)
    obtain ⟨l, rfl, hl⟩ := IsPart.raw pl
    obtain ⟨u, rfl, hu⟩ := IsPart.raw pu
    obtain ⟨st, rfl, hs⟩ := IsPart.raw ps
    cases l with
    | some l => simp at hl
    | none =>
      cases u with
      | some u => simp at hu
      | none =>
        cases st with
        | none => simp at hs
        | some st =>
          obtain ⟨s1, tk⟩ := st
          obtain rfl : s1 = -1 := by simpa using hs
          refine wpAny_getItem_str_slice (l := none) (u := none) (st := some (-1, tk)) ⟨_, Heap.get?_push_size _ rfl, rfl, rfl⟩ rfl ?_
          have hrev := rev_cps z tk
          unfold Txt.sliceBy at hrev
          have hf : ¬ ((((some ((-1 : Int), tk)).map (·.1)).getD 1 == 1 && (slicePicked z none none (some (-1, tk))).length == z.length) = true) := by
            simp
          rw [if_neg hf] at hrev
          unfold sliceMade
          rw [if_neg hf, hrev]
          exact ⟨by show (z.cps.reverse).size ≤ _; rw [Array.size_reverse]; exact hz, .str _, H4, I5.tok _, ⟨_, rfl⟩, q⟩
  · subst ex
    cases r1
    obtain ⟨its, r, ht, hz⟩ := I5.tuple hx
    have hlen := r.length
    show wpAny (model X.prog X.w) X.A (subscriptTail e (.Slice none none (some (.UnaryOp .USub (.Constant (.int 1) k p1) p2)) p3) (.ref a) (.ref s4.heap.objs.size)) (EP X pins σ Q) X.xe { s4 with heap := s4.heap.push { cls := .type "slice", data := .fields #[vl, vu, vs] } }
    refine tail_any (ops := [.ref a, .ref s4.heap.objs.size]) ht.typeIs (PyProof.Rows.slot_tuple_getitem.lookup) ?_ (by with_unfolding_all rfl)
    cases pl
    cases pu
    cases ps
    refine getItem_tuple_back ht (Heap.IsSliceOf.new _ _ _ _) ?_ (by rw [List.size_toArray]; omega)
    refine ⟨.ref _, _, I5.laid (t' := s4.toks) (o := .tup xs.reverse) (fun b ob q => Heap.get?_push_of_some _ q) (Nat.le_refl _) ?_, rfl, q _ (I5.hok.fresh (Nat.le_refl _))⟩
    exact ⟨by rw [List.length_reverse]; exact hz, _, r.reverse, IsTup.new _ _⟩
theorem s_rev {a : E} {x : Expr} {k : Nat} {p1 p2 p3 pos : Pos} (h : PE X x (WO Φ X.K a)) : PE X (.Subscript x (.Slice none none (some (.UnaryOp .USub (.Constant (.int 1) k p1) p2)) p3) pos) (WE Φ X.K (.pr .rev [a])) := by
  refine pe_imp (pe_revA h) fun σ H Q q => ?_
  obtain ⟨fr, A, Γ, d, Γ', s, e, k⟩ := pr_end1 q
  refine ⟨fr, A, Γ, d, Γ', s, e, fun v H1 fr1 A1 B1 p1 pc1 => ?_⟩
  obtain ⟨fr2, ds, d2, dm, vw, e2, q2⟩ := k v H1 fr1 A1 B1 p1 pc1
  obtain ⟨d3, rfl, v3⟩ := vw.one
  match d3, e2, v3 with
  | .lst o zs, e2, v3 =>
    simp only [prF] at e2
    split at e2
    · rename_i hu
      cases e2
      obtain ⟨b, vs, B, rfl, hp, ow⟩ := v3.lst
      exact .inl ⟨b, vs, rfl, .of hp, Res.lst dm q2 (ow.noB hu).rev⟩
    · cases e2
  | .str z, e2, v3 =>
    simp only [prF] at e2
    split at e2
    · rename_i hu
      cases e2
      obtain rfl := v3.str
      exact .inr (.inl ⟨z, rfl, of_decide_eq_true hu, Res.str dm q2⟩)
    · cases e2
  | .tup zs, e2, v3 =>
    simp only [prF] at e2
    split at e2
    · rename_i hu
      cases e2
      obtain ⟨b, vs, B, rfl, hp, ow⟩ := v3.tup
      exact .inr (.inr ⟨b, vs, rfl, hp.sq, Res.tup dm q2 (ow.noB hu).rev⟩)
    · cases e2
theorem s_id {a : E} {x : Expr} (h : PE X x (WO Φ X.K a)) : PE X x (WE Φ X.K (.pr .id1 [a])) := by
  refine pe_imp h fun σ H Q q => wo_imp (pr_end1 q) fun v H' z => ?_
  obtain ⟨fr, ds, d, dm, vw, e, q⟩ := z
  obtain ⟨d3, rfl, v3⟩ := vw.one
  simp only [prF] at e
  split at e
  · rename_i hu
    cases e
    obtain ⟨B, ow⟩ := v3
    have := ow.un _ _ _ hu
    subst this
    exact Res.same dm q ow
  · cases e
theorem s_fs1 {a : E} {x : Expr} {p1 p2 : Pos} (h : PE X x (WO Φ X.K a)) : PE X (.JoinedStr [.FormattedValue x (-1) none p1] p2) (WE Φ X.K (.pr .fs1 [a])) := by
  refine pe_imp (pe_joined1 (pe_fmt h)) fun σ H Q q => ?_
  refine wo_imp (pr_end1 q) fun v H' z => ?_
  obtain ⟨fr, ds, d, dm, vw, e, q⟩ := z
  obtain ⟨d3, rfl, v3⟩ := vw.one
  match d3, e with
  | .int i, e =>
    simp only [prF] at e
    split at e
    · rename_i hz
      cases e
      obtain rfl := v3.int
      exact .inr ⟨i, rfl, hz, Res.str dm q⟩
    · cases e
theorem pr_endX {p : Pr} {es : List E} {σ : St} {H : Hp} {Q : VK} (h : WE Φ X.K (.pr p es) σ H Q) : ∃ fr A Γ ds Γ' r, S X.K fr A Γ σ H ∧ evOs Φ es Γ = some (ds, Γ') ∧ prF p ds = some r ∧
    ∀ vs H' fr' A' B, Vp X.K fr A H Γ' σ ds vs fr' A' B H' → (purL es = true → Sm' H H' ∧ A' = A) → rP X.K p vs H' Q := by
  obtain ⟨fr, A, Γ, d, Γ', s, e1, k⟩ := h
  simp only [ev, fin] at e1
  obtain ⟨⟨ds, Γ1⟩, e2, e3⟩ := Option.bind_eq_some_iff.mp e1
  obtain ⟨r, e4, e5⟩ := Option.map_eq_some_iff.mp e3
  cases e5
  refine ⟨fr, A, Γ, ds, _, d, s, e2, e4, fun vs H1 fr1 A1 B1 p1 pc1 => ⟨fr1, ds, d, p1.s.dm, ⟨B1, p1.o⟩, e4, fun v H' fr' B g o => ?_⟩⟩
  have p2 := Po.grow p1.s g o
  refine k v H' fr' A1 B ⟨p2.s, p2.o, p2.nd, p2.dj, p1.ex.trans p2.ex⟩ fun hp => ?_
  obtain ⟨z1, z2⟩ := pc1 hp
  exact ⟨z1.trans g.same, z2⟩
theorem pr_end3 {a b d : E} {p : Pr} {σ : St} {H : Hp} {Q : VK} (hr : RU Φ a) (hr2 : RU Φ b) (hP : ∀ d1 d2 d3 r, prF p [d1, d2, d3] = some r → ∃ i, d2 = .int i) (h : WE Φ X.K (.pr p [a, b, d]) σ H Q) : WO Φ X.K a σ H fun v H1 => WO Φ X.K b σ H1 fun w H2 => (∃ i, w = .int i) ∧ WO Φ X.K d σ H2 fun u H3 => rP X.K p [v, w, u] H3 Q := by
  obtain ⟨fr, A, Γ, ds, Γ', r, s, e1, er, k⟩ := pr_endX h
  simp only [evOs] at e1
  obtain ⟨⟨d1, Γ1⟩, e2, e3⟩ := Option.bind_eq_some_iff.mp e1
  simp only [purL, Bool.or_true, Bool.and_true, ite_true] at e3
  split at e3
  · rename_i hp
    obtain ⟨⟨ds', Γ2⟩, e4, e5⟩ := Option.bind_eq_some_iff.mp e3
    obtain ⟨⟨d2, Γ3⟩, e6, e7⟩ := Option.bind_eq_some_iff.mp e4
    simp only at e7
    split at e7
    · rename_i hp2
      obtain ⟨⟨ds3, Γ4⟩, e8, e9⟩ := Option.bind_eq_some_iff.mp e7
      obtain ⟨⟨d3, Γ5⟩, e10, e11⟩ := Option.bind_eq_some_iff.mp e8
      cases e11
      cases e9
      cases e5
      refine ⟨fr, A, Γ, d1, Γ1, s, e2, fun v H1 fr1 A1 B1 p1 pc1 => ⟨fr1, A1, Γ1, d2, Γ3, p1.s, e6, fun w H2 fr2 A2 B2 p2 pc2 => ⟨?_, fr2, A2, Γ3, d3, _, p2.s, e10, fun u H3 fr3 A3 B3 p3 pc3 => ?_⟩⟩⟩
      · obtain ⟨i, rfl⟩ := hP _ _ _ _ er
        exact ⟨i, (show Vw X.K fr2 H2 (.int i) w from ⟨_, OwL.one.mp p2.o⟩).int⟩
      have hh2 : un d2 = true ∨ (Sm' H2 H3 ∧ A3 = A2) := by
        simp only [Bool.or_eq_true] at hp2
        rcases hp2 with z | z
        · exact .inl (hr2 (by simpa using z) Γ1 d2 Γ3 e6)
        · exact .inr (pc3 z)
      obtain ⟨B, p23⟩ := p2.seq p3 hh2
      have hh : un d1 = true ∨ (Sm' H1 H3 ∧ A3 = A1) := by
        simp only [Bool.or_eq_true, Bool.and_eq_true] at hp
        rcases hp with z | z
        · exact .inl (hr (by simpa using z) Γ d1 Γ1 e2)
        · obtain ⟨z1, z2⟩ := pc2 z.1
          obtain ⟨z3, z4⟩ := pc3 z.2
          exact .inr ⟨z1.trans z3, z4.trans z2⟩
      obtain ⟨B', pp⟩ := p1.seq p23 hh
      refine k [v, w, u] H3 fr3 A3 B' pp fun hp => ?_
      simp only [purL, Bool.and_true, Bool.and_eq_true] at hp
      obtain ⟨z1, z2⟩ := pc1 hp.1
      obtain ⟨z3, z4⟩ := pc2 hp.2.1
      obtain ⟨z5, z6⟩ := pc3 hp.2.2
      exact ⟨(z1.trans z3).trans z5, z6.trans (z4.trans z2)⟩
    · cases e7
  · cases e3
theorem s_slc1 {a b : E} {x y : Expr} {p2 pos : Pos} (hr : RU Φ a) (h : PE X x (WO Φ X.K a)) (h2 : PE X y (WO Φ X.K b)) : PE X (.Subscript x (.Slice (some y) none none p2) pos) (WE Φ X.K (.pr (.slc true false) [a, b])) := by
  refine pe_imp (pe_slice o_slc h (po_some h2) po_none) fun σ H Q q => ?_
  obtain ⟨fr, A, Γ, d, Γ', s, e, k⟩ := pr_end2 hr q
  refine ⟨fr, A, Γ, d, Γ', s, e, fun v H1 fr1 A1 B1 p1 pc1 => ?_⟩
  obtain ⟨fr2, A2, Γ2, d2, Γ3, s2, e2, k2⟩ := k v H1 fr1 A1 B1 p1 pc1
  refine ⟨fr2, A2, Γ2, d2, Γ3, s2, e2, fun w H2 fr2 A2 B2 p2 pc2 => ?_⟩
  obtain ⟨fr3, ds, d3, dm, vw, e3, q3⟩ := k2 w H2 fr2 A2 B2 p2 pc2
  obtain ⟨a1, a2, rfl, v1, v2⟩ := vw.two
  match a2, e3 with
  | .int i, e3 =>
    obtain rfl := v2.int
    exact ⟨i, rfl, fr3, a1, d3, dm, v1, e3, q3⟩
theorem s_slc2 {a b : E} {x y : Expr} {p2 pos : Pos} (hr : RU Φ a) (h : PE X x (WO Φ X.K a)) (h2 : PE X y (WO Φ X.K b)) : PE X (.Subscript x (.Slice none (some y) none p2) pos) (WE Φ X.K (.pr (.slc false true) [a, b])) := by
  refine pe_imp (pe_slice o_slc h po_none (po_some h2)) fun σ H Q q => ?_
  obtain ⟨fr, A, Γ, d, Γ', s, e, k⟩ := pr_end2 hr q
  refine ⟨fr, A, Γ, d, Γ', s, e, fun v H1 fr1 A1 B1 p1 pc1 => ?_⟩
  obtain ⟨fr2, A2, Γ2, d2, Γ3, s2, e2, k2⟩ := k v H1 fr1 A1 B1 p1 pc1
  refine ⟨fr2, A2, Γ2, d2, Γ3, s2, e2, fun w H2 fr2 A2 B2 p2 pc2 => ?_⟩
  obtain ⟨fr3, ds, d3, dm, vw, e3, q3⟩ := k2 w H2 fr2 A2 B2 p2 pc2
  obtain ⟨a1, a2, rfl, v1, v2⟩ := vw.two
  match a2, e3 with
  | .int i, e3 =>
    obtain rfl := v2.int
    exact ⟨i, rfl, fr3, a1, d3, dm, v1, e3, q3⟩
theorem VwL.three {K : PySem.W.Frag} {fr : Addr → Prop} {H : Hp} {ds : List D} {v w u : V} (h : VwL K fr H ds [v, w, u]) : ∃ d e f, ds = [d, e, f] ∧ Vw K fr H d v ∧ Vw K fr H e w ∧ Vw K fr H f u := by
  obtain ⟨B, h⟩ := h
  have hl := h.len
  match ds, hl with
  | [d, e, f], _ =>
    obtain ⟨a1, a2, a3, e1, h1, h2, h3⟩ := VwL.three' (K := K) (fr := fr) (H := H) (a := d) (b := e) (c := f) (vs := [v, w, u]) ⟨B, h⟩
    cases e1
    exact ⟨d, e, f, rfl, h1, h2, h3⟩
theorem s_slc3 {a b d : E} {x y z : Expr} {p2 pos : Pos} (hr : RU Φ a) (hr2 : RU Φ b) (h : PE X x (WO Φ X.K a)) (h2 : PE X y (WO Φ X.K b)) (h3 : PE X z (WO Φ X.K d)) : PE X (.Subscript x (.Slice (some y) (some z) none p2) pos) (WE Φ X.K (.pr (.slc true true) [a, b, d])) := by
  refine pe_imp (pe_slice o_slc h (po_some h2) (po_some h3)) fun σ H Q q => ?_
  have hP : ∀ d1 d2 d3 r, prF (.slc true true) [d1, d2, d3] = some r → ∃ i, d2 = .int i := fun d1 d2 d3 r e => by
    cases d2 <;> first | exact ⟨_, rfl⟩ | cases e
  obtain ⟨fr, A, Γ, d0, Γ', s, e, k⟩ := pr_end3 hr hr2 hP q
  refine ⟨fr, A, Γ, d0, Γ', s, e, fun v H1 fr1 A1 B1 p1 pc1 => ?_⟩
  obtain ⟨fr2, A2, Γ2, d2, Γ3, s2, e2, k2⟩ := k v H1 fr1 A1 B1 p1 pc1
  refine ⟨fr2, A2, Γ2, d2, Γ3, s2, e2, fun w H2 fr2 A2 B2 p2 pc2 => ?_⟩
  obtain ⟨⟨i, rfl⟩, fr3, A3, Γ4, d3, Γ5, s3, e3, k3⟩ := k2 w H2 fr2 A2 B2 p2 pc2
  refine ⟨i, rfl, fr3, A3, Γ4, d3, Γ5, s3, e3, fun u H3 fr3 A3 B3 p3 pc3 => ?_⟩
  obtain ⟨fr4, ds, d4, dm, vw, e4, q4⟩ := k3 u H3 fr3 A3 B3 p3 pc3
  obtain ⟨a1, a2, a3, rfl, v1, v2, v3⟩ := vw.three
  match a2, a3, e4 with
  | .int i', .int j, e4 =>
    have := v2.int
    cases this
    obtain rfl := v3.int
    exact ⟨j, rfl, fr4, a1, d4, dm, v1, e4, q4⟩
theorem s_fj {t : Str} {a b : E} {x y : Expr} {p1 p2 p3 pos : Pos} {kk : Nat} (hr : RU Φ a) (h1 : PE X x (WO Φ X.K a)) (h2 : PE X y (WO Φ X.K b)) : PE X (.JoinedStr [.FormattedValue x (-1) none p1, .Constant (.str t) kk p2, .FormattedValue y (-1) none p3] pos) (WE Φ X.K (.pr (.fj t) [a, b])) := by
  refine pe_imp (pe_joined (.cons (pe_fmt h1) (.cons pe_str (.cons (pe_fmt h2) .nil)))) fun σ H Q q => ?_
  obtain ⟨fr, A, Γ, ds, Γ', r, s, e1, e9, k⟩ := pr_endX q
  simp only [evOs] at e1
  obtain ⟨⟨d, Γ1⟩, e2, e3⟩ := Option.bind_eq_some_iff.mp e1
  simp only [purL, Bool.or_true, Bool.and_true, ite_true] at e3
  split at e3
  · rename_i hp
    obtain ⟨⟨ds', Γ2⟩, e4, e5⟩ := Option.bind_eq_some_iff.mp e3
    obtain ⟨⟨d2, Γ3⟩, e6, e7⟩ := Option.bind_eq_some_iff.mp e4
    cases e7
    cases e5
    match d, d2, e9 with
    | .int i, .int j, e9 =>
      have e9' : fjF t i j = some r := e9
      unfold fjF at e9'
      split at e9'
      · rename_i hz
        have hz0 := hz
        simp only [Bool.and_eq_true, decide_eq_true_eq] at hz
        obtain ⟨⟨⟨⟨z1, z2⟩, z3⟩, z4⟩, z5⟩ := hz
        refine ⟨fr, A, Γ, _, Γ1, s, e2, fun v H1 fr1 A1 B1 p1 pc1 => ?_⟩
        have hv := OwL.one.mp p1.o
        unfold Ow at hv
        obtain ⟨rfl, rfl⟩ := hv
        refine .inr ⟨i, rfl, z1, intT i, rfl, of_decide_eq_true z3, t, rfl, of_decide_eq_true z4, fr1, A1, Γ1, _, _, p1.s, e6, fun w H2 fr2 A2 B2 p2 pc2 => ?_⟩
        have hw := OwL.one.mp p2.o
        unfold Ow at hw
        obtain ⟨rfl, rfl⟩ := hw
        refine .inr ⟨j, rfl, z2, intT j, rfl, of_decide_eq_true z5, ?_⟩
        obtain ⟨B, p⟩ := p1.seq p2 (.inl rfl)
        have hh := k _ H2 fr2 A2 B p fun hp => by
          simp only [purL, Bool.and_true, Bool.and_eq_true] at hp
          obtain ⟨z1, z2⟩ := pc1 hp.1
          obtain ⟨z3, z4⟩ := pc2 hp.2
          exact ⟨z1.trans z3, z4.trans z2⟩
        obtain ⟨fr', ds, d, dm, vw, e, q⟩ := hh
        match ds, vw, e with
        | [.int i', .int j'], vw, e =>
          obtain ⟨v, w, ev, v1, v2⟩ := vw.two'
          cases ev
          cases v1.int
          cases v2.int
          have e' : fjF t i j = some d := e
          unfold fjF at e'
          rw [if_pos hz0] at e'
          cases e'
          exact Res.str dm q
      · cases e9'
  · cases e3
end
end Sk

namespace Sk
open PySem PySem.Spec PyProof.Rows L2
/-- the source still stands: what is frozen; where it is looked at, what the slots own too -/
structure Zk (fz : Bool) (fr0 : Addr → Prop) (A0 : List Addr) (H0 : Hp) (fr : Addr → Prop) (H : Hp) : Prop where
  ff : ∀ b, fr0 b → fr b
  k1 : ∀ b x, fr0 b → H0 b = some x → H b = some x
  k2 : fz = false → ∀ b x, b ∈ A0 → H0 b = some x → H b = some x
theorem Zk.refl {fz : Bool} {fr : Addr → Prop} {A : List Addr} {H : Hp} : Zk fz fr A H fr H := ⟨fun _ h => h, fun _ _ _ h => h, fun _ _ _ _ h => h⟩
/-- the iterator J tells the items ds -/
def ItJ (K : PySem.W.Frag) (fz : Bool) (fr0 : Addr → Prop) (A0 : List Addr) (H0 : Hp) (J : It) (ds : List D) : Prop := ∀ i fr H, Zk fz fr0 A0 H0 fr H → Dm fr H →
  (ds.length ≤ i → J.stop i H) ∧ ∀ d, ds[i]? = some d → J.go i H ∧ ∀ x H', J.yld i H x H' → ∃ fr', Grow fr H fr' [] H' ∧ Ow K fr' H' d x []
def WI (Φ : Tab) (K : PySem.W.Frag) (k : Ik) (src : List E) : TI := fun σ H R => ∃ fr A Γ ds Γ' items, S K fr A Γ σ H ∧ evOs Φ src Γ = some (ds, Γ') ∧ itF k ds = some items ∧
  ∀ J H' fr' A', S K fr' A' Γ' σ H' → Ext A fr H A' fr' H' → (purL src = true → Sm' H H' ∧ A' = A) → ItJ K (unL ds) fr' A' H' J items → R J H'
theorem pi_imp {X : Cx} {tg x : Expr} {t t' : TI} (h : PI X tg x t) (g : ∀ σ H R, t' σ H R → t σ H R) : PI X tg x t' := ⟨fun pins s σ H R I q => h.run pins s σ H R I (g σ H R q)⟩
section
variable {K : PySem.W.Frag} {fr fr0 : Addr → Prop} {A0 : List Addr} {H H0 : Hp}
theorem unL_at : ∀ {ds : List D} {j : Nat} {d : D}, unL ds = true → ds[j]? = some d → un d = true
  | [], j, d, _, e => by simp at e
  | x :: r, j, d, u, e => by
    unfold unL at u
    rw [Bool.and_eq_true] at u
    cases j with
    | zero => rw [List.getElem?_cons_zero] at e; cases e; exact u.1
    | succ j => rw [List.getElem?_cons_succ] at e; exact unL_at u.2 e
/-- what stands in a walked list, later -/
theorem Zk.owl {fz : Bool} {ds : List D} {vs : List V} (z : Zk fz fr0 A0 H0 fr H) (o : OwL K fr0 H0 ds vs []) : OwL K fr H ds vs [] := by
  refine o.mono z.ff _ _ _ fun b x hb e => ?_
  rcases hb with hb | hb
  · exact z.k1 b x hb e
  · cases hb
/-- a list that is walked, later -/
theorem Zk.at {fz o : Bool} {ds : List D} {a : Addr} {vs : List V} {B C : List Addr} (z : Zk fz fr0 A0 H0 fr H) (hf : fz = true → o = false) (ha : H0 a = some (.lst vs)) (h0 : o = false → fr0 a ∧ C = [] ∧ B = []) (h1 : o = true → B = a :: C) (hb : ∀ b ∈ B, b ∈ A0) : H a = some (.lst vs) := by
  cases o with
  | false => exact z.k1 a _ (h0 rfl).1 ha
  | true =>
    cases fz with
    | true => cases hf rfl
    | false => exact z.k2 rfl a _ (hb a (by rw [h1 rfl]; exact List.mem_cons_self)) ha
theorem itl_list {fz o : Bool} {ds : List D} {a : Addr} {vs : List V} {B : List Addr} (h : Ow K fr0 H0 (.lst o ds) (.ref a) B) (u : unL ds = true) (hf : fz = true → o = false) (hb : ∀ b ∈ B, b ∈ A0) : ItJ K fz fr0 A0 H0 (Itl K a) ds := by
  unfold Ow at h
  obtain ⟨a', vs, C, e, ha, ho, h0, h1⟩ := h
  cases e
  have ho := ho.noB u
  intro i fr H z dm
  have hs : SqL K H a vs := by
    exact .of (z.at (ds := ds) hf ha h0 h1 hb)
  have hl := ho.len
  refine ⟨fun hi => ⟨vs, hs, by omega⟩, fun d hd => ?_⟩
  obtain ⟨v, B', g1, g2, g3⟩ := (z.owl ho).at hd
  have eB : B' = [] := g2.un _ _ _ (unL_at u hd)
  subst eB
  refine ⟨⟨vs, v, hs, g1⟩, fun x H' y => ?_⟩
  obtain ⟨e, y⟩ := y
  subst e
  have := y vs hs
  rw [g1] at this
  cases this
  exact ⟨fr, Grow.refl dm, g2⟩
theorem itl_tup {fz : Bool} {ds : List D} {a : Addr} {B : List Addr} (h : Ow K fr0 H0 (.tup ds) (.ref a) B) (u : unL ds = true) : ItJ K fz fr0 A0 H0 (Itt K a) ds := by
  unfold Ow at h
  obtain ⟨a', vs, e, ha, ho⟩ := h
  cases e
  have ho := ho.noB u
  intro i fr H z dm
  have hs : SqT K H a vs := by
    refine (ha.mono (fr' := fr) (H' := H) z.ff fun b x hb e => ?_).sq
    exact z.k1 b x hb e
  have hl := ho.len
  refine ⟨fun hi => ⟨vs, hs, by omega⟩, fun d hd => ?_⟩
  obtain ⟨v, B', g1, g2, g3⟩ := (z.owl ho).at hd
  have eB : B' = [] := g2.un _ _ _ (unL_at u hd)
  subst eB
  refine ⟨⟨vs, v, hs, g1⟩, fun x H' y => ?_⟩
  obtain ⟨e, y⟩ := y
  subst e
  have := y vs hs
  rw [g1] at this
  cases this
  exact ⟨fr, Grow.refl dm, g2⟩
theorem itl_str {fz : Bool} {z : Str} : ItJ K fz fr0 A0 H0 (Its z) (z.cps.toList.map fun c => D.str ⟨#[c]⟩) := by
  intro i fr H zk dm
  refine ⟨fun hi => by
    rw [List.length_map, Array.length_toList] at hi
    exact hi, fun d hd => ?_⟩
  rw [List.getElem?_map] at hd
  obtain ⟨n, hn, rfl⟩ := Option.map_eq_some_iff.mp hd
  rw [Array.getElem?_toList] at hn
  refine ⟨(Array.getElem?_eq_some_iff.mp hn).1, fun x H' y => ?_⟩
  obtain ⟨e, c, hc, rfl⟩ := y
  subst e
  rw [hn] at hc
  cases hc
  exact ⟨fr, Grow.refl dm, by unfold Ow; exact ⟨rfl, rfl⟩⟩
theorem itl_scr {fz : Bool} {ns : List Int} {a : Addr} (h : ScrAt K fr0 H0 a (ns.map V.int)) : ItJ K fz fr0 A0 H0 (Itl K a) (ns.map D.int) := by
  intro i fr H z dm
  have hs : SqL K H a (ns.map V.int) := by
    refine (h.mono (fr' := fr) (H' := H) z.ff fun b x hb e => ?_).sq
    exact z.k1 b x hb e
  refine ⟨fun hi => ⟨_, hs, by rw [List.length_map] at hi ⊢; exact hi⟩, fun d hd => ?_⟩
  rw [List.getElem?_map] at hd
  obtain ⟨n, hn, rfl⟩ := Option.map_eq_some_iff.mp hd
  have hv : (ns.map V.int)[i]? = some (.int n) := by rw [List.getElem?_map, hn]; rfl
  refine ⟨⟨_, _, hs, hv⟩, fun x H' y => ?_⟩
  obtain ⟨e, y⟩ := y
  subst e
  have := y _ hs
  rw [hv] at this
  cases this
  exact ⟨fr, Grow.refl dm, by unfold Ow; exact ⟨rfl, rfl⟩⟩
theorem rangeL_at : ∀ {lo : Int} {n i : Nat}, i < n → (rangeL lo n)[i]? = some (.int (lo + i))
  | lo, 0, i, h => by omega
  | lo, n + 1, 0, h => by unfold rangeL; simp
  | lo, n + 1, i + 1, h => by
    unfold rangeL
    rw [List.getElem?_cons_succ, rangeL_at (by omega)]
    congr 2
    omega
theorem itl_rng {fz : Bool} {lo : Int} {n : Nat} : ItJ K fz fr0 A0 H0 (Itr lo n) (rangeL lo n) := by
  intro i fr H z dm
  refine ⟨fun hi => by rw [rangeL_len] at hi; exact hi, fun d hd => ?_⟩
  have hi : i < n := by
    have := (List.getElem?_eq_some_iff.mp hd).1
    rw [rangeL_len] at this; exact this
  rw [rangeL_at hi] at hd
  cases hd
  refine ⟨hi, fun x H' y => ?_⟩
  obtain ⟨e, y⟩ := y
  subst e y
  exact ⟨fr, Grow.refl dm, by unfold Ow; exact ⟨rfl, rfl⟩⟩
theorem itl_rngC {fz : Bool} {lo c : Int} {n : Nat} : ItJ K fz fr0 A0 H0 (Itc lo c n) (rangeC lo c n) := by
  intro i fr H z dm
  have hl : (rangeC lo c n).length = n := by simp [rangeC]
  refine ⟨fun hi => by rw [hl] at hi; exact hi, fun d hd => ?_⟩
  have hi : i < n := by
    have := (List.getElem?_eq_some_iff.mp hd).1
    rw [hl] at this; exact this
  have e0 : (rangeC lo c n)[i]? = some (.int (lo + (i : Int) * c)) := by simp [rangeC, hi]
  rw [e0] at hd
  cases hd
  refine ⟨hi, fun x H' y => ?_⟩
  obtain ⟨e, y⟩ := y
  subst e y
  exact ⟨fr, Grow.refl dm, by unfold Ow; exact ⟨rfl, rfl⟩⟩
theorem enumL_at : ∀ {n : Nat} {ds : List D} {i : Nat}, (enumL n ds)[i]? = (ds[i]?).map fun d => .tup [.int ((n + i : Nat) : Int), d]
  | n, [], i => by simp [enumL]
  | n, d :: ds, 0 => by simp [enumL]
  | n, d :: ds, i + 1 => by
    unfold enumL
    rw [List.getElem?_cons_succ, List.getElem?_cons_succ, enumL_at]
    congr 1
    funext d
    rw [show n + 1 + i = n + (i + 1) by omega]
theorem enumL_len : ∀ {n : Nat} {ds : List D}, (enumL n ds).length = ds.length
  | n, [] => rfl
  | n, d :: ds => by unfold enumL; rw [List.length_cons, List.length_cons, enumL_len]
theorem itl_enum {fz o : Bool} {ds : List D} {a : Addr} {B : List Addr} (h : Ow K fr0 H0 (.lst o ds) (.ref a) B) (u : unL ds = true) (hf : fz = true → o = false) (hb : ∀ b ∈ B, b ∈ A0) : ItJ K fz fr0 A0 H0 (Ite K a) (enumL 0 ds) := by
  unfold Ow at h
  obtain ⟨a', vs, C, e, ha, ho, h0, h1⟩ := h
  cases e
  have ho := ho.noB u
  intro i fr H z dm
  have hs : SqL K H a vs := by
    exact .of (z.at (ds := ds) hf ha h0 h1 hb)
  have hl := ho.len
  refine ⟨fun hi => ⟨vs, hs, by rw [enumL_len] at hi; omega⟩, fun d hd => ?_⟩
  rw [enumL_at] at hd
  obtain ⟨d0, hd0, rfl⟩ := Option.map_eq_some_iff.mp hd
  obtain ⟨v, B', g1, g2, g3⟩ := (z.owl ho).at hd0
  have eB : B' = [] := g2.un _ _ _ (unL_at u hd0)
  subst eB
  refine ⟨⟨vs, v, hs, g1⟩, fun x H' y => ?_⟩
  obtain ⟨T, w, rfl, hT, rfl, y⟩ := y
  have := y vs hs
  rw [g1] at this
  cases this
  refine ⟨fun b => fr b ∨ b = T, Grow.newT dm hT, ?_⟩
  have gg : Grow fr H (fun b => fr b ∨ b = T) [] (upd H T (.tup [.int (i : Nat), v])) := Grow.newT dm hT
  unfold Ow
  refine ⟨T, _, rfl, .inl ⟨.inr rfl, upd_same⟩, ?_⟩
  rw [Nat.zero_add]
  exact OwL.cons (B := []) (C := []) (by unfold Ow; exact ⟨rfl, rfl⟩) (OwL.one.mpr (g2.grow gg))
/-! enumerate of a tuple -/
section
open PySem
theorem meets_enum1 {v : Value} {o : Obj} {H : Heap → Prop} (B : Begins v o H) :
    Meets (Builtin.«enumerate.__new__» ⟨[.type "enumerate", v], []⟩) (fun _ R s => H s.heap ∧
      R (.ok (.ret (.ref (s.heap.push o).objs.size))) { s with heap := (s.heap.push o).push { cls := .type "enumerate", data := .fields #[.none, .bool false, .ref s.heap.objs.size, rawInt 0, .none, .none] } }) :=
  .of_wp fun prog w A R s h => by
    obtain ⟨hp, g, d, tk, os⟩ := s; obtain ⟨h1, h⟩ := h
    have hsub := sub_enumerate
    have q1 : ∀ {A' : Around} {E : Value → Shared → Prop} {Q : Value → Shared → Prop}, Q (.ref hp.objs.size) ⟨hp.push o, g, d, tk, os⟩ → wpAny (model prog w) A' (pyIter v) Q E ⟨hp, g, d, tk, os⟩ :=
      fun q => B.iter prog w _ _ ⟨hp, g, d, tk, os⟩ _ h1 q
    wp_walk using q1
    refine wpAny_stack_any fun st => wpAny_pure ?_
    split
    · rename_i c _ _ _ _ _
      cases (c == Value.type "enumerate")
      · wp_walk using q1
        exact ⟨_, rfl, h⟩
      · wp_walk using q1
        exact ⟨_, rfl, h⟩
    · wp_walk using q1
      exact ⟨_, rfl, h⟩
theorem enum_begins1 {prog : Program} {w : World} {A : Around} {E : Value → Shared → Prop} {s : Shared} {v : Value} {o : Obj} {H : Heap → Prop} {Q : Value → Shared → Prop} (B : Begins v o H) (h1 : H s.heap)
    (h : ∀ h', IsEnum h' (s.heap.objs.size + 1) s.heap.objs.size 0 .none → h'.get? s.heap.objs.size = some o → h'.objs.size = s.heap.objs.size + 2 →
      (∀ b o, s.heap.get? b = some o → h'.get? b = some o) → Q (.ref (s.heap.objs.size + 1)) { s with heap := h' }) :
    wpAny (model prog w) A (PySem.call (.type "enumerate") [v]) Q E s := by
  refine callType_new F.called_enumerate (by decide) (F.typeCall_enumerate_1 _) (F.newCall_enumerate_1 _) (fun obj => F.args_object_init_2 obj _) F.entry_enumerate_new
    (meets_enum1 B) ⟨h1, ?_⟩
  have hz : (s.heap.push o).objs.size = s.heap.objs.size + 1 := Heap.size_push ..
  show _ ∧ _
  rw [hz]
  have he : IsEnum ((s.heap.push o).push { cls := .type "enumerate", data := .fields #[.none, .bool false, .ref s.heap.objs.size, rawInt 0, .none, .none] }) (s.heap.objs.size + 1) s.heap.objs.size 0 .none := by
    have := Heap.get?_push_size (s.heap.push o) (o := { cls := .type "enumerate", data := .fields #[.none, .bool false, .ref s.heap.objs.size, rawInt 0, .none, .none] }) rfl
    rw [hz] at this; exact this
  refine ⟨⟨_, he, rfl⟩, h _ he (Heap.get?_push_of_some _ (Heap.get?_push_size _ B.free)) (by rw [Heap.size_push, hz]) fun b o x => Heap.get?_push_of_some _ (Heap.get?_push_of_some _ x)⟩
theorem enum_endT {prog : Program} {w : World} {A : Around} {E : Value → Shared → Prop} {s : Shared} {e it t : Addr} {i : Nat} {items : Array Value} {c : Int} {old : Value} {Q : Option Value → Shared → Prop}
    (hh : A.handled = none) (he : IsEnum s.heap e it c old) (hit : s.heap.IsTupleIter it t i) (ht : s.heap.IsTuple t items) (hx : items[i]? = none)
    (hQ : ∀ h', Heap.ExtBut it s.heap h' → Q none { s with heap := h' }) : wpAny (model prog w) A (pyNext (.ref e)) Q E s := by
  have hT : s.TypeIs (.ref e) "enumerate" := ⟨_, he, rfl⟩
  unfold pyNext
  refine wpAny_bind (wpAny_attempt (wpAny_callSpecial?_slot (name := Str.ofString "__next__") hT F.slot_enumerate_next
    (wpAny_call_entry F.slot_enumerate_next hT F.entry_enumerate_next ?_ (F.args_enumerate_next_1 _))))
  show wpAny _ _ (field (.ref e) 2 >>= _) _ _ _
  refine wpAny_bind (wpAny_field he rfl (x := .ref it) rfl ?_)
  refine wpAny_bind (wpAny_nextOf_tuple_end hh hit ht hx fun h' x he' hx' => ?_)
  obtain ⟨o, ho, hc⟩ := hx'
  refine wpAny_bind (wpAny_isInstance (T := "StopIteration") (b := true) ⟨o, ho, hc⟩ isSubtype_stop ?_)
  exact wpAny_pure (hQ _ he')
end
/-- the tuple at a, each item in a new pair -/
def IteT (K : PySem.W.Frag) (a : Addr) : It :=
  ⟨fun i H => ∃ (xs : List V) (x : V), SqT K H a xs ∧ xs[i]? = some x, fun i H v H' => ∃ T x, v = .ref T ∧ H T = none ∧ H' = upd H T (.tup [.int (i : Nat), x]) ∧ ∀ xs, SqT K H a xs → xs[i]? = some x, fun i H => ∃ xs : List V, SqT K H a xs ∧ xs.length ≤ i⟩
theorem turn_enumT {P : Program} {w : World} {K : PySem.W.Frag} {elts : List Expr} {kk : Nat} {tpos : Pos} (a e it : Addr) (ha : a ≠ it) (hb : a ≠ e) :
    Turn P w K (.Tuple elts kk tpos) (IteT K a) [e, it] e (fun i h => (∃ old, IsEnum h e it ((i : Nat) : Int) old) ∧ h.IsTupleIter it a i ∧ e ≠ it) where
  mem := by simp
  obj := fun i h st b hb => by
    obtain ⟨⟨old, he⟩, ⟨o, ho, hc, hd⟩, _⟩ := st
    have e' : b = e ∨ b = it := by simpa using hb
    rcases e' with z | z
    · rw [z]; exact ⟨_, he, fun v q => nomatch q⟩
    · rw [z]; exact ⟨o, ho, fun v q => by rw [hd] at q; cases q⟩
  keep := fun i h h' st k => let ⟨⟨old, he⟩, hi, hne⟩ := st; ⟨⟨old, k e (by simp) _ he⟩, hi.at fun o q => k it (by simp) o q, hne⟩
  item := by
    intro X hP hw hK hc i pins s σ H E I hf st hg
    subst hP hw hK
    obtain ⟨⟨old, he⟩, hit, hne⟩ := st
    obtain ⟨xs, x, hq, hx⟩ := hg
    obtain ⟨its, rv, p, hz⟩ := I.tuple hq
    obtain ⟨u, hu, ru⟩ := rv.get hx
    have hel : e < s.heap.objs.size := Heap.lt_size he
    have hil : it < s.heap.objs.size := by obtain ⟨_, q, _⟩ := hit; exact Heap.lt_size q
    have hu2 : its.toArray[i]? = some u := by simpa using hu
    have hlt : i < its.toArray.size := (Array.getElem?_eq_some_iff.mp hu2).1
    have ht : s.heap.IsTuple a its.toArray := p
    refine wpAny_pyNext_enum_itemD (Draws.tuple (show X.A.in1.handled = none from I.ok.hd hc) it a ha its.toArray) he ⟨hit, ht⟩ hlt hne (by simp [hne, Ne.symm hb]) fun x' h' tk hx' ho hit' hT hsz hk => ?_
    obtain rfl : x' = u := Option.some.inj (hx'.symm.trans hu2)
    refine ⟨_, rfl, wpAny_letOwnedTupleGo_enum (s := { s with heap := h', toks := tk + 1 }) ho fun h'' he' sb => ?_⟩
    have hT2 : h''.get? s.heap.objs.size = some { cls := .type "tuple", data := .seq #[.int i tk, x'] } := (sb.2 _ (Nat.ne_of_gt hel)).trans hT
    have new : ObjOk X.prog X.w (upd H s.heap.objs.size (.tup [.int (i : Nat), x])) h'' s.heap.objs.size (.tup [.int (i : Nat), x]) :=
      ⟨by show 2 ≤ sizeLine; decide, [.int i tk, x'], .cons ⟨_, rfl⟩ (.cons ru .nil), ⟨_, hT2, rfl, _, rfl⟩⟩
    have I1 : Inv X pins σ (upd H s.heap.objs.size (.tup [.int (i : Nat), x])) { s with heap := h'', toks := tk + 1 } :=
      I.turnedNew (ch := [e, it]) (fun b ob hb q => (sb.2 b (fun z => hb (by simp [z]))).trans (hk b ob (fun z => hb (by simp [z])) (fun z => hb (by simp [z])) q)) hf (Nat.le_refl _) new
    refine ⟨.ref s.heap.objs.size, _, I1, rfl, ⟨_, x, rfl, I.hok.fresh (Nat.le_refl _), rfl, fun ys hy => by rw [I.tuple_inj hy hq]; exact hx⟩, ⟨⟨x', ?_⟩, hit'.1.at fun o q => (sb.2 it (Ne.symm hne)).trans q, hne⟩, fun b hb => ?_⟩
    · have e1 : ((i + 1 : Nat) : Int) = (i : Int) + 1 := by omega
      rw [e1]; exact he'
    · have hb' : b < s.heap.objs.size := by
        have e' : b = e ∨ b = it := by simpa using hb
        rcases e' with z | z
        · rw [z]; exact hel
        · rw [z]; exact hil
      rw [upd_ne (Nat.ne_of_lt hb')]
      exact (hf b hb).1
  done := by
    intro X hP hw hK hc i pins s σ H E I hf st hg
    subst hP hw hK
    obtain ⟨⟨old, he⟩, hit, hne⟩ := st
    obtain ⟨xs, hq, hx⟩ := hg
    obtain ⟨its, rv, p, hz⟩ := I.tuple hq
    obtain ⟨f0, f1, f2, f3, f4, f5⟩ := hf it (by simp)
    have hl := rv.length
    exact enum_endT (I.ok.hd hc) he hit (show s.heap.IsTuple a its.toArray from p) (by simp; omega) fun h' eb => ⟨rfl, I.turned (t' := s.toks) (fun b o hb q => eb b o hb q) f0 f1 f3 f4 f5⟩
  self := fun A i s Q E st h => let ⟨⟨_, he⟩, _⟩ := st; wpAny_pyIter_enum he h
theorem enum_endS {prog : Program} {w : World} {A : Around} {E : Value → Shared → Prop} {s : Shared} {e it : Addr} {z : Str} {t : Tok} {i : Nat} {c : Int} {old : Value} {Q : Option Value → Shared → Prop}
    (hh : A.handled = none) (he : IsEnum s.heap e it c old) (hit : s.heap.IsStrIter it (strIterType z) z t i) (hx : z.cps[i]? = none)
    (hQ : ∀ h', Heap.ExtBut it s.heap h' → Q none { s with heap := h' }) : wpAny (model prog w) A (pyNext (.ref e)) Q E s := by
  have hT : s.TypeIs (.ref e) "enumerate" := ⟨_, he, rfl⟩
  unfold pyNext
  refine wpAny_bind (wpAny_attempt (wpAny_callSpecial?_slot (name := Str.ofString "__next__") hT F.slot_enumerate_next
    (wpAny_call_entry F.slot_enumerate_next hT F.entry_enumerate_next ?_ (F.args_enumerate_next_1 _))))
  show wpAny _ _ (field (.ref e) 2 >>= _) _ _ _
  refine wpAny_bind (wpAny_field he rfl (x := .ref it) rfl ?_)
  have go : ∀ (R : Value → Shared → Prop) (E2 : Value → Shared → Prop), (∀ h' e, Heap.ExtBut it s.heap h' → (∃ o, h'.get? e = some o ∧ o.cls = .type "StopIteration") → E2 (.ref e) { s with heap := h' }) → wpAny (model prog w) A.in1 (Builtin.SmallTypes.nextOf (.ref it)) R E2 s := fun R E2 h => by
    cases ha : z.cps.all (· < 128)
    · simp only [strIterType, ha, Bool.false_eq_true, if_false] at hit
      exact wpAny_nextOf_wide_end hh hit hx h
    · simp only [strIterType, ha, if_true] at hit
      exact wpAny_nextOf_ascii_end hh hit hx h
  refine wpAny_bind (go _ _ fun h' x he' hx' => ?_)
  obtain ⟨o, ho, hc⟩ := hx'
  refine wpAny_bind (wpAny_isInstance (T := "StopIteration") (b := true) ⟨o, ho, hc⟩ isSubtype_stop ?_)
  exact wpAny_pure (hQ _ he')
/-- a text, each sign in a new pair -/
def IteS (z : Str) : It :=
  ⟨fun i _ => i < z.cps.size, fun i H v H' => ∃ T c, v = .ref T ∧ H T = none ∧ z.cps[i]? = some c ∧ H' = upd H T (.tup [.int (i : Nat), .str ⟨#[c]⟩]), fun i _ => z.cps.size ≤ i⟩
theorem turn_enumS {P : Program} {w : World} {K : PySem.W.Frag} {elts : List Expr} {kk : Nat} {tpos : Pos} (z : Str) (t : Tok) (e it : Addr) :
    Turn P w K (.Tuple elts kk tpos) (IteS z) [e, it] e (fun i h => (∃ old, IsEnum h e it ((i : Nat) : Int) old) ∧ h.IsStrIter it (strIterType z) z t i ∧ e ≠ it) where
  mem := by simp
  obj := fun i h st b hb => by
    obtain ⟨⟨old, he⟩, ⟨o, ho, hc, hd⟩, _⟩ := st
    have e' : b = e ∨ b = it := by simpa using hb
    rcases e' with z | z
    · rw [z]; exact ⟨_, he, fun v q => nomatch q⟩
    · rw [z]; exact ⟨o, ho, fun v q => by rw [hd] at q; cases q⟩
  keep := fun i h h' st k => let ⟨⟨old, he⟩, ⟨o, ho, r⟩, hne⟩ := st; ⟨⟨old, k e (by simp) _ he⟩, ⟨o, k it (by simp) o ho, r⟩, hne⟩
  item := by
    intro X hP hw hK hc i pins s σ H E I hf st hg
    subst hP hw hK
    obtain ⟨⟨old, he⟩, hit, hne⟩ := st
    have hel : e < s.heap.objs.size := Heap.lt_size he
    have hil : it < s.heap.objs.size := by obtain ⟨_, q, _⟩ := hit; exact Heap.lt_size q
    refine wpAny_pyNext_enum_itemD (Draws.text (show X.A.in1.handled = none from I.ok.hd hc) it z t) he hit hg hne (by simp [hne]) fun x' h' tk hx' ho hit' hT hsz hk => ?_
    obtain ⟨cc, u, hcc, rfl⟩ := hx'
    refine ⟨_, rfl, wpAny_letOwnedTupleGo_enum (s := { s with heap := h', toks := tk + 1 }) ho fun h'' he' sb => ?_⟩
    have hT2 : h''.get? s.heap.objs.size = some { cls := .type "tuple", data := .seq #[.int i tk, .str ⟨#[cc]⟩ u] } := (sb.2 _ (Nat.ne_of_gt hel)).trans hT
    have new : ObjOk X.prog X.w (upd H s.heap.objs.size (.tup [.int (i : Nat), .str ⟨#[cc]⟩])) h'' s.heap.objs.size (.tup [.int (i : Nat), .str ⟨#[cc]⟩]) :=
      ⟨by show 2 ≤ sizeLine; decide, [.int i tk, .str ⟨#[cc]⟩ u], .cons ⟨_, rfl⟩ (.cons ⟨_, rfl⟩ .nil), ⟨_, hT2, rfl, _, rfl⟩⟩
    have I1 : Inv X pins σ (upd H s.heap.objs.size (.tup [.int (i : Nat), .str ⟨#[cc]⟩])) { s with heap := h'', toks := tk + 1 } :=
      I.turnedNew (ch := [e, it]) (fun b ob hb q => (sb.2 b (fun z => hb (by simp [z]))).trans (hk b ob (fun z => hb (by simp [z])) (fun z => hb (by simp [z])) q)) hf (Nat.le_refl _) new
    refine ⟨.ref s.heap.objs.size, _, I1, rfl, ⟨_, cc, rfl, I.hok.fresh (Nat.le_refl _), hcc, rfl⟩, ⟨⟨.str ⟨#[cc]⟩ u, ?_⟩, ?_, hne⟩, fun b hb => ?_⟩
    · have e1 : ((i + 1 : Nat) : Int) = (i : Int) + 1 := by omega
      rw [e1]; exact he'
    · obtain ⟨o, ho2, r⟩ := hit'
      exact ⟨o, (sb.2 it (Ne.symm hne)).trans ho2, r⟩
    · have hb' : b < s.heap.objs.size := by
        have e' : b = e ∨ b = it := by simpa using hb
        rcases e' with z | z
        · rw [z]; exact hel
        · rw [z]; exact hil
      rw [upd_ne (Nat.ne_of_lt hb')]
      exact (hf b hb).1
  done := by
    intro X hP hw hK hc i pins s σ H E I hf st hg
    subst hP hw hK
    obtain ⟨⟨old, he⟩, hit, hne⟩ := st
    obtain ⟨f0, f1, f2, f3, f4, f5⟩ := hf it (by simp)
    have hx : z.cps[i]? = none := Array.getElem?_eq_none hg
    have hfin : ∀ h', Heap.ExtBut it s.heap h' → _ := fun h' eb => (⟨rfl, I.turned (t' := s.toks) (fun b o hb q => eb b o hb q) f0 f1 f3 f4 f5⟩ : (none : Option Value) = none ∧ _)
    refine enum_endS (I.ok.hd hc) he hit hx fun h' eb => hfin h' eb
  self := fun A i s Q E st h => let ⟨⟨_, he⟩, _⟩ := st; wpAny_pyIter_enum he h
def iEnumA (K : PySem.W.Frag) (ta : TA) : TI := fun σ H R => ta σ H fun vs H1 => (∃ a xs, vs = [.ref a] ∧ ((SqL K H1 a xs ∧ R (Ite K a) H1) ∨ (SqT K H1 a xs ∧ R (IteT K a) H1))) ∨ ∃ z, vs = [.str z] ∧ R (IteS z) H1
theorem pi_enumA {X : Cx} {e : Expr} {ta : TA} {p pos tpos : Pos} {elts : List Expr} {kk : Nat} (hg : Gl X "enumerate") (hm : X.mg "enumerate" = none) (ha : PA X [e] ta) (hs : starEach [e] X.env = [(false, eval e X.env)] := by rfl) :
    PI X (.Tuple elts kk tpos) (.Call (.Name "enumerate" p) [e] [] pos) (iEnumA X.K ta) := by
  refine ⟨fun pins s σ H R I h => ?_⟩
  refine Call_ (ld_blt I hg hm boot_enumerate (PyProof.Rows.callWith_type1 (thn (ha.run pos pins s σ H _ I h) fun us s1 ⟨vs, H1, I1, r1, q1⟩ => ?_) hs rfl))
  have fresh0 : ∀ b, b ∈ [s1.heap.objs.size + 1, s1.heap.objs.size] → FpOk X pins H1 b := fun b hb => by
    have e' : b = s1.heap.objs.size + 1 ∨ b = s1.heap.objs.size := by simpa using hb
    have hle : s1.heap.objs.size ≤ b := by
      rcases e' with z | z
      · rw [z]; exact Nat.le_add_right _ _
      · rw [z]; exact Nat.le_refl _
    exact I1.fpOk hle (I1.hok.fresh hle)
  rcases q1 with ⟨a, xs, ex, q⟩ | ⟨z, ex, q⟩
  rotate_left
  · subst ex
    obtain ⟨u, rfl, t, rfl⟩ := vals1 r1
    refine enum_begins1 (begins_text z t) trivial fun h' he hit hsz hk => wpAny_pyIter_enum he ?_
    have I2 : Inv X pins σ H1 { s1 with heap := h' } := I1.kept (t' := s1.toks) hk
    exact ⟨s1.heap.objs.size + 1, [s1.heap.objs.size + 1, s1.heap.objs.size], _, _, H1, rfl, I2, turn_enumS z t (s1.heap.objs.size + 1) s1.heap.objs.size, ⟨⟨.none, he⟩, ⟨_, hit, rfl, rfl⟩, Nat.succ_ne_self _⟩, fresh0, q⟩
  subst ex
  cases r1 with
  | cons r rr =>
    cases rr
    cases r
    have fresh : ∀ b, b ∈ [s1.heap.objs.size + 1, s1.heap.objs.size] → FpOk X pins H1 b := fun b hb => by
      have e' : b = s1.heap.objs.size + 1 ∨ b = s1.heap.objs.size := by simpa using hb
      have hle : s1.heap.objs.size ≤ b := by
        rcases e' with z | z
        · rw [z]; exact Nat.le_add_right _ _
        · rw [z]; exact Nat.le_refl _
      exact I1.fpOk hle (I1.hok.fresh hle)
    rcases q with ⟨hq, q⟩ | ⟨hq, q⟩
    · obtain ⟨its, rv, p', hz⟩ := I1.list hq
      refine call_enumerate_list p'.isList fun h' he hit hsz hk => wpAny_pyIter_enum he ?_
      have I2 : Inv X pins σ H1 { s1 with heap := h' } := I1.kept (t' := s1.toks) hk
      exact ⟨s1.heap.objs.size + 1, [s1.heap.objs.size + 1, s1.heap.objs.size], _, _, H1, rfl, I2, turn_enum a (s1.heap.objs.size + 1) s1.heap.objs.size, ⟨⟨.none, he⟩, hit, Nat.succ_ne_self _⟩, fresh, q⟩
    · obtain ⟨its, rv, p', hz⟩ := I1.tuple hq
      have ht : s1.heap.IsTuple a its.toArray := p'
      have hlt : a < s1.heap.objs.size := by obtain ⟨o, ho, _⟩ := id ht; exact Heap.lt_size ho
      refine enum_begins1 (begins_tuple a its.toArray) ht fun h' he hit hsz hk => wpAny_pyIter_enum he ?_
      have I2 : Inv X pins σ H1 { s1 with heap := h' } := I1.kept (t' := s1.toks) hk
      exact ⟨s1.heap.objs.size + 1, [s1.heap.objs.size + 1, s1.heap.objs.size], _, _, H1, rfl, I2, turn_enumT a (s1.heap.objs.size + 1) s1.heap.objs.size (Nat.ne_of_lt hlt) (Nat.ne_of_lt (Nat.lt_succ_of_lt hlt)), ⟨⟨.none, he⟩, ⟨_, hit, rfl, rfl⟩, Nat.succ_ne_self _⟩, fresh, q⟩
theorem itl_enumS {fz : Bool} {z : Str} : ItJ K fz fr0 A0 H0 (IteS z) (enumL 0 (z.cps.toList.map fun c => D.str ⟨#[c]⟩)) := by
  intro i fr H zk dm
  refine ⟨fun hi => by
    rw [enumL_len, List.length_map, Array.length_toList] at hi
    exact hi, fun d hd => ?_⟩
  rw [enumL_at] at hd
  obtain ⟨d0, hd0, rfl⟩ := Option.map_eq_some_iff.mp hd
  rw [List.getElem?_map] at hd0
  obtain ⟨n, hn, rfl⟩ := Option.map_eq_some_iff.mp hd0
  rw [Array.getElem?_toList] at hn
  refine ⟨(Array.getElem?_eq_some_iff.mp hn).1, fun x H' y => ?_⟩
  obtain ⟨T, c, rfl, hT, hc, rfl⟩ := y
  rw [hn] at hc
  cases hc
  refine ⟨fun b => fr b ∨ b = T, Grow.newT dm hT, ?_⟩
  unfold Ow
  refine ⟨T, _, rfl, .inl ⟨.inr rfl, upd_same⟩, ?_⟩
  rw [Nat.zero_add]
  exact OwL.cons (B := []) (C := []) (by unfold Ow; exact ⟨rfl, rfl⟩) (OwL.one.mpr (by unfold Ow; exact ⟨rfl, rfl⟩))
theorem itl_enumT {fz : Bool} {ds : List D} {a : Addr} {B : List Addr} (h : Ow K fr0 H0 (.tup ds) (.ref a) B) (u : unL ds = true) : ItJ K fz fr0 A0 H0 (IteT K a) (enumL 0 ds) := by
  unfold Ow at h
  obtain ⟨a', vs, e, ha, ho⟩ := h
  cases e
  have ho := ho.noB u
  intro i fr H z dm
  have hs : SqT K H a vs := (ha.mono (fr' := fr) (H' := H) z.ff fun b x hb e => z.k1 b x hb e).sq
  have hl := ho.len
  refine ⟨fun hi => ⟨vs, hs, by rw [enumL_len] at hi; omega⟩, fun d hd => ?_⟩
  rw [enumL_at] at hd
  obtain ⟨d0, hd0, rfl⟩ := Option.map_eq_some_iff.mp hd
  obtain ⟨v, B', g1, g2, g3⟩ := (z.owl ho).at hd0
  have eB : B' = [] := g2.un _ _ _ (unL_at u hd0)
  subst eB
  refine ⟨⟨vs, v, hs, g1⟩, fun x H' y => ?_⟩
  obtain ⟨T, w, rfl, hT, rfl, y⟩ := y
  have := y vs hs
  rw [g1] at this
  cases this
  refine ⟨fun b => fr b ∨ b = T, Grow.newT dm hT, ?_⟩
  have gg : Grow fr H (fun b => fr b ∨ b = T) [] (upd H T (.tup [.int (i : Nat), v])) := Grow.newT dm hT
  unfold Ow
  refine ⟨T, _, rfl, .inl ⟨.inr rfl, upd_same⟩, ?_⟩
  rw [Nat.zero_add]
  exact OwL.cons (B := []) (C := []) (by unfold Ow; exact ⟨rfl, rfl⟩) (OwL.one.mpr (g2.grow gg))
theorem zipLD_at : ∀ {as bs : List D} {i : Nat} {d : D}, (zipLD as bs)[i]? = some d → ∃ a b, as[i]? = some a ∧ bs[i]? = some b ∧ d = .tup [a, b]
  | [], bs, i, d, h => by simp [zipLD] at h
  | a :: as, [], i, d, h => by simp [zipLD] at h
  | a :: as, b :: bs, 0, d, h => by
    unfold zipLD at h
    rw [List.getElem?_cons_zero] at h
    cases h
    exact ⟨a, b, rfl, rfl, rfl⟩
  | a :: as, b :: bs, i + 1, d, h => by
    unfold zipLD at h
    rw [List.getElem?_cons_succ] at h
    obtain ⟨x, y, h1, h2, h3⟩ := zipLD_at h
    exact ⟨x, y, by rw [List.getElem?_cons_succ]; exact h1, by rw [List.getElem?_cons_succ]; exact h2, h3⟩
theorem zipLD_len : ∀ {as bs : List D}, (zipLD as bs).length = min as.length bs.length
  | [], bs => by simp [zipLD]
  | a :: as, [] => by simp [zipLD]
  | a :: as, b :: bs => by unfold zipLD; rw [List.length_cons, List.length_cons, List.length_cons, zipLD_len]; omega
theorem itl_zip {fz o o2 : Bool} {ds es : List D} {a b : Addr} {B B2 : List Addr} (h : Ow K fr0 H0 (.lst o ds) (.ref a) B) (g : Ow K fr0 H0 (.lst o2 es) (.ref b) B2) (u : unL ds = true) (u2 : unL es = true) (hf : fz = true → o = false) (hf2 : fz = true → o2 = false) (hb : ∀ b ∈ B, b ∈ A0) (hb2 : ∀ b ∈ B2, b ∈ A0) :
    ItJ K fz fr0 A0 H0 (Itz K a b) (zipLD ds es) := by
  unfold Ow at h g
  obtain ⟨a', vs, C, e, ha, ho, h0, h1⟩ := h
  obtain ⟨b', ws, C2, e2, hbb, go, g0, g1⟩ := g
  cases e
  cases e2
  have ho := ho.noB u
  have go := go.noB u2
  intro i fr H z dm
  have hs : SqL K H a vs := by
    exact .of (z.at (ds := ds) hf ha h0 h1 hb)
  have gs : SqL K H b ws := by
    exact .of (z.at (ds := es) hf2 hbb g0 g1 hb2)
  have hl := ho.len
  have gl := go.len
  refine ⟨fun hi => ⟨vs, ws, hs, gs, by rw [zipLD_len] at hi; omega⟩, fun d hd => ?_⟩
  obtain ⟨x, y, hx, hy, rfl⟩ := zipLD_at hd
  obtain ⟨v, B', p1, p2, p3⟩ := (z.owl ho).at hx
  obtain ⟨w, B'', q1, q2, q3⟩ := (z.owl go).at hy
  have eB : B' = [] := p2.un _ _ _ (unL_at u hx)
  subst eB
  have eB : B'' = [] := q2.un _ _ _ (unL_at u2 hy)
  subst eB
  refine ⟨⟨vs, ws, v, w, hs, gs, p1, q1⟩, fun x' H' yy => ?_⟩
  obtain ⟨T, v', w', rfl, hT, rfl, y1, y2⟩ := yy
  have := y1 vs hs
  rw [p1] at this
  cases this
  have := y2 ws gs
  rw [q1] at this
  cases this
  have gg : Grow fr H (fun b => fr b ∨ b = T) [] (upd H T (.tup [v, w])) := Grow.newT dm hT
  refine ⟨_, gg, ?_⟩
  unfold Ow
  exact ⟨T, _, rfl, .inl ⟨.inr rfl, upd_same⟩, OwL.cons (B := []) (C := []) (p2.grow gg) (OwL.one.mpr (q2.grow gg))⟩
theorem itl_zipT {fz : Bool} {ds es : List D} {a b : Addr} {B B2 : List Addr} (h : Ow K fr0 H0 (.tup ds) (.ref a) B) (g : Ow K fr0 H0 (.tup es) (.ref b) B2) (u : unL ds = true) (u2 : unL es = true) :
    ItJ K fz fr0 A0 H0 (RZ.ItzT K a b) (zipLD ds es) := by
  unfold Ow at h g
  obtain ⟨a', vs, e, ha, ho⟩ := h
  obtain ⟨b', ws, e2, hbb, go⟩ := g
  cases e
  cases e2
  have ho := ho.noB u
  have go := go.noB u2
  intro i fr H z dm
  have hs : SqT K H a vs := (ha.mono (fr' := fr) (H' := H) z.ff fun b x hb e => z.k1 b x hb e).sq
  have gs : SqT K H b ws := (hbb.mono (fr' := fr) (H' := H) z.ff fun b x hb e => z.k1 b x hb e).sq
  have hl := ho.len
  have gl := go.len
  refine ⟨fun hi => ⟨vs, ws, hs, gs, by rw [zipLD_len] at hi; omega⟩, fun d hd => ?_⟩
  obtain ⟨x, y, hx, hy, rfl⟩ := zipLD_at hd
  obtain ⟨v, B', p1, p2, p3⟩ := (z.owl ho).at hx
  obtain ⟨w, B'', q1, q2, q3⟩ := (z.owl go).at hy
  have eB : B' = [] := p2.un _ _ _ (unL_at u hx)
  subst eB
  have eB : B'' = [] := q2.un _ _ _ (unL_at u2 hy)
  subst eB
  refine ⟨⟨vs, ws, v, w, hs, gs, p1, q1⟩, fun x' H' yy => ?_⟩
  obtain ⟨T, v', w', rfl, hT, rfl, y1, y2⟩ := yy
  have := y1 vs hs
  rw [p1] at this
  cases this
  have := y2 ws gs
  rw [q1] at this
  cases this
  have gg : Grow fr H (fun b => fr b ∨ b = T) [] (upd H T (.tup [v, w])) := Grow.newT dm hT
  refine ⟨_, gg, ?_⟩
  unfold Ow
  exact ⟨T, _, rfl, .inl ⟨.inr rfl, upd_same⟩, OwL.cons (B := []) (C := []) (p2.grow gg) (OwL.one.mpr (q2.grow gg))⟩
/-! zip of three lists -/
/-- a list's iterator, drawn to where it stands, ended or not -/
theorem drawsAt {prog : Program} {w : World} {A : Around} (hh : A.handled = none) (it l : Addr) (hne : l ≠ it) (items : Array Value) (i : Nat) :
    ∃ (n : Nat) (P : Nat → Value → Prop) (St : Nat → Heap → Prop), Draws prog w A it [it, l] n P St ∧ i ≤ n ∧ (items.size ≤ i → i = n) ∧ ∀ h : Heap, h.IsListIter it l i → h.IsList l items → St i h := by
  by_cases hs : i ≤ items.size
  · exact ⟨_, _, _, Draws.list hh it l hne items, hs, fun h => by omega, fun h a b => ⟨a, b⟩⟩
  · refine ⟨i, fun _ _ => True, fun k h => k = i ∧ h.IsListIter it l k ∧ h.IsList l items, ⟨?_, ?_, ?_, ?_⟩, Nat.le_refl _, fun _ => rfl, fun h a b => ⟨rfl, a, b⟩⟩
    · rintro k h ⟨_, ⟨o, ho, _⟩, _⟩
      exact ⟨o, ho⟩
    · rintro k h h' ⟨e, a, b⟩ hk
      exact ⟨e, a.at fun o e => hk it (by simp) o e, b.at fun o e => hk l (by simp) o e⟩
    · rintro k s Q E hi ⟨e, _⟩ hQ
      omega
    · rintro s Q E ⟨_, a, b⟩ hE
      exact wpAny_nextOf_list_end hh a b (by simp; omega) hE
def Itz3 (K : PySem.W.Frag) (a b c : Addr) : It :=
  ⟨fun i H => ∃ (xs ys zs : List V) (x y z : V), SqL K H a xs ∧ SqL K H b ys ∧ SqL K H c zs ∧ xs[i]? = some x ∧ ys[i]? = some y ∧ zs[i]? = some z,
    fun i H v H' => ∃ T x y z, v = .ref T ∧ H T = none ∧ H' = upd H T (.tup [x, y, z]) ∧ (∀ xs, SqL K H a xs → xs[i]? = some x) ∧ (∀ ys, SqL K H b ys → ys[i]? = some y) ∧ ∀ zs, SqL K H c zs → zs[i]? = some z,
    fun i H => ∃ xs ys zs : List V, SqL K H a xs ∧ SqL K H b ys ∧ SqL K H c zs ∧ (xs.length ≤ i ∨ ys.length ≤ i ∨ zs.length ≤ i)⟩
theorem turn_zip3 {P : Program} {w : World} {K : PySem.W.Frag} {elts : List Expr} {kk : Nat} {tpos : Pos} {a b c z TI TO i1 i2 i3 : Addr} (D : ZipSep3 z TI TO i1 i2 i3 [i1, a] [i2, b] [i3, c]) (n1 : a ≠ i1) (n2 : b ≠ i2) (n3 : c ≠ i3) :
    Turn P w K (.Tuple elts kk tpos) (Itz3 K a b c) [z, TI, TO, i1, i2, i3] z (fun i h => IsZip h z TI TO .none ∧ IsTupOf3 h TI (.ref i1) (.ref i2) (.ref i3) ∧ (∃ x y u, IsTupOf3 h TO x y u) ∧ h.IsListIter i1 a i ∧ h.IsListIter i2 b i ∧ h.IsListIter i3 c i) where
  mem := by simp
  obj := fun i h st c' hc => by
    obtain ⟨hz, hTI, ⟨x, y, u, hTO⟩, ⟨o1, e1, _, d1⟩, ⟨o2, e2, _, d2⟩, ⟨o3, e3, _, d3⟩⟩ := st
    have e' : c' = z ∨ c' = TI ∨ c' = TO ∨ c' = i1 ∨ c' = i2 ∨ c' = i3 := by simpa using hc
    rcases e' with q | q | q | q | q | q
    · rw [q]; exact ⟨_, hz, fun v q => nomatch q⟩
    · rw [q]; exact ⟨_, hTI, fun v q => nomatch q⟩
    · rw [q]; exact ⟨_, hTO, fun v q => nomatch q⟩
    · rw [q]; exact ⟨o1, e1, fun v q => by rw [d1] at q; cases q⟩
    · rw [q]; exact ⟨o2, e2, fun v q => by rw [d2] at q; cases q⟩
    · rw [q]; exact ⟨o3, e3, fun v q => by rw [d3] at q; cases q⟩
  keep := fun i h h' st k => by
    obtain ⟨hz, hTI, ⟨x, y, u, hTO⟩, h1, h2, h3⟩ := st
    exact ⟨k z (by simp) _ hz, k TI (by simp) _ hTI, ⟨x, y, u, k TO (by simp) _ hTO⟩, h1.at fun o q => k i1 (by simp) o q, h2.at fun o q => k i2 (by simp) o q, h3.at fun o q => k i3 (by simp) o q⟩
  item := by
    intro X hP hw hK hc i pins s σ H E I hf st hg
    subst hP hw hK
    obtain ⟨hz, hTI, ⟨x0, y0, u0, hTO⟩, h1, h2, h3⟩ := st
    obtain ⟨xs, ys, zs, x, y, v, hqx, hqy, hqz, hx, hy, hv⟩ := hg
    obtain ⟨its, rv, p, _⟩ := I.list hqx
    obtain ⟨its2, rv2, p2, _⟩ := I.list hqy
    obtain ⟨its3, rv3, p3, _⟩ := I.list hqz
    obtain ⟨u, hu, ru⟩ := rv.get hx
    obtain ⟨u2, hu2, ru2⟩ := rv2.get hy
    obtain ⟨u3, hu3, ru3⟩ := rv3.get hv
    have hzl : z < s.heap.objs.size := Heap.lt_size hz
    have hh : X.A.in1.handled = none := I.ok.hd hc
    have g1 : its.toArray[i]? = some u := by simpa using hu
    have g2 : its2.toArray[i]? = some u2 := by simpa using hu2
    have g3 : its3.toArray[i]? = some u3 := by simpa using hu3
    refine wpAny_pyNext_zipD3_item D (Draws.list hh i1 a n1 its.toArray) (Draws.list hh i2 b n2 its2.toArray) (Draws.list hh i3 c n3 its3.toArray) hz hTI hTO ⟨h1, p.isList⟩ ⟨h2, p2.isList⟩ ⟨h3, p3.isList⟩ (Array.getElem?_eq_some_iff.mp g1).1 (Array.getElem?_eq_some_iff.mp g2).1 (Array.getElem?_eq_some_iff.mp g3).1 fun x1 x2 x3 h' tk q1 q2 q3 z' TO' s1 s2 s3 hT hsz hk => ?_
    obtain rfl : x1 = u := Option.some.inj (q1.symm.trans g1)
    obtain rfl : x2 = u2 := Option.some.inj (q2.symm.trans g2)
    obtain rfl : x3 = u3 := Option.some.inj (q3.symm.trans g3)
    refine ⟨_, rfl, wpAny_letOwnedTupleGo_zip (s := { s with heap := h', toks := tk }) z' fun h'' z'' sb => ?_⟩
    have hT2 : h''.get? s.heap.objs.size = some { cls := .type "tuple", data := .seq #[x1, x2, x3] } := (sb.2 _ (Nat.ne_of_gt hzl)).trans hT
    have new : ObjOk X.prog X.w (upd H s.heap.objs.size (.tup [x, y, v])) h'' s.heap.objs.size (.tup [x, y, v]) :=
      ⟨by show 3 ≤ sizeLine; decide, [x1, x2, x3], .cons ru (.cons ru2 (.cons ru3 .nil)), ⟨_, hT2, rfl, _, rfl⟩⟩
    have I1 : Inv X pins σ (upd H s.heap.objs.size (.tup [x, y, v])) { s with heap := h'', toks := tk } :=
      I.turnedNew (ch := [z, TI, TO, i1, i2, i3]) (fun c o hb q => (sb.2 c (fun q' => hb (by simp [q']))).trans (hk c o (fun q' => hb (by simp [q'])) (fun q' => hb (by simp [q'])) (fun q' => hb (by simp [q'])) (fun q' => hb (by simp [q'])) (fun q' => hb (by simp [q'])) q)) hf (Nat.le_refl _) new
    refine ⟨.ref s.heap.objs.size, _, I1, rfl, ⟨_, x, y, v, rfl, I.hok.fresh (Nat.le_refl _), rfl, fun l hl => by rw [I.list_inj hl hqx]; exact hx, fun l hl => by rw [I.list_inj hl hqy]; exact hy, fun l hl => by rw [I.list_inj hl hqz]; exact hv⟩, ⟨z'', ?_, ⟨x1, x2, x3, ?_⟩, ?_, ?_, ?_⟩, fun c' hcm => ?_⟩
    · exact (sb.2 _ D.TIz).trans (hk _ _ D.TIz D.TITO D.TIi1 D.TIi2 D.TIi3 hTI)
    · exact (sb.2 _ D.TOz).trans TO'
    · exact s1.1.at fun o q => (sb.2 _ (Ne.symm D.zi1)).trans q
    · exact s2.1.at fun o q => (sb.2 _ (Ne.symm D.zi2)).trans q
    · exact s3.1.at fun o q => (sb.2 _ (Ne.symm D.zi3)).trans q
    · have hlt : c' < s.heap.objs.size := by
        have e' : c' = z ∨ c' = TI ∨ c' = TO ∨ c' = i1 ∨ c' = i2 ∨ c' = i3 := by simpa using hcm
        rcases e' with q | q | q | q | q | q
        · rw [q]; exact hzl
        · rw [q]; exact Heap.lt_size hTI
        · rw [q]; exact Heap.lt_size hTO
        · rw [q]; obtain ⟨_, e1, _⟩ := h1; exact Heap.lt_size e1
        · rw [q]; obtain ⟨_, e2, _⟩ := h2; exact Heap.lt_size e2
        · rw [q]; obtain ⟨_, e3, _⟩ := h3; exact Heap.lt_size e3
      rw [upd_ne (Nat.ne_of_lt hlt)]
      exact (hf c' hcm).1
  done := by
    intro X hP hw hK hc i pins s σ H E I hf st hg
    subst hP hw hK
    obtain ⟨hz, hTI, ⟨x0, y0, u0, hTO⟩, h1, h2, h3⟩ := st
    obtain ⟨xs, ys, zs, hqx, hqy, hqz, hend⟩ := hg
    obtain ⟨its, rv, p, _⟩ := I.list hqx
    obtain ⟨its2, rv2, p2, _⟩ := I.list hqy
    obtain ⟨its3, rv3, p3, _⟩ := I.list hqz
    have l1 := rv.length
    have l2 := rv2.length
    have l3 := rv3.length
    have hh : X.A.in1.handled = none := I.ok.hd hc
    obtain ⟨m1, P1, S1, D1, b1, c1, d1⟩ := drawsAt (prog := X.prog) (w := X.w) hh i1 a n1 its.toArray i
    obtain ⟨m2, P2, S2, D2, b2, c2, d2⟩ := drawsAt (prog := X.prog) (w := X.w) hh i2 b n2 its2.toArray i
    obtain ⟨m3, P3, S3, D3, b3, c3, d3⟩ := drawsAt (prog := X.prog) (w := X.w) hh i3 c n3 its3.toArray i
    have z1 : its.toArray.size = its.length := by simp
    have z2 : its2.toArray.size = its2.length := by simp
    have z3 : its3.toArray.size = its3.length := by simp
    refine wpAny_pyNext_zipD3_end D D1 D2 D3 hz hTI hTO (d1 _ h1 p.isList) (d2 _ h2 p2.isList) (d3 _ h3 p3.isList) b1 b2 b3 ?_ fun h' tk hk => ⟨rfl, I.turnedL (ch := [z, TI, TO, i1, i2, i3]) (fun c o hb q =>
      hk c o (fun q' => hb (by simp [q'])) (fun q' => hb (by simp [q'])) (fun q' => hb (by simp [q'])) (fun q' => hb (by simp [q'])) (fun q' => hb (by simp [q'])) q) hf⟩
    rcases hend with q | q | q
    · exact .inl (c1 (by omega))
    · exact .inr (.inl (c2 (by omega)))
    · exact .inr (.inr (c3 (by omega)))
  self := fun A i s Q E st h => wpAny_pyIter_zip st.1 h
def iZip3 (K : PySem.W.Frag) (ta : TA) : TI := fun σ H R => ta σ H fun vs H1 => ∃ a b c xs ys zs, vs = [.ref a, .ref b, .ref c] ∧ SqL K H1 a xs ∧ SqL K H1 b ys ∧ SqL K H1 c zs ∧ R (Itz3 K a b c) H1
theorem pi_zip3 {X : Cx} {e e2 e3 : Expr} {ta : TA} {p pos tpos : Pos} {elts : List Expr} {kk : Nat} (hg : Gl X "zip") (hm : X.mg "zip" = none) (ha : PA X [e, e2, e3] ta)
    (hs : starEach [e, e2, e3] X.env = (false, eval e X.env) :: starEach [e2, e3] X.env) (hpl : (backTo pos (starEach [e2, e3] X.env)).any (·.1) = false) :
    PI X (.Tuple elts kk tpos) (.Call (.Name "zip" p) [e, e2, e3] [] pos) (iZip3 X.K ta) := by
  refine ⟨fun pins s σ H R I h => ?_⟩
  refine Call_ (ld_blt I hg hm PyProof.Rows.boot_zip (PyProof.Rows.callWith_type1 (thn (ha.run pos pins s σ H _ I h) fun us s1 ⟨vs, H1, I1, r1, q1⟩ => ?_) hs hpl))
  obtain ⟨a, b, c, xs, ys, zs, ex, hqx, hqy, hqz, q⟩ := q1
  subst ex
  cases r1 with
  | cons r rr =>
    cases rr with
    | cons r' rr =>
      cases rr with
      | cons r'' rr =>
        cases rr
        cases r
        cases r'
        cases r''
        have fresh : ∀ c', c' ∈ [s1.heap.objs.size + 5, s1.heap.objs.size + 3, s1.heap.objs.size + 4, s1.heap.objs.size, s1.heap.objs.size + 1, s1.heap.objs.size + 2] → FpOk X pins H1 c' := fun c' hcm => by
          have hle : s1.heap.objs.size ≤ c' := by
            simp only [List.mem_cons, List.not_mem_nil, or_false] at hcm
            omega
          exact I1.fpOk hle (I1.hok.fresh hle)
        obtain ⟨its, rv, p1, _⟩ := I1.list hqx
        obtain ⟨its2, rv2, p2, _⟩ := I1.list hqy
        obtain ⟨its3, rv3, p3, _⟩ := I1.list hqz
        have l1 : a < s1.heap.objs.size := p1.lt
        have l2 : b < s1.heap.objs.size := p2.lt
        have l3 : c < s1.heap.objs.size := p3.lt
        refine zip_begins3 (begins_list a its.toArray) (begins_list b its2.toArray) (begins_list c its3.toArray) p1.isList p2.isList p3.isList fun h' hz hTI hTO g1 g2 g3 hsz hk => wpAny_pyIter_zip hz ?_
        have I2 : Inv X pins σ H1 { s1 with heap := h' } := I1.kept (t' := s1.toks) hk
        exact ⟨s1.heap.objs.size + 5, [s1.heap.objs.size + 5, s1.heap.objs.size + 3, s1.heap.objs.size + 4, s1.heap.objs.size, s1.heap.objs.size + 1, s1.heap.objs.size + 2], _, _, H1, rfl, I2,
          turn_zip3 (zip_sep3 (fp1 := [a]) (fp2 := [b]) (fp3 := [c]) (by simpa using l1) (by simpa using l2) (by simpa using l3)) (Nat.ne_of_lt l1) (Nat.ne_of_lt (Nat.lt_succ_of_lt l2)) (Nat.ne_of_lt (Nat.lt_succ_of_lt (Nat.lt_succ_of_lt l3))),
          ⟨hz, hTI, ⟨_, _, _, hTO⟩, ⟨_, g1, rfl, rfl⟩, ⟨_, g2, rfl, rfl⟩, ⟨_, g3, rfl, rfl⟩⟩, fresh, q⟩
theorem zip3LD_at : ∀ {as bs cs : List D} {i : Nat} {d : D}, (zip3LD as bs cs)[i]? = some d → ∃ a b c, as[i]? = some a ∧ bs[i]? = some b ∧ cs[i]? = some c ∧ d = .tup [a, b, c]
  | [], bs, cs, i, d, h => by simp [zip3LD] at h
  | a :: as, [], cs, i, d, h => by simp [zip3LD] at h
  | a :: as, b :: bs, [], i, d, h => by simp [zip3LD] at h
  | a :: as, b :: bs, c :: cs, 0, d, h => by
    unfold zip3LD at h
    exact ⟨a, b, c, rfl, rfl, rfl, by simpa using h.symm⟩
  | a :: as, b :: bs, c :: cs, i + 1, d, h => by
    unfold zip3LD at h
    obtain ⟨x, y, z, h1, h2, h3, h4⟩ := zip3LD_at (as := as) (bs := bs) (cs := cs) (i := i) (d := d) (by simpa using h)
    exact ⟨x, y, z, by simpa using h1, by simpa using h2, by simpa using h3, h4⟩
theorem zip3LD_len : ∀ {as bs cs : List D}, (zip3LD as bs cs).length = min as.length (min bs.length cs.length)
  | [], bs, cs => by simp [zip3LD]
  | a :: as, [], cs => by simp [zip3LD]
  | a :: as, b :: bs, [] => by simp [zip3LD]
  | a :: as, b :: bs, c :: cs => by unfold zip3LD; rw [List.length_cons, List.length_cons, List.length_cons, List.length_cons, zip3LD_len]; omega
theorem itl_zip3 {K : PySem.W.Frag} {fr0 : Addr → Prop} {A0 : List Addr} {H0 : Hp} {fz o o2 o3 : Bool} {ds es fs : List D} {a b c : Addr} {B B2 B3 : List Addr} (h : Ow K fr0 H0 (.lst o ds) (.ref a) B) (g : Ow K fr0 H0 (.lst o2 es) (.ref b) B2) (k : Ow K fr0 H0 (.lst o3 fs) (.ref c) B3) (u : unL ds = true) (u2 : unL es = true) (u3 : unL fs = true) (hf : fz = true → o = false) (hf2 : fz = true → o2 = false) (hf3 : fz = true → o3 = false) (hb : ∀ b ∈ B, b ∈ A0) (hb2 : ∀ b ∈ B2, b ∈ A0) (hb3 : ∀ b ∈ B3, b ∈ A0) :
    ItJ K fz fr0 A0 H0 (Itz3 K a b c) (zip3LD ds es fs) := by
  unfold Ow at h g k
  obtain ⟨a', vs, C, e, ha, ho, h0, h1⟩ := h
  obtain ⟨b', ws, C2, e2, hbb, go, g0, g1⟩ := g
  obtain ⟨c', us, C3, e3, hcc, ko, k0, k1⟩ := k
  cases e
  cases e2
  cases e3
  have ho := ho.noB u
  have go := go.noB u2
  have ko := ko.noB u3
  intro i fr H z dm
  have hs : SqL K H a vs := by
    exact .of (z.at (ds := ds) hf ha h0 h1 hb)
  have gs : SqL K H b ws := by
    exact .of (z.at (ds := es) hf2 hbb g0 g1 hb2)
  have ks : SqL K H c us := by
    exact .of (z.at (ds := fs) hf3 hcc k0 k1 hb3)
  have hl := ho.len
  have gl := go.len
  have kl := ko.len
  refine ⟨fun hi => ⟨vs, ws, us, hs, gs, ks, by rw [zip3LD_len] at hi; omega⟩, fun d hd => ?_⟩
  obtain ⟨x, y, w0, hx, hy, hw, rfl⟩ := zip3LD_at hd
  obtain ⟨v, B', p1, p2, p3⟩ := (z.owl ho).at hx
  obtain ⟨w, B'', q1, q2, q3⟩ := (z.owl go).at hy
  obtain ⟨t, B''', r1, r2, r3⟩ := (z.owl ko).at hw
  have eB : B' = [] := p2.un _ _ _ (unL_at u hx)
  subst eB
  have eB : B'' = [] := q2.un _ _ _ (unL_at u2 hy)
  subst eB
  have eB : B''' = [] := r2.un _ _ _ (unL_at u3 hw)
  subst eB
  refine ⟨⟨vs, ws, us, v, w, t, hs, gs, ks, p1, q1, r1⟩, fun x' H' yy => ?_⟩
  obtain ⟨T, v', w', t', rfl, hT, rfl, y1, y2, y3⟩ := yy
  have := y1 vs hs
  rw [p1] at this
  cases this
  have := y2 ws gs
  rw [q1] at this
  cases this
  have := y3 us ks
  rw [r1] at this
  cases this
  have gg : Grow fr H (fun b => fr b ∨ b = T) [] (upd H T (.tup [v, w, t])) := Grow.newT dm hT
  refine ⟨_, gg, ?_⟩
  unfold Ow
  exact ⟨T, _, rfl, .inl ⟨.inr rfl, upd_same⟩, OwL.cons (B := []) (C := []) (p2.grow gg) (OwL.cons (B := []) (C := []) (q2.grow gg) (OwL.one.mpr (r2.grow gg)))⟩
theorem itl_rev {fz o : Bool} {ds : List D} {a : Addr} {vs : List V} {B : List Addr} (h : Ow K fr0 H0 (.lst o ds) (.ref a) B) (u : unL ds = true) (hf : fz = true → o = false) (hb : ∀ b ∈ B, b ∈ A0) : ItJ K fz fr0 A0 H0 (Itv K a ds.length) ds.reverse := by
  unfold Ow at h
  obtain ⟨a', vs, C, e, ha, ho, h0, h1⟩ := h
  cases e
  have ho := ho.noB u
  intro i fr H z dm
  have hs : SqL K H a vs := by
    exact .of (z.at (ds := ds) hf ha h0 h1 hb)
  refine ⟨fun hi => by rw [List.length_reverse] at hi; exact hi, fun d hd => ?_⟩
  have hi : i < ds.length := by
    have := (List.getElem?_eq_some_iff.mp hd).1
    rw [List.length_reverse] at this; exact this
  rw [List.getElem?_reverse hi] at hd
  obtain ⟨v, B', g1, g2, g3⟩ := (z.owl ho).at hd
  have eB : B' = [] := g2.un _ _ _ (unL_at u hd)
  subst eB
  refine ⟨⟨hi, vs, v, hs, g1⟩, fun x H' y => ?_⟩
  obtain ⟨e, y⟩ := y
  subst e
  have := y vs hs
  rw [g1] at this
  cases this
  exact ⟨fr, Grow.refl dm, g2⟩
end
/-! zip of two, lists or tuples -/
def SqX (K : PySem.W.Frag) (f : Bool) (H : Hp) (a : Addr) (xs : List V) : Prop := match f with | true => SqL K H a xs | false => SqT K H a xs
def IterX (h : Heap) (f : Bool) (it a : Addr) (i : Nat) : Prop := match f with | true => h.IsListIter it a i | false => h.IsTupleIter it a i
def IsX (h : Heap) (f : Bool) (a : Addr) (its : Array Value) : Prop := match f with | true => h.IsList a its | false => h.IsTuple a its
def objX (f : Bool) (a : Addr) : Obj := match f with | true => { cls := Value.type "list_iterator", data := Data.fields #[Value.ref a, Value.int 0 0] } | false => { cls := Value.type "tuple_iterator", data := Data.fields #[Value.ref a, Value.int 0 0] }
theorem IterX.at {h h' : Heap} {f : Bool} {a l : Addr} {i : Nat} (z : IterX h f a l i) (k : ∀ (o : Obj), h.get? a = some o → h'.get? a = some o) : IterX h' f a l i := by
  cases f with
  | true => exact Heap.IsListIter.at z k
  | false => exact Heap.IsTupleIter.at z k
theorem IsX.at {h h' : Heap} {f : Bool} {a : Addr} {its : Array Value} (z : IsX h f a its) (k : ∀ (o : Obj), h.get? a = some o → h'.get? a = some o) : IsX h' f a its := by
  cases f with
  | true => exact Heap.IsList.at z k
  | false => exact Heap.IsTuple.at z k
theorem IterX.ob {h : Heap} {f : Bool} {a l : Addr} {i : Nat} (z : IterX h f a l i) : ∃ o, h.get? a = some o ∧ o.data = Data.fields #[Value.ref l, Value.int (↑i) 0] := by
  cases f with
  | true => obtain ⟨o, h1, _, h2⟩ := z; exact ⟨o, h1, h2⟩
  | false => obtain ⟨o, h1, _, h2⟩ := z; exact ⟨o, h1, h2⟩
theorem IterX.new {h : Heap} {f : Bool} {a l : Addr} (z : h.get? a = some (objX f l)) : IterX h f a l 0 := by
  cases f with
  | true => exact ⟨_, z, rfl, rfl⟩
  | false => exact ⟨_, z, rfl, rfl⟩
theorem begins_X (f : Bool) (a : Addr) (its : Array Value) : Begins (.ref a) (objX f a) fun h => IsX h f a its := by
  cases f with
  | true => exact begins_list a its
  | false => exact begins_tuple a its
section
variable {X : Cx} {pins : List (Addr × Obj)} {σ : L2.St} {H : Hp} {s : Shared} {a : Addr} {xs ys : List V} {f : Bool}
theorem invX (I : L2.Inv X pins σ H s) (h : SqX X.K f H a xs) : ∃ its, Vals xs its ∧ IsX s.heap f a its.toArray ∧ a < s.heap.objs.size := by
  cases f with
  | true =>
    obtain ⟨its, rv, p, _⟩ := I.list h
    exact ⟨its, rv, p.isList, p.lt⟩
  | false =>
    obtain ⟨its, rv, p, _⟩ := I.tuple h
    exact ⟨its, rv, p, p.lt⟩
theorem injX (I : L2.Inv X pins σ H s) (h : SqX X.K f H a xs) (g : SqX X.K f H a ys) : xs = ys := by
  cases f with
  | true => exact I.list_inj h g
  | false => exact I.tuple_inj h g
end
theorem drawsX {prog : Program} {w : World} {A : Around} (f : Bool) (hh : A.handled = none) (it l : Addr) (hne : l ≠ it) (items : Array Value) :
    Draws prog w A it [it, l] items.size (fun i v => items[i]? = some v) (fun i h => IterX h f it l i ∧ IsX h f l items) := by
  cases f with
  | true => exact Draws.list hh it l hne items
  | false => exact Draws.tuple hh it l hne items
/-- drawn to where it stands, ended or not -/
theorem drawsAtX {prog : Program} {w : World} {A : Around} (f : Bool) (hh : A.handled = none) (it l : Addr) (hne : l ≠ it) (items : Array Value) (i : Nat) :
    ∃ (n : Nat) (P : Nat → Value → Prop) (St : Nat → Heap → Prop), Draws prog w A it [it, l] n P St ∧ i ≤ n ∧ (items.size ≤ i → i = n) ∧ ∀ h : Heap, IterX h f it l i → IsX h f l items → St i h := by
  by_cases hs : i ≤ items.size
  · exact ⟨_, _, _, drawsX f hh it l hne items, hs, fun h => by omega, fun h a b => ⟨a, b⟩⟩
  · refine ⟨i, fun _ _ => True, fun k h => k = i ∧ IterX h f it l k ∧ IsX h f l items, ⟨?_, ?_, ?_, ?_⟩, Nat.le_refl _, fun _ => rfl, fun h a b => ⟨rfl, a, b⟩⟩
    · rintro k h ⟨_, z, _⟩
      obtain ⟨o, ho, _⟩ := z.ob
      exact ⟨o, ho⟩
    · rintro k h h' ⟨e, a, b⟩ hk
      exact ⟨e, a.at fun o e => hk it (by simp) o e, b.at fun o e => hk l (by simp) o e⟩
    · rintro k s Q E hi ⟨e, _⟩ hQ
      omega
    · rintro s Q E ⟨_, a, b⟩ hE
      cases f with
      | true => exact wpAny_nextOf_list_end hh a b (by simp; omega) hE
      | false => exact wpAny_nextOf_tuple_end hh a b (by simp; omega) hE
def ItzX (K : PySem.W.Frag) (f g : Bool) (a b : Addr) : It :=
  ⟨fun i H => ∃ (xs ys : List V) (x y : V), SqX K f H a xs ∧ SqX K g H b ys ∧ xs[i]? = some x ∧ ys[i]? = some y,
    fun i H v H' => ∃ T x y, v = .ref T ∧ H T = none ∧ H' = upd H T (.tup [x, y]) ∧ (∀ xs, SqX K f H a xs → xs[i]? = some x) ∧ (∀ ys, SqX K g H b ys → ys[i]? = some y),
    fun i H => ∃ xs ys : List V, SqX K f H a xs ∧ SqX K g H b ys ∧ (xs.length ≤ i ∨ ys.length ≤ i)⟩
theorem turn_zipX {P : Program} {w : World} {K : PySem.W.Frag} {f g : Bool} {elts : List Expr} {kk : Nat} {tpos : Pos} {a b z TI TO i1 i2 : Addr} (D : ZipSep2 z TI TO i1 i2 [i1, a] [i2, b]) (n1 : a ≠ i1) (n2 : b ≠ i2) :
    Turn P w K (.Tuple elts kk tpos) (ItzX K f g a b) [z, TI, TO, i1, i2] z (fun i h => IsZip h z TI TO .none ∧ IsTupOf2 h TI (.ref i1) (.ref i2) ∧ (∃ x y, IsTupOf2 h TO x y) ∧ IterX h f i1 a i ∧ IterX h g i2 b i) where
  mem := by simp
  obj := fun i h st c' hc => by
    obtain ⟨hz, hTI, ⟨x, y, hTO⟩, h1, h2⟩ := st
    obtain ⟨o1, e1, d1⟩ := h1.ob
    obtain ⟨o2, e2, d2⟩ := h2.ob
    have e' : c' = z ∨ c' = TI ∨ c' = TO ∨ c' = i1 ∨ c' = i2 := by simpa using hc
    rcases e' with q | q | q | q | q
    · rw [q]; exact ⟨_, hz, fun v q => nomatch q⟩
    · rw [q]; exact ⟨_, hTI, fun v q => nomatch q⟩
    · rw [q]; exact ⟨_, hTO, fun v q => nomatch q⟩
    · rw [q]; exact ⟨o1, e1, fun v q => by rw [d1] at q; cases q⟩
    · rw [q]; exact ⟨o2, e2, fun v q => by rw [d2] at q; cases q⟩
  keep := fun i h h' st k => by
    obtain ⟨hz, hTI, ⟨x, y, hTO⟩, h1, h2⟩ := st
    exact ⟨k z (by simp) _ hz, k TI (by simp) _ hTI, ⟨x, y, k TO (by simp) _ hTO⟩, h1.at fun o q => k i1 (by simp) o q, h2.at fun o q => k i2 (by simp) o q⟩
  item := by
    intro X hP hw hK hc i pins s σ H E I hf st hg
    subst hP hw hK
    obtain ⟨hz, hTI, ⟨x0, y0, hTO⟩, h1, h2⟩ := st
    obtain ⟨xs, ys, x, y, hqx, hqy, hx, hy⟩ := hg
    obtain ⟨its, rv, p, _⟩ := invX I hqx
    obtain ⟨its2, rv2, p2, _⟩ := invX I hqy
    obtain ⟨u, hu, ru⟩ := rv.get hx
    obtain ⟨u2, hu2, ru2⟩ := rv2.get hy
    have hzl : z < s.heap.objs.size := Heap.lt_size hz
    have hh : X.A.in1.handled = none := I.ok.hd hc
    have g1 : its.toArray[i]? = some u := by simpa using hu
    have g2 : its2.toArray[i]? = some u2 := by simpa using hu2
    refine wpAny_pyNext_zipD2_item D (drawsX f hh i1 a n1 its.toArray) (drawsX g hh i2 b n2 its2.toArray) hz hTI hTO ⟨h1, p⟩ ⟨h2, p2⟩ (Array.getElem?_eq_some_iff.mp g1).1 (Array.getElem?_eq_some_iff.mp g2).1 fun x1 x2 h' tk q1 q2 z' TO' s1 s2 hT hsz hk => ?_
    obtain rfl : x1 = u := Option.some.inj (q1.symm.trans g1)
    obtain rfl : x2 = u2 := Option.some.inj (q2.symm.trans g2)
    refine ⟨_, rfl, wpAny_letOwnedTupleGo_zip (s := { s with heap := h', toks := tk }) z' fun h'' z'' sb => ?_⟩
    have hT2 : h''.get? s.heap.objs.size = some { cls := .type "tuple", data := .seq #[x1, x2] } := (sb.2 _ (Nat.ne_of_gt hzl)).trans hT
    have new : ObjOk X.prog X.w (upd H s.heap.objs.size (.tup [x, y])) h'' s.heap.objs.size (.tup [x, y]) :=
      ⟨by show 2 ≤ sizeLine; decide, [x1, x2], .cons ru (.cons ru2 .nil), ⟨_, hT2, rfl, _, rfl⟩⟩
    have I1 : Inv X pins σ (upd H s.heap.objs.size (.tup [x, y])) { s with heap := h'', toks := tk } :=
      I.turnedNew (ch := [z, TI, TO, i1, i2]) (fun c o hb q => (sb.2 c (fun q' => hb (by simp [q']))).trans (hk c o (fun q' => hb (by simp [q'])) (fun q' => hb (by simp [q'])) (fun q' => hb (by simp [q'])) (fun q' => hb (by simp [q'])) q)) hf (Nat.le_refl _) new
    refine ⟨.ref s.heap.objs.size, _, I1, rfl, ⟨_, x, y, rfl, I.hok.fresh (Nat.le_refl _), rfl, fun l hl => by rw [injX I hl hqx]; exact hx, fun l hl => by rw [injX I hl hqy]; exact hy⟩, ⟨z'', ?_, ⟨x1, x2, ?_⟩, ?_, ?_⟩, fun c' hcm => ?_⟩
    · exact (sb.2 _ D.TIz).trans (hk _ _ D.TIz D.TITO D.TIi1 D.TIi2 hTI)
    · exact (sb.2 _ D.TOz).trans TO'
    · exact s1.1.at fun o q => (sb.2 _ (fun e => D.zf1 (by rw [← e]; exact D.mem1))).trans q
    · exact s2.1.at fun o q => (sb.2 _ (fun e => D.zf2 (by rw [← e]; exact D.mem2))).trans q
    · have hlt : c' < s.heap.objs.size := by
        have e' : c' = z ∨ c' = TI ∨ c' = TO ∨ c' = i1 ∨ c' = i2 := by simpa using hcm
        rcases e' with q | q | q | q | q
        · rw [q]; exact hzl
        · rw [q]; exact Heap.lt_size hTI
        · rw [q]; exact Heap.lt_size hTO
        · rw [q]; obtain ⟨_, e1, _⟩ := h1.ob; exact Heap.lt_size e1
        · rw [q]; obtain ⟨_, e2, _⟩ := h2.ob; exact Heap.lt_size e2
      rw [upd_ne (Nat.ne_of_lt hlt)]
      exact (hf c' hcm).1
  done := by
    intro X hP hw hK hc i pins s σ H E I hf st hg
    subst hP hw hK
    obtain ⟨hz, hTI, ⟨x0, y0, hTO⟩, h1, h2⟩ := st
    obtain ⟨xs, ys, hqx, hqy, hend⟩ := hg
    obtain ⟨its, rv, p, _⟩ := invX I hqx
    obtain ⟨its2, rv2, p2, _⟩ := invX I hqy
    have l1 := rv.length
    have l2 := rv2.length
    have hh : X.A.in1.handled = none := I.ok.hd hc
    obtain ⟨m1, P1, S1, D1, b1, c1, d1⟩ := drawsAtX (prog := X.prog) (w := X.w) f hh i1 a n1 its.toArray i
    obtain ⟨m2, P2, S2, D2, b2, c2, d2⟩ := drawsAtX (prog := X.prog) (w := X.w) g hh i2 b n2 its2.toArray i
    have z1 : its.toArray.size = its.length := by simp
    have z2 : its2.toArray.size = its2.length := by simp
    refine wpAny_pyNext_zipD2_end D D1 D2 hz hTI hTO (d1 _ h1 p) (d2 _ h2 p2) b1 b2 ?_ fun h' tk hk => ⟨rfl, I.turnedL (ch := [z, TI, TO, i1, i2]) (fun c o hb q =>
      hk c o (fun q' => hb (by simp [q'])) (fun q' => hb (by simp [q'])) (fun q' => hb (by simp [q'])) (fun q' => hb (by simp [q'])) q) hf⟩
    rcases hend with q | q
    · exact .inl (c1 (by omega))
    · exact .inr (c2 (by omega))
  self := fun A i s Q E st h => wpAny_pyIter_zip st.1 h
def iZipX (K : PySem.W.Frag) (ta : TA) : TI := fun σ H R => ta σ H fun vs H1 => ∃ f g a b xs ys, vs = [.ref a, .ref b] ∧ SqX K f H1 a xs ∧ SqX K g H1 b ys ∧ R (ItzX K f g a b) H1
theorem pi_zipX {X : Cx} {e e2 : Expr} {ta : TA} {p pos tpos : Pos} {elts : List Expr} {kk : Nat} (hg : Gl X "zip") (hm : X.mg "zip" = none) (ha : PA X [e, e2] ta)
    (hs : starEach [e, e2] X.env = (false, eval e X.env) :: starEach [e2] X.env) (hpl : (backTo pos (starEach [e2] X.env)).any (·.1) = false) :
    PI X (.Tuple elts kk tpos) (.Call (.Name "zip" p) [e, e2] [] pos) (iZipX X.K ta) := by
  refine ⟨fun pins s σ H R I h => ?_⟩
  refine Call_ (ld_blt I hg hm PyProof.Rows.boot_zip (PyProof.Rows.callWith_type1 (thn (ha.run pos pins s σ H _ I h) fun us s1 ⟨vs, H1, I1, r1, q1⟩ => ?_) hs hpl))
  obtain ⟨f, g, a, b, xs, ys, ex, hqx, hqy, q⟩ := q1
  subst ex
  cases r1 with
  | cons r rr =>
    cases rr with
    | cons r' rr =>
      cases rr
      cases r
      cases r'
      have fresh : ∀ c', c' ∈ [s1.heap.objs.size + 4, s1.heap.objs.size + 2, s1.heap.objs.size + 3, s1.heap.objs.size, s1.heap.objs.size + 1] → FpOk X pins H1 c' := fun c' hcm => by
        have hle : s1.heap.objs.size ≤ c' := by
          simp only [List.mem_cons, List.not_mem_nil, or_false] at hcm
          omega
        exact I1.fpOk hle (I1.hok.fresh hle)
      obtain ⟨its, rv, p1, l1⟩ := invX I1 hqx
      obtain ⟨its2, rv2, p2, l2⟩ := invX I1 hqy
      refine zip_begins2 (begins_X f a its.toArray) (begins_X g b its2.toArray) p1 p2 fun h' hz hTI hTO g1 g2 hsz hk => wpAny_pyIter_zip hz ?_
      have I2 : Inv X pins σ H1 { s1 with heap := h' } := I1.kept (t' := s1.toks) hk
      exact ⟨s1.heap.objs.size + 4, [s1.heap.objs.size + 4, s1.heap.objs.size + 2, s1.heap.objs.size + 3, s1.heap.objs.size, s1.heap.objs.size + 1], _, _, H1, rfl, I2,
        turn_zipX (zip_sep2 (fp1 := [a]) (fp2 := [b]) (by simpa using l1) (by simpa using l2)) (Nat.ne_of_lt l1) (Nat.ne_of_lt (Nat.lt_succ_of_lt l2)),
        ⟨hz, hTI, ⟨_, _, hTO⟩, IterX.new g1, IterX.new g2⟩, fresh, q⟩

/-- a source that is walked: a list or a tuple -/
def SrcX (K : PySem.W.Frag) (fz : Bool) (fr0 : Addr → Prop) (A0 : List Addr) (H0 : Hp) (f : Bool) (a : Addr) (ds : List D) : Prop := ∃ vs, OwL K fr0 H0 ds vs [] ∧ ∀ fr H, Zk fz fr0 A0 H0 fr H → SqX K f H a vs
section
variable {K : PySem.W.Frag} {fr0 : Addr → Prop} {A0 : List Addr} {H0 : Hp} {fz : Bool} {a b : Addr}
theorem SrcX.lst {o : Bool} {ds : List D} {B : List Addr} (h : Ow K fr0 H0 (.lst o ds) (.ref a) B) (u : unL ds = true) (hf : fz = true → o = false) (hb : ∀ b ∈ B, b ∈ A0) : SrcX K fz fr0 A0 H0 true a ds := by
  unfold Ow at h
  obtain ⟨a', vs, C, e, ha, ho, h0, h1⟩ := h
  cases e
  exact ⟨vs, ho.noB u, fun fr H z => .of (z.at (ds := ds) hf ha h0 h1 hb)⟩
theorem SrcX.tup {ds : List D} {B : List Addr} (h : Ow K fr0 H0 (.tup ds) (.ref a) B) (u : unL ds = true) : SrcX K fz fr0 A0 H0 false a ds := by
  unfold Ow at h
  obtain ⟨a', vs, e, ha, ho⟩ := h
  cases e
  exact ⟨vs, ho.noB u, fun fr H z => (ha.mono (fr' := fr) (H' := H) z.ff fun b x hb e => z.k1 b x hb e).sq⟩
theorem itl_zipX {f g : Bool} {ds es : List D} (h : SrcX K fz fr0 A0 H0 f a ds) (k : SrcX K fz fr0 A0 H0 g b es) (u : unL ds = true) (u2 : unL es = true) : ItJ K fz fr0 A0 H0 (ItzX K f g a b) (zipLD ds es) := by
  obtain ⟨vs, ho, hq⟩ := h
  obtain ⟨ws, go, gq⟩ := k
  intro i fr H z dm
  have hs := hq fr H z
  have gs := gq fr H z
  have hl := ho.len
  have gl := go.len
  refine ⟨fun hi => ⟨vs, ws, hs, gs, by rw [zipLD_len] at hi; omega⟩, fun d hd => ?_⟩
  obtain ⟨x, y, hx, hy, rfl⟩ := zipLD_at hd
  obtain ⟨v, B', p1, p2, p3⟩ := (z.owl ho).at hx
  obtain ⟨w, B'', q1, q2, q3⟩ := (z.owl go).at hy
  have eB : B' = [] := p2.un _ _ _ (unL_at u hx)
  subst eB
  have eB : B'' = [] := q2.un _ _ _ (unL_at u2 hy)
  subst eB
  refine ⟨⟨vs, ws, v, w, hs, gs, p1, q1⟩, fun x' H' yy => ?_⟩
  obtain ⟨T, v', w', rfl, hT, rfl, y1, y2⟩ := yy
  have := y1 vs hs
  rw [p1] at this
  cases this
  have := y2 ws gs
  rw [q1] at this
  cases this
  have gg : Grow fr H (fun b => fr b ∨ b = T) [] (upd H T (.tup [v, w])) := Grow.newT dm hT
  refine ⟨_, gg, ?_⟩
  unfold Ow
  exact ⟨T, _, rfl, .inl ⟨.inr rfl, upd_same⟩, OwL.cons (B := []) (C := []) (p2.grow gg) (OwL.one.mpr (q2.grow gg))⟩
end
end Sk

namespace Sk
open PySem PySem.Spec PyProof.Rows L2
section
variable {Φ : Tab} {X : Cx} {c : Cc}
theorem evOs_one {e : E} {Γ Γ' : Gm} {ds : List D} (h : evOs Φ [e] Γ = some (ds, Γ')) : ∃ d, ds = [d] ∧ ev Φ e .opd Γ = some (d, Γ') := by
  simp only [evOs] at h
  obtain ⟨⟨d, Γ1⟩, e2, e3⟩ := Option.bind_eq_some_iff.mp h
  simp only [purL, Bool.or_true, ite_true] at e3
  cases e3
  exact ⟨d, rfl, e2⟩
/-- a plain source -/
theorem i_val {e : E} {tg x : Expr} (h : PE X x (WO Φ X.K e)) : PI X tg x (WI Φ X.K .val [e]) := by
  refine ⟨fun pins s σ H R I q => ?_⟩
  obtain ⟨fr, A, Γ, ds, Γ', items, S0, e1, e2, k⟩ := q
  obtain ⟨d, rfl, e3⟩ := evOs_one e1
  match d, e2 with
  | .lst o zs, e2 =>
    simp only [itF] at e2
    split at e2
    · rename_i hu
      cases e2
      refine (pi_list h).run pins s σ H R I ⟨fr, A, Γ, _, Γ', S0, e3, fun v H' fr' A' B p pc => ?_⟩
      have ow := OwL.one.mp p.o
      obtain ⟨a, vs, C, rfl, ha, _⟩ := (show Vw X.K fr' H' (.lst o items) v from ⟨B, ow⟩).lst
      refine ⟨a, rfl, ⟨vs, .of ha⟩, k (Itl X.K a) H' fr' A' p.s p.ex (fun z => pc (by simpa [purL] using z)) (itl_list (vs := vs) ow hu (fun z => ?_) p.bs)⟩
      cases o with
      | false => rfl
      | true => simp [unL, un] at z
    · cases e2
  | .tup zs, e2 =>
    simp only [itF] at e2
    split at e2
    · rename_i hu
      cases e2
      refine (pi_tup h).run pins s σ H R I ⟨fr, A, Γ, _, Γ', S0, e3, fun v H' fr' A' B p pc => ?_⟩
      have ow := OwL.one.mp p.o
      obtain ⟨a, vs, C, rfl, ha, _⟩ := (show Vw X.K fr' H' (.tup items) v from ⟨B, ow⟩).tup
      exact ⟨a, rfl, ⟨vs, ha.sq⟩, k (Itt X.K a) H' fr' A' p.s p.ex (fun z => pc (by simpa [purL] using z)) (itl_tup ow hu)⟩
    · cases e2
  | .scr ns, e2 =>
    cases e2
    refine (pi_list h).run pins s σ H R I ⟨fr, A, Γ, _, Γ', S0, e3, fun v H' fr' A' B p pc => ?_⟩
    have ow := OwL.one.mp p.o
    obtain ⟨a, rfl, ha⟩ := (show Vw X.K fr' H' (.scr ns) v from ⟨B, ow⟩).scr
    exact ⟨a, rfl, ⟨_, ha.sq⟩, k (Itl X.K a) H' fr' A' p.s p.ex (fun z => pc (by simpa [purL] using z)) (itl_scr ha)⟩
  | .str z, e2 =>
    cases e2
    refine (pi_str h).run pins s σ H R I ⟨fr, A, Γ, _, Γ', S0, e3, fun v H' fr' A' B p pc => ?_⟩
    have ow := OwL.one.mp p.o
    obtain rfl := (show Vw X.K fr' H' (.str z) v from ⟨B, ow⟩).str
    exact ⟨z, rfl, k (Its z) H' fr' A' p.s p.ex (fun z => pc (by simpa [purL] using z)) itl_str⟩
theorem i_range {src : List E} {tg : Expr} {xs : List Expr} {pf pos : Pos} (g : Gd Φ X c) (hg : glbOk c "range" = true) (hl : (xs.length = 1 ∨ xs.length = 2) ∨ xs.length = 3) (hs : chks c src xs = true) (h : PA X xs (WOs Φ X.K src)) : PI X tg (.Call (.Name "range" pf) xs [] pos) (WI Φ X.K .range src) := by
  obtain ⟨g1, g2, g3⟩ := gl_of g hg
  have hm : X.mg "range" = none := g.bi _ (by decide)
  match xs, hl with
  | [x], _ =>
    cases src with
    | nil => simp [chks] at hs
    | cons e src =>
      simp only [chks, Bool.and_eq_true] at hs
      refine ⟨fun pins s σ H R I q => ?_⟩
      obtain ⟨fr, A, Γ, ds, Γ', items, S0, e1, e2, k⟩ := q
      refine (pi_range1 g1 hm h (star_cons hs.1.1)).run pins s σ H R I ⟨fr, A, Γ, ds, Γ', S0, e1, fun vs H' fr' A' B p pc => ?_⟩
      have hl := evOs_len e1
      have hl2 : src = [] := by
        cases src with
        | nil => rfl
        | cons _ _ => simp [chks] at hs
      subst hl2
      match ds, hl with
      | [d], _ =>
        match d, e2 with
        | .int j, e2 =>
          simp only [itF] at e2
          split at e2
          · rename_i hr
            cases e2
            obtain ⟨v, rfl, va⟩ := VwL.one' (K := X.K) (a := .int j) ⟨B, p.o⟩
            obtain rfl := va.int
            have hr2 : -(2 ^ 62) ≤ j ∧ j < 2 ^ 62 := of_decide_eq_true hr
            exact ⟨j, rfl, hr2.1, hr2.2, k _ H' fr' A' p.s p.ex pc itl_rng⟩
          · cases e2
  | [x, y], _ =>
    cases src with
    | nil => simp [chks] at hs
    | cons e src =>
      simp only [chks, Bool.and_eq_true] at hs
      cases src with
      | nil => simp [chks] at hs
      | cons e' src =>
        have hs2 := hs.2
        simp only [chks, Bool.and_eq_true] at hs2
        have hl2 : src = [] := by
          cases src with
          | nil => rfl
          | cons _ _ => simp [chks] at hs2
        subst hl2
        refine ⟨fun pins s σ H R I q => ?_⟩
        obtain ⟨fr, A, Γ, ds, Γ', items, S0, e1, e2, k⟩ := q
        have st2 : starEach [y] X.env = [(false, eval y X.env)] := star_cons hs2.1.1
        refine (pi_range2 g1 hm h (by rw [star_cons hs.1.1, st2]) st2).run pins s σ H R I ⟨fr, A, Γ, ds, Γ', S0, e1, fun vs H' fr' A' B p pc => ?_⟩
        have hl := evOs_len e1
        match ds, hl with
        | [d, d2], _ =>
          match d, d2, e2 with
          | .int i, .int j, e2 =>
            simp only [itF] at e2
            split at e2
            · rename_i hr
              cases e2
              obtain ⟨v, w, rfl, va, vb⟩ := VwL.two' (K := X.K) (a := .int i) (b := .int j) ⟨B, p.o⟩
              obtain rfl := va.int
              obtain rfl := vb.int
              rw [Bool.and_eq_true] at hr
              have hr1 : -(2 ^ 62) ≤ i ∧ i < 2 ^ 62 := of_decide_eq_true hr.1
              have hr2 : -(2 ^ 62) ≤ j ∧ j < 2 ^ 62 := of_decide_eq_true hr.2
              exact ⟨i, j, rfl, ⟨hr1.1, hr1.2, hr2.1, hr2.2⟩, k _ H' fr' A' p.s p.ex pc itl_rng⟩
            · cases e2
  | [x, y, z], _ =>
    match src, hs with
    | [e, e', e''], hs =>
      simp only [chks, Bool.and_eq_true] at hs
      have s3 : starEach [z] X.env = [(false, eval z X.env)] := star_cons hs.2.2.1.1
      have s2 : starEach [y, z] X.env = (false, eval y X.env) :: starEach [z] X.env := star_cons hs.2.1.1
      have s1 : starEach [x, y, z] X.env = (false, eval x X.env) :: starEach [y, z] X.env := star_cons hs.1.1
      refine ⟨fun pins s σ H R I q => ?_⟩
      obtain ⟨fr, A, Γ, ds, Γ', items, S0, e1, e2, k⟩ := q
      refine (pi_range3 g1 hm h s1 (by rw [s2, s3]; rfl)).run pins s σ H R I ⟨fr, A, Γ, ds, Γ', S0, e1, fun vs H' fr' A' B p pc => ?_⟩
      have hl := evOs_len e1
      match ds, hl with
      | [d, d2, d3], _ =>
        match d, d2, d3, e2 with
        | .int i, .int j, .int cc, e2 =>
          simp only [itF] at e2
          split at e2
          · rename_i hr
            cases e2
            have o := p.o
            obtain ⟨v1, us1, B1, C1, rfl, o1, o', rfl⟩ := o.cons_inv
            obtain ⟨v2, us2, B2, C2, rfl, o2, o'', rfl⟩ := o'.cons_inv
            obtain ⟨v3, us3, B3, C3, rfl, o3, o''', rfl⟩ := o''.cons_inv
            obtain ⟨rfl, _⟩ := o'''.nil_inv
            obtain rfl := (show Vw X.K fr' H' (.int i) v1 from ⟨_, o1⟩).int
            obtain rfl := (show Vw X.K fr' H' (.int j) v2 from ⟨_, o2⟩).int
            obtain rfl := (show Vw X.K fr' H' (.int cc) v3 from ⟨_, o3⟩).int
            rw [Bool.and_eq_true, decide_eq_true_eq] at hr
            obtain ⟨⟨r1, r2, r3⟩, r4⟩ := hr
            exact ⟨i, j, cc, _, rfl, ⟨r1, r2, r4, (Int.toNat_of_nonneg r3).symm⟩, k _ H' fr' A' p.s p.ex pc itl_rngC⟩
          · cases e2
    | [], hs => simp [chks] at hs
    | [_], hs => simp [chks] at hs
    | [_, _], hs => simp [chks] at hs
    | _ :: _ :: _ :: _ :: _, hs => simp [chks] at hs
theorem i_enum {e : E} {tgs : List Expr} {kk : Nat} {tpos : Pos} {x : Expr} {pf pos : Pos} (g : Gd Φ X c) (hg : glbOk c "enumerate" = true) (hs : notStar x = true) (h : PA X [x] (WOs Φ X.K [e])) : PI X (.Tuple tgs kk tpos) (.Call (.Name "enumerate" pf) [x] [] pos) (WI Φ X.K .enum [e]) := by
  obtain ⟨g1, g2, g3⟩ := gl_of g hg
  have hm : X.mg "enumerate" = none := g.bi _ (by decide)
  refine ⟨fun pins s σ H R I q => ?_⟩
  obtain ⟨fr, A, Γ, ds, Γ', items, S0, e1, e2, k⟩ := q
  refine (pi_enumA g1 hm h (star_cons hs)).run pins s σ H R I ⟨fr, A, Γ, ds, Γ', S0, e1, fun vs H' fr' A' B p pc => ?_⟩
  obtain ⟨d, rfl, e3⟩ := evOs_one e1
  match d, e2 with
  | .lst o zs, e2 =>
    simp only [itF] at e2
    split at e2
    · rename_i hu
      cases e2
      obtain ⟨v, rfl, va⟩ := VwL.one' (K := X.K) (a := .lst o zs) ⟨B, p.o⟩
      have ow := OwL.one.mp p.o
      obtain ⟨a, ws, C, rfl, ha, _⟩ := va.lst
      refine .inl ⟨a, ws, rfl, .inl ⟨.of ha, k _ H' fr' A' p.s p.ex pc (itl_enum ow hu (fun z => ?_) p.bs)⟩⟩
      cases o with
      | false => rfl
      | true => simp [unL, un] at z
    · cases e2
  | .tup zs, e2 =>
    simp only [itF] at e2
    split at e2
    · rename_i hu
      cases e2
      obtain ⟨v, rfl, va⟩ := VwL.one' (K := X.K) (a := .tup zs) ⟨B, p.o⟩
      have ow := OwL.one.mp p.o
      obtain ⟨a, ws, C, rfl, ha, _⟩ := va.tup
      exact .inl ⟨a, ws, rfl, .inr ⟨ha.sq, k _ H' fr' A' p.s p.ex pc (itl_enumT ow hu)⟩⟩
    · cases e2
  | .str z, e2 =>
    cases e2
    obtain ⟨v, rfl, va⟩ := VwL.one' (K := X.K) (a := .str z) ⟨B, p.o⟩
    obtain rfl := va.str
    exact .inr ⟨z, rfl, k _ H' fr' A' p.s p.ex pc itl_enumS⟩
theorem i_zip {e e' : E} {tgs : List Expr} {kk : Nat} {tpos : Pos} {x y : Expr} {pf pos : Pos} (g : Gd Φ X c) (hg : glbOk c "zip" = true) (hs : notStar x = true) (hs2 : notStar y = true) (h : PA X [x, y] (WOs Φ X.K [e, e'])) : PI X (.Tuple tgs kk tpos) (.Call (.Name "zip" pf) [x, y] [] pos) (WI Φ X.K .zip [e, e']) := by
  obtain ⟨g1, g2, g3⟩ := gl_of g hg
  have hm : X.mg "zip" = none := g.bi _ (by decide)
  refine ⟨fun pins s σ H R I q => ?_⟩
  obtain ⟨fr, A, Γ, ds, Γ', items, S0, e1, e2, k⟩ := q
  have st2 : starEach [y] X.env = [(false, eval y X.env)] := star_cons hs2
  refine (pi_zipX g1 hm h (star_cons hs) (by rw [st2]; rfl)).run pins s σ H R I ⟨fr, A, Γ, ds, Γ', S0, e1, fun vs H' fr' A' B p pc => ?_⟩
  have hl := evOs_len e1
  match ds, hl with
  | [d, d2], _ =>
    match d, d2, e2 with
    | .lst o as, .lst o2 bs, e2 =>
      simp only [itF] at e2
      split at e2
      · rename_i hu
        cases e2
        rw [Bool.and_eq_true] at hu
        obtain ⟨v, vs', B1, C1, rfl, w1, w2, eB1⟩ := p.o.cons_inv
        obtain ⟨w, vs'', B2, C2, rfl, w3, w4, eB2⟩ := w2.cons_inv
        obtain ⟨rfl, _⟩ := w4.nil_inv
        obtain ⟨a, us, _, rfl, ha, _⟩ := (show Vw X.K fr' H' (.lst o as) v from ⟨_, w1⟩).lst
        obtain ⟨b, ws, _, rfl, hb, _⟩ := (show Vw X.K fr' H' (.lst o2 bs) w from ⟨_, w3⟩).lst
        refine ⟨true, true, a, b, us, ws, rfl, .of ha, .of hb, k _ H' fr' A' p.s p.ex pc (itl_zipX (SrcX.lst w1 hu.1 (fun z => ?_) (fun b hb => p.bs b (by rw [eB1]; exact List.mem_append_left _ hb))) (SrcX.lst w3 hu.2 (fun z => ?_) fun b hb => p.bs b (by rw [eB1, eB2]; exact List.mem_append_right _ (List.mem_append_left _ hb))) hu.1 hu.2)⟩
        · cases o with
          | false => rfl
          | true => simp [unL, un] at z
        · cases o2 with
          | false => rfl
          | true => simp [unL, un] at z
      · cases e2
    | .lst o as, .tup bs, e2 =>
      simp only [itF] at e2
      split at e2
      · rename_i hu
        cases e2
        rw [Bool.and_eq_true] at hu
        obtain ⟨v, vs', B1, C1, rfl, w1, w2, eB1⟩ := p.o.cons_inv
        obtain ⟨w, vs'', B2, C2, rfl, w3, w4, eB2⟩ := w2.cons_inv
        obtain ⟨rfl, _⟩ := w4.nil_inv
        obtain ⟨a, us, _, rfl, ha, _⟩ := (show Vw X.K fr' H' (.lst o as) v from ⟨_, w1⟩).lst
        obtain ⟨b, ws, _, rfl, hb, _⟩ := (show Vw X.K fr' H' (.tup bs) w from ⟨_, w3⟩).tup
        refine ⟨true, false, a, b, us, ws, rfl, .of ha, hb.sq, k _ H' fr' A' p.s p.ex pc (itl_zipX (SrcX.lst w1 hu.1 (fun z => ?_) (fun b hb => p.bs b (by rw [eB1]; exact List.mem_append_left _ hb))) (SrcX.tup w3 hu.2) hu.1 hu.2)⟩
        · cases o with
          | false => rfl
          | true => simp [unL, un] at z
      · cases e2
    | .tup as, .lst o2 bs, e2 =>
      simp only [itF] at e2
      split at e2
      · rename_i hu
        cases e2
        rw [Bool.and_eq_true] at hu
        obtain ⟨v, vs', B1, C1, rfl, w1, w2, eB1⟩ := p.o.cons_inv
        obtain ⟨w, vs'', B2, C2, rfl, w3, w4, eB2⟩ := w2.cons_inv
        obtain ⟨rfl, _⟩ := w4.nil_inv
        obtain ⟨a, us, _, rfl, ha, _⟩ := (show Vw X.K fr' H' (.tup as) v from ⟨_, w1⟩).tup
        obtain ⟨b, ws, _, rfl, hb, _⟩ := (show Vw X.K fr' H' (.lst o2 bs) w from ⟨_, w3⟩).lst
        refine ⟨false, true, a, b, us, ws, rfl, ha.sq, .of hb, k _ H' fr' A' p.s p.ex pc (itl_zipX (SrcX.tup w1 hu.1) (SrcX.lst w3 hu.2 (fun z => ?_) fun b hb => p.bs b (by rw [eB1, eB2]; exact List.mem_append_right _ (List.mem_append_left _ hb))) hu.1 hu.2)⟩
        · cases o2 with
          | false => rfl
          | true => simp [unL, un] at z
      · cases e2
    | .tup as, .tup bs, e2 =>
      simp only [itF] at e2
      split at e2
      · rename_i hu
        cases e2
        rw [Bool.and_eq_true] at hu
        obtain ⟨v, vs', B1, C1, rfl, w1, w2, eB1⟩ := p.o.cons_inv
        obtain ⟨w, vs'', B2, C2, rfl, w3, w4, eB2⟩ := w2.cons_inv
        obtain ⟨rfl, _⟩ := w4.nil_inv
        obtain ⟨a, us, _, rfl, ha, _⟩ := (show Vw X.K fr' H' (.tup as) v from ⟨_, w1⟩).tup
        obtain ⟨b, ws, _, rfl, hb, _⟩ := (show Vw X.K fr' H' (.tup bs) w from ⟨_, w3⟩).tup
        exact ⟨false, false, a, b, us, ws, rfl, ha.sq, hb.sq, k _ H' fr' A' p.s p.ex pc (itl_zipX (SrcX.tup w1 hu.1) (SrcX.tup w3 hu.2) hu.1 hu.2)⟩
      · cases e2
theorem itF_zip3 {d d2 d3 : D} {is : List D} (h : itF .zip [d, d2, d3] = some is) : ∃ o as o2 bs o3 cs, d = .lst o as ∧ d2 = .lst o2 bs ∧ d3 = .lst o3 cs ∧ (unL as && unL bs && unL cs) = true ∧ is = zip3LD as bs cs := by
  cases d with
  | lst o as =>
    cases d2 with
    | lst o2 bs =>
      cases d3 with
      | lst o3 cs =>
        simp only [itF] at h
        split at h
        · rename_i hu
          cases h
          exact ⟨_, _, _, _, _, _, rfl, rfl, rfl, hu, rfl⟩
        · cases h
      | _ => simp [itF] at h
    | _ => simp [itF] at h
  | _ => simp [itF] at h
theorem i_zip3 {e e' e'' : E} {tgs : List Expr} {kk : Nat} {tpos : Pos} {x y z : Expr} {pf pos : Pos} (g : Gd Φ X c) (hg : glbOk c "zip" = true) (hs : notStar x = true) (hs2 : notStar y = true) (hs3 : notStar z = true) (h : PA X [x, y, z] (WOs Φ X.K [e, e', e''])) : PI X (.Tuple tgs kk tpos) (.Call (.Name "zip" pf) [x, y, z] [] pos) (WI Φ X.K .zip [e, e', e'']) := by
  obtain ⟨g1, g2, g3⟩ := gl_of g hg
  have hm : X.mg "zip" = none := g.bi _ (by decide)
  refine ⟨fun pins s σ H R I q => ?_⟩
  obtain ⟨fr, A, Γ, ds, Γ', items, S0, e1, e2, k⟩ := q
  have st2 : starEach [y, z] X.env = [(false, eval y X.env), (false, eval z X.env)] := by rw [star_cons hs2, star_cons hs3]; rfl
  refine (pi_zip3 g1 hm h (star_cons hs) (by rw [st2]; rfl)).run pins s σ H R I ⟨fr, A, Γ, ds, Γ', S0, e1, fun vs H' fr' A' B p pc => ?_⟩
  have hl := evOs_len e1
  match ds, hl with
  | [d, d2, d3], _ =>
    obtain ⟨o, as, o2, bs, o3, cs, rfl, rfl, rfl, hu, rfl⟩ := itF_zip3 e2
    rw [Bool.and_eq_true, Bool.and_eq_true] at hu
    obtain ⟨v, vs1, B1, C1, rfl, w1, w2, eB1⟩ := p.o.cons_inv
    obtain ⟨w, vs2, B2, C2, rfl, w3, w4, eB2⟩ := w2.cons_inv
    obtain ⟨t, vs3, B3, C3, rfl, w5, w6, eB3⟩ := w4.cons_inv
    obtain ⟨rfl, _⟩ := w6.nil_inv
    obtain ⟨a, us, _, rfl, ha, _⟩ := (show Vw X.K fr' H' (.lst o as) v from ⟨_, w1⟩).lst
    obtain ⟨b, ws, _, rfl, hb, _⟩ := (show Vw X.K fr' H' (.lst o2 bs) w from ⟨_, w3⟩).lst
    obtain ⟨b', ts, _, rfl, hc, _⟩ := (show Vw X.K fr' H' (.lst o3 cs) t from ⟨_, w5⟩).lst
    refine ⟨a, b, b', us, ws, ts, rfl, .of ha, .of hb, .of hc, k _ H' fr' A' p.s p.ex pc (itl_zip3 w1 w3 w5 hu.1.1 hu.1.2 hu.2 (fun z => ?_) (fun z => ?_) (fun z => ?_) (fun b hb => p.bs b (by rw [eB1]; exact List.mem_append_left _ hb)) (fun b hb => p.bs b (by rw [eB1, eB2]; exact List.mem_append_right _ (List.mem_append_left _ hb))) fun b hb => p.bs b (by rw [eB1, eB2, eB3]; exact List.mem_append_right _ (List.mem_append_right _ (List.mem_append_left _ hb))))⟩
    · cases o with
      | false => rfl
      | true => simp [unL, un] at z
    · cases o2 with
      | false => rfl
      | true => simp [unL, un] at z
    · cases o3 with
      | false => rfl
      | true => simp [unL, un] at z
theorem i_rev {e : E} {tg x : Expr} {pf pos : Pos} (g : Gd Φ X c) (hg : glbOk c "reversed" = true) (hs : notStar x = true) (h : PA X [x] (WOs Φ X.K [e])) : PI X tg (.Call (.Name "reversed" pf) [x] [] pos) (WI Φ X.K .rev [e]) := by
  obtain ⟨g1, g2, g3⟩ := gl_of g hg
  have hm : X.mg "reversed" = none := g.bi _ (by decide)
  refine ⟨fun pins s σ H R I q => ?_⟩
  obtain ⟨fr, A, Γ, ds, Γ', items, S0, e1, e2, k⟩ := q
  refine (pi_reversed g1 hm h (star_cons hs)).run pins s σ H R I ⟨fr, A, Γ, ds, Γ', S0, e1, fun vs H' fr' A' B p pc => ?_⟩
  obtain ⟨d, rfl, e3⟩ := evOs_one e1
  match d, e2 with
  | .lst o zs, e2 =>
    simp only [itF] at e2
    split at e2
    · rename_i hu
      cases e2
      obtain ⟨v, rfl, va⟩ := VwL.one' (K := X.K) (a := .lst o zs) ⟨B, p.o⟩
      have ow := OwL.one.mp p.o
      obtain ⟨a, ws, C, rfl, ha, o'⟩ := va.lst
      refine ⟨a, ws, rfl, .of ha, ?_⟩
      rw [o'.len]
      refine k _ H' fr' A' p.s p.ex pc (itl_rev (vs := ws) ow hu (fun z => ?_) p.bs)
      cases o with
      | false => rfl
      | true => simp [unL, un] at z
    · cases e2

/-! ### targets -/
/-- a target's reading: values that are owned apart are stored -/
def WG (K : PySem.W.Frag) (t : T) : TG := fun v σ H Q => ∃ fr A Γ d B Γ', S K fr A Γ σ H ∧ Ow K fr H d v B ∧ (A ++ B).Nodup ∧ (∀ b ∈ B, ¬ fr b) ∧ asgT t d Γ = some Γ' ∧
  ∀ σ' A', S K fr A' Γ' σ' H → (∀ b ∈ A', b ∈ A ∨ b ∈ B) → (∀ i, aT i t = false → σ'[i]? = σ[i]?) → Q σ' H
def WGs (K : PySem.W.Frag) (ts : List T) : TGs := fun vs σ H Q => ∃ fr A Γ ds B Γ', S K fr A Γ σ H ∧ OwL K fr H ds vs B ∧ (A ++ B).Nodup ∧ (∀ b ∈ B, ¬ fr b) ∧ asgTs ts ds Γ = some Γ' ∧
  ∀ σ' A', S K fr A' Γ' σ' H → (∀ b ∈ A', b ∈ A ∨ b ∈ B) → (∀ i, aTL i ts = false → σ'[i]? = σ[i]?) → Q σ' H
theorem pg_imp {X : Cx} {x : Expr} {t t' : TG} (h : PG X x t) (g : ∀ v σ H Q, t' v σ H Q → t v σ H Q) : PG X x t' := ⟨fun pins s σ H v u Q I r q => h.run pins s σ H v u Q I r (g v σ H Q q)⟩
theorem pgs_imp {X : Cx} {x : List Expr} {t t' : TGs} (h : PGs X x t) (g : ∀ v σ H Q, t' v σ H Q → t v σ H Q) : PGs X x t' := ⟨fun pins s σ H v u Q I r q => h.run pins s σ H v u Q I r (g v σ H Q q)⟩
/-- storing a value that is owned apart -/
theorem S.store {K : PySem.W.Frag} {fr : Addr → Prop} {A B : List Addr} {Γ : Gm} {σ : St} {H : Hp} {d : D} {v : V} {i : Nat} (s : S K fr A Γ σ H) (o : Ow K fr H d v B) (nd : (A ++ B).Nodup) (dj : ∀ b ∈ B, ¬ fr b) (hi : i < Γ.length) :
    ∃ A', S K fr A' (Γ.set i (some d)) (σ.set i (some v)) H ∧ ∀ b ∈ A', b ∈ A ∨ b ∈ B := by
  obtain ⟨C, sub, q⟩ := s.sl.drop i (some v)
  have hl := s.sl.len
  obtain ⟨A', p, q2⟩ := SlO.fill q (by rw [List.getElem?_set_self (by omega)]) o
  have mA : ∀ b, b ∈ A' ↔ b ∈ B ∨ b ∈ C := fun b => by rw [p.mem_iff, List.mem_append]
  refine ⟨A', ⟨q2, p.nodup_iff.mpr ?_, fun b hb => ?_, s.dm⟩, fun b hb => ?_⟩
  · obtain ⟨n1, n2, n3⟩ := List.nodup_append.mp nd
    exact List.nodup_append.mpr ⟨n2, n1.sublist sub, fun x hx y hy e => n3 y (sub.subset hy) x hx e.symm⟩
  · rcases (mA b).mp hb with z | z
    · exact dj b z
    · exact s.dj b (sub.subset z)
  · rcases (mA b).mp hb with z | z
    · exact .inr z
    · exact .inl (sub.subset z)
theorem g_name {i : Nat} {x : Expr} (h : PG X x (gName i)) : PG X x (WG X.K (.n i)) := by
  refine pg_imp h fun v σ H Q q => ?_
  obtain ⟨fr, A, Γ, d, B, Γ', s, o, nd, dj, e, k⟩ := q
  simp only [asgT] at e
  split at e
  · rename_i hi
    cases e
    obtain ⟨A', s', sub⟩ := s.store o nd dj hi
    refine k _ A' s' sub fun j hj => ?_
    simp only [aT, beq_eq_false_iff_ne, ne_eq] at hj
    rw [List.getElem?_set_ne (Ne.symm hj)]
  · cases e
theorem g_nil : PGs X [] (WGs X.K []) := by
  refine pgs_imp pgs_nil fun vs σ H Q q => ?_
  obtain ⟨fr, A, Γ, ds, B, Γ', s, o, nd, dj, e, k⟩ := q
  cases ds with
  | cons _ _ => simp [asgTs] at e
  | nil =>
    simp only [asgTs] at e
    cases e
    exact ⟨o.nil_inv.1, k σ A s (fun b hb => .inl hb) fun _ _ => rfl⟩
theorem g_cons {t : T} {ts : List T} {x : Expr} {xs : List Expr} (hs : notStar x = true) (h : PG X x (WG X.K t)) (h2 : PGs X xs (WGs X.K ts)) : PGs X (x :: xs) (WGs X.K (t :: ts)) := by
  have hst : (assignEach (x :: xs) X.env).map (·.2) = assign x X.env :: (assignEach xs X.env).map (·.2) := by
    cases x <;> first | rfl | cases hs
  refine pgs_imp (pgs_cons h h2 hst) fun vs σ H Q q => ?_
  obtain ⟨fr, A, Γ, ds, B, Γ', s, o, nd, dj, e, k⟩ := q
  cases ds with
  | nil => simp [asgTs] at e
  | cons d ds =>
    simp only [asgTs] at e
    obtain ⟨Γ1, e1, e2⟩ := Option.bind_eq_some_iff.mp e
    obtain ⟨v, us, B1, C1, rfl, o1, o2, rfl⟩ := o.cons_inv
    have nd1 : (A ++ B1).Nodup := by
      rw [← List.append_assoc] at nd
      exact (List.nodup_append.mp nd).1
    refine ⟨v, us, rfl, fr, A, Γ, d, B1, Γ1, s, o1, nd1, fun b hb => dj b (List.mem_append_left _ hb), e1, fun σ1 A1 s1 sub1 hf1 => ?_⟩
    refine ⟨fr, A1, Γ1, ds, C1, Γ', s1, o2, ?_, fun b hb => dj b (List.mem_append_right _ hb), e2, fun σ2 A2 s2 sub2 hf2 => ?_⟩
    · rw [← List.append_assoc] at nd
      obtain ⟨n1, n2, n3⟩ := List.nodup_append.mp nd
      refine List.nodup_append.mpr ⟨s1.nd, n2, fun x hx y hy e => ?_⟩
      rcases sub1 x hx with z | z
      · exact n3 x (List.mem_append_left _ z) y hy e
      · exact n3 x (List.mem_append_right _ z) y hy e
    · refine k σ2 A2 s2 (fun b hb => ?_) fun i hi => ?_
      · rcases sub2 b hb with z | z
        · rcases sub1 b z with y | y
          · exact .inl y
          · exact .inr (List.mem_append_left _ y)
        · exact .inr (List.mem_append_right _ z)
      · simp only [aTL, Bool.or_eq_false_iff] at hi
        rw [hf2 i hi.2, hf1 i hi.1]
theorem asgTs_len {ts : List T} : ∀ {ds : List D} {Γ Γ' : Gm}, asgTs ts ds Γ = some Γ' → ds.length = ts.length := by
  induction ts with
  | nil =>
    intro ds Γ Γ' h
    cases ds with
    | nil => rfl
    | cons _ _ => simp [asgTs] at h
  | cons t ts ih =>
    intro ds Γ Γ' h
    cases ds with
    | nil => simp [asgTs] at h
    | cons d ds =>
      simp only [asgTs] at h
      obtain ⟨Γ1, e1, e2⟩ := Option.bind_eq_some_iff.mp h
      rw [List.length_cons, List.length_cons, ih e2]
theorem g_tup {ts : List T} {xs : List Expr} {k0 : Nat} {pos : Pos} (hc : X.calm = true) (hl : xs.length = ts.length) (hst : ∀ y ∈ assignEach xs X.env, y.1 = false) (h : PGs X xs (WGs X.K ts)) : PG X (.Tuple xs k0 pos) (WG X.K (.t ts)) := by
  have hlen : (assignEach xs X.env).length = ts.length := by
    have : ∀ l : List Expr, (assignEach l X.env).length = l.length := fun l => by
      induction l with
      | nil => rfl
      | cons x r ih =>
        cases x <;> (show (assignEach r X.env).length + 1 = r.length + 1; rw [ih])
    rw [this, hl]
  have hf : (assignEach xs X.env).findIdx? (·.1) = none := by
    rw [List.findIdx?_eq_none_iff]
    exact hst
  refine pg_imp (pg_tup hc h hlen hf) fun v σ H Q q => ?_
  obtain ⟨fr, A, Γ, d, B, Γ', s, o, nd, dj, e, k⟩ := q
  match d, e with
  | .tup ds, e =>
    simp only [asgT] at e
    unfold Ow at o
    obtain ⟨a, vs, rfl, ha, ol⟩ := o
    refine ⟨a, vs, rfl, ha.sq, by rw [ol.len, asgTs_len e], fr, A, Γ, ds, B, Γ', s, ol, nd, dj, e, fun σ' A' s' sub hf => k σ' A' s' sub fun i hi => hf i ?_⟩
    simpa only [aT] using hi
end
end Sk

namespace Sk
open PySem PySem.Spec PyProof.Rows L2
theorem wipeG_len {Γ : Gm} : ∀ {own : List Nat}, (wipeG Γ own).length = Γ.length
  | [] => rfl
  | v :: vs => by unfold wipeG; rw [List.length_set, wipeG_len]
theorem wipeG_out {Γ : Gm} {i : Nat} : ∀ {own : List Nat}, i ∉ own → (wipeG Γ own)[i]? = Γ[i]?
  | [], _ => rfl
  | v :: vs, h => by
    simp only [List.mem_cons, not_or] at h
    unfold wipeG
    rw [List.getElem?_set_ne (Ne.symm h.1), wipeG_out h.2]
theorem wipeG_in {Γ : Gm} {i : Nat} : ∀ {own : List Nat}, i ∈ own → i < Γ.length → (wipeG Γ own)[i]? = some none
  | v :: vs, h, hl => by
    unfold wipeG
    by_cases e : v = i
    · subst e
      rw [List.getElem?_set_self (by rw [wipeG_len]; exact hl)]
    · rw [List.getElem?_set_ne e]
      exact wipeG_in ((List.mem_cons.mp h).resolve_left (Ne.symm e)) hl
theorem wipe_in {σ : St} {i : Nat} : ∀ {own : List Nat}, i ∈ own → i < σ.length → (wipe σ own)[i]? = some none
  | v :: vs, h, hl => by
    unfold wipe
    by_cases e : v = i
    · subst e
      rw [List.getElem?_set_self (by rw [wipe_length]; exact hl)]
    · rw [List.getElem?_set_ne e]
      exact wipe_in ((List.mem_cons.mp h).resolve_left (Ne.symm e)) hl
theorem backG_len {Γ0 Γ : Gm} : ∀ {own : List Nat}, (backG Γ0 Γ own).length = Γ.length
  | [] => rfl
  | v :: vs => by unfold backG; rw [List.length_set, backG_len]
theorem backG_out {Γ0 Γ : Gm} {i : Nat} : ∀ {own : List Nat}, i ∉ own → (backG Γ0 Γ own)[i]? = Γ[i]?
  | [], _ => rfl
  | v :: vs, h => by
    simp only [List.mem_cons, not_or] at h
    unfold backG
    rw [List.getElem?_set_ne (Ne.symm h.1), backG_out h.2]
theorem backG_in {Γ0 Γ : Gm} {i : Nat} : ∀ {own : List Nat}, i ∈ own → i < Γ.length → (backG Γ0 Γ own)[i]? = some (Γ0.getD i none)
  | v :: vs, h, hl => by
    unfold backG
    by_cases e : v = i
    · subst e
      rw [List.getElem?_set_self (by rw [backG_len]; exact hl)]
    · rw [List.getElem?_set_ne e]
      exact backG_in ((List.mem_cons.mp h).resolve_left (Ne.symm e)) hl
theorem hideOk_at {Γ : Gm} {own : List Nat} {i : Nat} (h : hideOk Γ own = true) (hi : i ∈ own) : i < Γ.length ∧ ∀ d, Γ[i]? = some (some d) → un d = true := by
  unfold hideOk at h
  rw [List.all_eq_true] at h
  have := h i hi
  cases q : Γ[i]? with
  | none => rw [q] at this; cases this
  | some o =>
    refine ⟨(List.getElem?_eq_some_iff.mp q).1, fun d e => ?_⟩
    cases e
    rw [q] at this
    exact this
theorem wipe_wipe {σ σ2 : St} {own : List Nat} (hl : σ2.length = σ.length) (h : ∀ i, i ∉ own → σ2[i]? = (wipe σ own)[i]?) : wipe σ2 own = wipe σ own := by
  apply List.ext_getElem?
  intro i
  by_cases hi : i ∈ own
  · by_cases hb : i < σ.length
    · rw [wipe_in hi (by omega), wipe_in hi hb]
    · rw [List.getElem?_eq_none (by rw [wipe_length]; omega), List.getElem?_eq_none (by rw [wipe_length]; omega)]
  · rw [wipe_out hi, h i hi]
mutual
theorem tIn_a {own : List Nat} {i : Nat} : ∀ (t : T), tIn own t = true → i ∉ own → aT i t = false
  | .n j, h, hi => by
    unfold tIn at h
    unfold aT
    rw [beq_eq_false_iff_ne]
    rintro rfl
    exact hi (by simpa using h)
  | .t ts, h, hi => by
    unfold tIn at h
    unfold aT
    exact tIns_a ts h hi
theorem tIns_a {own : List Nat} {i : Nat} : ∀ (ts : List T), tIns own ts = true → i ∉ own → aTL i ts = false
  | [], h, hi => rfl
  | t :: ts, h, hi => by
    unfold tIns at h
    unfold aTL
    rw [Bool.and_eq_true] at h
    rw [tIn_a t h.1 hi, tIns_a ts h.2 hi]; rfl
end
section
variable {K : PySem.W.Frag} {fr : Addr → Prop} {H : Hp}
/-- slots that own nothing are exchanged -/
theorem SlO.patch : ∀ {Γ Γ' : Gm} {σ σ' : St} {A : List Addr}, SlO K fr H Γ σ A → Γ'.length = Γ.length → σ'.length = σ.length →
    (∀ i, i < Γ.length → (Γ'[i]? = Γ[i]? ∧ σ'[i]? = σ[i]?) ∨ ((∀ d, Γ[i]? = some (some d) → un d = true) ∧ (Γ'[i]? = some none ∨ ∃ d w, Γ'[i]? = some (some d) ∧ σ'[i]? = some (some w) ∧ Ow K fr H d w []))) → SlO K fr H Γ' σ' A
  | [], Γ', σ, σ', A, h, l1, l2, f => by
    have e1 : Γ' = [] := List.eq_nil_of_length_eq_zero l1
    obtain ⟨e2, e3⟩ := h
    subst e1 e2
    exact ⟨List.eq_nil_of_length_eq_zero l2, e3⟩
  | x :: Γ, Γ', σ, σ', A, h, l1, l2, f => by
    match Γ', l1 with
    | y :: Γ', l1 =>
      have hσ : ∃ s r, σ = s :: r := by
        cases x with
        | none => obtain ⟨s, r, e, _⟩ := h; exact ⟨s, r, e⟩
        | some d => obtain ⟨v, r, _, _, e, _⟩ := h; exact ⟨_, r, e⟩
      obtain ⟨s, r, rfl⟩ := hσ
      match σ', l2 with
      | s' :: r', l2 =>
        have f0 := f 0 (by simp)
        have fs : ∀ i, i < Γ.length → (Γ'[i]? = Γ[i]? ∧ r'[i]? = r[i]?) ∨ ((∀ d, Γ[i]? = some (some d) → un d = true) ∧ (Γ'[i]? = some none ∨ ∃ d w, Γ'[i]? = some (some d) ∧ r'[i]? = some (some w) ∧ Ow K fr H d w [])) := fun i hi => by
          have := f (i + 1) (by simp; omega)
          simpa only [List.getElem?_cons_succ] using this
        simp only [List.getElem?_cons_zero, Option.some.injEq] at f0
        have hrest : ∃ B C, SlO K fr H Γ r C ∧ A = B ++ C ∧ (x = none → B = []) ∧ ∀ d, x = some d → ∃ v, s = some v ∧ Ow K fr H d v B := by
          cases x with
          | none =>
            obtain ⟨s0, r0, e, h⟩ := h
            cases e
            exact ⟨[], A, h, rfl, fun _ => rfl, fun d z => by cases z⟩
          | some d =>
            obtain ⟨v, r0, B, C, e, h1, h2, eA⟩ := h
            cases e
            exact ⟨B, C, h2, eA, (fun z => by cases z), fun d' z => by cases z; exact ⟨v, rfl, h1⟩⟩
        obtain ⟨B, C, hC, rfl, hB0, hB1⟩ := hrest
        have ih := SlO.patch hC (by simpa using l1) (by simpa using l2) fs
        rcases f0 with ⟨rfl, rfl⟩ | ⟨hu, hy⟩
        · cases y with
          | none => rw [hB0 rfl]; exact ⟨_, _, rfl, ih⟩
          | some d =>
            obtain ⟨v, rfl, ho⟩ := hB1 d rfl
            exact ⟨v, _, B, C, rfl, ho, ih, rfl⟩
        · have eB : B = [] := by
            cases x with
            | none => exact hB0 rfl
            | some d =>
              obtain ⟨v, _, ho⟩ := hB1 d rfl
              exact ho.un _ _ _ (hu d rfl)
          subst eB
          rcases hy with hy | ⟨d, w, hy, hs, ho⟩
          · subst hy
            exact ⟨_, _, rfl, ih⟩
          · subst hy hs
            exact ⟨w, _, [], C, rfl, ho, ih, rfl⟩
theorem S.hide {A : List Addr} {Γ : Gm} {σ : St} {own : List Nat} (s : S K fr A Γ σ H) (h : hideOk Γ own = true) : S K fr A (wipeG Γ own) (wipe σ own) H := by
  have hl := s.sl.len
  refine ⟨s.sl.patch wipeG_len (wipe_length _ _) fun i hi => ?_, s.nd, s.dj, s.dm⟩
  by_cases hm : i ∈ own
  · exact .inr ⟨(hideOk_at h hm).2, .inl (wipeG_in hm hi)⟩
  · exact .inl ⟨wipeG_out hm, wipe_out hm⟩
/-- a change at one address that nothing of ours leans on -/
theorem S.other {A : List Addr} {Γ : Gm} {σ : St} {D : Addr} {o : HO} (s : S K fr A Γ σ H) (h1 : D ∉ A) (h2 : ¬ fr D) : S K fr A Γ σ (upd H D o) := by
  refine s.keep (fun _ z => z) (fun b x hb e => ?_) s.dj fun b hb => ?_
  · rw [upd_ne]
    · exact e
    · rintro rfl
      rcases hb with hb | hb
      · exact h2 hb
      · exact h1 hb
  · obtain ⟨x, q⟩ := s.dm b hb
    refine ⟨x, ?_⟩
    rw [upd_ne]
    · exact q
    · rintro rfl; exact h2 hb
theorem OwL.other {ds : List D} {vs : List V} {B : List Addr} {D : Addr} {o : HO} (h : OwL K fr H ds vs B) (h1 : D ∉ B) (h2 : ¬ fr D) : OwL K fr (upd H D o) ds vs B := by
  refine h.mono (fun _ z => z) _ _ _ fun b x hb e => ?_
  rw [upd_ne]
  · exact e
  · rintro rfl
    rcases hb with hb | hb
    · exact h2 hb
    · exact h1 hb
end
end Sk

namespace Sk
open PySem PySem.Spec PyProof.Rows L2
/-- a clause's tests -/
def WC (Φ : Tab) (K : PySem.W.Frag) (cond : List E) : TT := fun σ H Q => ∃ fr A Γ b Γ', S K fr A Γ σ H ∧ evCond Φ cond Γ = some (b, Γ') ∧ ∀ H' fr' A', S K fr' A' Γ' σ H' → Ext A fr H A' fr' H' → (purL cond = true → Sm' H H' ∧ A' = A) → Q b H'
theorem pts_imp {X : Cx} {x : List Expr} {t t' : TT} (h : PTs X x t) (g : ∀ σ H Q, t' σ H Q → t σ H Q) : PTs X x t' := ⟨fun pins s σ H Q I q => h.run pins s σ H Q I (g σ H Q q)⟩
mutual
theorem asgT_out {i : Nat} : ∀ (t : T) {d : D} {Γ Γ' : Gm}, asgT t d Γ = some Γ' → aT i t = false → Γ'[i]? = Γ[i]?
  | .n j, d, Γ, Γ', h, ha => by
    simp only [asgT] at h
    split at h
    · cases h
      unfold aT at ha
      rw [beq_eq_false_iff_ne] at ha
      rw [List.getElem?_set_ne (Ne.symm ha)]
    · cases h
  | .t ts, d, Γ, Γ', h, ha => by
    match d, h with
    | .tup ds, h =>
      simp only [asgT] at h
      unfold aT at ha
      exact asgTs_out ts h ha
theorem asgTs_out {i : Nat} : ∀ (ts : List T) {ds : List D} {Γ Γ' : Gm}, asgTs ts ds Γ = some Γ' → aTL i ts = false → Γ'[i]? = Γ[i]?
  | [], ds, Γ, Γ', h, ha => by
    cases ds with
    | nil => simp only [asgTs] at h; cases h; rfl
    | cons _ _ => simp [asgTs] at h
  | t :: ts, ds, Γ, Γ', h, ha => by
    cases ds with
    | nil => simp [asgTs] at h
    | cons d ds =>
      simp only [asgTs] at h
      obtain ⟨Γ1, e1, e2⟩ := Option.bind_eq_some_iff.mp h
      unfold aTL at ha
      rw [Bool.or_eq_false_iff] at ha
      rw [asgTs_out ts e2 ha.2, asgT_out t e1 ha.1]
end
mutual
theorem asgT_len : ∀ (t : T) {d : D} {Γ Γ' : Gm}, asgT t d Γ = some Γ' → Γ'.length = Γ.length
  | .n j, d, Γ, Γ', h => by
    simp only [asgT] at h
    split at h
    · cases h; rw [List.length_set]
    · cases h
  | .t ts, d, Γ, Γ', h => by
    match d, h with
    | .tup ds, h =>
      simp only [asgT] at h
      exact asgTs_len2 ts h
theorem asgTs_len2 : ∀ (ts : List T) {ds : List D} {Γ Γ' : Gm}, asgTs ts ds Γ = some Γ' → Γ'.length = Γ.length
  | [], ds, Γ, Γ', h => by
    cases ds with
    | nil => simp only [asgTs] at h; cases h; rfl
    | cons _ _ => simp [asgTs] at h
  | t :: ts, ds, Γ, Γ', h => by
    cases ds with
    | nil => simp [asgTs] at h
    | cons d ds =>
      simp only [asgTs] at h
      obtain ⟨Γ1, e1, e2⟩ := Option.bind_eq_some_iff.mp h
      rw [asgTs_len2 ts e2, asgT_len t e1]
end
theorem hide_set {Γ : Gm} {own : List Nat} {i : Nat} {d : D} (h : hideOk Γ own = true) (u : un d = true) : hideOk (Γ.set i (some d)) own = true := by
  unfold hideOk at *
  rw [List.all_eq_true] at *
  intro j hj
  have := h j hj
  by_cases e : i = j
  · subst e
    cases q : Γ[i]? with
    | none => rw [q] at this; cases this
    | some o => rw [List.getElem?_set_self (List.getElem?_eq_some_iff.mp q).1]; exact u
  · rw [List.getElem?_set_ne e]; exact this
mutual
theorem hide_asg {own : List Nat} : ∀ (t : T) {d : D} {Γ Γ' : Gm}, asgT t d Γ = some Γ' → hideOk Γ own = true → un d = true → hideOk Γ' own = true
  | .n j, d, Γ, Γ', h, ho, u => by
    simp only [asgT] at h
    split at h
    · cases h; exact hide_set ho u
    · cases h
  | .t ts, d, Γ, Γ', h, ho, u => by
    match d, h, u with
    | .tup ds, h, u =>
      simp only [asgT] at h
      unfold un at u
      exact hide_asgs ts h ho u
theorem hide_asgs {own : List Nat} : ∀ (ts : List T) {ds : List D} {Γ Γ' : Gm}, asgTs ts ds Γ = some Γ' → hideOk Γ own = true → unL ds = true → hideOk Γ' own = true
  | [], ds, Γ, Γ', h, ho, u => by
    cases ds with
    | nil => simp only [asgTs] at h; cases h; exact ho
    | cons _ _ => simp [asgTs] at h
  | t :: ts, ds, Γ, Γ', h, ho, u => by
    cases ds with
    | nil => simp [asgTs] at h
    | cons d ds =>
      simp only [asgTs] at h
      obtain ⟨Γ1, e1, e2⟩ := Option.bind_eq_some_iff.mp h
      unfold unL at u
      rw [Bool.and_eq_true] at u
      exact hide_asgs ts e2 (hide_asg t e1 ho u.1) u.2
end
theorem hide_wipe {Γ : Gm} {own : List Nat} (h : hideOk Γ own = true) : hideOk (wipeG Γ own) own = true := by
  have h0 := h
  unfold hideOk at h ⊢
  rw [List.all_eq_true] at *
  intro j hj
  rw [wipeG_in hj (hideOk_at h0 hj).1]
section
variable {Φ : Tab} {X : Cx} {c : Cc} {K : PySem.W.Frag}
theorem c_nil : PTs X [] (WC Φ X.K []) := by
  refine pts_imp pts_nil fun σ H Q q => ?_
  obtain ⟨fr, A, Γ, b, Γ', s, e, k⟩ := q
  simp only [evCond] at e
  cases e
  exact k H fr A s .refl fun _ => ⟨Sm'.refl, rfl⟩
theorem c_one {e : E} {x : Expr} (h : PT X x (WT Φ X.K e)) : PTs X [x] (WC Φ X.K [e]) := by
  refine pts_imp (pts_one h) fun σ H Q q => ?_
  obtain ⟨fr, A, Γ, b, Γ', s, e1, k⟩ := q
  simp only [evCond] at e1
  obtain ⟨⟨d, Γ1⟩, e2, e3⟩ := Option.bind_eq_some_iff.mp e1
  obtain ⟨t, e4, e5⟩ := Option.map_eq_some_iff.mp e3
  cases e5
  exact ⟨fr, A, Γ, d, _, b, s, e2, e4, fun H' fr' A' s' ex pc => k H' fr' A' s' ex fun z => pc (by simpa [purL] using z)⟩
/-- temporaries go along with the next step -/
theorem Po.next {fr fr1 fr2 : Addr → Prop} {A A1 A2 B1 : List Addr} {H H1 H2 : Hp} {Γ1 Γ2 : Gm} {σ σ' : St} {ds : List D} {vs : List V} (p : Po K fr A H Γ1 σ ds vs fr1 A1 B1 H1) (s : S K fr2 A2 Γ2 σ' H2) (e : Ext A1 fr1 H1 A2 fr2 H2) : Po K fr A H Γ2 σ' ds vs fr2 A2 B1 H2 := by
  obtain ⟨h1, h2, h3, h4⟩ := p.stay e
  exact ⟨s, h1, List.nodup_append.mpr ⟨s.nd, (List.nodup_append.mp p.nd).2.1, fun x hx y hy e => h3 y hy (e ▸ hx)⟩, h2, h4⟩
/-- .. and with one that leaves temporaries of its own -/
theorem Po.next2 {fr fr1 fr2 : Addr → Prop} {A A1 A2 B1 B2 : List Addr} {H H1 H2 : Hp} {Γ1 Γ2 : Gm} {σ σ' : St} {ds es : List D} {vs us : List V} (p : Po K fr A H Γ1 σ ds vs fr1 A1 B1 H1) (q : Po K fr1 A1 H1 Γ2 σ' es us fr2 A2 B2 H2) : Po K fr A H Γ2 σ' (ds ++ es) (vs ++ us) fr2 A2 (B1 ++ B2) H2 := by
  have p' : Po K fr A H Γ1 σ ds vs fr1 A1 B1 H1 := p
  obtain ⟨h1, h2, h3, h4⟩ := p.stay q.ex
  refine ⟨q.s, h1.app q.o, ?_, fun b hb => ?_, ?_⟩
  · refine List.nodup_append.mpr ⟨q.s.nd, ?_, ?_⟩
    · refine List.nodup_append.mpr ⟨(List.nodup_append.mp p.nd).2.1, (List.nodup_append.mp q.nd).2.1, fun x hx y hy e => ?_⟩
      subst e
      exact h3 x hx (List.mem_append_right _ hy)
    · intro x hx y hy e
      subst e
      rcases List.mem_append.mp hy with hy | hy
      · exact h3 x hy (List.mem_append_left _ hx)
      · exact disj_of q.nd hx hy
  · rcases List.mem_append.mp hb with hb | hb
    · exact h2 b hb
    · exact q.dj b hb
  · refine h4.less fun b hb => ?_
    simp only [List.mem_append] at hb ⊢
    rcases hb with hb | hb | hb
    · exact .inl (.inl hb)
    · exact .inr hb
    · exact .inl (.inr hb)
/-- a part is put to the list that grows -/
theorem Po.app {fr fr1 : Addr → Prop} {A A1 B : List Addr} {H H1 : Hp} {Γ : Gm} {σ : St} {rs : List D} {r : D} {p : Addr} {y : V} (h : Po K fr A H Γ σ ([.lst true rs] ++ [r]) ([.ref p] ++ [y]) fr1 A1 B H1) (hp : H p = none ∨ p ∈ A) :
    ∃ vs B', H1 p = some (.lst vs) ∧ vs.length = rs.length ∧ Po K fr A H Γ σ [.lst true (rs ++ [r])] [.ref p] fr1 A1 B' (upd H1 p (.lst (vs ++ [y]))) := by
  obtain ⟨v, us, B1, B2, e, o1, o2, eB⟩ := h.o.cons_inv
  cases e
  have o2 := OwL.one.mp o2
  unfold Ow at o1
  obtain ⟨a, vs, C, e, ha, ol, _, h1⟩ := o1
  cases e
  have e1 := h1 rfl
  subst e1 eB
  have mem : ∀ b, b ∈ p :: (C ++ B2) ↔ b ∈ (p :: C) ++ B2 := fun b => by simp [List.mem_append, or_assoc]
  have nB : ((p :: C) ++ B2).Nodup := (List.nodup_append.mp h.nd).2.1
  have npC : p ∉ C := (List.nodup_cons.mp (List.nodup_append.mp nB).1).1
  have npB : p ∉ B2 := fun z => (List.nodup_append.mp nB).2.2 p List.mem_cons_self p z rfl
  have npA : p ∉ A1 := fun z => disj_of h.nd z (List.mem_append_left _ List.mem_cons_self)
  have npf : ¬ fr1 p := h.dj p (List.mem_append_left _ List.mem_cons_self)
  refine ⟨vs, p :: (C ++ B2), ha, ol.len, ⟨h.s.other npA npf, OwL.one.mpr ?_, by rw [← List.cons_append]; exact h.nd, fun b hb => h.dj b ((mem b).mp hb), ⟨fun b x e hb => ?_, h.ex.ff, fun b hb => h.ex.aa b (by rw [← List.cons_append] at hb; exact hb), h.ex.fa⟩⟩⟩
  · unfold Ow
    refine ⟨p, vs ++ [y], C ++ B2, rfl, upd_same, (ol.other npC npf).app (OwL.one.mpr ?_), (fun z => by cases z), fun _ => rfl⟩
    exact OwL.one.mp ((OwL.one.mpr o2).other npB npf)
  · have nb : b ≠ p := fun z => by
      rcases hp with hp | hp
      · rw [z, hp] at e; cases e
      · exact hb (z ▸ hp)
    rw [upd_ne nb]
    exact h.ex.kp b x e hb
/-- behind a target of the block's own names -/
theorem S.into {fr : Addr → Prop} {A A3 : List Addr} {H : Hp} {Γ Γa : Gm} {σw σ2 : St} {own : List Nat} {t : T} {d : D} (s : S K fr A Γ σw H) (s4 : S K fr A3 Γa σ2 H) (h : hideOk Γ own = true) (ea : asgT t d Γ = some Γa) (u : un d = true) (ht : tIn own t = true) (hf : ∀ i, aT i t = false → σ2[i]? = σw[i]?) : S K fr A Γa σ2 H := by
  have hl := s.sl.len
  have hl4 := s4.sl.len
  have hlen : Γa.length = Γ.length := by
    exact asgT_len t ea
  have h2 := hide_asg t ea h u
  refine ⟨s.sl.patch hlen (by omega) fun i hi => ?_, s.nd, s.dj, s.dm⟩
  by_cases hm : i ∈ own
  · refine .inr ⟨(hideOk_at h hm).2, ?_⟩
    cases q : Γa[i]? with
    | none => have := List.getElem?_eq_none_iff.mp q; omega
    | some o =>
      cases o with
      | none => exact .inl rfl
      | some x =>
        obtain ⟨v, B, g1, g2, g3⟩ := s4.sl.get q
        have := g2.un _ _ _ ((hideOk_at h2 hm).2 x q)
        subst this
        exact .inr ⟨x, v, rfl, g1, g2⟩
  · have ha := tIn_a t ht hm
    exact .inl ⟨asgT_out t ea ha, hf i ha⟩
end
end Sk

namespace Sk
open PySem PySem.Spec PyProof.Rows L2
section
variable {K : PySem.W.Frag} {fr : Addr → Prop} {H : Hp}
mutual
theorem Ow.isUn : ∀ (d : D) (v : V), Ow K fr H d v [] → un d = true
  | .non, _, _ => rfl
  | .bl _, _, _ => rfl
  | .int _, _, _ => rfl
  | .str _, _, _ => rfl
  | .scr _, _, _ => rfl
  | .tup ds, v, h => by
    unfold Ow at h; unfold Sk.un
    obtain ⟨a, vs, e, _, hl⟩ := h
    exact OwL.isUn ds vs hl
  | .lst o ds, v, h => by
    unfold Ow at h; unfold Sk.un
    obtain ⟨a, vs, B, e, ha, hl, h0, h1⟩ := h
    cases o with
    | false =>
      obtain ⟨_, eB, _⟩ := h0 rfl
      subst eB
      rw [OwL.isUn ds vs hl]; rfl
    | true => cases h1 rfl
theorem OwL.isUn : ∀ (ds : List D) (vs : List V), OwL K fr H ds vs [] → unL ds = true
  | [], _, _ => rfl
  | d :: ds, vs, h => by
    unfold OwL at h; unfold Sk.unL
    obtain ⟨v, us, B, C, e, h1, h2, eA⟩ := h
    obtain ⟨rfl, rfl⟩ := List.append_eq_nil_iff.mp eA.symm
    rw [Ow.isUn d v h1, OwL.isUn ds us h2]; rfl
end
end
section
variable {Φ : Tab} {X : Cx} {c : Cc}
def cTurn (Φ : Tab) (t : T) (cond : List E) (elt : E) (own : List Nat) : D → Gm → Option (List D × Gm) := fun d Γ => (asgT t d Γ).bind fun Γ => (evCond Φ cond Γ).bind fun (b, Γ) => if b then (ev Φ elt .val Γ).bind fun (r, Γ) => if hideOk Γ own then some ([r], wipeG Γ own) else none else if hideOk Γ own then some ([], wipeG Γ own) else none
/-- between two turns of a comprehension -/
def Cs (K : PySem.W.Frag) (pu : Bool) (fr1 : Addr → Prop) (A1 : List Addr) (H1 : Hp) (a : Addr) (σw : St) (Γ : Gm) (rs : List D) (H : Hp) : Prop :=
  ∃ (fr : Addr → Prop) (A B : List Addr), Po K fr1 A1 H1 Γ σw [.lst true rs] [.ref a] fr A B H ∧ (pu = true → Sm' H1 H ∧ A = A1)
theorem Ext.zk {K : PySem.W.Frag} {fr1 fr : Addr → Prop} {A1 A : List Addr} {H1 H : Hp} {Γ : Gm} {σ : St} {fz : Bool} (s : S K fr1 A1 Γ σ H1) (e : Ext A1 fr1 H1 A fr H) (h : fz = false → Sm' H1 H) : Zk fz fr1 A1 H1 fr H :=
  ⟨e.ff, fun b x hb q => e.kp b x q fun hc => s.dj b hc hb, fun z b x _ q => h z b x q⟩
theorem comp_go {t : T} {k : Ik} {src cond : List E} {elt : E} {own : List Nat} {σ : St} {H : Hp} {Q : VK} (h : WE Φ X.K (.comp t k src cond elt own) σ H Q) : tLc (WI Φ X.K k src) (WG X.K t) (WC Φ X.K cond) (WE Φ X.K elt) own σ H Q := by
  obtain ⟨fr, A, Γ, d, Γ', s, e1, kk⟩ := h
  simp only [ev] at e1
  obtain ⟨⟨ds, Γ1⟩, e2, e3⟩ := Option.bind_eq_some_iff.mp e1
  obtain ⟨items, e4, e5⟩ := Option.bind_eq_some_iff.mp e3
  simp only at e5
  split at e5
  · rename_i hg
    simp only [Bool.and_eq_true] at hg
    obtain ⟨⟨hg1, hg2⟩, hg3⟩ := hg
    obtain ⟨⟨rs, Γ2⟩, e6, e7⟩ := Option.bind_eq_some_iff.mp e5
    simp only [fin] at e7
    split at e7
    · rename_i hz
      have e6 : compL (cTurn Φ t cond elt own) items (wipeG Γ1 own) = some (rs, Γ2) := e6
      obtain ⟨rfl, rfl⟩ : D.lst true rs = d ∧ backG Γ1 Γ2 own = Γ' := by
        have := Option.some.inj e7
        exact ⟨congrArg Prod.fst this, congrArg Prod.snd this⟩
      clear e7 e1
      refine ⟨fr, A, Γ, ds, Γ1, items, s, e2, e4, fun J H1 fr1 A1 s1 ex1 pc1 hJ a ha => ?_⟩
      have g : Grow fr1 H1 fr1 [a] (upd H1 a (.lst [])) := Grow.newL s1.dm ha
      refine ⟨fun i m H => m = items.length - i ∧ i ≤ items.length ∧ ∃ Γi rsi rest, compL (cTurn Φ t cond elt own) (items.drop i) Γi = some (rest, Γ2) ∧ rs = rsi ++ rest ∧ hideOk Γi own = true ∧ Γi.length = Γ1.length ∧ Cs X.K (purL cond && pur elt) fr1 A1 H1 a (wipe σ own) Γi rsi H, ⟨items.length, by simp, Nat.zero_le _, wipeG Γ1 own, [], rs, by simpa using e6, rfl, hide_wipe hg1, wipeG_len, ?_⟩, ?_⟩
      · refine ⟨fr1, A1, [a], Po.grow (s1.hide hg1) g ?_, fun _ => ⟨g.same, rfl⟩⟩
        unfold Ow
        exact ⟨a, [], [], rfl, upd_same, OwL.nil, (fun z => by cases z), fun _ => rfl⟩
      · rintro i m H2 ⟨rfl, hi, Γi, rsi, rest, ec, ers, hh, hlen, fr2, A2, B, p2, pp2⟩
        have ex2 := p2.ex.less (A2 := A2) fun b hb => List.mem_append_left _ hb
        have zk2 : Zk (unL ds) fr1 A1 H1 fr2 H2 := ex2.zk s1 fun z => by
          rw [z, Bool.false_or] at hg2
          exact (pp2 hg2).1
        obtain ⟨J1, J2⟩ := hJ i fr2 H2 zk2 p2.s.dm
        by_cases hlt : i < items.length
        · right
          have hd : items[i]? = some items[i] := List.getElem?_eq_getElem hlt
          obtain ⟨go, yl⟩ := J2 _ hd
          rw [List.drop_eq_getElem_cons hlt] at ec
          simp only [compL] at ec
          obtain ⟨⟨r1, Γ3⟩, ec1, ec2⟩ := Option.bind_eq_some_iff.mp ec
          obtain ⟨⟨rs2, Γ4⟩, ec3, ec4⟩ := Option.bind_eq_some_iff.mp ec2
          obtain ⟨rfl, rfl⟩ : r1 ++ rs2 = rest ∧ Γ4 = Γ2 := by
            have := Option.some.inj ec4
            exact ⟨congrArg Prod.fst this, congrArg Prod.snd this⟩
          simp only [cTurn] at ec1
          obtain ⟨Γa, ea, eb⟩ := Option.bind_eq_some_iff.mp ec1
          obtain ⟨⟨b, Γb⟩, ebb, ebc⟩ := Option.bind_eq_some_iff.mp eb
          refine ⟨go, fun H' => ∃ Γi rsi rest, compL (cTurn Φ t cond elt own) (items.drop (i + 1)) Γi = some (rest, Γ4) ∧ rs = rsi ++ rest ∧ hideOk Γi own = true ∧ Γi.length = Γ1.length ∧ Cs X.K (purL cond && pur elt) fr1 A1 H1 a (wipe σ own) Γi rsi H', fun H' hN => ⟨items.length - (i + 1), by omega, rfl, hlt, hN⟩, fun x H3 y => ?_⟩
          obtain ⟨fr3, g3, o3⟩ := yl x H3 y
          obtain ⟨s3, _, ex3⟩ := p2.s.grow g3
          rw [List.append_nil] at ex3
          have p3 := p2.next s3 ex3
          have u3 := o3.isUn _ _
          refine ⟨fr3, A2, Γi, items[i], [], Γa, s3, o3, by rw [List.append_nil]; exact s3.nd, (fun _ z => nomatch z), ea, fun σ2 A3 s4 sub4 hf4 => ?_⟩
          have s5 := s3.into s4 hh ea u3 hg3 hf4
          have p5 := p3.next s5 .refl
          have hl0 := s3.sl.len
          have hl2 := s5.sl.len
          have eqw : wipe σ2 own = wipe σ own := wipe_wipe (by rw [hl2, asgT_len t ea, ← hl0, wipe_length]) fun j hj => hf4 j (tIn_a t hg3 hj)
          refine ⟨eqw, fr3, A2, Γa, b, Γb, s5, ebb, fun H4 fr4 A4 s6 ex4 pc4 => ?_⟩
          have p6 := p5.next s6 ex4
          have lb : Γb.length = Γ1.length := by
            have h1 := s6.sl.len
            rw [← h1, hl2, asgT_len t ea, hlen]
          cases b with
          | true =>
            simp only [if_true] at ebc
            obtain ⟨⟨r, Γc⟩, ebd, ebe⟩ := Option.bind_eq_some_iff.mp ebc
            simp only at ebe
            split at ebe
            · rename_i hh2
              obtain ⟨rfl, rfl⟩ : [r] = r1 ∧ wipeG Γc own = Γ3 := by
                have := Option.some.inj ebe
                exact ⟨congrArg Prod.fst this, congrArg Prod.snd this⟩
              refine iteT ⟨fr4, A4, Γb, r, Γc, s6, ebd, fun w H5 fr5 A5 B5 p7 pc7 => ?_⟩
              have p8 := p6.next2 p7
              obtain ⟨vs, B', hD, hvl, p9⟩ := p8.app (.inl ha)
              refine ⟨vs, hD, ?_, ?_⟩
              · rw [hvl]
                have : rsi.length < rs.length := by rw [ers]; simp
                exact Nat.lt_of_lt_of_le this hz
              · have s10 := p9.s.hide hh2
                rw [eqw] at s10
                have lc : Γc.length = Γ1.length := by
                  have h1 := p7.s.sl.len
                  rw [← h1, s6.sl.len, lb]
                refine ⟨wipeG Γc own, rsi ++ [r], rs2, ec3, by rw [ers, List.append_assoc], hide_wipe hh2, by rw [wipeG_len, lc], fr5, A5, B', p9.next s10 .refl, fun hp => ?_⟩
                rw [Bool.and_eq_true] at hp
                obtain ⟨z1, z2⟩ := pp2 (by rw [Bool.and_eq_true]; exact hp)
                obtain ⟨z3, z4⟩ := pc4 hp.1
                obtain ⟨z5, z6⟩ := pc7 hp.2
                refine ⟨fun b x e => ?_, z6.trans (z4.trans z2)⟩
                have nb : b ≠ a := fun z => by rw [z, ha] at e; cases e
                rw [upd_ne nb]
                exact z5 b x (z3 b x (g3.same b x (z1 b x e)))
            · cases ebe
          | false =>
            simp only [Bool.false_eq_true, if_false] at ebc
            split at ebc
            · rename_i hh2
              obtain ⟨rfl, rfl⟩ : [] = r1 ∧ wipeG Γb own = Γ3 := by
                have := Option.some.inj ebc
                exact ⟨congrArg Prod.fst this, congrArg Prod.snd this⟩
              have s10 := s6.hide hh2
              rw [eqw] at s10
              refine iteF ⟨wipeG Γb own, rsi, rs2, ec3, ers, hide_wipe hh2, by rw [wipeG_len, lb], fr4, A4, B, p6.next s10 .refl, fun hp => ?_⟩
              obtain ⟨z1, z2⟩ := pp2 hp
              rw [Bool.and_eq_true] at hp
              obtain ⟨z3, z4⟩ := pc4 hp.1
              exact ⟨fun b x e => z3 b x (g3.same b x (z1 b x e)), z4.trans z2⟩
            · cases ebc
        · left
          have e : i = items.length := by omega
          subst e
          refine ⟨J1 (Nat.le_refl _), ?_⟩
          rw [List.drop_length] at ec
          simp only [compL] at ec
          obtain ⟨rfl, rfl⟩ : [] = rest ∧ Γi = Γ2 := by
            have := Option.some.inj ec
            exact ⟨congrArg Prod.fst this, congrArg Prod.snd this⟩
          rw [List.append_nil] at ers
          subst ers
          -- the outer names again
          have hσ := s1.sl.len
          have s11 : S X.K fr2 A2 (backG Γ1 Γi own) σ H2 := by
            refine ⟨p2.s.sl.patch backG_len (by rw [wipe_length]) fun i hi => ?_, p2.s.nd, p2.s.dj, p2.s.dm⟩
            by_cases hm : i ∈ own
            · refine .inr ⟨(hideOk_at hh hm).2, ?_⟩
              obtain ⟨q1, q2⟩ := hideOk_at hg1 hm
              rw [backG_in hm hi]
              cases q : Γ1[i]? with
              | none => have := List.getElem?_eq_none_iff.mp q; omega
              | some o =>
                have eo : Γ1.getD i none = o := by rw [List.getD_eq_getElem?_getD, q]; rfl
                rw [eo]
                cases o with
                | none => exact .inl rfl
                | some x =>
                  obtain ⟨v, B0, g1, g2, g3⟩ := s1.sl.get q
                  have := g2.un _ _ _ (q2 x q)
                  subst this
                  refine .inr ⟨x, v, rfl, g1, g2.mono ex2.ff _ _ _ fun b y hb e => ex2.kp b y e fun hc => ?_⟩
                  rcases hb with hb | hb
                  · exact s1.dj b hc hb
                  · cases hb
            · exact .inl ⟨backG_out hm, (wipe_out hm).symm⟩
          refine kk (.ref a) H2 fr2 A2 B ⟨s11, p2.o, p2.nd, p2.dj, ex1.trans p2.ex⟩ fun hp => ?_
          simp only [pur, Bool.and_eq_true] at hp
          obtain ⟨z1, z2⟩ := pc1 hp.1.1
          obtain ⟨z3, z4⟩ := pp2 (by rw [Bool.and_eq_true]; exact ⟨hp.1.2, hp.2⟩)
          exact ⟨z1.trans z3, z4.trans z2⟩
    · cases e7
  · cases e5
end
end Sk

namespace Sk
open PySem PySem.Spec PyProof.Rows L2
theorem hide_sub {Γ : Gm} {own own2 : List Nat} (h : hideOk Γ own = true) (hs : ∀ i ∈ own2, i ∈ own) : hideOk Γ own2 = true := by
  unfold hideOk at *
  rw [List.all_eq_true] at *
  exact fun i hi => h i (hs i hi)
theorem hide_wipe2 {Γ : Gm} {own own2 : List Nat} (h : hideOk Γ own = true) : hideOk (wipeG Γ own2) own = true := by
  have h0 := h
  unfold hideOk at h ⊢
  rw [List.all_eq_true] at *
  intro j hj
  by_cases hm : j ∈ own2
  · rw [wipeG_in hm (hideOk_at h0 hj).1]
  · rw [wipeG_out hm]; exact h j hj
theorem wipe_sub {σ : St} {own own2 : List Nat} (hs : ∀ i ∈ own2, i ∈ own) : wipe (wipe σ own2) own = wipe σ own := by
  apply List.ext_getElem?
  intro i
  by_cases hi : i ∈ own
  · by_cases hb : i < σ.length
    · rw [wipe_in hi (by rw [wipe_length]; omega), wipe_in hi hb]
    · rw [List.getElem?_eq_none (by rw [wipe_length, wipe_length]; omega), List.getElem?_eq_none (by rw [wipe_length]; omega)]
  · rw [wipe_out hi, wipe_out hi, wipe_out fun z => hi (hs i z)]
theorem Ext.frame {A A' B : List Addr} {fr fr' : Addr → Prop} {H H' : Hp} (e : Ext A fr H A' fr' H') : Ext (A ++ B) fr H (A' ++ B) fr' H' :=
  ⟨fun b x q hb => e.kp b x q fun hc => hb (List.mem_append_left _ hc), e.ff, fun b hb => (List.mem_append.mp hb).elim (fun z => (e.aa b z).imp (List.mem_append_left _) id) fun z => .inl (List.mem_append_right _ z),
    fun b hf => (e.fa b hf).imp id fun z => z.imp (List.mem_append_left _) id⟩
section
variable {Φ : Tab} {X : Cx} {c : Cc}
def cTurn2 (Φ : Tab) (t : T) (cond : List E) (elt : E) (own own2 : List Nat) : D → Gm → Option (List D × Gm) := fun d Γ => (asgT t d Γ).bind fun Γ => (evCond Φ cond Γ).bind fun (b, Γ) => if b then (ev Φ elt .val Γ).bind fun (r, Γ) => if hideOk Γ own then some ([r], wipeG Γ own2) else none else if hideOk Γ own then some ([], wipeG Γ own2) else none
/-- the inner loop of a comprehension of two clauses -/
theorem inner_go {t : T} {cond : List E} {elt : E} {own own2 : List Nat} {σ2 : St} {J : It} {items rs0 rs2 : List D} {Γb Γc : Gm} {fr4 : Addr → Prop} {A4 B4 : List Addr} {H4 : Hp} {a : Addr} {fz : Bool} {Nx : Hp → Prop}
    (hs : ∀ i ∈ own2, i ∈ own) (ht : tIn own2 t = true) (s4 : S X.K fr4 A4 Γb σ2 H4) (o4 : Ow X.K fr4 H4 (.lst true rs0) (.ref a) B4) (nd4 : (A4 ++ B4).Nodup) (dj4 : ∀ b ∈ B4, ¬ fr4 b) (hJ : ItJ X.K fz fr4 A4 H4 J items) (hfz : (fz || (purL cond && pur elt)) = true)
    (hh4 : hideOk Γb own = true) (hc4 : compL (cTurn2 Φ t cond elt own own2) items (wipeG Γb own2) = some (rs2, Γc)) (hz : (rs0 ++ rs2).length ≤ sizeLine)
    (hN : ∀ fr A B H, Po X.K fr4 (A4 ++ B4) H4 Γc (wipe σ2 own2) [.lst true (rs0 ++ rs2)] [.ref a] fr A B H → hideOk Γc own = true → Γc.length = Γb.length → ((purL cond && pur elt) = true → (∀ b x, b ≠ a → H4 b = some x → H b = some x) ∧ A = A4) → Nx H) :
    ∃ W1 : Nat → Nat → Hp → Prop, (∃ m, W1 0 m H4) ∧ ∀ j k H, W1 j k H → (J.stop j H ∧ Nx H) ∨ (J.go j H ∧ ∃ Nx1 : Hp → Prop, (∀ H', Nx1 H' → ∃ k', k' < k ∧ W1 (j + 1) k' H') ∧ ∀ x H', J.yld j H x H' → WG X.K t x (wipe σ2 own2) H' fun σ3 H5 => wipe σ3 own2 = wipe σ2 own2 ∧ WC Φ X.K cond σ3 H5 fun b H6 =>
      if b = true then WE Φ X.K elt σ3 H6 fun y H7 => ∃ acc, H7 a = some (.lst acc) ∧ acc.length < sizeLine ∧ Nx1 (upd H7 a (.lst (acc ++ [y]))) else Nx1 H6) := by
  have haB : a ∈ B4 := by
    unfold Ow at o4
    obtain ⟨a', vs, C, e, _, _, _, h1⟩ := o4
    cases e
    rw [h1 rfl]; exact List.mem_cons_self
  have haA : a ∉ A4 := fun z => disj_of nd4 z haB
  refine ⟨fun i m H => m = items.length - i ∧ i ≤ items.length ∧ ∃ Γi rsi rest fr A B, compL (cTurn2 Φ t cond elt own own2) (items.drop i) Γi = some (rest, Γc) ∧ rs2 = rsi ++ rest ∧ hideOk Γi own = true ∧ Γi.length = Γb.length ∧ Po X.K fr4 (A4 ++ B4) H4 Γi (wipe σ2 own2) [.lst true (rs0 ++ rsi)] [.ref a] fr A B H ∧ ((purL cond && pur elt) = true → (∀ b x, b ≠ a → H4 b = some x → H b = some x) ∧ A = A4),
    ⟨items.length, by simp, Nat.zero_le _, wipeG Γb own2, [], rs2, fr4, A4, B4, by simpa using hc4, rfl, hide_wipe2 hh4, wipeG_len, ?_, fun _ => ⟨fun _ _ _ e => e, rfl⟩⟩, ?_⟩
  · refine ⟨s4.hide (hide_sub hh4 hs), OwL.one.mpr (by rw [List.append_nil]; exact o4), nd4, dj4, .refl⟩
  · rintro i m H2 ⟨rfl, hi, Γi, rsi, rest, fr2, A2, B, ec, ers, hh, hlen, p2, pp2⟩
    have zk2 : Zk fz fr4 A4 H4 fr2 H2 := by
      refine ⟨p2.ex.ff, fun b x hb q => p2.ex.kp b x q fun hc => ?_, fun z b x hb q => ?_⟩
      · rcases List.mem_append.mp hc with hc | hc
        · exact s4.dj b hc hb
        · exact dj4 b hc hb
      · rw [z, Bool.false_or] at hfz
        exact (pp2 hfz).1 b x (fun z => haA (z ▸ hb)) q
    obtain ⟨J1, J2⟩ := hJ i fr2 H2 zk2 p2.s.dm
    by_cases hlt : i < items.length
    · right
      have hd : items[i]? = some items[i] := List.getElem?_eq_getElem hlt
      obtain ⟨go, yl⟩ := J2 _ hd
      rw [List.drop_eq_getElem_cons hlt] at ec
      simp only [compL] at ec
      obtain ⟨⟨r1, Γ3⟩, ec1, ec2⟩ := Option.bind_eq_some_iff.mp ec
      obtain ⟨⟨rs3, Γ4⟩, ec3, ec4⟩ := Option.bind_eq_some_iff.mp ec2
      obtain ⟨rfl, rfl⟩ : r1 ++ rs3 = rest ∧ Γ4 = Γc := by
        have := Option.some.inj ec4
        exact ⟨congrArg Prod.fst this, congrArg Prod.snd this⟩
      simp only [cTurn2] at ec1
      obtain ⟨Γa, ea, eb⟩ := Option.bind_eq_some_iff.mp ec1
      obtain ⟨⟨b, Γd⟩, ebb, ebc⟩ := Option.bind_eq_some_iff.mp eb
      refine ⟨go, fun H' => ∃ Γi rsi rest fr A B, compL (cTurn2 Φ t cond elt own own2) (items.drop (i + 1)) Γi = some (rest, Γ4) ∧ rs2 = rsi ++ rest ∧ hideOk Γi own = true ∧ Γi.length = Γb.length ∧ Po X.K fr4 (A4 ++ B4) H4 Γi (wipe σ2 own2) [.lst true (rs0 ++ rsi)] [.ref a] fr A B H' ∧ ((purL cond && pur elt) = true → (∀ b x, b ≠ a → H4 b = some x → H' b = some x) ∧ A = A4), fun H' hN => ⟨items.length - (i + 1), by omega, rfl, hlt, hN⟩, fun x H3 y => ?_⟩
      obtain ⟨fr3, g3, o3⟩ := yl x H3 y
      obtain ⟨s3, _, ex3⟩ := p2.s.grow g3
      rw [List.append_nil] at ex3
      have p3 := p2.next s3 ex3
      have u3 := o3.isUn _ _
      have hho2 := hide_sub hh hs
      refine ⟨fr3, A2, Γi, items[i], [], Γa, s3, o3, by rw [List.append_nil]; exact s3.nd, (fun _ z => nomatch z), ea, fun σ3 A3 s5' sub4 hf4 => ?_⟩
      have s5 := s3.into s5' hho2 ea u3 ht hf4
      have p5 := p3.next s5 .refl
      have hl0 := s3.sl.len
      have hl2 := s5.sl.len
      have eqw : wipe σ3 own2 = wipe σ2 own2 := wipe_wipe (by rw [hl2, asgT_len t ea, ← hl0, wipe_length]) fun j hj => hf4 j (tIn_a t ht hj)
      refine ⟨eqw, fr3, A2, Γa, b, Γd, s5, ebb, fun H4' fr4' A4' s6 ex4 pc4 => ?_⟩
      have p6 := p5.next s6 ex4
      have lb : Γd.length = Γb.length := by
        have h1 := s6.sl.len
        rw [← h1, hl2, asgT_len t ea, hlen]
      cases b with
      | true =>
        simp only [if_true] at ebc
        obtain ⟨⟨r, Γe⟩, ebd, ebe⟩ := Option.bind_eq_some_iff.mp ebc
        simp only at ebe
        split at ebe
        · rename_i hh2
          obtain ⟨rfl, rfl⟩ : [r] = r1 ∧ wipeG Γe own2 = Γ3 := by
            have := Option.some.inj ebe
            exact ⟨congrArg Prod.fst this, congrArg Prod.snd this⟩
          refine iteT ⟨fr4', A4', Γd, r, Γe, s6, ebd, fun w H5 fr5 A5 B5 p7 pc7 => ?_⟩
          have p8 := p6.next2 p7
          obtain ⟨vs, B', hD, hvl, p9⟩ := p8.app (.inr (List.mem_append_right _ haB))
          refine ⟨vs, hD, ?_, ?_⟩
          · rw [hvl]
            have : (rs0 ++ rsi).length < (rs0 ++ rs2).length := by rw [ers]; simp
            exact Nat.lt_of_lt_of_le this hz
          · have s10 := p9.s.hide (hide_sub hh2 hs)
            rw [eqw] at s10
            have lc : Γe.length = Γb.length := by
              have h1 := p7.s.sl.len
              rw [← h1, s6.sl.len, lb]
            refine ⟨wipeG Γe own2, rsi ++ [r], rs3, fr5, A5, B', ec3, by rw [ers, List.append_assoc], hide_wipe2 hh2, by rw [wipeG_len, lc], ?_, fun hp => ?_⟩
            · rw [← List.append_assoc]; exact p9.next s10 .refl
            · obtain ⟨z1, z2⟩ := pp2 hp
              rw [Bool.and_eq_true] at hp
              obtain ⟨z3, z4⟩ := pc4 hp.1
              obtain ⟨z5, z6⟩ := pc7 hp.2
              refine ⟨fun b x nb e => ?_, z6.trans (z4.trans z2)⟩
              rw [upd_ne nb]
              exact z5 b x (z3 b x (g3.same b x (z1 b x nb e)))
        · cases ebe
      | false =>
        simp only [Bool.false_eq_true, if_false] at ebc
        split at ebc
        · rename_i hh2
          obtain ⟨rfl, rfl⟩ : [] = r1 ∧ wipeG Γd own2 = Γ3 := by
            have := Option.some.inj ebc
            exact ⟨congrArg Prod.fst this, congrArg Prod.snd this⟩
          have s10 := s6.hide (hide_sub hh2 hs)
          rw [eqw] at s10
          refine iteF ⟨wipeG Γd own2, rsi, rs3, fr4', A4', B, ec3, ers, hide_wipe2 hh2, by rw [wipeG_len, lb], p6.next s10 .refl, fun hp => ?_⟩
          obtain ⟨z1, z2⟩ := pp2 hp
          rw [Bool.and_eq_true] at hp
          obtain ⟨z3, z4⟩ := pc4 hp.1
          exact ⟨fun b x nb e => z3 b x (g3.same b x (z1 b x nb e)), z4.trans z2⟩
        · cases ebc
    · left
      have e : i = items.length := by omega
      subst e
      refine ⟨J1 (Nat.le_refl _), ?_⟩
      rw [List.drop_length] at ec
      simp only [compL] at ec
      obtain ⟨rfl, rfl⟩ : [] = rest ∧ Γi = Γc := by
        have := Option.some.inj ec
        exact ⟨congrArg Prod.fst this, congrArg Prod.snd this⟩
      rw [List.append_nil] at ers
      subst ers
      exact hN fr2 A2 B H2 p2 hh hlen pp2
end
end Sk

namespace Sk
open PySem PySem.Spec PyProof.Rows L2
section
variable {Φ : Tab} {X : Cx} {c : Cc}
def oTurn (Φ : Tab) (t : T) (cond : List E) (t2 : T) (k2 : Ik) (src2 cond2 : List E) (elt : E) (own own2 : List Nat) : D → Gm → Option (List D × Gm) := fun d Γ => (asgT t d Γ).bind fun Γ => (evCond Φ cond Γ).bind fun (b, Γ) => if b then
    (evOs Φ src2 Γ).bind fun (ds2, Γ) => (itF k2 ds2).bind fun items2 => if hideOk Γ own && (unL ds2 || (purL cond2 && pur elt)) then
      (compL (cTurn2 Φ t2 cond2 elt own own2) items2 (wipeG Γ own2)).bind fun (rs, Γ) => some (rs, wipeG Γ own)
    else none
  else if hideOk Γ own then some ([], wipeG Γ own) else none
theorem comp2_go {t t2 : T} {k k2 : Ik} {src cond src2 cond2 : List E} {elt : E} {own own2 : List Nat} {σ : St} {H : Hp} {Q : VK} (h : WE Φ X.K (.comp2 t k src cond t2 k2 src2 cond2 elt own own2) σ H Q) :
    tLc2 (WI Φ X.K k src) (WG X.K t) (WC Φ X.K cond) (WI Φ X.K k2 src2) (WG X.K t2) (WC Φ X.K cond2) (WE Φ X.K elt) own own2 σ H Q := by
  obtain ⟨fr, A, Γ, d, Γ', s, e1, kk⟩ := h
  simp only [ev] at e1
  obtain ⟨⟨ds, Γ1⟩, e2, e3⟩ := Option.bind_eq_some_iff.mp e1
  obtain ⟨items, e4, e5⟩ := Option.bind_eq_some_iff.mp e3
  simp only at e5
  split at e5
  · rename_i hg
    simp only [Bool.and_eq_true] at hg
    obtain ⟨⟨⟨⟨hg1, hg2⟩, hg3⟩, hg4⟩, hg5⟩ := hg
    have hsub : ∀ i ∈ own2, i ∈ own := fun i hi => by
      rw [List.all_eq_true] at hg5
      simpa using hg5 i hi
    obtain ⟨⟨rs, Γ2⟩, e6, e7⟩ := Option.bind_eq_some_iff.mp e5
    simp only [fin] at e7
    split at e7
    · rename_i hz
      have e6 : compL (oTurn Φ t cond t2 k2 src2 cond2 elt own own2) items (wipeG Γ1 own) = some (rs, Γ2) := e6
      obtain ⟨rfl, rfl⟩ : D.lst true rs = d ∧ backG Γ1 Γ2 own = Γ' := by
        have := Option.some.inj e7
        exact ⟨congrArg Prod.fst this, congrArg Prod.snd this⟩
      clear e7 e1
      refine ⟨fr, A, Γ, ds, Γ1, items, s, e2, e4, fun J H1 fr1 A1 s1 ex1 pc1 hJ a ha => ?_⟩
      have g : Grow fr1 H1 fr1 [a] (upd H1 a (.lst [])) := Grow.newL s1.dm ha
      refine ⟨fun i m H => m = items.length - i ∧ i ≤ items.length ∧ ∃ Γi rsi rest, compL (oTurn Φ t cond t2 k2 src2 cond2 elt own own2) (items.drop i) Γi = some (rest, Γ2) ∧ rs = rsi ++ rest ∧ hideOk Γi own = true ∧ Γi.length = Γ1.length ∧ Cs X.K (purL cond && purL src2 && purL cond2 && pur elt) fr1 A1 H1 a (wipe σ own) Γi rsi H, ⟨items.length, by simp, Nat.zero_le _, wipeG Γ1 own, [], rs, by simpa using e6, rfl, hide_wipe hg1, wipeG_len, ?_⟩, ?_⟩
      · refine ⟨fr1, A1, [a], Po.grow (s1.hide hg1) g ?_, fun _ => ⟨g.same, rfl⟩⟩
        unfold Ow
        exact ⟨a, [], [], rfl, upd_same, OwL.nil, (fun z => by cases z), fun _ => rfl⟩
      · rintro i m H2 ⟨rfl, hi, Γi, rsi, rest, ec, ers, hh, hlen, fr2, A2, B, p2, pp2⟩
        have ex2 := p2.ex.less (A2 := A2) fun b hb => List.mem_append_left _ hb
        have zk2 : Zk (unL ds) fr1 A1 H1 fr2 H2 := ex2.zk s1 fun z => by
          rw [z, Bool.false_or] at hg2
          exact (pp2 hg2).1
        obtain ⟨J1, J2⟩ := hJ i fr2 H2 zk2 p2.s.dm
        by_cases hlt : i < items.length
        · right
          have hd : items[i]? = some items[i] := List.getElem?_eq_getElem hlt
          obtain ⟨go, yl⟩ := J2 _ hd
          rw [List.drop_eq_getElem_cons hlt] at ec
          simp only [compL] at ec
          obtain ⟨⟨r1, Γ3⟩, ec1, ec2⟩ := Option.bind_eq_some_iff.mp ec
          obtain ⟨⟨rs2, Γ4⟩, ec3, ec4⟩ := Option.bind_eq_some_iff.mp ec2
          obtain ⟨rfl, rfl⟩ : r1 ++ rs2 = rest ∧ Γ4 = Γ2 := by
            have := Option.some.inj ec4
            exact ⟨congrArg Prod.fst this, congrArg Prod.snd this⟩
          simp only [oTurn] at ec1
          obtain ⟨Γa, ea, eb⟩ := Option.bind_eq_some_iff.mp ec1
          obtain ⟨⟨b, Γb⟩, ebb, ebc⟩ := Option.bind_eq_some_iff.mp eb
          refine ⟨go, fun H' => ∃ Γi rsi rest, compL (oTurn Φ t cond t2 k2 src2 cond2 elt own own2) (items.drop (i + 1)) Γi = some (rest, Γ4) ∧ rs = rsi ++ rest ∧ hideOk Γi own = true ∧ Γi.length = Γ1.length ∧ Cs X.K (purL cond && purL src2 && purL cond2 && pur elt) fr1 A1 H1 a (wipe σ own) Γi rsi H', fun H' hN => ⟨items.length - (i + 1), by omega, rfl, hlt, hN⟩, fun x H3 y => ?_⟩
          obtain ⟨fr3, g3, o3⟩ := yl x H3 y
          obtain ⟨s3, _, ex3⟩ := p2.s.grow g3
          rw [List.append_nil] at ex3
          have p3 := p2.next s3 ex3
          have u3 := o3.isUn _ _
          refine ⟨fr3, A2, Γi, items[i], [], Γa, s3, o3, by rw [List.append_nil]; exact s3.nd, (fun _ z => nomatch z), ea, fun σ2 A3 s4 sub4 hf4 => ?_⟩
          have s5 := s3.into s4 hh ea u3 hg3 hf4
          have p5 := p3.next s5 .refl
          have hl0 := s3.sl.len
          have hl2 := s5.sl.len
          have eqw : wipe σ2 own = wipe σ own := wipe_wipe (by rw [hl2, asgT_len t ea, ← hl0, wipe_length]) fun j hj => hf4 j (tIn_a t hg3 hj)
          refine ⟨eqw, fr3, A2, Γa, b, Γb, s5, ebb, fun H4 fr4 A4 s6 ex4 pc4 => ?_⟩
          have p6 := p5.next s6 ex4
          have lb : Γb.length = Γ1.length := by
            have h1 := s6.sl.len
            rw [← h1, hl2, asgT_len t ea, hlen]
          cases b with
          | true =>
            simp only [if_true] at ebc
            obtain ⟨⟨ds2, Γc⟩, ebd, ebe⟩ := Option.bind_eq_some_iff.mp ebc
            obtain ⟨items2, ebf, ebg⟩ := Option.bind_eq_some_iff.mp ebe
            simp only at ebg
            split at ebg
            · rename_i hh2
              rw [Bool.and_eq_true] at hh2
              obtain ⟨⟨rs3, Γd⟩, ebh, ebi⟩ := Option.bind_eq_some_iff.mp ebg
              obtain ⟨rfl, rfl⟩ : rs3 = r1 ∧ wipeG Γd own = Γ3 := by
                have := Option.some.inj ebi
                exact ⟨congrArg Prod.fst this, congrArg Prod.snd this⟩
              refine iteT ⟨fr4, A4, Γb, ds2, Γc, items2, s6, ebd, ebf, fun J1' H5 fr5 A5 s7 ex5 pc5 hJ5 => ?_⟩
              have p7 := p6.next s7 ex5
              have lc : Γc.length = Γ1.length := by
                have h1 := s7.sl.len
                rw [← h1, s6.sl.len, lb]
              refine inner_go hsub hg4 s7 (OwL.one.mp p7.o) p7.nd p7.dj hJ5 hh2.2 hh2.1 ebh ?_ fun fr6 A6 B6 H6 p8 hh8 l8 pp8 => ?_
              · rw [ers] at hz
                have : (rsi ++ rs3).length ≤ (rsi ++ (rs3 ++ rs2)).length := by simp
                exact Nat.le_trans this hz
              · have s10 := p8.s.hide hh8
                rw [wipe_sub hsub, eqw] at s10
                have p9 : Po X.K fr1 A1 H1 (wipeG Γd own) (wipe σ own) [.lst true (rsi ++ rs3)] [.ref a] fr6 A6 B6 H6 := ⟨s10, p8.o, p8.nd, p8.dj, p7.ex.trans p8.ex⟩
                refine ⟨wipeG Γd own, rsi ++ rs3, rs2, ec3, by rw [ers, List.append_assoc], hide_wipe hh8, by rw [wipeG_len, l8, lc], fr6, A6, B6, p9, fun hp => ?_⟩
                obtain ⟨z1, z2⟩ := pp2 hp
                simp only [Bool.and_eq_true] at hp
                obtain ⟨z3, z4⟩ := pc4 hp.1.1.1
                obtain ⟨z5, z6⟩ := pc5 hp.1.1.2
                obtain ⟨z7, z8⟩ := pp8 (by rw [Bool.and_eq_true]; exact ⟨hp.1.2, hp.2⟩)
                refine ⟨fun b x e => ?_, z8.trans (z6.trans (z4.trans z2))⟩
                have nb : b ≠ a := fun z => by rw [z, ha] at e; cases e
                exact z7 b x nb (z5 b x (z3 b x (g3.same b x (z1 b x e))))
            · cases ebg
          | false =>
            simp only [Bool.false_eq_true, if_false] at ebc
            split at ebc
            · rename_i hh2
              obtain ⟨rfl, rfl⟩ : [] = r1 ∧ wipeG Γb own = Γ3 := by
                have := Option.some.inj ebc
                exact ⟨congrArg Prod.fst this, congrArg Prod.snd this⟩
              have s10 := s6.hide hh2
              rw [eqw] at s10
              refine iteF ⟨wipeG Γb own, rsi, rs2, ec3, ers, hide_wipe hh2, by rw [wipeG_len, lb], fr4, A4, B, p6.next s10 .refl, fun hp => ?_⟩
              obtain ⟨z1, z2⟩ := pp2 hp
              simp only [Bool.and_eq_true] at hp
              obtain ⟨z3, z4⟩ := pc4 hp.1.1.1
              exact ⟨fun b x e => z3 b x (g3.same b x (z1 b x e)), z4.trans z2⟩
            · cases ebc
        · left
          have e : i = items.length := by omega
          subst e
          refine ⟨J1 (Nat.le_refl _), ?_⟩
          rw [List.drop_length] at ec
          simp only [compL] at ec
          obtain ⟨rfl, rfl⟩ : [] = rest ∧ Γi = Γ2 := by
            have := Option.some.inj ec
            exact ⟨congrArg Prod.fst this, congrArg Prod.snd this⟩
          rw [List.append_nil] at ers
          subst ers
          have hσ := s1.sl.len
          have s11 : S X.K fr2 A2 (backG Γ1 Γi own) σ H2 := by
            refine ⟨p2.s.sl.patch backG_len (by rw [wipe_length]) fun i hi => ?_, p2.s.nd, p2.s.dj, p2.s.dm⟩
            by_cases hm : i ∈ own
            · refine .inr ⟨(hideOk_at hh hm).2, ?_⟩
              obtain ⟨q1, q2⟩ := hideOk_at hg1 hm
              rw [backG_in hm hi]
              cases q : Γ1[i]? with
              | none => have := List.getElem?_eq_none_iff.mp q; omega
              | some o =>
                have eo : Γ1.getD i none = o := by rw [List.getD_eq_getElem?_getD, q]; rfl
                rw [eo]
                cases o with
                | none => exact .inl rfl
                | some x =>
                  obtain ⟨v, B0, g1, g2, g3⟩ := s1.sl.get q
                  have := g2.un _ _ _ (q2 x q)
                  subst this
                  refine .inr ⟨x, v, rfl, g1, g2.mono ex2.ff _ _ _ fun b y hb e => ex2.kp b y e fun hc => ?_⟩
                  rcases hb with hb | hb
                  · exact s1.dj b hc hb
                  · cases hb
            · exact .inl ⟨backG_out hm, (wipe_out hm).symm⟩
          refine kk (.ref a) H2 fr2 A2 B ⟨s11, p2.o, p2.nd, p2.dj, ex1.trans p2.ex⟩ fun hp => ?_
          simp only [pur, Bool.and_eq_true] at hp
          obtain ⟨z1, z2⟩ := pc1 hp.1.1.1.1
          obtain ⟨z3, z4⟩ := pp2 (by simp only [Bool.and_eq_true]; exact ⟨⟨⟨hp.1.1.1.2, hp.1.1.2⟩, hp.1.2⟩, hp.2⟩)
          exact ⟨z1.trans z3, z4.trans z2⟩
    · cases e7
  · cases e5
end
end Sk

namespace Sk
open PySem PySem.Spec PyProof.Rows L2
def Se (Φ : Tab) (e : E) : Prop := RU Φ e ∧ (∀ c X x, Gd Φ X c → chk c e x = true → PE X x (WE Φ X.K e) ∧ PE X x (WO Φ X.K e)) ∧ (∀ c X x, Gd Φ X c → chkT c e x = true → PT X x (WT Φ X.K e))
def SeL (Φ : Tab) (es : List E) : Prop := ∀ e ∈ es, Se Φ e
def Al (Φ : Tab) (X : Cx) : List E → List Expr → Prop
  | [], [] => True
  | e :: es, x :: xs => (notStar x = true ∧ RU Φ e ∧ PE X x (WE Φ X.K e) ∧ PE X x (WO Φ X.K e)) ∧ Al Φ X es xs
  | _, _ => False
section
variable {Φ : Tab}
theorem al_of {X : Cx} {c : Cc} (g : Gd Φ X c) : ∀ {es : List E} {xs : List Expr}, SeL Φ es → chks c es xs = true → Al Φ X es xs
  | [], [], _, _ => trivial
  | [], _ :: _, _, h => by simp [chks] at h
  | _ :: _, [], _, h => by simp [chks] at h
  | e :: es, x :: xs, hs, h => by
    simp only [chks, Bool.and_eq_true] at h
    have h1 := hs e List.mem_cons_self
    obtain ⟨p1, p2⟩ := h1.2.1 c X x g h.1.2
    exact ⟨⟨h.1.1, h1.1, p1, p2⟩, al_of g (fun e he => hs e (List.mem_cons_of_mem _ he)) h.2⟩
theorem Al.paE {X : Cx} : ∀ {es : List E} {xs : List Expr}, Al Φ X es xs → PA X xs (WEs Φ X.K es)
  | [], [], _ => s_nilE
  | [], _ :: _, h => h.elim
  | _ :: _, [], h => h.elim
  | e :: es, x :: xs, h => s_consE h.1.1 h.1.2.2.1 h.2.paE
theorem Al.paO {X : Cx} : ∀ {es : List E} {xs : List Expr}, Al Φ X es xs → PA X xs (WOs Φ X.K es)
  | [], [], _ => s_nilO
  | [], _ :: _, h => h.elim
  | _ :: _, [], h => h.elim
  | e :: es, x :: xs, h => s_consO h.1.1 h.1.2.1 h.1.2.2.2 h.2.paO
theorem Al.one {X : Cx} {es : List E} {x : Expr} (h : Al Φ X es [x]) : ∃ e, es = [e] ∧ notStar x = true ∧ RU Φ e ∧ PE X x (WO Φ X.K e) := by
  match es, h with
  | [e], h => exact ⟨e, rfl, h.1.1, h.1.2.1, h.1.2.2.2⟩
  | [], h => exact h.elim
  | _ :: _ :: _, h => exact h.2.elim
theorem Al.two {X : Cx} {es : List E} {x y : Expr} (h : Al Φ X es [x, y]) : ∃ e f, es = [e, f] ∧ RU Φ e ∧ RU Φ f ∧ PE X x (WO Φ X.K e) ∧ PE X y (WO Φ X.K f) := by
  match es, h with
  | e :: es, h =>
    obtain ⟨f, rfl, _, h1, h2⟩ := Al.one h.2
    exact ⟨e, f, rfl, h.1.2.1, h1, h.1.2.2.2, h2⟩
  | [], h => exact h.elim
theorem Al.three {X : Cx} {es : List E} {x y z : Expr} (h : Al Φ X es [x, y, z]) : ∃ e f g, es = [e, f, g] ∧ RU Φ e ∧ RU Φ f ∧ PE X x (WO Φ X.K e) ∧ PE X y (WO Φ X.K f) ∧ PE X z (WO Φ X.K g) := by
  match es, h with
  | e :: es, h =>
    obtain ⟨f, g, rfl, h1, _, h2, h3⟩ := Al.two h.2
    exact ⟨e, f, g, rfl, h.1.2.1, h1, h.1.2.2.2, h2, h3⟩
  | [], h => exact h.elim
/-- the plain way from values -/
theorem mk_se {e : E} (hr : RU Φ e) (ho : ∀ Γ, ev Φ e .opd Γ = (ev Φ e .val Γ).map (fin .opd)) (hv : ∀ c X x, Gd Φ X c → chk c e x = true → PE X x (WE Φ X.K e)) (ht : ∀ c X x, Gd Φ X c → chkT c e x = true → PE X x (WO Φ X.K e) ∧ plainX x = true ∨ PT X x (WT Φ X.K e)) (h2 : ∀ Γ, ev Φ e .tst Γ = ev Φ e .opd Γ) : Se Φ e := by
  refine ⟨hr, fun c X x g h => ⟨hv c X x g h, s_opd ho (hv c X x g h)⟩, fun c X x g h => ?_⟩
  rcases ht c X x g h with ⟨h3, h4⟩ | h3
  · exact s_tst h2 h4 h3
  · exact h3
theorem ru_of {e : E} (ho : ∀ Γ, ev Φ e .opd Γ = (ev Φ e .val Γ).map (fin .opd)) : RU Φ e := by
  intro _ Γ d Γ' h
  rw [ho] at h
  obtain ⟨⟨d0, Γ0⟩, e1, e2⟩ := Option.map_eq_some_iff.mp h
  cases e2
  exact un_frz d0
theorem snd_lit {e : E} {d : D} {v : V} (hd : un d = true) (he : ∀ m Γ, ev Φ e m Γ = some (d, Γ)) (hv : ∀ K fr H, Ow K fr H d v []) (hc : ∀ c x, chk c e x = true → plainX x = true ∧ ∀ X, PE X x (tC v)) (ht : ∀ c x, chkT c e x = true → chk c e x = true) : Se Φ e := by
  refine ⟨fun _ Γ d' Γ' h => by rw [he] at h; cases h; exact hd, fun c X x g h => s_lit he (hv X.K) ((hc c x h).2 X), fun c X x g h => ?_⟩
  have h2 := hc c x (ht c x h)
  exact s_tst (fun Γ => by rw [he, he]) h2.1 (s_lit he (hv X.K) (h2.2 X)).2
theorem snd_int (i : Int) : Se Φ (.int i) := by
  refine snd_lit (d := .int i) (v := .int i) rfl (fun m Γ => by simp only [ev]) (fun K fr H => by unfold Ow; exact ⟨rfl, rfl⟩) (fun c x h => ?_) fun c x h => ?_
  · cases x with
    | Constant k _ _ =>
      cases k with
      | int j =>
        simp only [chk, decide_eq_true_eq] at h
        subst h
        exact ⟨rfl, fun X => pe_int⟩
      | _ => simp [chk] at h
    | _ => simp [chk] at h
  · cases x with
    | Constant k _ _ => cases k <;> simp_all [chk, chkT]
    | _ => simp [chkT] at h
theorem snd_bl (i : Bool) : Se Φ (.bl i) := by
  refine snd_lit (d := .bl i) (v := .bl i) rfl (fun m Γ => by simp only [ev]) (fun K fr H => by unfold Ow; exact ⟨rfl, rfl⟩) (fun c x h => ?_) fun c x h => ?_
  · cases x with
    | Constant k _ _ =>
      cases k with
      | bool j =>
        simp only [chk, beq_iff_eq] at h
        subst h
        exact ⟨rfl, fun X => pe_bl⟩
      | _ => simp [chk] at h
    | _ => simp [chk] at h
  · cases x with
    | Constant k _ _ => cases k <;> simp_all [chk, chkT]
    | _ => simp [chkT] at h
theorem snd_str (i : Str) : Se Φ (.str i) := by
  refine snd_lit (d := .str i) (v := .str i) rfl (fun m Γ => by simp only [ev]) (fun K fr H => by unfold Ow; exact ⟨rfl, rfl⟩) (fun c x h => ?_) fun c x h => ?_
  · cases x with
    | Constant k _ _ =>
      cases k with
      | str j =>
        simp only [chk, decide_eq_true_eq] at h
        subst h
        exact ⟨rfl, fun X => pe_str⟩
      | _ => simp [chk] at h
    | _ => simp [chk] at h
  · cases x with
    | Constant k _ _ => cases k <;> simp_all [chk, chkT]
    | _ => simp [chkT] at h
theorem snd_non : Se Φ .non := by
  refine snd_lit (d := .non) (v := .non) rfl (fun m Γ => by simp only [ev]) (fun K fr H => by unfold Ow; exact ⟨rfl, rfl⟩) (fun c x h => ?_) fun c x h => ?_
  · cases x with
    | Constant k _ _ =>
      cases k with
      | none => exact ⟨rfl, fun X => pe_non⟩
      | _ => simp [chk] at h
    | _ => simp [chk] at h
  · cases x with
    | Constant k _ _ => cases k <;> simp_all [chk, chkT]
    | _ => simp [chkT] at h
theorem snd_loc (i : Nat) : Se Φ (.loc i) := by
  refine ⟨(fun h => by cases h), fun c X x g h => ?_, fun c X x g h => ?_⟩
  · cases x with
    | Name y p => simp only [chk] at h; exact s_loc (vis_of g h)
    | _ => simp [chk] at h
  · cases x with
    | Name y p =>
      simp only [chkT] at h
      exact s_tst (fun Γ => by simp only [ev]; rfl) rfl (s_loc (vis_of g h)).2
    | _ => simp [chkT] at h
theorem noT {e : E} (h : ∀ c x, chkT c e x = false) : ∀ (c : Cc) (X : Cx) (x : Expr), Gd Φ X c → chkT c e x = true → PT X x (WT Φ X.K e) := fun c X x _ q => by rw [h] at q; cases q
theorem opd_auto {i : Nat} (Γ : Gm) : ev Φ (.auto i) .opd Γ = (ev Φ (.auto i) .val Γ).map (fin .opd) := by
  simp only [ev]
  cases getS Γ i with
  | none => rfl
  | some d => simp only [Option.bind_some, Option.map_some, fin]; rw [frz_un _ (un_frz d)]
theorem snd_auto (i : Nat) : Se Φ (.auto i) := by
  refine ⟨ru_of opd_auto, fun c X x g h => ?_, noT fun c x => by cases x <;> simp [chkT]⟩
  cases x with
  | Name y p => simp only [chk] at h; exact ⟨s_auto (vis_of g h), s_opd opd_auto (s_auto (vis_of g h))⟩
  | _ => simp [chk] at h
theorem opd_mov {i : Nat} (Γ : Gm) : ev Φ (.mov i) .opd Γ = (ev Φ (.mov i) .val Γ).map (fin .opd) := by
  simp only [ev]
  cases getS Γ i <;> rfl
theorem snd_mov (i : Nat) : Se Φ (.mov i) := by
  refine ⟨ru_of opd_mov, fun c X x g h => ?_, noT fun c x => by cases x <;> simp [chkT]⟩
  cases x with
  | Name y p => simp only [chk] at h; exact ⟨s_mov (vis_of g h), s_opd opd_mov (s_mov (vis_of g h))⟩
  | _ => simp [chk] at h
theorem opd_tup {es : List E} (Γ : Gm) : ev Φ (.tup es) .opd Γ = (ev Φ (.tup es) .val Γ).map (fin .opd) := by
  simp only [ev]
  cases evEs Φ es Γ with
  | none => rfl
  | some p => simp only [Option.bind_some]; split <;> rfl
theorem snd_tup {es : List E} (hs : SeL Φ es) : Se Φ (.tup es) := by
  refine ⟨ru_of opd_tup, fun c X x g h => ?_, noT fun c x => by cases x <;> simp [chkT]⟩
  cases x with
  | Tuple xs k p =>
    simp only [chk] at h
    have := s_tup (pos := p) (k0 := k) (al_of g hs h).paE
    exact ⟨this, s_opd opd_tup this⟩
  | _ => simp [chk] at h
theorem opd_lst {es : List E} (Γ : Gm) : ev Φ (.lst es) .opd Γ = (ev Φ (.lst es) .val Γ).map (fin .opd) := by
  simp only [ev]
  cases evEs Φ es Γ with
  | none => rfl
  | some p => simp only [Option.bind_some]; split <;> rfl
theorem snd_lst {es : List E} (hs : SeL Φ es) : Se Φ (.lst es) := by
  refine ⟨ru_of opd_lst, fun c X x g h => ?_, noT fun c x => by cases x <;> simp [chkT]⟩
  cases x with
  | List xs p =>
    simp only [chk] at h
    have := s_lst (pos := p) (al_of g hs h).paE
    exact ⟨this, s_opd opd_lst this⟩
  | _ => simp [chk] at h
theorem snd_idx {a b : E} (ha : Se Φ a) (hb : Se Φ b) : Se Φ (.idx a b) := by
  have hru : RU Φ (.idx a b) := by
    intro hr Γ d Γ' h
    simp only [ev] at h
    obtain ⟨⟨x, Γ1⟩, e2, e3⟩ := Option.bind_eq_some_iff.mp h
    simp only at e3
    split at e3
    · obtain ⟨⟨y, Γ2⟩, e4, e5⟩ := Option.bind_eq_some_iff.mp e3
      obtain ⟨r, e6, e7⟩ := Option.bind_eq_some_iff.mp e5
      cases e7
      exact idxF_un e6 (ha.1 hr Γ x Γ1 e2)
    · cases e3
  have go : ∀ c X x, Gd Φ X c → chk c (.idx a b) x = true → PE X x (WE Φ X.K (.idx a b)) ∧ PE X x (WO Φ X.K (.idx a b)) := by
    intro c X x g h
    cases x with
    | Subscript y z p =>
      simp only [chk, Bool.and_eq_true] at h
      exact s_idx h.1.1 ha.1 (ha.2.1 c X y g h.1.2).2 (hb.2.1 c X z g h.2).1
    | _ => simp [chk] at h
  refine ⟨hru, go, fun c X x g h => ?_⟩
  cases x with
  | Subscript y z p =>
    simp only [chkT] at h
    refine s_tst (fun Γ => ?_) rfl (go c X _ g (by simp only [chk]; exact h)).2
    simp only [ev]
    rfl
  | _ => simp [chkT] at h
end
end Sk

namespace Sk
open PySem PySem.Spec PyProof.Rows L2
section
variable {Φ : Tab}
theorem opd_pr {p : Pr} {es : List E} (Γ : Gm) : ev Φ (.pr p es) .opd Γ = (ev Φ (.pr p es) .val Γ).map (fin .opd) := by
  simp only [ev]
  cases evOs Φ es Γ with
  | none => rfl
  | some q =>
    simp only [Option.bind_some]
    cases prF p q.1 <;> rfl
theorem tst_pr {p : Pr} {es : List E} (Γ : Gm) : ev Φ (.pr p es) .tst Γ = ev Φ (.pr p es) .opd Γ := by
  simp only [ev]; rfl
theorem cmp_bl {op : CmpOp} {p : Pr} (h : cmpP op = some p) : ∀ ds d, prF p ds = some d → ∃ t, d = .bl t := by
  intro ds d e
  have mapb : ∀ {o : Option Bool} {g : Bool → Bool} {d : D}, o.map (fun c => D.bl (g c)) = some d → ∃ t, d = .bl t := by
    intro o g d e
    obtain ⟨c, _, rfl⟩ := Option.map_eq_some_iff.mp e
    exact ⟨_, rfl⟩
  cases op <;> first | (cases h; done) | skip
  all_goals
    cases h
    cases ds with
    | nil => cases e
    | cons a r =>
      cases r with
      | nil => cases e
      | cons b r2 =>
        cases r2 with
        | cons _ _ => cases e
        | nil => first
          | exact mapb (g := id) (show (eqF a b).map D.bl = some d from e)
          | exact mapb (show (eqF a b).map (fun c => D.bl (!c)) = some d from e)
          | exact mapb (g := id) (show (ltF2 a b).map D.bl = some d from e)
          | exact mapb (show (ltF b a).map (fun c => D.bl (!c)) = some d from e)
          | exact mapb (g := id) (show (ltF b a).map D.bl = some d from e)
          | exact mapb (show (ltF a b).map (fun c => D.bl (!c)) = some d from e)
          | exact mapb (g := id) (show (inF a b).map D.bl = some d from e)
          | exact mapb (show (inF a b).map (fun c => D.bl (!c)) = some d from e)
theorem cmp_rule {X : Cx} {op : CmpOp} {p : Pr} (hu : X.A.units + 65 < cLine) (h : cmpP op = some p) : OpR X (compareOp op) (fun v w => rP X.K p [v, w]) := by
  have hu' : X.A.units + 64 < cLine := by omega
  cases op <;> first | (cases h; done) | (cases h; first | exact o_eq hu' | exact o_ne hu' | exact o_lt hu' | exact o_le hu' | exact o_gt hu' | exact o_ge hu' | exact o_in hu | exact o_notin hu)
theorem bin_rule {X : Cx} {op : Operator} {p : Pr} (h : binP op = some p) : OpR X (binaryOp op) (fun v w => rP X.K p [v, w]) := by
  cases op <;> first | (cases h; done) | (cases h; first | exact o_add | exact o_sub | exact o_mul | exact o_fdiv | exact o_mod | exact o_pow | exact o_band)
theorem one_bl {p : Pr} (h : p = .isN ∨ p = .notN ∨ ∃ b, p = .isB b ∨ p = .notB b) : ∀ ds d, prF p ds = some d → ∃ t, d = .bl t := by
  intro ds d e
  rcases h with rfl | rfl | ⟨b, rfl | rfl⟩
  all_goals
    match ds, e with
    | [a], e => cases e; exact ⟨_, rfl⟩
    | [], e => cases e
    | _ :: _ :: _, e => cases e
theorem pr_endY {X : Cx} {p : Pr} {es : List E} {σ : St} {H : Hp} {Q : VK} (h : WE Φ X.K (.pr p es) σ H Q) : ∃ fr A Γ ds Γ' r, S X.K fr A Γ σ H ∧ evOs Φ es Γ = some (ds, Γ') ∧ prF p ds = some r ∧
    ∀ vs H' fr' A' B, Vp X.K fr A H Γ' σ ds vs fr' A' B H' → (purL es = true → Sm' H H' ∧ A' = A) → Dm fr' H' ∧ VwL X.K fr' H' ds vs ∧ Res X.K fr' H' r Q := by
  obtain ⟨fr, A, Γ, d, Γ', s, e1, k⟩ := h
  simp only [ev, fin] at e1
  obtain ⟨⟨ds, Γ1⟩, e2, e3⟩ := Option.bind_eq_some_iff.mp e1
  obtain ⟨r, e4, e5⟩ := Option.map_eq_some_iff.mp e3
  cases e5
  refine ⟨fr, A, Γ, ds, _, d, s, e2, e4, fun vs H1 fr1 A1 B1 p1 pc1 => ⟨p1.s.dm, ⟨B1, p1.o⟩, fun v H' fr' B g o => ?_⟩⟩
  have p2 := Po.grow p1.s g o
  refine k v H' fr' A1 B ⟨p2.s, p2.o, p2.nd, p2.dj, p1.ex.trans p2.ex⟩ fun hp => ?_
  obtain ⟨z1, z2⟩ := pc1 hp
  exact ⟨z1.trans g.same, z2⟩
theorem s_mth {X : Cx} {p : Pr} {a b : E} {x y : Expr} {name : Str} {apos cpos : Pos} (hu : X.A.units + 65 < cLine) (hm : mt1 name = some p) (hl : (apos.endLine == cpos.line) = true) (hn : notCall0 x = true) (hs : notStar y = true) (hr : RU Φ a) (h1 : PE X x (WO Φ X.K a)) (h2 : PE X y (WO Φ X.K b)) :
    PE X (.Call (.Attribute x name apos) [y] [] cpos) (WE Φ X.K (.pr p [a, b])) := by
  refine ⟨fun pins s σ H Q I q => ?_⟩
  obtain ⟨fr, A, Γ, ds, Γ', r, s0, e1, er, k⟩ := pr_endY q
  simp only [evOs] at e1
  obtain ⟨⟨d1, Γ1⟩, e2, e3⟩ := Option.bind_eq_some_iff.mp e1
  simp only [purL, Bool.or_true, Bool.and_true, ite_true] at e3
  split at e3
  · rename_i hp
    obtain ⟨⟨ds', Γ2⟩, e4, e5⟩ := Option.bind_eq_some_iff.mp e3
    obtain ⟨⟨d2, Γ3⟩, e6, e7⟩ := Option.bind_eq_some_iff.mp e4
    cases e7
    cases e5
    obtain ⟨cc, hc, T, id, pa, sl, ty, hmt, htv⟩ := mfact hu hm er
    have hb : attributeBase x name X.env (eval x X.env) = eval x X.env := by
      cases x <;> first | rfl | cases hn
    refine (pe_bm pa sl ty hmt h1 (pa_cons h2 pa_nil (star_cons hs)) hb (by rw [star_cons hs]; rfl) hl (star_cons hs) rfl).run pins s σ H Q I ⟨fr, A, Γ, d1, Γ1, s0, e2, fun v H1 fr1 A1 B1 p1 pc1 => ⟨htv _ _ _ _ hc ⟨_, OwL.one.mp p1.o⟩, fr1, A1, Γ1, d2, _, p1.s, e6, fun w H2 fr2 A2 B2 p2 pc2 => ?_⟩⟩
    have hh : un d1 = true ∨ (Sm' H1 H2 ∧ A2 = A1) := by
      simp only [Bool.or_eq_true] at hp
      rcases hp with z | z
      · exact .inl (hr (by simpa using z) Γ d1 Γ1 e2)
      · exact .inr (pc2 z)
    obtain ⟨B, pp⟩ := p1.seq p2 hh
    obtain ⟨dm, vw, q⟩ := k [v, w] H2 fr2 A2 B pp fun hp => by
      simp only [purL, Bool.and_true, Bool.and_eq_true] at hp
      obtain ⟨z1, z2⟩ := pc1 hp.1
      obtain ⟨z3, z4⟩ := pc2 hp.2
      exact ⟨z1.trans z3, z4.trans z2⟩
    obtain ⟨v', w', ev', v1, v2⟩ := vw.two'
    cases ev'
    exact ⟨fr2, d1, d2, r, w, rfl, hc, dm, v1, v2, er, q⟩
  · cases e3
theorem s_crep {X : Cx} {w y z : Str} {e : E} {x : Expr} {j k l : Nat} {p1 p2 p3 apos cpos pos : Pos} (h1 : PE X x (WO Φ X.K e)) (hyz : (y == z) = false) (hl : (apos.endLine == cpos.line) = true) (hn : notCall0 x = true) :
    PE X (.BinOp (.Constant (.str w) j p1) .Add (.Call (.Attribute x "replace" apos) [.Constant (.str y) k p2, .Constant (.str z) l p3] [] cpos) pos) (WE Φ X.K (.pr (.crep w y z) [e])) := by
  refine ⟨fun pins s σ H Q I q => ?_⟩
  have hb : attributeBase x "replace" X.env (eval x X.env) = eval x X.env := by
    cases x <;> first | rfl | cases hn
  have pr := CwR.pet_replC (y := y) (z := z) (j := k) (k := l) (c0 := p2) (c1 := p3) (apos := apos) (pos := cpos) h1 hyz rfl hb hl
  refine wpAny_BinOp (Calls.Constant_str ?_)
  refine thn (pr pins { s with toks := s.toks + 1 } σ H (fun v H2 => rP X.K .add [.str w, v] H2 Q) (by show 1 ≤ s.toks + 1; omega) (I.tok _) ?_) fun u s2 ⟨v2, H2, I2, r2, q2⟩ => o_add pins s2 σ H2 (.str w) v2 _ u Q I2 ⟨_, rfl⟩ r2 q2
  refine wo_imp (pr_end1 q) fun v H1 h => ?_
  obtain ⟨fr, ds, d, dm, vw, er, qr⟩ := h
  obtain ⟨a, rfl, va⟩ := vw.one
  match a, er with
  | .str a, er =>
    have er : crepF w y z a = some d := er
    unfold crepF at er
    split at er
    · rename_i hz
      rw [Bool.and_eq_true] at hz
      cases er
      obtain rfl := va.str
      refine ⟨a, rfl, of_decide_eq_true hz.1, fr, [.str w, .str (Txt.replace a y z)], _, dm, ⟨[], own_strs [w, Txt.replace a y z]⟩, ?_, qr⟩
      simp only [prF, hz.2, if_true]
    · cases er
/-- what is written for an operation: its value, and its test where it is a comparison -/
theorem pr_val {X : Cx} {c : Cc} (g : Gd Φ X c) {p : Pr} {es : List E} {x : Expr} {xs : List Expr} (hp : prX c p x = some xs) (hs : chks c es xs = true) (al : Al Φ X es xs) : PE X x (WE Φ X.K (.pr p es)) ∧ (plainX x = false → PT X x (WT Φ X.K (.pr p es))) := by
  have hu := g.hu
  unfold prX at hp
  split at hp
  · rename_i hb
    split at hp
    · rename_i hi
      cases hp
      subst hb
      obtain ⟨e, rfl, _, r1, h1⟩ := al.one
      refine ⟨s_id h1, fun z => ?_⟩
      cases x <;> first | (exfalso; cases hi; done) | (exfalso; cases z; done)
    · cases hp
  unfold prX0 at hp
  split at hp
  · split at hp
    · rename_i hb
      cases hp
      obtain ⟨e, f, rfl, r1, r2, h1, h2⟩ := al.two
      exact ⟨s_bin (bin_rule hb) r1 h1 h2, fun z => by cases z⟩
    · unfold crepX at hp
      split at hp
      · split at hp
        · rename_i hb
          cases hp
          obtain ⟨rfl, rfl, hyz, hl, hn⟩ := hb
          obtain ⟨e, rfl, _, r1, h1⟩ := al.one
          exact ⟨s_crep h1 hyz hl hn, fun z => by cases z⟩
        · cases hp
      · cases hp
  · split at hp
    · rename_i hb
      cases hp
      subst hb
      obtain ⟨e, rfl, _, r1, h1⟩ := al.one
      exact ⟨s_un o_neg h1, fun z => by cases z⟩
    · cases hp
  · split at hp
    · rename_i q hq
      split at hp
      · rename_i hb
        cases hp
        subst hb
        obtain ⟨e, rfl, _, r1, h1⟩ := al.one
        unfold cmp1 at hq
        split at hq
        · cases hq
          exact And.imp id (fun h _ => h) (s_cmp1 (c := .non) o_isN (nomark _) (one_bl (.inl rfl)) h1 pe_non)
        · cases hq
          exact And.imp id (fun h _ => h) (s_cmp1 (c := .non) o_notN (nomark _) (one_bl (.inr (.inl rfl))) h1 pe_non)
        · cases hq
          exact And.imp id (fun h _ => h) (s_cmp1 (c := .bl _) o_isB (nomark _) (one_bl (.inr (.inr ⟨_, .inl rfl⟩))) h1 pe_bl)
        · cases hq
          exact And.imp id (fun h _ => h) (s_cmp1 (c := .bl _) o_notB (nomark _) (one_bl (.inr (.inr ⟨_, .inr rfl⟩))) h1 pe_bl)
        · cases hq
      · cases hp
    · split at hp
      · rename_i hb
        cases hp
        obtain ⟨e, f, rfl, r1, r2, h1, h2⟩ := al.two
        exact And.imp id (fun h _ => h) (s_cmp (cmp_rule hu hb.1) (behM hb.2) (cmp_bl hb.1) r1 h1 h2)
      · cases hp
  · split at hp
    · rename_i hb
      cases hp
      exact ⟨s_blt g hb.2.1 hb.2.2 hb.1 hs al.paO, fun z => by cases z⟩
    · refine ⟨s_isaX g hp (fun x e => ?_) fun x y e => ?_, fun z => by cases z⟩
      · subst e
        obtain ⟨e, rfl, hn, _, h1⟩ := al.one
        exact ⟨e, rfl, hn, h1⟩
      · subst e
        match es, al with
        | [e, f], al => exact ⟨e, f, rfl, al.1.1, al.2.1.1, al.1.2.1, al.1.2.2.2, al.2.1.2.2.2⟩
        | [], al => exact al.elim
        | [_], al => exact al.2.elim
        | _ :: _ :: _ :: _, al => exact al.2.2.elim
  · split at hp
    · rename_i hb
      cases hp
      obtain ⟨hm, hl, hn⟩ := hb
      match es, al with
      | [e, f], al => exact ⟨s_mth hu hm hl hn al.2.1.1 al.1.2.1 al.1.2.2.2 al.2.1.2.2.2, fun z => by cases z⟩
      | [], al => exact al.elim
      | [_], al => exact al.2.elim
      | _ :: _ :: _ :: _, al => exact al.2.2.elim
    · cases hp
  · split at hp
    · rename_i hb
      cases hp
      subst hb
      obtain ⟨e, rfl, _, r1, h1⟩ := al.one
      exact ⟨s_slc0 h1, fun z => by cases z⟩
    · cases hp
  · split at hp
    · rename_i hb
      cases hp
      subst hb
      obtain ⟨e, f, rfl, r1, r2, h1, h2⟩ := al.two
      exact ⟨s_slc1 r1 h1 h2, fun z => by cases z⟩
    · cases hp
  · split at hp
    · rename_i hb
      cases hp
      subst hb
      obtain ⟨e, f, rfl, r1, r2, h1, h2⟩ := al.two
      exact ⟨s_slc2 r1 h1 h2, fun z => by cases z⟩
    · cases hp
  · split at hp
    · rename_i hb
      cases hp
      subst hb
      obtain ⟨e, f, i, rfl, r1, r2, h1, h2, h3⟩ := al.three
      exact ⟨s_slc3 r1 r2 h1 h2 h3, fun z => by cases z⟩
    · cases hp
  · split at hp
    · rename_i hb
      cases hp
      subst hb
      obtain ⟨e, rfl, _, r1, h1⟩ := al.one
      exact ⟨s_rev h1, fun z => by cases z⟩
    · cases hp
  · split at hp
    · rename_i hb
      cases hp
      obtain ⟨hb, rfl⟩ := hb
      subst hb
      obtain ⟨e, rfl, _, r1, h1⟩ := al.one
      exact ⟨s_fs1 h1, fun z => by cases z⟩
    · cases hp
  · split at hp
    · rename_i hb
      cases hp
      obtain ⟨hb, rfl, rfl⟩ := hb
      subst hb
      obtain ⟨e, f, rfl, r1, r2, h1, h2⟩ := al.two
      exact ⟨s_fj r1 h1 h2, fun z => by cases z⟩
    · cases hp
  · cases hp
theorem snd_pr {p : Pr} {es : List E} (hs : SeL Φ es) : Se Φ (.pr p es) := by
  have go : ∀ c X x, Gd Φ X c → chk c (.pr p es) x = true → PE X x (WE Φ X.K (.pr p es)) ∧ (plainX x = false → PT X x (WT Φ X.K (.pr p es))) := by
    intro c X x g h
    have h' : (match prX c p x with | some xs => chks c es xs | none => false) = true := by
      cases x <;> (simp only [chk] at h; exact h)
    split at h'
    · rename_i xs hp
      exact pr_val g hp h' (al_of g hs h')
    · cases h'
  refine ⟨ru_of opd_pr, fun c X x g h => ⟨(go c X x g h).1, s_opd opd_pr (go c X x g h).1⟩, fun c X x g h => ?_⟩
  have h2 : chk c (.pr p es) x = true := by
    cases x <;> (simp only [chk, chkT] at h ⊢; exact h)
  cases hx : plainX x with
  | true => exact s_tst tst_pr hx (s_opd opd_pr (go c X x g h2).1)
  | false => exact (go c X x g h2).2 hx
end
end Sk

namespace Sk
open PySem PySem.Spec PyProof.Rows L2
section
variable {Φ : Tab}
/-! ### calls -/
theorem callX_inv {c : Cc} {f : Str} {x : Expr} {xs : List Expr} (h : callX c f x = some xs) : ∃ pf pos, x = .Call (.Name (bse f) pf) xs [] pos ∧ glbOk c (bse f) = true ∧ f ∈ c.fns ∧ xs ≠ [] := by
  unfold callX at h
  split at h
  · split at h
    · rename_i hb
      cases h
      obtain ⟨rfl, h2, h3, h4⟩ := hb
      refine ⟨_, _, rfl, h2, by simpa using h3, fun z => ?_⟩
      subst z
      cases h4
    · cases h
  · cases h
theorem opd_call {f : Str} {es : List E} (Γ : Gm) : ev Φ (.call f es) .opd Γ = (ev Φ (.call f es) .val Γ).map (fin .opd) := by
  simp only [ev]
  cases evOs Φ es Γ with
  | none => rfl
  | some q =>
    simp only [Option.bind_some]
    split
    · split
      · rename_i φ _ _
        cases φ (frzL q.1) with
        | none => rfl
        | some r =>
          simp only [Option.bind_some]
          split <;> rfl
      · rfl
    · rfl
theorem tst_call {f : Str} {es : List E} (Γ : Gm) : ev Φ (.call f es) .tst Γ = ev Φ (.call f es) .opd Γ := by
  simp only [ev]; rfl
theorem snd_call {f : Str} {es : List E} (hs : SeL Φ es) : Se Φ (.call f es) := by
  have go : ∀ c X x, Gd Φ X c → chk c (.call f es) x = true → PE X x (WE Φ X.K (.call f es)) ∧ plainX x = true := by
    intro c X x g h
    have h' : (match callX c f x with | some xs => chks c es xs | none => es.isEmpty && cstX c f x) = true := by
      cases x <;> (simp only [chk] at h; exact h)
    split at h'
    · rename_i xs hp
      obtain ⟨pf, pos, rfl, h1, h2, h3⟩ := callX_inv hp
      cases xs with
      | nil => exact absurd rfl h3
      | cons y ys => exact ⟨s_call g h1 h2 h' (al_of g hs h').paO, rfl⟩
    · rw [Bool.and_eq_true, List.isEmpty_iff] at h'
      obtain ⟨rfl, hx⟩ := h'
      match x, hx with
      | .Name y p, hx =>
        unfold cstX at hx
        simp only [Bool.and_eq_true, decide_eq_true_eq] at hx
        obtain ⟨⟨rfl, h1⟩, h2⟩ := hx
        exact ⟨s_cst g h1 (by simpa using h2), rfl⟩
  refine ⟨ru_of opd_call, fun c X x g h => ⟨(go c X x g h).1, s_opd opd_call (go c X x g h).1⟩, fun c X x g h => ?_⟩
  have h2 : chk c (.call f es) x = true := by
    cases x <;> (simp only [chk, chkT] at h ⊢; exact h)
  exact s_tst tst_call (go c X x g h2).2 (s_opd opd_call (go c X x g h2).1)
theorem opd_cio {f : Str} {io : List Nat} {es : List E} (Γ : Gm) : ev Φ (.cio f io es) .opd Γ = (ev Φ (.cio f io es) .val Γ).map (fin .opd) := by
  simp only [ev]
  split
  · cases evOs Φ es Γ with
    | none => rfl
    | some q =>
      simp only [Option.bind_some]
      split
      · split
        · rename_i φ _ _
          cases getSs q.2 io with
          | none => rfl
          | some xs =>
            simp only [Option.bind_some]
            cases φ (xs ++ q.1) with
            | none => rfl
            | some r =>
              simp only [Option.bind_some]
              split <;> rfl
        · split
          · rename_i φ _ _ _
            cases evOs Φ es (clr Γ io) with
            | none => rfl
            | some q2 =>
              simp only [Option.bind_some]
              split
              · cases getSs Γ io with
                | none => rfl
                | some xs =>
                  simp only [Option.bind_some]
                  cases φ (xs ++ frzL q2.1) with
                  | none => rfl
                  | some r =>
                    simp only [Option.bind_some]
                    split <;> rfl
              · rfl
          · rfl
      · rfl
  · rfl
theorem tst_cio {f : Str} {io : List Nat} {es : List E} (Γ : Gm) : ev Φ (.cio f io es) .tst Γ = ev Φ (.cio f io es) .opd Γ := by
  simp only [ev]; rfl
theorem snd_cio {f : Str} {io : List Nat} {es : List E} (hs : SeL Φ es) : Se Φ (.cio f io es) := by
  have go : ∀ c X x, Gd Φ X c → chk c (.cio f io es) x = true → PE X x (WE Φ X.K (.cio f io es)) ∧ plainX x = true := by
    intro c X x g h
    have h' : (match callX c f x with | some xs => chkIo c io (xs.take io.length) && !io.isEmpty && chks c es (xs.drop io.length) | none => false) = true := by
      cases x <;> (simp only [chk] at h; exact h)
    split at h'
    · rename_i xs hp
      obtain ⟨pf, pos, rfl, h1, h2, h3⟩ := callX_inv hp
      simp only [Bool.and_eq_true] at h'
      have hn : io ≠ [] := fun z => by rw [z] at h'; cases h'.1.2
      have := s_cio (pf := pf) (pos := pos) g h1 h2 hn h'.1.1 h'.2 (al_of g hs h'.2).paO
      rw [List.take_append_drop] at this
      exact ⟨this, rfl⟩
    · cases h'
  refine ⟨ru_of opd_cio, fun c X x g h => ⟨(go c X x g h).1, s_opd opd_cio (go c X x g h).1⟩, fun c X x g h => ?_⟩
  have h2 : chk c (.cio f io es) x = true := by
    cases x <;> (simp only [chk, chkT] at h ⊢; exact h)
  exact s_tst tst_cio (go c X x g h2).2 (s_opd opd_cio (go c X x g h2).1)
/-! ### and, or, not, if .. else, chains -/
theorem al_and {X : Cx} {pos : Pos} : ∀ {es : List E} {xs : List Expr}, Al Φ X es xs → es ≠ [] → PE X (.BoolOp .And xs pos) (WAnd Φ X.K es)
  | [e], [x], h, _ => s_and1 h.1.2.2.1
  | e :: e2 :: es, x :: y :: ys, h, _ => s_andC h.1.2.2.1 (al_and h.2 (by simp))
  | [], _, _, hn => absurd rfl hn
  | [_], [], h, _ => h.elim
  | [_], _ :: _ :: _, h, _ => h.2.elim
  | _ :: _ :: _, [], h, _ => h.elim
  | _ :: _ :: _, [_], h, _ => h.2.elim
theorem al_or {X : Cx} {pos : Pos} : ∀ {es : List E} {xs : List Expr}, Al Φ X es xs → es ≠ [] → PE X (.BoolOp .Or xs pos) (WOr Φ X.K es)
  | [e], [x], h, _ => s_or1 h.1.2.2.1
  | e :: e2 :: es, x :: y :: ys, h, _ => s_orC h.1.2.2.1 (al_or h.2 (by simp))
  | [], _, _, hn => absurd rfl hn
  | [_], [], h, _ => h.elim
  | [_], _ :: _ :: _, h, _ => h.2.elim
  | _ :: _ :: _, [], h, _ => h.elim
  | _ :: _ :: _, [_], h, _ => h.2.elim
def AlT (Φ : Tab) (X : Cx) : List E → List Expr → Prop
  | [], [] => True
  | e :: es, x :: xs => PT X x (WT Φ X.K e) ∧ AlT Φ X es xs
  | _, _ => False
theorem alT_of {X : Cx} {c : Cc} (g : Gd Φ X c) : ∀ {es : List E} {xs : List Expr}, SeL Φ es → chkTs c es xs = true → AlT Φ X es xs
  | [], [], _, _ => trivial
  | [], _ :: _, _, h => by simp [chkTs] at h
  | _ :: _, [], _, h => by simp [chkTs] at h
  | e :: es, x :: xs, hs, h => by
    simp only [chkTs, Bool.and_eq_true] at h
    exact ⟨(hs e List.mem_cons_self).2.2 c X x g h.1, alT_of g (fun e he => hs e (List.mem_cons_of_mem _ he)) h.2⟩
theorem alT_and {X : Cx} {pos : Pos} : ∀ {es : List E} {xs : List Expr}, AlT Φ X es xs → es ≠ [] → PW X (.BoolOp .And xs pos) (WTA Φ X.K es)
  | [e], [x], h, _ => t_and1 h.1
  | e :: e2 :: es, x :: y :: ys, h, _ => t_andC h.1 (alT_and h.2 (by simp))
  | [], _, _, hn => absurd rfl hn
  | [_], [], h, _ => h.elim
  | [_], _ :: _ :: _, h, _ => h.2.elim
  | _ :: _ :: _, [], h, _ => h.elim
  | _ :: _ :: _, [_], h, _ => h.2.elim
theorem alT_or {X : Cx} {pos : Pos} : ∀ {es : List E} {xs : List Expr}, AlT Φ X es xs → es ≠ [] → PW X (.BoolOp .Or xs pos) (WTO Φ X.K es)
  | [e], [x], h, _ => t_or1 h.1
  | e :: e2 :: es, x :: y :: ys, h, _ => t_orC h.1 (alT_or h.2 (by simp))
  | [], _, _, hn => absurd rfl hn
  | [_], [], h, _ => h.elim
  | [_], _ :: _ :: _, h, _ => h.2.elim
  | _ :: _ :: _, [], h, _ => h.elim
  | _ :: _ :: _, [_], h, _ => h.2.elim
theorem opd_and {es : List E} (Γ : Gm) : ev Φ (.and_ es) .opd Γ = (ev Φ (.and_ es) .val Γ).map (fin .opd) := by
  simp only [ev, Option.map_map]
  rfl
theorem opd_or {es : List E} (Γ : Gm) : ev Φ (.or_ es) .opd Γ = (ev Φ (.or_ es) .val Γ).map (fin .opd) := by
  simp only [ev, Option.map_map]
  rfl
theorem wand_nil {K : PySem.W.Frag} {σ : St} {H : Hp} {Q : VK} : ¬ WE Φ K (.and_ []) σ H Q := by
  rintro ⟨fr, A, Γ, d, Γ', s, e, k⟩
  simp [ev, evAnd] at e
theorem wor_nil {K : PySem.W.Frag} {σ : St} {H : Hp} {Q : VK} : ¬ WE Φ K (.or_ []) σ H Q := by
  rintro ⟨fr, A, Γ, d, Γ', s, e, k⟩
  simp [ev, evOr] at e
theorem snd_and {es : List E} (hs : SeL Φ es) : Se Φ (.and_ es) := by
  refine ⟨ru_of opd_and, fun c X x g h => ?_, fun c X x g h => ?_⟩
  · cases x with
    | BoolOp op xs p =>
      cases op with
      | And =>
        simp only [chk] at h
        have hp : PE X (.BoolOp .And xs p) (WE Φ X.K (.and_ es)) := by
          by_cases hn : es = []
          · subst hn
            exact ⟨fun _ _ _ _ _ _ q => (wand_nil q).elim⟩
          · exact s_and (al_and (al_of g hs h) hn)
        exact ⟨hp, s_opd opd_and hp⟩
      | Or => simp [chk] at h
    | _ => simp [chk] at h
  · cases x with
    | BoolOp op xs p =>
      cases op with
      | And =>
        simp only [chkT] at h
        by_cases hn : es = []
        · subst hn
          exact ⟨fun _ _ _ _ _ _ q => by obtain ⟨fr, A, Γ, d, Γ', t, s, e, _⟩ := q; simp [ev, evTAnd] at e⟩
        · exact t_and (alT_and (alT_of g hs h) hn)
      | Or => simp [chkT] at h
    | _ => simp [chkT] at h
theorem snd_or {es : List E} (hs : SeL Φ es) : Se Φ (.or_ es) := by
  refine ⟨ru_of opd_or, fun c X x g h => ?_, fun c X x g h => ?_⟩
  · cases x with
    | BoolOp op xs p =>
      cases op with
      | Or =>
        simp only [chk] at h
        have hp : PE X (.BoolOp .Or xs p) (WE Φ X.K (.or_ es)) := by
          by_cases hn : es = []
          · subst hn
            exact ⟨fun _ _ _ _ _ _ q => (wor_nil q).elim⟩
          · exact s_or (al_or (al_of g hs h) hn)
        exact ⟨hp, s_opd opd_or hp⟩
      | And => simp [chk] at h
    | _ => simp [chk] at h
  · cases x with
    | BoolOp op xs p =>
      cases op with
      | Or =>
        simp only [chkT] at h
        by_cases hn : es = []
        · subst hn
          exact ⟨fun _ _ _ _ _ _ q => by obtain ⟨fr, A, Γ, d, Γ', t, s, e, _⟩ := q; simp [ev, evTOr] at e⟩
        · exact t_or (alT_or (alT_of g hs h) hn)
      | And => simp [chkT] at h
    | _ => simp [chkT] at h
theorem tst_all {e : E} (h : notBool e = true) (Γ : Gm) : ev Φ e .tst Γ = ev Φ e .opd Γ := by
  cases e with
  | and_ _ => cases h
  | or_ _ => cases h
  | _ => first | (simp only [ev]; done) | (simp only [ev]; rfl)
theorem opd_not {a : E} (Γ : Gm) : ev Φ (.not_ a) .opd Γ = (ev Φ (.not_ a) .val Γ).map (fin .opd) := by
  simp only [ev]
  cases ev Φ a .tst Γ with
  | none => rfl
  | some p =>
    simp only [Option.bind_some]
    cases truD p.1 <;> rfl
theorem snd_not {a : E} (ha : Se Φ a) : Se Φ (.not_ a) := by
  refine ⟨ru_of opd_not, fun c X x g h => ?_, fun c X x g h => ?_⟩
  · cases x with
    | UnaryOp op y p =>
      cases op with
      | Not =>
        simp only [chk, Bool.and_eq_true] at h
        have := s_not (pos := p) (tst_all h.1) (ha.2.1 c X y g h.2).2
        exact ⟨this, s_opd opd_not this⟩
      | _ => simp [chk] at h
    | _ => simp [chk] at h
  · cases x with
    | UnaryOp op y p =>
      cases op with
      | Not =>
        simp only [chkT] at h
        exact t_not (ha.2.2 c X y g h)
      | _ => simp [chkT] at h
    | _ => simp [chkT] at h
theorem opd_ite {t a b : E} (Γ : Gm) : ev Φ (.ite t a b) .opd Γ = (ev Φ (.ite t a b) .val Γ).map (fin .opd) := by
  simp only [ev]
  cases ev Φ t .tst Γ with
  | none => rfl
  | some p =>
    simp only [Option.bind_some]
    cases truD p.1 with
    | none => rfl
    | some u =>
      simp only [Option.bind_some, Option.map_map]
      rfl
theorem snd_ite {t a b : E} (ht : Se Φ t) (ha : Se Φ a) (hb : Se Φ b) : Se Φ (.ite t a b) := by
  refine ⟨ru_of opd_ite, fun c X x g h => ?_, noT fun c x => by cases x <;> simp [chkT]⟩
  cases x with
  | IfExp y z w p =>
    simp only [chk, Bool.and_eq_true] at h
    have := s_ite (pos := p) (ht.2.2 c X y g h.1.1) (ha.2.1 c X z g h.1.2).1 (hb.2.1 c X w g h.2).1
    exact ⟨this, s_opd opd_ite this⟩
  | _ => simp [chk] at h
theorem opd_chain {p q : Pr} {a b d : E} (Γ : Gm) : ev Φ (.chain p q a b d) .opd Γ = (ev Φ (.chain p q a b d) .val Γ).map (fin .opd) := by
  have hb : ∀ r Γ', ev Φ (.chain p q a b d) .val Γ = some (r, Γ') → ∃ t, r = .bl t := by
    intro r Γ' e0
    simp only [ev] at e0
    split at e0
    · obtain ⟨⟨d1, Γ1⟩, _, e3⟩ := Option.bind_eq_some_iff.mp e0
      obtain ⟨⟨d2, Γ2⟩, _, e5⟩ := Option.bind_eq_some_iff.mp e3
      obtain ⟨r1, _, e7⟩ := Option.bind_eq_some_iff.mp e5
      match r1, e7 with
      | .bl false, e7 => cases e7; exact ⟨_, rfl⟩
      | .bl true, e7 =>
        obtain ⟨⟨d3, Γ3⟩, _, e9⟩ := Option.bind_eq_some_iff.mp e7
        obtain ⟨r2, _, e11⟩ := Option.bind_eq_some_iff.mp e9
        match r2, e11 with
        | .bl t, e11 => cases e11; exact ⟨_, rfl⟩
    · cases e0
  have e0 : ev Φ (.chain p q a b d) .opd Γ = ev Φ (.chain p q a b d) .val Γ := by simp only [ev]
  rw [e0]
  cases h : ev Φ (.chain p q a b d) .val Γ with
  | none => rfl
  | some r =>
    obtain ⟨t, ht⟩ := hb r.1 r.2 h
    obtain ⟨r1, r2⟩ := r
    simp only at ht
    subst ht
    rfl
theorem snd_chain {p q : Pr} {a b d : E} (ha : Se Φ a) (hb : Se Φ b) (hd : Se Φ d) : Se Φ (.chain p q a b d) := by
  have go : ∀ c X x, Gd Φ X c → chk c (.chain p q a b d) x = true → PE X x (WE Φ X.K (.chain p q a b d)) ∧ PT X x (WT Φ X.K (.chain p q a b d)) := by
    intro c X x g h
    unfold chk at h
    split at h
    all_goals try (rename_i heq; cases heq; done)
    · rename_i heq
      cases heq
      simp only [Bool.and_eq_true, decide_eq_true_eq] at h
      obtain ⟨⟨⟨⟨⟨⟨h1, h2⟩, h3⟩, h4⟩, h5⟩, h6⟩, h7⟩ := h
      have p1 := (ha.2.1 c X _ g h5).2
      have p2 := (hb.2.1 c X _ g h6).2
      have p3 := (hd.2.1 c X _ g h7).2
      exact ⟨pe_imp (pe_chain (cmp_rule g.hu h1) (cmp_rule g.hu h2) p1 p2 p3 (lastM h4)) fun σ H Q q => chain_go q,
        pt_imp (pt_chain (cmp_rule g.hu h1) (cmp_rule g.hu h2) p1 p2 p3 (lastM h4)) fun σ H Q q => chain_go (chain_tst q)⟩
    · cases h
  refine ⟨ru_of opd_chain, fun c X x g h => ⟨(go c X x g h).1, s_opd opd_chain (go c X x g h).1⟩, fun c X x g h => (go c X x g ?_).2⟩
  unfold chkT at h
  split at h
  all_goals try (rename_i heq; cases heq; done)
  · rename_i heq
    cases heq
    simp only [chk]
    exact h
  · cases h
end
end Sk

namespace Sk
open PySem PySem.Spec PyProof.Rows L2
@[simp] theorem updQ_nil (f : D → Option (D × D)) (x : D) : updQ f [] x = updP f [] x := rfl
@[simp] theorem isLAtQ_nil (x : D) : isLAtQ [] x = isLAt [] x := rfl
section
variable {K : PySem.W.Frag}
/-- an item taken out of a row: its ownership apart; anything may be put in its place -/
theorem OwL.out {fr : Addr → Prop} {H : Hp} : ∀ {ds : List D} {vs : List V} {B : List Addr} {j : Nat} {d : D}, OwL K fr H ds vs B → ds[j]? = some d → ∃ v Bt R, vs[j]? = some v ∧ Ow K fr H d v Bt ∧ B.Perm (Bt ++ R) ∧
    ∀ (fr' : Addr → Prop) (H' : Hp) (d' : D) (Bt' : List Addr), (∀ b, fr b → fr' b) → (∀ b x, (fr b ∨ b ∈ R) → H b = some x → H' b = some x) → Ow K fr' H' d' v Bt' → ∃ B', B'.Perm (Bt' ++ R) ∧ OwL K fr' H' (ds.set j d') vs B'
  | [], _, _, j, d, h, e => by simp at e
  | x :: ds, vs, B, j, d, h, e => by
    obtain ⟨w, us, B1, C, rfl, h1, h2, rfl⟩ := h.cons_inv
    cases j with
    | zero =>
      rw [List.getElem?_cons_zero] at e
      cases e
      refine ⟨w, B1, C, rfl, h1, List.Perm.refl _, fun fr' H' d' Bt' hf hH o => ?_⟩
      exact ⟨Bt' ++ C, List.Perm.refl _, OwL.cons o (h2.mono hf _ _ _ hH)⟩
    | succ j =>
      rw [List.getElem?_cons_succ] at e
      obtain ⟨v, Bt, R, g1, g2, g3, g4⟩ := OwL.out h2 e
      refine ⟨v, Bt, B1 ++ R, by rw [List.getElem?_cons_succ]; exact g1, g2, ?_, fun fr' H' d' Bt' hf hH o => ?_⟩
      · refine ((List.Perm.refl B1).append g3).trans ?_
        rw [← List.append_assoc, ← List.append_assoc]
        exact List.perm_append_comm.append (List.Perm.refl R)
      · obtain ⟨B', p, q⟩ := g4 fr' H' d' Bt' hf (fun b x hb => hH b x (hb.imp id (List.mem_append_right _))) o
        refine ⟨B1 ++ B', ?_, OwL.cons (h1.mono hf _ _ _ fun b x hb => hH b x (hb.imp id (List.mem_append_left _))) q⟩
        refine ((List.Perm.refl B1).append p).trans ?_
        rw [← List.append_assoc, ← List.append_assoc]
        exact List.perm_append_comm.append (List.Perm.refl R)
/-- from an address along places to an address -/
def Along (H : Hp) : List D → V → V → Prop
  | [], v, w => v = w
  | .int i :: p, v, w => ∃ a vs u, v = .ref a ∧ H a = some (.lst vs) ∧ atI vs i = some u ∧ Along H p u w
  | _, _, _ => False
/-- a change along a path: the part that is changed stands at w -/
theorem upd_path {fr : Addr → Prop} {H : Hp} {f : D → Option (D × D)} : ∀ {ps : List D} {x : D} {v : V} {B : List Addr} {r x' : D}, Ow K fr H x v B → updP f ps x = some (r, x') →
    ∃ w t t' Bt R, Along H ps v w ∧ f t = some (r, t') ∧ Ow K fr H t w Bt ∧ B.Perm (Bt ++ R) ∧
    ∀ (fr' : Addr → Prop) (H' : Hp) (Bt' : List Addr), (∀ b, fr b → fr' b) → (∀ b x, (fr b ∨ b ∈ R) → H b = some x → H' b = some x) → Ow K fr' H' t' w Bt' → ∃ B', B'.Perm (Bt' ++ R) ∧ Ow K fr' H' x' v B'
  | [], x, v, B, r, x', o, h => by
    refine ⟨v, x, x', B, [], rfl, h, o, by simp, fun fr' H' Bt' hf hH o' => ⟨Bt', by simp, o'⟩⟩
  | p :: ps, x, v, B, r, x', o, h => by
    match p, x, h with
    | .int i, .lst true ds, h =>
      simp only [updP] at h
      obtain ⟨j, hj, h⟩ := Option.bind_eq_some_iff.mp h
      obtain ⟨y, hy, h⟩ := Option.bind_eq_some_iff.mp h
      obtain ⟨⟨r0, y'⟩, hu, h⟩ := Option.bind_eq_some_iff.mp h
      cases h
      unfold Ow at o
      obtain ⟨a, vs, C, rfl, ha, ol, _, h1⟩ := o
      have eB := h1 rfl
      subst eB
      obtain ⟨u, By, R, g1, g2, g3, g4⟩ := ol.out hy
      obtain ⟨w, t, t', Bt, R2, k1, k2, k3, k4, k5⟩ := upd_path g2 hu
      refine ⟨w, t, t', Bt, a :: (R2 ++ R), ⟨a, vs, u, rfl, ha, ?_, k1⟩, k2, k3, ?_, fun fr' H' Bt' hf hH o' => ?_⟩
      · show (ixD vs.length i).bind _ = _
        rw [ol.len, hj]; exact g1
      · refine (List.Perm.cons a (g3.trans (k4.append (List.Perm.refl R)))).trans ?_
        rw [List.append_assoc]
        exact List.perm_middle.symm
      · obtain ⟨By', p1, o1⟩ := k5 fr' H' Bt' hf (fun b x hb => hH b x (hb.imp id fun z => List.mem_cons_of_mem _ (List.mem_append_left _ z))) o'
        obtain ⟨B', p2, o2⟩ := g4 fr' H' y' By' hf (fun b x hb => hH b x (hb.imp id fun z => List.mem_cons_of_mem _ (List.mem_append_right _ z))) o1
        refine ⟨a :: B', ?_, ?_⟩
        · refine (List.Perm.cons a (p2.trans (p1.append (List.Perm.refl R)))).trans ?_
          rw [List.append_assoc]
          exact List.perm_middle.symm
        · unfold Ow
          exact ⟨a, vs, B', rfl, hH a _ (.inr List.mem_cons_self) ha, o2, (fun z => by cases z), fun _ => rfl⟩
theorem Along.uniq {H H' : Hp} (hs : Sm' H H') : ∀ {ps : List D} {v w w' : V}, Along H ps v w → Along H' ps v w' → w = w'
  | [], v, w, w', h, g => by cases h; cases g; rfl
  | p :: ps, v, w, w', h, g => by
    cases p with
    | int i =>
      obtain ⟨a, vs, u, rfl, ha, hi, h⟩ := h
      obtain ⟨a', vs', u', e, ha', hi', g⟩ := g
      cases e
      rw [hs a _ ha] at ha'
      cases ha'
      rw [hi] at hi'
      cases hi'
      exact h.uniq hs g
    | _ => exact h.elim
/-- a list that is owned is changed -/
theorem S.change {fr : Addr → Prop} {A : List Addr} {Γ : Gm} {σ : St} {H : Hp} {i : Nat} {x r x' : D} {ps : List D} {f : D → Option (D × D)} (s : S K fr A Γ σ H) (hx : getS Γ i = some x) (up : updP f ps x = some (r, x')) :
    ∃ v w t t' Bt, σ[i]? = some (some v) ∧ Along H ps v w ∧ f t = some (r, t') ∧ Ow K fr H t w Bt ∧ (∀ b ∈ Bt, b ∈ A) ∧ Bt.Nodup ∧
    ∀ (a : Addr) (o : HO) (Bt' : List Addr), a ∈ Bt → Ow K fr (upd H a o) t' w Bt' → Bt'.Nodup → (∀ b ∈ Bt', ¬ fr b) → (∀ b ∈ Bt', b ∈ Bt ∨ b ∉ A) →
      ∃ A', S K fr A' (Γ.set i (some x')) σ (upd H a o) ∧ ∀ b, b ∈ A' ↔ (b ∈ A ∧ b ∉ Bt) ∨ b ∈ Bt' := by
  obtain ⟨v, B, C, h1, h2, h3, h4, _⟩ := s.sl.take (getS_eq hx)
  obtain ⟨w, t, t', Bt, R, k1, k2, k3, k4, k5⟩ := upd_path h2 up
  have nd := nodup_perm_append h3 s.nd
  have ndB := nodup_perm_append k4 (List.nodup_append.mp nd).1
  have mA : ∀ b, b ∈ A ↔ b ∈ B ∨ b ∈ C := fun b => by rw [h3.mem_iff, List.mem_append]
  have mB : ∀ b, b ∈ B ↔ b ∈ Bt ∨ b ∈ R := fun b => by rw [k4.mem_iff, List.mem_append]
  have tA : ∀ b ∈ Bt, b ∈ A := fun b hb => (mA b).mpr (.inl ((mB b).mpr (.inl hb)))
  refine ⟨v, w, t, t', Bt, h1, k1, k2, k3, tA, (List.nodup_append.mp ndB).1, fun a o Bt' ha o' nd' dj' sub => ?_⟩
  have afr : ¬ fr a := s.dj a (tA a ha)
  have aR : a ∉ R := fun z => (List.nodup_append.mp ndB).2.2 a ha a z rfl
  have aC : a ∉ C := fun z => (List.nodup_append.mp nd).2.2 a ((mB a).mpr (.inl ha)) a z rfl
  have keep : ∀ (L : List Addr), a ∉ L → ∀ b y, (fr b ∨ b ∈ L) → H b = some y → upd H a o b = some y := fun L hL b y hb e => by
    rw [upd_ne]
    · exact e
    · rintro rfl
      rcases hb with hb | hb
      · exact afr hb
      · exact hL hb
  obtain ⟨B', p1, o1⟩ := k5 fr (upd H a o) Bt' (fun _ z => z) (keep R aR) o'
  have h4' : SlO K fr (upd H a o) (Γ.set i none) σ C := h4.mono (fun _ z => z) (keep C aC)
  obtain ⟨A', p2, o2⟩ := SlO.fill h4' h1 o1
  have mB' : ∀ b, b ∈ B' ↔ b ∈ Bt' ∨ b ∈ R := fun b => by rw [p1.mem_iff, List.mem_append]
  have mA' : ∀ b, b ∈ A' ↔ b ∈ B' ∨ b ∈ C := fun b => by rw [p2.mem_iff, List.mem_append]
  obtain ⟨n1, n2, n3⟩ := List.nodup_append.mp nd
  obtain ⟨m1, m2, m3⟩ := List.nodup_append.mp ndB
  have tR : ∀ b ∈ Bt', b ∉ R := fun b hb hR => by
    rcases sub b hb with z | z
    · exact m3 b z b hR rfl
    · exact z ((mA b).mpr (.inl ((mB b).mpr (.inr hR))))
  have tC : ∀ b ∈ Bt', b ∉ C := fun b hb hC => by
    rcases sub b hb with z | z
    · exact n3 b ((mB b).mpr (.inl z)) b hC rfl
    · exact z ((mA b).mpr (.inr hC))
  refine ⟨A', ⟨o2, p2.nodup_iff.mpr (List.nodup_append.mpr ⟨p1.nodup_iff.mpr (List.nodup_append.mpr ⟨nd', m2, fun x hx y hy e => tR x hx (e ▸ hy)⟩), n2, fun x hx y hy e => ?_⟩), fun b hb => ?_, fun b hb => ?_⟩, fun b => ?_⟩
  · subst e
    rcases (mB' x).mp hx with z | z
    · exact tC x z hy
    · exact n3 x ((mB x).mpr (.inr z)) x hy rfl
  · rcases (mA' b).mp hb with z | z
    · rcases (mB' b).mp z with z | z
      · exact dj' b z
      · exact s.dj b ((mA b).mpr (.inl ((mB b).mpr (.inr z))))
    · exact s.dj b ((mA b).mpr (.inr z))
  · obtain ⟨y, q⟩ := s.dm b hb
    exact ⟨y, keep [] (fun z => nomatch z) b y (.inl hb) q⟩
  · rw [mA', mB', mA, mB]
    constructor
    · rintro ((z | z) | z)
      · exact .inr z
      · exact .inl ⟨.inl (.inr z), fun y => m3 b y b z rfl⟩
      · exact .inl ⟨.inr z, fun y => n3 b ((mB b).mpr (.inl y)) b z rfl⟩
    · rintro (⟨(z | z) | z, y⟩ | z)
      · exact absurd z y
      · exact .inl (.inr z)
      · exact .inr z
      · exact .inl (.inl z)
/-- .. also through a tuple -/
def AlongQ (K : PySem.W.Frag) (H : Hp) (ps : List D) (v w : V) : Prop := Along H ps v w ∨ ∃ i a vs, ps = [.int i] ∧ v = .ref a ∧ SqT K H a vs ∧ atI vs i = some w
theorem upd_pathQ {fr : Addr → Prop} {H : Hp} {f : D → Option (D × D)} {ps : List D} {x : D} {v : V} {B : List Addr} {r x' : D} (o : Ow K fr H x v B) (h : updQ f ps x = some (r, x')) :
    ∃ w t t' Bt R, AlongQ K H ps v w ∧ f t = some (r, t') ∧ Ow K fr H t w Bt ∧ B.Perm (Bt ++ R) ∧
    ∀ (fr' : Addr → Prop) (H' : Hp) (Bt' : List Addr), (∀ b, fr b → fr' b) → (∀ b x, (fr b ∨ b ∈ R) → H b = some x → H' b = some x) → Ow K fr' H' t' w Bt' → ∃ B', B'.Perm (Bt' ++ R) ∧ Ow K fr' H' x' v B' := by
  unfold updQ at h
  split at h
  · rename_i i ds
    obtain ⟨j, hj, h⟩ := Option.bind_eq_some_iff.mp h
    obtain ⟨y, hy, h⟩ := Option.bind_eq_some_iff.mp h
    obtain ⟨⟨r0, y'⟩, hu, h⟩ := Option.bind_eq_some_iff.mp h
    cases h
    unfold Ow at o
    obtain ⟨a, vs, rfl, ha, ol⟩ := o
    obtain ⟨u, By, R, g1, g2, g3, g4⟩ := ol.out hy
    refine ⟨u, y, y', By, R, .inr ⟨i, a, vs, rfl, rfl, ha.sq, ?_⟩, hu, g2, g3, fun fr' H' Bt' hf hH o' => ?_⟩
    · show (ixD vs.length i).bind _ = _
      rw [ol.len, hj]; exact g1
    · obtain ⟨B', p2, o2⟩ := g4 fr' H' y' Bt' hf hH o'
      refine ⟨B', p2, ?_⟩
      unfold Ow
      exact ⟨a, vs, rfl, ha.mono (fr' := fr') (H' := H') hf fun b x hb e => hH b x (.inl hb) e, o2⟩
  · obtain ⟨w, t, t', Bt, R, k1, k⟩ := upd_path o h
    exact ⟨w, t, t', Bt, R, .inl k1, k⟩
theorem lst_tup {X : Cx} {pins : List (Addr × Obj)} {σ : L2.St} {H : Hp} {s : Shared} {a : Addr} {xs ys : List V} (I : L2.Inv X pins σ H s) (h : SqL X.K H a xs) (g : SqT X.K H a ys) : False := by
  obtain ⟨its, _, ⟨o, n, e1, e2, _⟩, _⟩ := I.list h
  obtain ⟨its2, _, ⟨o2, g1, g2, _⟩, _⟩ := I.tuple g
  rw [e1] at g1
  cases g1
  rw [e2] at g2
  exact absurd (Value.type.inj g2) (by decide)
theorem AlongQ.funQ {X : Cx} {pins : List (Addr × Obj)} {σ : L2.St} {H : Hp} {s : Shared} {ps : List D} {v w w' : V} (I : L2.Inv X pins σ H s) (h : AlongQ X.K H ps v w) (g : AlongQ X.K H ps v w') : w = w' := by
  rcases h with h | ⟨i, a, vs, rfl, rfl, h1, h2⟩
  · rcases g with g | ⟨i, a, vs, rfl, rfl, g1, g2⟩
    · exact h.uniq Sm'.refl g
    · obtain ⟨a', vs', u, e, ha, hi, _⟩ := h
      cases e
      exact (lst_tup I (.of ha) g1).elim
  · rcases g with g | ⟨i', a', vs', e1, e2, g1, g2⟩
    · obtain ⟨a', vs', u, e, ha, hi, _⟩ := g
      cases e
      exact (lst_tup I (.of ha) h1).elim
    · cases e1
      cases e2
      rw [I.tuple_inj h1 g1, g2] at h2
      cases h2
      rfl
/-- a list that is owned is changed -/
theorem S.changeQ {fr : Addr → Prop} {A : List Addr} {Γ : Gm} {σ : St} {H : Hp} {i : Nat} {x r x' : D} {ps : List D} {f : D → Option (D × D)} (s : S K fr A Γ σ H) (hx : getS Γ i = some x) (up : updQ f ps x = some (r, x')) :
    ∃ v w t t' Bt, σ[i]? = some (some v) ∧ AlongQ K H ps v w ∧ f t = some (r, t') ∧ Ow K fr H t w Bt ∧ (∀ b ∈ Bt, b ∈ A) ∧ Bt.Nodup ∧
    ∀ (a : Addr) (o : HO) (Bt' : List Addr), a ∈ Bt → Ow K fr (upd H a o) t' w Bt' → Bt'.Nodup → (∀ b ∈ Bt', ¬ fr b) → (∀ b ∈ Bt', b ∈ Bt ∨ b ∉ A) →
      ∃ A', S K fr A' (Γ.set i (some x')) σ (upd H a o) ∧ ∀ b, b ∈ A' ↔ (b ∈ A ∧ b ∉ Bt) ∨ b ∈ Bt' := by
  obtain ⟨v, B, C, h1, h2, h3, h4, _⟩ := s.sl.take (getS_eq hx)
  obtain ⟨w, t, t', Bt, R, k1, k2, k3, k4, k5⟩ := upd_pathQ h2 up
  have nd := nodup_perm_append h3 s.nd
  have ndB := nodup_perm_append k4 (List.nodup_append.mp nd).1
  have mA : ∀ b, b ∈ A ↔ b ∈ B ∨ b ∈ C := fun b => by rw [h3.mem_iff, List.mem_append]
  have mB : ∀ b, b ∈ B ↔ b ∈ Bt ∨ b ∈ R := fun b => by rw [k4.mem_iff, List.mem_append]
  have tA : ∀ b ∈ Bt, b ∈ A := fun b hb => (mA b).mpr (.inl ((mB b).mpr (.inl hb)))
  refine ⟨v, w, t, t', Bt, h1, k1, k2, k3, tA, (List.nodup_append.mp ndB).1, fun a o Bt' ha o' nd' dj' sub => ?_⟩
  have afr : ¬ fr a := s.dj a (tA a ha)
  have aR : a ∉ R := fun z => (List.nodup_append.mp ndB).2.2 a ha a z rfl
  have aC : a ∉ C := fun z => (List.nodup_append.mp nd).2.2 a ((mB a).mpr (.inl ha)) a z rfl
  have keep : ∀ (L : List Addr), a ∉ L → ∀ b y, (fr b ∨ b ∈ L) → H b = some y → upd H a o b = some y := fun L hL b y hb e => by
    rw [upd_ne]
    · exact e
    · rintro rfl
      rcases hb with hb | hb
      · exact afr hb
      · exact hL hb
  obtain ⟨B', p1, o1⟩ := k5 fr (upd H a o) Bt' (fun _ z => z) (keep R aR) o'
  have h4' : SlO K fr (upd H a o) (Γ.set i none) σ C := h4.mono (fun _ z => z) (keep C aC)
  obtain ⟨A', p2, o2⟩ := SlO.fill h4' h1 o1
  have mB' : ∀ b, b ∈ B' ↔ b ∈ Bt' ∨ b ∈ R := fun b => by rw [p1.mem_iff, List.mem_append]
  have mA' : ∀ b, b ∈ A' ↔ b ∈ B' ∨ b ∈ C := fun b => by rw [p2.mem_iff, List.mem_append]
  obtain ⟨n1, n2, n3⟩ := List.nodup_append.mp nd
  obtain ⟨m1, m2, m3⟩ := List.nodup_append.mp ndB
  have tR : ∀ b ∈ Bt', b ∉ R := fun b hb hR => by
    rcases sub b hb with z | z
    · exact m3 b z b hR rfl
    · exact z ((mA b).mpr (.inl ((mB b).mpr (.inr hR))))
  have tC : ∀ b ∈ Bt', b ∉ C := fun b hb hC => by
    rcases sub b hb with z | z
    · exact n3 b ((mB b).mpr (.inl z)) b hC rfl
    · exact z ((mA b).mpr (.inr hC))
  refine ⟨A', ⟨o2, p2.nodup_iff.mpr (List.nodup_append.mpr ⟨p1.nodup_iff.mpr (List.nodup_append.mpr ⟨nd', m2, fun x hx y hy e => tR x hx (e ▸ hy)⟩), n2, fun x hx y hy e => ?_⟩), fun b hb => ?_, fun b hb => ?_⟩, fun b => ?_⟩
  · subst e
    rcases (mB' x).mp hx with z | z
    · exact tC x z hy
    · exact n3 x ((mB x).mpr (.inr z)) x hy rfl
  · rcases (mA' b).mp hb with z | z
    · rcases (mB' b).mp z with z | z
      · exact dj' b z
      · exact s.dj b ((mA b).mpr (.inl ((mB b).mpr (.inr z))))
    · exact s.dj b ((mA b).mpr (.inr z))
  · obtain ⟨y, q⟩ := s.dm b hb
    exact ⟨y, keep [] (fun z => nomatch z) b y (.inl hb) q⟩
  · rw [mA', mB', mA, mB]
    constructor
    · rintro ((z | z) | z)
      · exact .inr z
      · exact .inl ⟨.inl (.inr z), fun y => m3 b y b z rfl⟩
      · exact .inl ⟨.inr z, fun y => n3 b ((mB b).mpr (.inl y)) b z rfl⟩
    · rintro (⟨(z | z) | z, y⟩ | z)
      · exact absurd z y
      · exact .inl (.inr z)
      · exact .inr z
      · exact .inl (.inl z)
theorem OwL.erase {fr : Addr → Prop} {H : Hp} : ∀ {ds : List D} {vs : List V} {B : List Addr} {k : Nat} {d : D}, OwL K fr H ds vs B → ds[k]? = some d → ∃ v Bt R, vs[k]? = some v ∧ Ow K fr H d v Bt ∧ B.Perm (Bt ++ R) ∧ OwL K fr H (ds.eraseIdx k) (vs.eraseIdx k) R
  | [], _, _, k, d, h, e => by simp at e
  | x :: ds, vs, B, k, d, h, e => by
    obtain ⟨w, us, B1, C, rfl, h1, h2, rfl⟩ := h.cons_inv
    cases k with
    | zero =>
      rw [List.getElem?_cons_zero] at e
      cases e
      exact ⟨w, B1, C, rfl, h1, List.Perm.refl _, h2⟩
    | succ k =>
      rw [List.getElem?_cons_succ] at e
      obtain ⟨v, Bt, R, g1, g2, g3, g4⟩ := OwL.erase h2 e
      refine ⟨v, Bt, B1 ++ R, by rw [List.getElem?_cons_succ]; exact g1, g2, ?_, OwL.cons h1 g4⟩
      refine ((List.Perm.refl B1).append g3).trans ?_
      rw [← List.append_assoc, ← List.append_assoc]
      exact List.perm_append_comm.append (List.Perm.refl R)
theorem drop_last {α : Type} (l : List α) : l.dropLast = l.eraseIdx (l.length - 1) := by
  rw [List.dropLast_eq_take, List.eraseIdx_eq_take_drop_succ]
  by_cases h : l = []
  · subst h; rfl
  · have : 0 < l.length := List.length_pos_iff.mpr h
    rw [show l.length - 1 + 1 = l.length by omega, List.drop_length, List.append_nil]
theorem set_none {Γ : Gm} {i : Nat} (h : Γ[i]? = some none) : Γ.set i none = Γ := by
  refine List.ext_getElem? fun j => ?_
  rw [List.getElem?_set]
  by_cases e : i = j
  · subst e
    rw [if_pos rfl, h]
    have := (List.getElem?_eq_some_iff.mp h).1
    rw [if_pos this]
  · rw [if_neg e]
/-- a step that a slot has no part in -/
theorem Po.frame {fr : Addr → Prop} {A : List Addr} {Γ : Gm} {σ : St} {H : Hp} {i : Nat} {x : D} (s : S K fr A Γ σ H) (hx : getS Γ i = some x) : ∃ v B C, σ[i]? = some (some v) ∧ Ow K fr H x v B ∧ S K fr C (Γ.set i none) σ H ∧
    ∀ {Γ2 : Gm} {ds : List D} {us : List V} {fr2 : Addr → Prop} {A2 B2 : List Addr} {H2 : Hp}, Po K fr C H Γ2 σ ds us fr2 A2 B2 H2 → Γ2[i]? = some none →
      (∀ b y, (fr b ∨ b ∈ B) → H b = some y → H2 b = some y) ∧ ∃ A3, Po K fr A H (Γ2.set i (some x)) σ ds us fr2 A3 B2 H2 := by
  obtain ⟨v, B, C, h1, h2, h3, h4, _⟩ := s.sl.take (getS_eq hx)
  have nd := nodup_perm_append h3 s.nd
  obtain ⟨n1, n2, n3⟩ := List.nodup_append.mp nd
  have mA : ∀ b, b ∈ A ↔ b ∈ B ∨ b ∈ C := fun b => by rw [h3.mem_iff, List.mem_append]
  refine ⟨v, B, C, h1, h2, ⟨h4, n2, fun b hb => s.dj b ((mA b).mpr (.inr hb)), s.dm⟩, fun {Γ2 ds us fr2 A2 B2 H2} p e => ?_⟩
  have keep : ∀ b y, (fr b ∨ b ∈ B) → H b = some y → H2 b = some y := fun b y hb hy => p.ex.kp b y hy fun hc => by
    rcases hb with hb | hb
    · exact s.dj b ((mA b).mpr (.inr hc)) hb
    · exact n3 b hb b hc rfl
  have o2 := Ow.mono p.ex.ff x v B h2 keep
  have sl := p.s.sl
  rw [← set_none e] at sl
  obtain ⟨A3, p3, sl3⟩ := SlO.fill sl h1 o2
  have m3 : ∀ b, b ∈ A3 ↔ b ∈ B ∨ b ∈ A2 := fun b => by rw [p3.mem_iff, List.mem_append]
  have dB : ∀ b ∈ B, ∃ y, H b = some y := fun b hb => let ⟨vs, h⟩ := Ow.dom x v B h2 b hb; ⟨_, h⟩
  have nB : ∀ b ∈ B, b ∉ A2 ++ B2 := fun b hb hc => by
    rcases p.ex.aa b hc with z | z
    · exact n3 b hb b z rfl
    · obtain ⟨y, hy⟩ := dB b hb
      rw [hy] at z
      cases z
  refine ⟨keep, A3, ⟨sl3, p3.nodup_iff.mpr (List.nodup_append.mpr ⟨n1, (List.nodup_append.mp p.nd).1, fun a ha b hb e => nB a ha (List.mem_append_left _ (e ▸ hb))⟩), fun b hb hf => ?_, p.s.dm⟩, p.o, List.nodup_append.mpr ⟨p3.nodup_iff.mpr (List.nodup_append.mpr ⟨n1, (List.nodup_append.mp p.nd).1, fun a ha b hb e => nB a ha (List.mem_append_left _ (e ▸ hb))⟩), (List.nodup_append.mp p.nd).2.1, fun a ha b hb e => ?_⟩, p.dj, ?_⟩
  · rcases (m3 b).mp hb with z | z
    · rcases p.ex.fa b hf with y | y | y
      · exact s.dj b ((mA b).mpr (.inl z)) y
      · exact n3 b z b y rfl
      · obtain ⟨w, hw⟩ := dB b z
        rw [hw] at y
        cases y
    · exact p.s.dj b z hf
  · subst e
    rcases (m3 a).mp ha with z | z
    · exact nB a z (List.mem_append_right _ hb)
    · exact disj_of p.nd z hb
  · refine ⟨fun b y h hb => p.ex.kp b y h fun z => hb ((mA b).mpr (.inr z)), p.ex.ff, fun b hb => ?_, fun b hb => ?_⟩
    · rcases List.mem_append.mp hb with z | z
      · rcases (m3 b).mp z with z | z
        · exact .inl ((mA b).mpr (.inl z))
        · rcases p.ex.aa b (List.mem_append_left _ z) with y | y
          · exact .inl ((mA b).mpr (.inr y))
          · exact .inr y
      · rcases p.ex.aa b (List.mem_append_right _ z) with y | y
        · exact .inl ((mA b).mpr (.inr y))
        · exact .inr y
    · rcases p.ex.fa b hb with y | y | y
      · exact .inl y
      · exact .inr (.inl ((mA b).mpr (.inr y)))
      · exact .inr (.inr y)
/-- all slots, behind a view that was lent -/
theorem SlO.backs {fr fr2 fr3 : Addr → Prop} {H H2 : Hp} (hf1 : ∀ b, fr b → fr3 b) (hH : ∀ b x, fr b → H b = some x → H2 b = some x) (hf2 : ∀ b vs, fr2 b → H2 b = some (.tup vs) → fr3 b) :
    ∀ {Γ Γ2 : Gm} {σ : St} {A A2 : List Addr}, SlO K fr H Γ σ A → SlO K fr2 H2 Γ2 σ A2 → okBs Γ Γ2 = true → SlO K fr3 H2 Γ2 σ A2
  | [], [], σ, A, A2, h, h2, k => h2
  | [], _ :: _, σ, A, A2, h, h2, k => by cases k
  | _ :: _, [], σ, A, A2, h, h2, k => by cases k
  | o :: Γ, none :: Γ2, σ, A, A2, h, h2, k => by
    rw [okBs, Bool.and_eq_true] at k
    obtain ⟨s, r, rfl, h2⟩ := h2
    cases o with
    | none =>
      obtain ⟨s', r', e, h⟩ := h
      cases e
      exact ⟨s, r, rfl, SlO.backs hf1 hH hf2 h h2 k.2⟩
    | some d =>
      obtain ⟨v, r', B, C, e, h1, h, _⟩ := h
      cases e
      exact ⟨_, r, rfl, SlO.backs hf1 hH hf2 h h2 k.2⟩
  | none :: Γ, some e :: Γ2, σ, A, A2, h, h2, k => by
    rw [okBs, Bool.and_eq_true] at k
    obtain ⟨v, r, B, C, rfl, o2, h2, rfl⟩ := h2
    obtain ⟨s', r', e', h⟩ := h
    cases e'
    exact ⟨v, r, B, C, rfl, o2.al hf2 _ _ _ (by simpa [okO] using k.1), SlO.backs hf1 hH hf2 h h2 k.2, rfl⟩
  | some d :: Γ, some e :: Γ2, σ, A, A2, h, h2, k => by
    rw [okBs, Bool.and_eq_true] at k
    obtain ⟨v, r, B, C, rfl, o2, h2, rfl⟩ := h2
    obtain ⟨v', r', B', C', e', o1, h, _⟩ := h
    cases e'
    refine ⟨v, r, B, C, rfl, ?_, SlO.backs hf1 hH hf2 h h2 k.2, rfl⟩
    have k1 : (al e || (un d && eqD d e)) = true := k.1
    rw [Bool.or_eq_true, Bool.and_eq_true] at k1
    rcases k1 with z | ⟨z, q⟩
    · exact o2.al hf2 _ _ _ z
    · have q := eqD_eq _ _ q
      subst q
      have e1 := o1.un _ _ _ z
      have e2 := o2.un _ _ _ z
      subst e1 e2
      exact o1.mono hf1 _ _ _ fun b x hb hx => hH b x (hb.resolve_right (fun z => nomatch z)) hx
theorem SlO.back {fr fr2 fr3 : Addr → Prop} {H H2 : Hp} (hf1 : ∀ b, fr b → fr3 b) (hH : ∀ b x, fr b → H b = some x → H2 b = some x) (hf2 : ∀ b vs, fr2 b → H2 b = some (.tup vs) → fr3 b) :
    ∀ {Γ Γ2 : Gm} {i : Nat} {σ : St} {A A2 : List Addr}, SlO K fr H Γ σ A → SlO K fr2 H2 Γ2 σ A2 → okB Γ Γ2 i = true → ∃ A3, A3.Sublist A2 ∧ SlO K fr3 H2 (Γ2.set i none) σ A3
  | [], Γ2, i, σ, A, A2, h, h2, k => by cases Γ2 <;> cases i <;> cases k
  | _ :: _, [], i, σ, A, A2, h, h2, k => by cases i <;> cases k
  | o :: Γ, p :: Γ2, 0, σ, A, A2, h, h2, k => by
    have k : okBs Γ Γ2 = true := k
    have tl : ∀ {r : St} {x : Option V}, σ = x :: r → ∃ A', SlO K fr H Γ r A' := fun {r x} e => by
      subst e
      cases o with
      | none => obtain ⟨_, _, e, h⟩ := h; cases e; exact ⟨_, h⟩
      | some d => obtain ⟨_, _, _, _, e, _, h, _⟩ := h; cases e; exact ⟨_, h⟩
    cases p with
    | none =>
      obtain ⟨s, r, e, h2⟩ := h2
      obtain ⟨A', h'⟩ := tl e
      exact ⟨A2, List.Sublist.refl _, s, r, e, SlO.backs hf1 hH hf2 h' h2 k⟩
    | some d =>
      obtain ⟨v, r, B, C, e, _, h2, rfl⟩ := h2
      obtain ⟨A', h'⟩ := tl e
      exact ⟨C, List.sublist_append_right _ _, _, r, e, SlO.backs hf1 hH hf2 h' h2 k⟩
  | o :: Γ, p :: Γ2, i + 1, σ, A, A2, h, h2, k => by
    have k : (okO o p && okB Γ Γ2 i) = true := k
    rw [Bool.and_eq_true] at k
    cases p with
    | none =>
      obtain ⟨s, r, rfl, h2⟩ := h2
      have : ∃ A', SlO K fr H Γ r A' := by
        cases o with
        | none => obtain ⟨_, _, e, h⟩ := h; cases e; exact ⟨_, h⟩
        | some d => obtain ⟨_, _, _, _, e, _, h, _⟩ := h; cases e; exact ⟨_, h⟩
      obtain ⟨A', h'⟩ := this
      obtain ⟨A3, q1, q2⟩ := SlO.back hf1 hH hf2 h' h2 k.2
      exact ⟨A3, q1, s, r, rfl, q2⟩
    | some e =>
      obtain ⟨v, r, B, C, rfl, o2, h2, rfl⟩ := h2
      cases o with
      | none =>
        obtain ⟨_, _, e', h⟩ := h
        cases e'
        obtain ⟨A3, q1, q2⟩ := SlO.back hf1 hH hf2 h h2 k.2
        exact ⟨B ++ A3, List.Sublist.append (List.Sublist.refl _) q1, v, r, B, A3, rfl, o2.al hf2 _ _ _ (by simpa [okO] using k.1), q2, rfl⟩
      | some d =>
        obtain ⟨v', r', B', C', e', o1, h, _⟩ := h
        cases e'
        obtain ⟨A3, q1, q2⟩ := SlO.back hf1 hH hf2 h h2 k.2
        refine ⟨B ++ A3, List.Sublist.append (List.Sublist.refl _) q1, v, r, B, A3, rfl, ?_, q2, rfl⟩
        have k1 : (al e || (un d && eqD d e)) = true := k.1
        rw [Bool.or_eq_true, Bool.and_eq_true] at k1
        rcases k1 with z | ⟨z, q⟩
        · exact o2.al hf2 _ _ _ z
        · have q := eqD_eq _ _ q
          subst q
          have e1 := o1.un _ _ _ z
          have e2 := o2.un _ _ _ z
          subst e1 e2
          exact o1.mono hf1 _ _ _ fun b x hb hx => hH b x (hb.resolve_right (fun z => nomatch z)) hx
/-- a slot lent as a view while operands are evaluated -/
theorem Po.frameV {fr : Addr → Prop} {A : List Addr} {Γ : Gm} {σ : St} {H : Hp} {i : Nat} {x : D} (s : S K fr A Γ σ H) (hx : getS Γ i = some x) : ∃ v B C, σ[i]? = some (some v) ∧ Ow K fr H x v B ∧ S K (fun b => fr b ∨ b ∈ B) C (Γ.set i (some (frz x))) σ H ∧
    ∀ {Γ2 : Gm} {ds : List D} {us : List V} {fr2 : Addr → Prop} {A2 B2 : List Addr} {H2 : Hp}, Po K (fun b => fr b ∨ b ∈ B) C H Γ2 σ ds us fr2 A2 B2 H2 → alL ds = true → okB Γ Γ2 i = true →
      (∀ b y, (fr b ∨ b ∈ B) → H b = some y → H2 b = some y) ∧ ∃ fr3 A3, Po K fr A H (Γ2.set i (some x)) σ ds us fr3 A3 B2 H2 := by
  obtain ⟨v, B, C, h1, h2, h3, h4, fill⟩ := s.sl.take (getS_eq hx)
  have nd := nodup_perm_append h3 s.nd
  obtain ⟨n1, n2, n3⟩ := List.nodup_append.mp nd
  have mA : ∀ b, b ∈ A ↔ b ∈ B ∨ b ∈ C := fun b => by rw [h3.mem_iff, List.mem_append]
  have dB : ∀ b ∈ B, ∃ vs, H b = some (.lst vs) := fun b hb => Ow.dom x v B h2 b hb
  have h4' : SlO K (fun b => fr b ∨ b ∈ B) H (Γ.set i none) σ C := h4.mono (fun _ z => .inl z) fun b x _ e => e
  have o' : Ow K (fun b => fr b ∨ b ∈ B) H (frz x) v [] := Ow.frz x v B h2 (fun _ z => .inl z) (fun _ z => .inr z)
  obtain ⟨A', p', sl'⟩ := SlO.fill h4' h1 o'
  have mC : ∀ b, b ∈ A' ↔ b ∈ C := fun b => by rw [p'.mem_iff, List.nil_append]
  have ndA' : A'.Nodup := p'.nodup_iff.mpr (by rw [List.nil_append]; exact n2)
  refine ⟨v, B, A', h1, h2, ⟨sl', ndA', fun b hb hf => ?_, fun b hf => ?_⟩, fun {Γ2 ds us fr2 A2 B2 H2} p hal hok => ?_⟩
  · have hb := (mC b).mp hb
    rcases hf with hf | hf
    · exact s.dj b ((mA b).mpr (.inr hb)) hf
    · exact n3 b hf b hb rfl
  · rcases hf with hf | hf
    · exact s.dm b hf
    · obtain ⟨vs, e⟩ := dB b hf
      exact ⟨_, e⟩
  have keep : ∀ b y, (fr b ∨ b ∈ B) → H b = some y → H2 b = some y := fun b y hb hy => p.ex.kp b y hy fun hc => by
    have hc := (mC b).mp hc
    rcases hb with hb | hb
    · exact s.dj b ((mA b).mpr (.inr hc)) hb
    · exact n3 b hb b hc rfl
  have f1 : ∀ b, fr b → fr2 b ∧ b ∉ B := fun b hb => ⟨p.ex.ff b (.inl hb), fun z => s.dj b ((mA b).mpr (.inl z)) hb⟩
  have f2 : ∀ b vs, fr2 b → H2 b = some (.tup vs) → fr2 b ∧ b ∉ B := fun b vs hb ht => ⟨hb, fun z => by
    obtain ⟨ws, e⟩ := dB b z
    rw [keep b _ (.inr z) e] at ht
    cases ht⟩
  obtain ⟨A3, sub, sl3⟩ := SlO.back f1 (fun b x hb e => keep b x (.inl hb) e) f2 s.sl p.s.sl hok
  have o2 : Ow K (fun b => fr2 b ∧ b ∉ B) H2 x v B := Ow.mono f1 x v B h2 keep
  obtain ⟨A4, p4, sl4⟩ := SlO.fill sl3 h1 o2
  have m4 : ∀ b, b ∈ A4 ↔ b ∈ B ∨ b ∈ A3 := fun b => by rw [p4.mem_iff, List.mem_append]
  have nB : ∀ b ∈ B, b ∉ A2 ++ B2 := fun b hb hc => by
    rcases p.ex.aa b hc with z | z
    · exact n3 b hb b ((mC b).mp z) rfl
    · obtain ⟨y, hy⟩ := dB b hb
      rw [hy] at z
      cases z
  have nd3 : A3.Nodup := sub.nodup (List.nodup_append.mp p.nd).1
  have nd4 : A4.Nodup := p4.nodup_iff.mpr (List.nodup_append.mpr ⟨n1, nd3, fun a ha b hb e => nB a ha (List.mem_append_left _ (sub.subset (e ▸ hb)))⟩)
  refine ⟨keep, fun b => fr2 b ∧ b ∉ B, A4, ⟨sl4, nd4, fun b hb hf => ?_, fun b hf => p.s.dm b hf.1⟩, p.o.al f2 _ _ _ hal, List.nodup_append.mpr ⟨nd4, (List.nodup_append.mp p.nd).2.1, fun a ha b hb e => ?_⟩, fun b hb hf => p.dj b hb hf.1, ?_⟩
  · rcases (m4 b).mp hb with z | z
    · exact hf.2 z
    · exact p.s.dj b (sub.subset z) hf.1
  · subst e
    rcases (m4 a).mp ha with z | z
    · exact nB a z (List.mem_append_right _ hb)
    · exact disj_of p.nd (sub.subset z) hb
  · refine ⟨fun b y h hb => p.ex.kp b y h fun z => hb ((mA b).mpr (.inr ((mC b).mp z))), f1, fun b hb => ?_, fun b hb => ?_⟩
    · rcases List.mem_append.mp hb with z | z
      · rcases (m4 b).mp z with z | z
        · exact .inl ((mA b).mpr (.inl z))
        · rcases p.ex.aa b (List.mem_append_left _ (sub.subset z)) with y | y
          · exact .inl ((mA b).mpr (.inr ((mC b).mp y)))
          · exact .inr y
      · rcases p.ex.aa b (List.mem_append_right _ z) with y | y
        · exact .inl ((mA b).mpr (.inr ((mC b).mp y)))
        · exact .inr y
    · rcases p.ex.fa b hb.1 with y | y | y
      · rcases y with y | y
        · exact .inl y
        · exact absurd y hb.2
      · exact .inr (.inl ((mA b).mpr (.inr ((mC b).mp y))))
      · exact .inr (.inr y)
end
end Sk

namespace Sk
open PySem PySem.Spec PyProof.Rows L2
section
variable {Φ : Tab} {X : Cx} {c : Cc}
/-- behind a change: what is left -/
theorem mut_end {K : PySem.W.Frag} {fr fr2 : Addr → Prop} {A A2 A' B2 Bt Bt' Br : List Addr} {H H2 : Hp} {Γ2 Γ3 : Gm} {σ : St} {ds : List D} {vs : List V} {a : Addr} {o : HO} {r : D} {rv : V}
    (p : Po K fr A H Γ2 σ ds vs fr2 A2 B2 H2) (s : S K fr2 A' Γ3 σ (upd H2 a o)) (mem : ∀ b, b ∈ A' ↔ (b ∈ A2 ∧ b ∉ Bt) ∨ b ∈ Bt') (ha : a ∈ Bt) (tA : ∀ b ∈ Bt, b ∈ A2) (h1 : ∀ b ∈ Bt', b ∈ Bt ∨ b ∈ B2)
    (orr : Ow K fr2 (upd H2 a o) r rv Br) (h2 : ∀ b ∈ Br, b ∈ Bt ∨ b ∈ B2) (nr : Br.Nodup) (djr : ∀ b ∈ Br, b ∉ Bt') : Po K fr A H Γ3 σ [r] [rv] fr2 A' Br (upd H2 a o) := by
  have nf : ∀ b, b ∈ Bt ∨ b ∈ B2 → ¬ fr2 b := fun b hb => hb.elim (fun z => p.s.dj b (tA b z)) (p.dj b)
  refine ⟨s, OwL.one.mpr orr, List.nodup_append.mpr ⟨s.nd, nr, fun x hx y hy e => ?_⟩, fun b hb => nf b (h2 b hb), p.ex.trans ⟨fun b x e hb => ?_, fun _ z => z, fun b hb => ?_, fun b hf => .inl hf⟩⟩
  · subst e
    rcases (mem x).mp hx with z | z
    · rcases h2 x hy with y | y
      · exact z.2 y
      · exact disj_of p.nd z.1 y
    · exact djr x hy z
  · rw [upd_ne]
    · exact e
    · rintro rfl; exact hb (List.mem_append_left _ (tA b ha))
  · left
    rcases List.mem_append.mp hb with hb | hb
    · rcases (mem b).mp hb with z | z
      · exact List.mem_append_left _ z.1
      · rcases h1 b z with y | y
        · exact List.mem_append_left _ (tA b y)
        · exact List.mem_append_right _ y
    · rcases h2 b hb with y | y
      · exact List.mem_append_left _ (tA b y)
      · exact List.mem_append_right _ y
/-- a changing method by values: from the list at w and the arguments to what is wanted -/
def rM (K : PySem.W.Frag) (mm : Mm) (w : V) (vs : List V) (H2 : Hp) (Q : VK) : Prop := ∃ fr A H Γ2 σ ds fr2 A2 B2 i x r x' ps v, Po K fr A H Γ2 σ ds vs fr2 A2 B2 H2 ∧ getS Γ2 i = some x ∧ updQ (mmF mm ds) ps x = some (r, x') ∧ σ[i]? = some (some v) ∧ AlongQ K H2 ps v w ∧
  ∀ rv H3 fr3 A3 B3, Po K fr A H (Γ2.set i (some x')) σ [r] [rv] fr3 A3 B3 H3 → Q rv H3
theorem Along.fun_ {H : Hp} : ∀ {ps : List D} {v w w' : V}, Along H ps v w → Along H ps v w' → w = w' := fun h g => h.uniq Sm'.refl g
theorem seqIx {n : Nat} {i : Int} {k : Nat} (h : ixD n i = some k) : seqIndex? i n = some k := by
  unfold ixD at h
  unfold seqIndex?
  dsimp only
  by_cases h0 : 0 ≤ i
  · rw [if_pos h0] at h
    have e : (if i < 0 then i + (n : Int) else i) = i := if_neg (by omega)
    rw [e]
    split at h
    · rename_i hl
      cases h
      rw [if_pos (by first | exact ⟨h0, hl⟩ | simp [h0, hl])]
    · cases h
  · rw [if_neg h0] at h
    have e : (if i < 0 then i + (n : Int) else i) = i + n := if_pos (by omega)
    rw [e]
    split at h
    · rename_i hl
      cases h
      rw [if_pos (by first | exact ⟨hl, by omega⟩ | (simp; omega))]
    · cases h
theorem m_append : MtR X "list.append" (rM X.K .append) := by
  intro pins s σ0 H2 w vs v0 us Q I rw rvs h
  obtain ⟨fr, A, H, Γ2, σ, ds, fr2, A2, B2, i, x, r, x', ps, v, p, hx, up, hv, al, k⟩ := h
  obtain ⟨v', w', t, t', Bt, e1, al', ft, ot, tA, nt, go⟩ := p.s.changeQ hx up
  rw [hv] at e1
  cases e1
  have := AlongQ.funQ I al al'
  subst this
  match ds, t, ft with
  | [d], .lst true l, ft =>
    simp only [mmF] at ft
    split at ft
    · rename_i hz
      cases ft
      obtain ⟨y, rfl, _⟩ := VwL.one' (K := X.K) (a := d) ⟨B2, p.o⟩
      have od := OwL.one.mp p.o
      unfold Ow at ot
      obtain ⟨a, zs, C, rfl, ha, ol, _, h1⟩ := ot
      have eB := h1 rfl
      subst eB
      have aC : a ∉ C := (List.nodup_cons.mp nt).1
      have aA : a ∈ A2 := tA a List.mem_cons_self
      have aB : a ∉ B2 := fun z => disj_of p.nd aA z
      have af : ¬ fr2 a := p.s.dj a aA
      refine mt_append pins s σ0 H2 (.ref a) _ v0 us Q I rw rvs ⟨a, zs, y, rfl, rfl, ha, by rw [ol.len]; exact hz, ?_⟩
      have nC : (a :: (C ++ B2)).Nodup := by
        refine List.nodup_cons.mpr ⟨fun z => (List.mem_append.mp z).elim aC aB, List.nodup_append.mpr ⟨(List.nodup_cons.mp nt).2, (List.nodup_append.mp p.nd).2.1, fun x hx y hy e => ?_⟩⟩
        subst e
        exact disj_of p.nd (tA x (List.mem_cons_of_mem _ hx)) hy
      have sub : ∀ b ∈ a :: (C ++ B2), b ∈ a :: C ∨ b ∈ B2 := fun b hb => by
        rcases List.mem_cons.mp hb with z | z
        · exact .inl (z ▸ List.mem_cons_self)
        · rcases List.mem_append.mp z with z | z
          · exact .inl (List.mem_cons_of_mem _ z)
          · exact .inr z
      obtain ⟨A', s', mem⟩ := go a (.lst (zs ++ [y])) (a :: (C ++ B2)) List.mem_cons_self (by
        unfold Ow
        exact ⟨a, zs ++ [y], C ++ B2, rfl, upd_same, (ol.other aC af).app (OwL.one.mpr (OwL.one.mp ((OwL.one.mpr od).other aB af))), (fun z => by cases z), fun _ => rfl⟩) nC (fun b hb => (sub b hb).elim (fun z => p.s.dj b (tA b z)) (p.dj b)) fun b hb => (sub b hb).imp id fun z hA => disj_of p.nd hA z
      exact k _ _ fr2 A' [] (mut_end p s' mem List.mem_cons_self tA sub (by unfold Ow; exact ⟨rfl, rfl⟩) (fun _ z => nomatch z) List.nodup_nil fun _ z => nomatch z)
    · cases ft
theorem m_extend : MtR X "list.extend" (rM X.K .extend) := by
  intro pins s σ0 H2 w vs v0 us Q I rw rvs h
  obtain ⟨fr, A, H, Γ2, σ, ds, fr2, A2, B2, i, x, r, x', ps, v, p, hx, up, hv, al, k⟩ := h
  obtain ⟨v', w', t, t', Bt, e1, al', ft, ot, tA, nt, go⟩ := p.s.changeQ hx up
  rw [hv] at e1
  cases e1
  have := AlongQ.funQ I al al'
  subst this
  match ds, t, ft with
  | [.lst o xs], .lst true l, ft =>
    simp only [mmF] at ft
    split at ft
    · rename_i hz
      cases ft
      rw [Bool.and_eq_true] at hz
      obtain ⟨y, rfl, vw⟩ := VwL.one' (K := X.K) (a := .lst o xs) ⟨B2, p.o⟩
      obtain ⟨b, ys, _, rfl, hb, oy⟩ := vw.lst
      have oy := oy.noB hz.1
      unfold Ow at ot
      obtain ⟨a, zs, C, rfl, ha, ol, _, h1⟩ := ot
      have eB := h1 rfl
      subst eB
      have aC : a ∉ C := (List.nodup_cons.mp nt).1
      have aA : a ∈ A2 := tA a List.mem_cons_self
      have af : ¬ fr2 a := p.s.dj a aA
      refine mt_extend pins s σ0 H2 (.ref a) _ v0 us Q I rw rvs ⟨a, b, zs, ys, rfl, rfl, ha, hb, by rw [ol.len, oy.len]; exact of_decide_eq_true hz.2, ?_⟩
      obtain ⟨A', s', mem⟩ := go a (.lst (zs ++ ys)) (a :: C) List.mem_cons_self (by
        unfold Ow
        refine ⟨a, zs ++ ys, C, rfl, upd_same, ?_, (fun z => by cases z), fun _ => rfl⟩
        have := (ol.other (o := .lst (zs ++ ys)) aC af).app (oy.other (o := .lst (zs ++ ys)) (fun z => nomatch z) af)
        rw [List.append_nil] at this
        exact this) nt (fun b hb => p.s.dj b (tA b hb)) fun b hb => .inl hb
      exact k _ _ fr2 A' [] (mut_end p s' mem List.mem_cons_self tA (fun _ z => .inl z) (by unfold Ow; exact ⟨rfl, rfl⟩) (fun _ z => nomatch z) List.nodup_nil fun _ z => nomatch z)
    · cases ft
theorem popped {K : PySem.W.Frag} {fr fr2 : Addr → Prop} {A A2 B2 : List Addr} {H H2 : Hp} {Γ2 : Gm} {σ : St} {ds l : List D} {vs zs : List V} {i kx : Nat} {x' r : D} {a : Addr} {C : List Addr} (p : Po K fr A H Γ2 σ ds vs fr2 A2 B2 H2) (ha : H2 a = some (.lst zs)) (ol : OwL K fr2 H2 l zs C) (tA : ∀ b ∈ a :: C, b ∈ A2) (nt : (a :: C).Nodup) (hr : l[kx]? = some r)
    (go : ∀ (a' : Addr) (o : HO) (Bt' : List Addr), a' ∈ a :: C → Ow K fr2 (upd H2 a' o) (.lst true (l.eraseIdx kx)) (.ref a) Bt' → Bt'.Nodup → (∀ b ∈ Bt', ¬ fr2 b) → (∀ b ∈ Bt', b ∈ a :: C ∨ b ∉ A2) → ∃ A', S K fr2 A' (Γ2.set i (some x')) σ (upd H2 a' o) ∧ ∀ b, b ∈ A' ↔ (b ∈ A2 ∧ b ∉ a :: C) ∨ b ∈ Bt') :
    ∃ v, zs[kx]? = some v ∧ ∃ A' Br, Po K fr A H (Γ2.set i (some x')) σ [r] [v] fr2 A' Br (upd H2 a (.lst (zs.eraseIdx kx))) := by
  have aC : a ∉ C := (List.nodup_cons.mp nt).1
  have aA : a ∈ A2 := tA a List.mem_cons_self
  have af : ¬ fr2 a := p.s.dj a aA
  obtain ⟨v, Bt, R, g1, g2, g3, g4⟩ := ol.erase hr
  have nC := nodup_perm_append g3 (List.nodup_cons.mp nt).2
  have mC : ∀ b, b ∈ C ↔ b ∈ Bt ∨ b ∈ R := fun b => by rw [g3.mem_iff, List.mem_append]
  have sub : ∀ b ∈ a :: R, b ∈ a :: C := fun b hb => by
    rcases List.mem_cons.mp hb with z | z
    · exact z ▸ List.mem_cons_self
    · exact List.mem_cons_of_mem _ ((mC b).mpr (.inr z))
  have aR : a ∉ R := fun z => aC ((mC a).mpr (.inr z))
  have aT : a ∉ Bt := fun z => aC ((mC a).mpr (.inl z))
  obtain ⟨A', s', mem⟩ := go a (.lst (zs.eraseIdx kx)) (a :: R) List.mem_cons_self (by
    unfold Ow
    exact ⟨a, zs.eraseIdx kx, R, rfl, upd_same, g4.other aR af, (fun z => by cases z), fun _ => rfl⟩) (List.nodup_cons.mpr ⟨aR, (List.nodup_append.mp nC).2.1⟩) (fun b hb => p.s.dj b (tA b (sub b hb))) fun b hb => .inl (sub b hb)
  refine ⟨v, g1, A', Bt, mut_end p s' mem List.mem_cons_self tA (fun b hb => .inl (sub b hb)) (OwL.one.mp ((OwL.one.mpr g2).other aT af)) (fun b hb => .inl (List.mem_cons_of_mem _ ((mC b).mpr (.inl hb)))) (List.nodup_append.mp nC).1 fun b hb hR => ?_⟩
  rcases List.mem_cons.mp hR with z | z
  · exact aT (z ▸ hb)
  · exact (List.nodup_append.mp nC).2.2 b hb b z rfl
theorem m_pop : MtR X "list.pop" (fun w vs H Q => rM X.K .pop w vs H Q) := by
  intro pins s σ0 H2 w vs v0 us Q I rw rvs h
  obtain ⟨fr, A, H, Γ2, σ, ds, fr2, A2, B2, i, x, r, x', ps, v, p, hx, up, hv, al, k⟩ := h
  obtain ⟨v', w', t, t', Bt, e1, al', ft, ot, tA, nt, go⟩ := p.s.changeQ hx up
  rw [hv] at e1
  cases e1
  have := AlongQ.funQ I al al'
  subst this
  match ds, t, ft with
  | [], .lst true l, ft =>
    obtain ⟨y, hy, e⟩ := Option.map_eq_some_iff.mp (show (l[l.length - 1]?).map (fun x => (x, D.lst true l.dropLast)) = some (r, t') from ft)
    cases e
    obtain ⟨rfl, _⟩ := p.o.nil_inv
    unfold Ow at ot
    obtain ⟨a, zs, C, rfl, ha, ol, _, h1⟩ := ot
    have eB := h1 rfl
    subst eB
    rw [drop_last] at go
    obtain ⟨rv, g1, A', Br, p'⟩ := popped p ha ol tA nt hy go
    rw [← ol.len] at g1 p'
    refine mt_pop pins s σ0 H2 (.ref a) _ v0 us Q I rw rvs ⟨a, zs, rv, rfl, rfl, ha, g1, ?_⟩
    rw [drop_last]
    exact k _ _ _ _ _ p'
theorem m_popAt : MtR X "list.pop" (fun w vs H Q => rM X.K .popAt w vs H Q) := by
  intro pins s σ0 H2 w vs v0 us Q I rw rvs h
  obtain ⟨fr, A, H, Γ2, σ, ds, fr2, A2, B2, i, x, r, x', ps, v, p, hx, up, hv, al, k⟩ := h
  obtain ⟨v', w', t, t', Bt, e1, al', ft, ot, tA, nt, go⟩ := p.s.changeQ hx up
  rw [hv] at e1
  cases e1
  have := AlongQ.funQ I al al'
  subst this
  match ds, t, ft with
  | [.int j], .lst true l, ft =>
    simp only [mmF] at ft
    split at ft
    · rename_i hz
      have hz : -(2 ^ 63) ≤ j ∧ j < 2 ^ 63 := of_decide_eq_true hz
      obtain ⟨kx, hk, e0⟩ := Option.bind_eq_some_iff.mp ft
      obtain ⟨y, hy, e⟩ := Option.map_eq_some_iff.mp e0
      cases e
      obtain ⟨u, rfl, vu⟩ := VwL.one' (K := X.K) (a := .int j) ⟨B2, p.o⟩
      obtain rfl := vu.int
      unfold Ow at ot
      obtain ⟨a, zs, C, rfl, ha, ol, _, h1⟩ := ot
      have eB := h1 rfl
      subst eB
      obtain ⟨rv, g1, A', Br, p'⟩ := popped p ha ol tA nt hy go
      refine mt_popAt pins s σ0 H2 (.ref a) _ v0 us Q I rw rvs ⟨a, zs, j, kx, rv, rfl, rfl, ha, hz.1, hz.2, ?_, g1, k _ _ _ _ _ p'⟩
      rw [ol.len]
      exact seqIx hk
    · cases ft
theorem OwL.split {K : PySem.W.Frag} {fr : Addr → Prop} {H : Hp} : ∀ {ds es : List D} {vs : List V} {B : List Addr}, OwL K fr H (ds ++ es) vs B → ∃ v1 v2 B1 B2, vs = v1 ++ v2 ∧ B = B1 ++ B2 ∧ OwL K fr H ds v1 B1 ∧ OwL K fr H es v2 B2
  | [], es, vs, B, h => ⟨[], vs, [], B, rfl, rfl, OwL.nil, h⟩
  | d :: ds, es, vs, B, h => by
    obtain ⟨v, us, B1, C, rfl, o, g, rfl⟩ := (show OwL K fr H (d :: (ds ++ es)) vs B from h).cons_inv
    obtain ⟨v1, v2, C1, C2, rfl, rfl, g1, g2⟩ := OwL.split g
    exact ⟨v :: v1, v2, B1 ++ C1, C2, rfl, (List.append_assoc _ _ _).symm, OwL.cons o g1, g2⟩
theorem take_split {α : Type} {k n : Nat} {z1 z2 : List α} (h1 : z1.length = min k n) (h2 : z2.length = n - k) : (z1 ++ z2).take k = z1 ∧ (z1 ++ z2).drop k = z2 := by
  constructor
  · rw [List.take_append, List.take_of_length_le (by omega)]
    have : z2.take (k - z1.length) = [] := List.eq_nil_of_length_eq_zero (by rw [List.length_take]; omega)
    rw [this, List.append_nil]
  · rw [List.drop_append, List.drop_of_length_le (by omega), List.nil_append]
    by_cases h : k ≤ n
    · rw [show k - z1.length = 0 by omega, List.drop_zero]
    · have : z2 = [] := List.eq_nil_of_length_eq_zero (by omega)
      rw [this, List.drop_nil]
theorem m_insert : MtR X "list.insert" (rM X.K .insert) := by
  intro pins s σ0 H2 w vs v0 us Q I rw rvs h
  obtain ⟨fr, A, H, Γ2, σ, ds, fr2, A2, B2, i, x, r, x', ps, v, p, hx, up, hv, al, k⟩ := h
  obtain ⟨v', w', t, t', Bt, e1, al', ft, ot, tA, nt, go⟩ := p.s.changeQ hx up
  rw [hv] at e1
  cases e1
  have := AlongQ.funQ I al al'
  subst this
  match ds, t, ft with
  | [.int j, d], .lst true l, ft =>
    simp only [mmF] at ft
    split at ft
    · rename_i hz
      rw [Bool.and_eq_true] at hz
      have hz1 := of_decide_eq_true hz.1
      have hz2 := of_decide_eq_true hz.2
      cases ft
      obtain ⟨u, us1, Bu, Bd1, rfl, ou, o2, eB0⟩ := p.o.cons_inv
      obtain ⟨y, us2, Bd, Bn, rfl, od, on, rfl⟩ := o2.cons_inv
      obtain ⟨rfl, rfl⟩ := on.nil_inv
      have eu : Bu = [] := ou.un _ _ _ rfl
      subst eu
      have hu : u = .int j := (show Vw X.K fr2 H2 (.int j) u from ⟨[], ou⟩).int
      subst hu
      rw [List.nil_append, List.append_nil] at eB0
      subst eB0
      unfold Ow at ot
      obtain ⟨a, zs, C, rfl, ha, ol, _, h1⟩ := ot
      have eB := h1 rfl
      subst eB
      have ol' : OwL X.K fr2 H2 (l.take j.toNat ++ l.drop j.toNat) zs C := by rw [List.take_append_drop]; exact ol
      obtain ⟨z1, z2, C1, C2, rfl, rfl, g1, g2⟩ := ol'.split
      have n1 := g1.len
      have n2 := g2.len
      rw [List.length_take] at n1
      rw [List.length_drop] at n2
      obtain ⟨t1, t2⟩ := take_split n1 n2
      have aC : a ∉ C1 ++ C2 := (List.nodup_cons.mp nt).1
      have aA : a ∈ A2 := tA a List.mem_cons_self
      have aB : a ∉ B2 := fun z => disj_of p.nd aA z
      have af : ¬ fr2 a := p.s.dj a aA
      refine mt_insert pins s σ0 H2 (.ref a) _ v0 us Q I rw rvs ⟨a, z1 ++ z2, j, y, rfl, rfl, ha, by rw [List.length_append]; omega, hz2.1, hz2.2, ?_⟩
      rw [t1, t2]
      have pm : (C1 ++ B2 ++ C2).Perm (C1 ++ C2 ++ B2) := by
        rw [List.append_assoc, List.append_assoc]
        exact (List.Perm.refl C1).append List.perm_append_comm
      have nC : (a :: (C1 ++ B2 ++ C2)).Nodup := by
        refine List.nodup_cons.mpr ⟨fun z => (List.mem_append.mp (pm.mem_iff.mp z)).elim aC aB, pm.nodup_iff.mpr (List.nodup_append.mpr ⟨(List.nodup_cons.mp nt).2, (List.nodup_append.mp p.nd).2.1, fun x hx y hy e => ?_⟩)⟩
        subst e
        exact disj_of p.nd (tA x (List.mem_cons_of_mem _ hx)) hy
      have sub : ∀ b ∈ a :: (C1 ++ B2 ++ C2), b ∈ a :: (C1 ++ C2) ∨ b ∈ B2 := fun b hb => by
        rcases List.mem_cons.mp hb with z | z
        · exact .inl (z ▸ List.mem_cons_self)
        · rcases List.mem_append.mp (pm.mem_iff.mp z) with z | z
          · exact .inl (List.mem_cons_of_mem _ z)
          · exact .inr z
      obtain ⟨A', s', mem⟩ := go a (.lst (z1 ++ [y] ++ z2)) (a :: (C1 ++ B2 ++ C2)) List.mem_cons_self (by
        unfold Ow
        exact ⟨a, z1 ++ [y] ++ z2, C1 ++ B2 ++ C2, rfl, upd_same, ((g1.other (fun z => aC (List.mem_append_left _ z)) af).app (OwL.one.mpr (OwL.one.mp ((OwL.one.mpr od).other aB af)))).app (g2.other (fun z => aC (List.mem_append_right _ z)) af), (fun z => by cases z), fun _ => rfl⟩) nC (fun b hb => (sub b hb).elim (fun z => p.s.dj b (tA b z)) (p.dj b)) fun b hb => (sub b hb).imp id fun z hA => disj_of p.nd hA z
      exact k _ _ fr2 A' [] (mut_end p s' mem List.mem_cons_self tA sub (by unfold Ow; exact ⟨rfl, rfl⟩) (fun _ z => nomatch z) List.nodup_nil fun _ z => nomatch z)
    · cases ft
end
end Sk

namespace Sk
open PySem PySem.Spec PyProof.Rows L2
section
variable {Φ : Tab} {K : PySem.W.Frag} {i : Nat} {mm : Mm} {es : List E} {σ : St} {H : Hp} {Q : VK}
theorem mut_go0 (h : WE Φ K (.mut i [] mm es) σ H Q) (R : VK) (hR : ∀ w H1, (tyV K "list" w H1 ∧ WEs Φ K es σ H1 fun vs H2 => rM K mm w vs H2 Q) → R w H1) : tVar i σ H R := by
  obtain ⟨fr, A, Γ, d, Γ', s, e, k⟩ := h
  simp only [ev] at e
  split at e
  · simp only [evEs, Option.bind_some] at e
    obtain ⟨x1, hx1, e⟩ := Option.bind_eq_some_iff.mp e
    split at e
    · rename_i hl
      obtain ⟨⟨ds, Γ2⟩, e2, e⟩ := Option.bind_eq_some_iff.mp e
      obtain ⟨x, hx, e⟩ := Option.bind_eq_some_iff.mp e
      obtain ⟨⟨r, x'⟩, up, e⟩ := Option.bind_eq_some_iff.mp e
      cases e
      obtain ⟨v, B, C, hv, ho, _, _, _⟩ := s.sl.take (getS_eq hx1)
      match x1, hl, ho with
      | .lst o zs, _, ho =>
        obtain ⟨a, vs, _, rfl, ha, _⟩ := (show Vw K fr H (.lst o zs) v from ⟨B, ho⟩).lst
        exact ⟨_, hv, hR _ _ ⟨.inl ⟨rfl, vs, .of ha⟩, fr, A, Γ, ds, Γ2, s, e2, fun vs H2 fr2 A2 B2 p pc => ⟨fr, A, H, Γ2, σ, ds, fr2, A2, B2, i, x, _, x', [], _, p, hx, up, hv, .inl rfl, fun rv H3 fr3 A3 B3 p3 => k rv H3 fr3 A3 B3 p3 (fun z => by cases z)⟩⟩⟩
    · cases e
  · cases e
/-- the inner list -/
def rIn (K : PySem.W.Frag) : R2 := fun x y H Q => ∃ a vs i u, x = .ref a ∧ y = .int i ∧ H a = some (.lst vs) ∧ atI vs i = some u ∧ Q u H
theorem ix_in {X : Cx} : IxR X (rIn X.K) := by
  intro value slice pins s σ H x y v u Q I rx ry h hs
  obtain ⟨a, vs, i, w, rfl, rfl, ha, hi, q⟩ := h
  exact ix_list value slice pins s σ H _ _ v u Q I rx ry ⟨a, vs, i, w, rfl, rfl, .of ha, hi, q⟩ hs
/-- .. of a list or of a tuple -/
def rIn2 (K : PySem.W.Frag) : R2 := fun x y H Q => ∃ a vs i u, x = .ref a ∧ y = .int i ∧ (H a = some (.lst vs) ∨ SqT K H a vs) ∧ atI vs i = some u ∧ Q u H
theorem ix_in2 {X : Cx} : IxR X (rIn2 X.K) := by
  intro value slice pins s σ H x y v u Q I rx ry h hs
  obtain ⟨a, vs, i, w, rfl, rfl, ha | ha, hi, q⟩ := h
  · exact ix_list value slice pins s σ H _ _ v u Q I rx ry ⟨a, vs, i, w, rfl, rfl, .of ha, hi, q⟩ hs
  · exact ix_tup value slice pins s σ H _ _ v u Q I rx ry ⟨a, vs, i, w, rfl, rfl, ha, hi, q⟩ hs
theorem at_o {fr : Addr → Prop} {B : List Addr} {H : Hp} {x pd : D} {v : V} (ho : Ow K fr H x v B) (hl : isLAtQ [pd] x = true) :
    ∃ j a vs a2 vs2, pd = .int j ∧ v = .ref a ∧ ((H a = some (.lst vs) ∧ (fr a ∨ a ∈ B)) ∨ TupAt K fr H a vs) ∧ atI vs j = some (.ref a2) ∧ H a2 = some (.lst vs2) := by
  match x, hl, ho with
  | .lst o zs, hl, ho =>
    simp only [isLAtQ, isLAt] at hl
    split at hl
    · rename_i o2 es2 hix
      match pd, hix with
      | .int j, hix =>
        obtain ⟨jx, hj, hd⟩ := Option.bind_eq_some_iff.mp (show (ixD zs.length j).bind (zs[·]?) = some (.lst o2 es2) from hix)
        unfold Ow at ho
        obtain ⟨a, vs, C', rfl, ha, ol, q0, q1⟩ := ho
        obtain ⟨w, B', g1, g2, g3⟩ := ol.at hd
        obtain ⟨a2, vs2, _, rfl, ha2, _⟩ := (show Vw K fr H (.lst o2 es2) w from ⟨B', g2⟩).lst
        refine ⟨j, a, vs, a2, vs2, rfl, rfl, .inl ⟨ha, ?_⟩, ?_, ha2⟩
        · cases o with
          | false => exact .inl (q0 rfl).1
          | true => rw [q1 rfl]; exact .inr List.mem_cons_self
        · show (ixD vs.length j).bind _ = _
          rw [ol.len, hj]; exact g1
    · cases hl
  | .tup zs, hl, ho =>
    simp only [isLAtQ] at hl
    split at hl
    · rename_i o2 es2 hix
      match pd, hix with
      | .int j, hix =>
        obtain ⟨jx, hj, hd⟩ := Option.bind_eq_some_iff.mp (show (ixD zs.length j).bind (zs[·]?) = some (.lst o2 es2) from hix)
        unfold Ow at ho
        obtain ⟨a, vs, rfl, ha, ol⟩ := ho
        obtain ⟨w, B', g1, g2, g3⟩ := ol.at hd
        obtain ⟨a2, vs2, _, rfl, ha2, _⟩ := (show Vw K fr H (.lst o2 es2) w from ⟨B', g2⟩).lst
        refine ⟨j, a, vs, a2, vs2, rfl, rfl, .inr ha, ?_, ha2⟩
        show (ixD vs.length j).bind _ = _
        rw [ol.len, hj]; exact g1
    · cases hl
theorem mut_go1 {p : E} (h : WE Φ K (.mut i [p] mm es) σ H Q) (R : VK) (hR : ∀ w H1, (tyV K "list" w H1 ∧ WEs Φ K es σ H1 fun vs H2 => rM K mm w vs H2 Q) → R w H1) : tOp (rIn2 K) (tVar i) (WE Φ K p) σ H R := by
  obtain ⟨fr, A, Γ, d, Γ', s, e, k⟩ := h
  simp only [ev] at e
  split at e
  · rename_i hp
    simp only [List.isEmpty_cons, Bool.or_false, Bool.and_eq_true] at hp
    obtain ⟨⟨ps, Γ1⟩, e1, e⟩ := Option.bind_eq_some_iff.mp e
    simp only [evEs] at e1
    obtain ⟨⟨pd, Γ1'⟩, e0, e1⟩ := Option.bind_eq_some_iff.mp e1
    cases e1
    obtain ⟨x1, hx1, e⟩ := Option.bind_eq_some_iff.mp e
    split at e
    · rename_i hl
      obtain ⟨⟨ds, Γ2⟩, e2, e⟩ := Option.bind_eq_some_iff.mp e
      obtain ⟨x, hx, e⟩ := Option.bind_eq_some_iff.mp e
      obtain ⟨⟨r, x'⟩, up, e⟩ := Option.bind_eq_some_iff.mp e
      cases e
      have hb : ∃ v, σ[i]? = some (some v) := by
        obtain ⟨x0, hx0⟩ := Option.isSome_iff_exists.mp hp.2
        obtain ⟨v, _, _, hv, _⟩ := s.sl.take (getS_eq hx0)
        exact ⟨v, hv⟩
      obtain ⟨v, hv⟩ := hb
      refine ⟨v, hv, fr, A, Γ, pd, _, s, e0, fun y H1 fr1 A1 B1 p1 pc1 => ?_⟩
      obtain ⟨v', B, C, hv', ho, _, _, _⟩ := p1.s.sl.take (getS_eq hx1)
      rw [hv] at hv'
      cases hv'
      obtain ⟨j, a, vs, a2, vs2, rfl, rfl, ha, hat, ha2⟩ := at_o ho hl
      obtain rfl := (VwL.one' (K := K) (a := .int j) ⟨B1, p1.o⟩).elim fun y' hy => by
        obtain ⟨q1, q2⟩ := hy
        cases q1
        exact q2.int
      refine ⟨a, vs, j, .ref a2, rfl, rfl, ha.imp (fun z => z.1) (fun z => z.sq), hat, hR _ _ ⟨.inl ⟨rfl, vs2, .of ha2⟩, fr1, A1, _, ds, Γ2, p1.s, e2, fun us H2 fr2 A2 B2 p2 pc2 => ?_⟩⟩
      refine ⟨fr1, A1, H1, Γ2, σ, ds, fr2, A2, B2, i, x, _, x', [.int j], .ref a, p2, hx, up, hv, ?_, fun rv H3 fr3 A3 B3 p3 => k rv H3 fr3 A3 B3 ⟨p3.s, p3.o, p3.nd, p3.dj, ?_⟩ (fun z => by cases z)⟩
      · have sm := (pc2 hp.1.1).1
        rcases ha with ha | ha
        · exact .inl ⟨a, vs, .ref a2, rfl, sm a _ ha.1, hat, rfl⟩
        · exact .inr ⟨j, a, vs, rfl, rfl, (ha.mono (fr' := fr1) (H' := H2) (fun _ z => z) fun b x _ e => sm b x e).sq, hat⟩
      · exact (p1.ex.less fun b hb => List.mem_append_left _ hb).trans p3.ex
    · cases e
  · split at e
    · rename_i hp
      simp only [Bool.and_eq_true] at hp
      obtain ⟨⟨ps, Γ1⟩, e1, e⟩ := Option.bind_eq_some_iff.mp e
      simp only [evEs] at e1
      obtain ⟨⟨pd, Γ1'⟩, e0, e1⟩ := Option.bind_eq_some_iff.mp e1
      cases e1
      obtain ⟨x1, hx1, e⟩ := Option.bind_eq_some_iff.mp e
      split at e
      · rename_i hl
        split at e
        · obtain ⟨⟨ds, Γ2⟩, e2, e⟩ := Option.bind_eq_some_iff.mp e
          simp only at e
          split at e
          · rename_i hn
            rw [Bool.and_eq_true] at hn
            obtain ⟨⟨r, x'⟩, up, e⟩ := Option.bind_eq_some_iff.mp e
            cases e
            have hb : ∃ v, σ[i]? = some (some v) := by
              obtain ⟨x0, hx0⟩ := Option.isSome_iff_exists.mp hp.2
              obtain ⟨v, _, _, hv, _⟩ := s.sl.take (getS_eq hx0)
              exact ⟨v, hv⟩
            obtain ⟨v, hv⟩ := hb
            refine ⟨v, hv, fr, A, Γ, pd, _, s, e0, fun y H1 fr1 A1 B1 p1 pc1 => ?_⟩
            obtain ⟨v', B, C, hv', ho, sC, go⟩ := Po.frameV p1.s hx1
            rw [hv] at hv'
            cases hv'
            obtain ⟨j, a, vs, a2, vs2, rfl, rfl, ha, hat, ha2⟩ := at_o ho hl
            obtain rfl := (VwL.one' (K := K) (a := .int j) ⟨B1, p1.o⟩).elim fun y' hy => by
              obtain ⟨q1, q2⟩ := hy
              cases q1
              exact q2.int
            refine ⟨a, vs, j, .ref a2, rfl, rfl, ha.imp (fun z => z.1) (fun z => z.sq), hat, hR _ _ ⟨.inl ⟨rfl, vs2, .of ha2⟩, _, C, _, ds, Γ2, sC, e2, fun us H2 fr2 A2 B2 p2 pc2 => ?_⟩⟩
            obtain ⟨keep, fr3, A3, p3⟩ := go p2 hn.1 hn.2
            have hil : i < Γ2.length := by
              rw [← p2.s.sl.len]
              exact (List.getElem?_eq_some_iff.mp hv).1
            refine ⟨fr1, A1, H1, Γ2.set i (some x1), σ, ds, fr3, A3, B2, i, x1, _, x', [.int j], .ref a, p3, ?_, up, hv, ?_, fun rv H3 fr3 A4 B3 p4 => k rv H3 fr3 A4 B3 ⟨?_, p4.o, p4.nd, p4.dj, ?_⟩ (fun z => by cases z)⟩
            · unfold getS
              rw [List.getElem?_set_self hil]; rfl
            · rcases ha with ha | ha
              · exact .inl ⟨a, vs, .ref a2, rfl, keep a _ ha.2 ha.1, hat, rfl⟩
              · exact .inr ⟨j, a, vs, rfl, rfl, (ha.mono (fr' := fr1) (H' := H2) (fun _ z => z) fun b x hb e => keep b x (.inl hb) e).sq, hat⟩
            · have := p4.s
              rw [List.set_set] at this
              exact this
            · exact (p1.ex.less fun b hb => List.mem_append_left _ hb).trans p4.ex
          · cases e
        · obtain ⟨⟨ds, Γ2⟩, e2, e⟩ := Option.bind_eq_some_iff.mp e
          simp only at e
          split at e
          · rename_i hn
            obtain ⟨⟨r, x'⟩, up, e⟩ := Option.bind_eq_some_iff.mp e
            cases e
            have hn' : Γ2[i]? = some none := by
              cases q : Γ2[i]? with
              | none => rw [q] at hn; cases hn
              | some o => cases o with
                | none => rfl
                | some _ => rw [q] at hn; cases hn
            have hb : ∃ v, σ[i]? = some (some v) := by
              obtain ⟨x0, hx0⟩ := Option.isSome_iff_exists.mp hp.2
              obtain ⟨v, _, _, hv, _⟩ := s.sl.take (getS_eq hx0)
              exact ⟨v, hv⟩
            obtain ⟨v, hv⟩ := hb
            refine ⟨v, hv, fr, A, Γ, pd, _, s, e0, fun y H1 fr1 A1 B1 p1 pc1 => ?_⟩
            obtain ⟨v', B, C, hv', ho, sC, go⟩ := Po.frame p1.s hx1
            rw [hv] at hv'
            cases hv'
            obtain ⟨j, a, vs, a2, vs2, rfl, rfl, ha, hat, ha2⟩ := at_o ho hl
            obtain rfl := (VwL.one' (K := K) (a := .int j) ⟨B1, p1.o⟩).elim fun y' hy => by
              obtain ⟨q1, q2⟩ := hy
              cases q1
              exact q2.int
            have hil := (List.getElem?_eq_some_iff.mp hn').1
            refine ⟨a, vs, j, .ref a2, rfl, rfl, ha.imp (fun z => z.1) (fun z => z.sq), hat, hR _ _ ⟨.inl ⟨rfl, vs2, .of ha2⟩, fr1, C, _, ds, Γ2, sC, e2, fun us H2 fr2 A2 B2 p2 pc2 => ?_⟩⟩
            obtain ⟨keep, A3, p3⟩ := go p2 hn'
            refine ⟨fr1, A1, H1, Γ2.set i (some x1), σ, ds, fr2, A3, B2, i, x1, _, x', [.int j], .ref a, p3, ?_, up, hv, ?_, fun rv H3 fr3 A4 B3 p4 => k rv H3 fr3 A4 B3 ⟨?_, p4.o, p4.nd, p4.dj, ?_⟩ (fun z => by cases z)⟩
            · unfold getS
              rw [List.getElem?_set_self hil]; rfl
            · rcases ha with ha | ha
              · exact .inl ⟨a, vs, .ref a2, rfl, keep a _ ha.2 ha.1, hat, rfl⟩
              · exact .inr ⟨j, a, vs, rfl, rfl, (ha.mono (fr' := fr1) (H' := H2) (fun _ z => z) fun b x hb e => keep b x (.inl hb) e).sq, hat⟩
            · have := p4.s
              rw [List.set_set] at this
              exact this
            · exact (p1.ex.less fun b hb => List.mem_append_left _ hb).trans p4.ex
          · cases e
      · cases e
    · cases e
end
section
variable {Φ : Tab} {X : Cx} {c : Cc}
theorem wes_nil {K : PySem.W.Frag} {σ : St} {H : Hp} {Q : List V → Hp → Prop} (h : WEs Φ K [] σ H Q) : Q [] H := by
  obtain ⟨fr, A, Γ, ds, Γ', s, e, k⟩ := h
  simp only [evEs] at e
  cases e
  exact k [] H fr A [] (Po.nil s) fun _ => ⟨Sm'.refl, rfl⟩
theorem mutX_inv {m : Mm} {x o : Expr} {args : List Expr} (h : mutX m x = some (o, args)) : ∃ apos cpos, x = .Call (.Attribute o (mName m) apos) args [] cpos ∧ args.length = mArity m ∧ (apos.endLine == cpos.line) = true ∧ m ≠ .getAt := by
  unfold mutX at h
  split at h
  · split at h
    · rename_i hc
      cases h
      exact ⟨_, _, by rw [hc.2.1], hc.2.2.1, hc.2.2.2, hc.1⟩
    · cases h
  · cases h
/-- the call of a method that changes its list -/
theorem pe_mut {m : Mm} {es : List E} {o : Expr} {args : List Expr} {apos cpos : Pos} {to t : TE} (hg : m ≠ .getAt) (hs : chks c es args = true) (hl : args.length = mArity m) (hline : (apos.endLine == cpos.line) = true) (hb : ∀ n, attributeBase o n X.env (eval o X.env) = eval o X.env) (ho : PE X o to) (ha : PA X args (WEs Φ X.K es))
    (hto : ∀ σ H Q (R : VK), t σ H Q → (∀ w H1, (tyV X.K "list" w H1 ∧ WEs Φ X.K es σ H1 fun vs H2 => rM X.K m w vs H2 Q) → R w H1) → to σ H R) : PE X (.Call (.Attribute o (mName m) apos) args [] cpos) t := by
  have one : ∀ {x : Expr}, args = [x] → notStar x = true := fun {x} e => by
    subst e
    cases es with
    | nil => simp [chks] at hs
    | cons e es => simp only [chks, Bool.and_eq_true] at hs; exact hs.1.1
  have few : ∀ {x : Expr}, notStar x = true → ((backTo cpos (starEach [x] X.env)).all (fun x => !x.1) && (backToKw cpos (keywordEach [] X.env)).all (fun x => x.1.isSome)
      && decide (([x] : List Expr).length + ([] : List Keyword).length + (if ([] : List Keyword).isEmpty then 0 else 1) < 30)) = true := fun {x} h => by
    rw [star_cons h]; rfl
  cases m with
  | getAt => exact absurd rfl hg
  | pop =>
    match args, hl with
    | [], _ =>
      have : es = [] := by
        cases es with
        | nil => rfl
        | cons _ _ => simp [chks] at hs
      subst this
      exact pe_imp (pe_bm0 PySem.F.plainAttrs_list PySem.F.slot_list_pop PySem.F.type_list_pop m_pop ho (hb _) hline) fun σ H Q q => hto σ H Q _ q fun w H1 z => ⟨z.1, wes_nil z.2⟩
  | append =>
    match args, hl with
    | [x], _ => exact pe_imp (pe_bm PySem.F.plainAttrs_list PySem.F.slot_list_append PySem.F.type_list_append m_append ho ha (hb _) (few (one rfl)) hline (star_cons (one rfl)) rfl) fun σ H Q q => hto σ H Q _ q fun w H1 z => z
  | extend =>
    match args, hl with
    | [x], _ => exact pe_imp (pe_bm PySem.F.plainAttrs_list PySem.F.slot_list_extend PySem.F.type_list_extend m_extend ho ha (hb _) (few (one rfl)) hline (star_cons (one rfl)) rfl) fun σ H Q q => hto σ H Q _ q fun w H1 z => z
  | popAt =>
    match args, hl with
    | [x], _ => exact pe_imp (pe_bm PySem.F.plainAttrs_list PySem.F.slot_list_pop PySem.F.type_list_pop m_popAt ho ha (hb _) (few (one rfl)) hline (star_cons (one rfl)) rfl) fun σ H Q q => hto σ H Q _ q fun w H1 z => z
  | insert =>
    match args, hl with
    | [x, y], _ =>
      have two : notStar x = true ∧ notStar y = true := by
        cases es with
        | nil => simp [chks] at hs
        | cons e es =>
          cases es with
          | nil => simp [chks] at hs
          | cons e2 es =>
            simp only [chks, Bool.and_eq_true] at hs
            exact ⟨hs.1.1, hs.2.1.1⟩
      exact pe_imp (pe_bm PySem.F.plainAttrs_list PySem.F.slot_list_insert PySem.F.type_list_insert m_insert ho ha (hb _) (by rw [star_cons two.1, star_cons two.2]; rfl) hline (star_cons two.1) (by rw [star_cons two.2]; rfl)) fun σ H Q q => hto σ H Q _ q fun w H1 z => z
theorem opd_mut {i : Nat} {ps : List E} {m : Mm} {es : List E} (Γ : Gm) : ev Φ (.mut i ps m es) .opd Γ = (ev Φ (.mut i ps m es) .val Γ).map (fin .opd) := by
  simp only [ev]
  split
  · cases evEs Φ ps Γ with
    | none => rfl
    | some q =>
      obtain ⟨pd, Γ1⟩ := q
      simp only [Option.bind_some]
      cases getS Γ1 i with
      | none => rfl
      | some x1 =>
        simp only [Option.bind_some]
        split
        · cases evEs Φ es Γ1 with
          | none => rfl
          | some q =>
            obtain ⟨ds, Γ2⟩ := q
            simp only [Option.bind_some]
            cases getS Γ2 i with
            | none => rfl
            | some x =>
              simp only [Option.bind_some]
              cases updQ (mmF m ds) pd x with
              | none => rfl
              | some y => rfl
        · rfl
  · split
    · cases evEs Φ ps Γ with
      | none => rfl
      | some q =>
        obtain ⟨pd, Γ1⟩ := q
        simp only [Option.bind_some]
        cases getS Γ1 i with
        | none => rfl
        | some x1 =>
          simp only [Option.bind_some]
          split
          · split
            · cases evEs Φ es (Γ1.set i (some (frz x1))) with
              | none => rfl
              | some q =>
                obtain ⟨ds, Γ2⟩ := q
                simp only [Option.bind_some]
                split
                · cases updQ (mmF m ds) pd x1 with
                  | none => rfl
                  | some y => rfl
                · rfl
            · cases evEs Φ es (Γ1.set i none) with
              | none => rfl
              | some q =>
                obtain ⟨ds, Γ2⟩ := q
                simp only [Option.bind_some]
                split
                · cases updQ (mmF m ds) pd x1 with
                  | none => rfl
                  | some y => rfl
                · rfl
          · rfl
    · rfl
/-- o[..] where what stands in the brackets draws -/
def rGet (K : PySem.W.Frag) : R2 := fun x y H Q => ∃ a vs i u, x = .ref a ∧ y = .int i ∧ H a = some (.lst vs) ∧ atI vs i = some u ∧ Q u H
theorem set_getS {Γ : Gm} {i : Nat} {x : D} (h : getS Γ i = some x) : Γ.set i (some x) = Γ := by
  have h := getS_eq h
  refine List.ext_getElem? fun j => ?_
  rw [List.getElem?_set]
  by_cases e : i = j
  · subst e
    rw [if_pos rfl, h, if_pos (List.getElem?_eq_some_iff.mp h).1]
  · rw [if_neg e]
theorem get_go {b : E} {K : PySem.W.Frag} {i : Nat} {σ : St} {H : Hp} {Q : VK} (h : WE Φ K (.mut i [] .getAt [b]) σ H Q) : tOp (rGet K) (tVar i) (WE Φ K b) σ H Q := by
  obtain ⟨fr, A, Γ, d, Γ', s, e, k⟩ := h
  simp only [ev] at e
  split at e
  · simp only [evEs, Option.bind_some] at e
    obtain ⟨x1, hx1, e⟩ := Option.bind_eq_some_iff.mp e
    split at e
    · rename_i hl
      obtain ⟨⟨ds, Γ2⟩, e2, e⟩ := Option.bind_eq_some_iff.mp e
      obtain ⟨x, hx, e⟩ := Option.bind_eq_some_iff.mp e
      obtain ⟨⟨r, x'⟩, up, e⟩ := Option.bind_eq_some_iff.mp e
      cases e
      obtain ⟨⟨y, Γ2'⟩, e3, e2⟩ := Option.bind_eq_some_iff.mp e2
      cases e2
      obtain ⟨v, B, C, hv, ho, _, _, _⟩ := s.sl.take (getS_eq hx1)
      refine ⟨v, hv, fr, A, Γ, y, _, s, e3, fun yv H2 fr2 A2 B2 p pc => ?_⟩
      obtain ⟨w, B', h1, h2, h3⟩ := p.s.sl.get (getS_eq hx)
      rw [hv] at h1
      cases h1
      match y, x, up, h2, p with
      | .int j, .lst true l, up, h2, p =>
        simp only [updQ, updP, mmF] at up
        obtain ⟨jx, hj, up⟩ := Option.bind_eq_some_iff.mp up
        obtain ⟨z, hz, up⟩ := Option.bind_eq_some_iff.mp up
        split at up
        · rename_i hu
          cases up
          unfold Ow at h2
          obtain ⟨a, vs, C', rfl, ha, ol, _, _⟩ := h2
          obtain ⟨u, Bu, g1, g2, g3⟩ := ol.at hz
          have eB : Bu = [] := g2.un _ _ _ hu
          subst eB
          obtain rfl := (VwL.one' (K := K) (a := .int j) ⟨B2, p.o⟩).elim fun y' hy => by
            obtain ⟨q1, q2⟩ := hy
            cases q1
            exact q2.int
          refine ⟨a, vs, j, u, rfl, rfl, ha, by show (ixD vs.length j).bind _ = _; rw [ol.len, hj]; exact g1, ?_⟩
          refine k u H2 fr2 A2 [] ⟨?_, OwL.one.mpr g2, by rw [List.append_nil]; exact (List.nodup_append.mp p.nd).1, (fun _ z => nomatch z), p.ex.less fun b hb => ?_⟩ (fun z => by cases z)
          · rw [set_getS hx]
            exact p.s
          · rw [List.append_nil] at hb
            exact List.mem_append_left _ hb
        · cases up
    · cases e
  · split at e
    · rename_i hp
      simp at hp
    · cases e
theorem ix_get {X : Cx} : IxR X (rGet X.K) := by
  intro value slice pins s σ H x y v u Q I rx ry h hs
  obtain ⟨a, vs, i, w, rfl, rfl, ha, hi, q⟩ := h
  exact ix_list value slice pins s σ H _ _ v u Q I rx ry ⟨a, vs, i, w, rfl, rfl, .of ha, hi, q⟩ hs
theorem getX_inv {m : Mm} {x z : Expr} {y : Str} (h : getX m x = some (y, z)) : m = .getAt ∧ ∃ p q, x = .Subscript (.Name y p) z q := by
  unfold getX at h
  split at h
  · cases h
    exact ⟨rfl, _, _, rfl⟩
  · cases h
theorem snd_mut0 {i : Nat} {m : Mm} {es : List E} (hs : SeL Φ es) : Se Φ (.mut i [] m es) := by
  refine ⟨ru_of opd_mut, fun c X x g h => ?_, noT fun c x => by cases x <;> rfl⟩
  simp only [chk] at h
  split at h
  · rename_i y yp args hm
    obtain ⟨apos, cpos, rfl, hl, hline, hng⟩ := mutX_inv hm
    rw [Bool.and_eq_true] at h
    have : PE X (.Call (.Attribute (.Name y yp) (mName m) apos) args [] cpos) (WE Φ X.K (.mut i [] m es)) := pe_mut hng h.2 hl hline (fun _ => rfl) (vis_of g h.1) (al_of g hs h.2).paE fun σ H Q R q f => mut_go0 q R f
    exact ⟨this, s_opd opd_mut this⟩
  · split at h
    · rename_i y z hg
      obtain ⟨rfl, p, q, rfl⟩ := getX_inv hg
      simp only [Bool.and_eq_true] at h
      match es, h, hs with
      | [e], h, hs =>
        have h3 : chk c e z = true := by
          have := h.2
          simp only [chks, Bool.and_eq_true] at this
          exact this.1.2
        have : PE X (.Subscript (.Name y p) z q) (WE Φ X.K (.mut i [] .getAt [e])) := pe_imp (pe_ix ix_get (vis_of g h.1.1) ((hs e List.mem_cons_self).2.1 c X z g h3).1 (plainIx h.1.2)) fun σ H Q q => get_go q
        exact ⟨this, s_opd opd_mut this⟩
      | [], h, _ => simp [chks] at h
      | _ :: _ :: _, h, _ => simp [chks] at h
    · cases h
theorem snd_mut1 {i : Nat} {m : Mm} {p : E} {es : List E} (hp : Se Φ p) (hs : SeL Φ es) : Se Φ (.mut i [p] m es) := by
  refine ⟨ru_of opd_mut, fun c X x g h => ?_, noT fun c x => by cases x <;> rfl⟩
  simp only [chk] at h
  split at h
  · rename_i y yp z zp args hm
    obtain ⟨apos, cpos, rfl, hl, hline, hng⟩ := mutX_inv hm
    simp only [Bool.and_eq_true] at h
    have : PE X (.Call (.Attribute (.Subscript (.Name y yp) z zp) (mName m) apos) args [] cpos) (WE Φ X.K (.mut i [p] m es)) :=
      pe_mut hng h.2 hl hline (fun _ => rfl) (pe_ix ix_in2 (vis_of g h.1.1.1) (hp.2.1 c X z g h.1.2).1 (plainIx h.1.1.2)) (al_of g hs h.2).paE fun σ H Q R q f => mut_go1 q R f
    exact ⟨this, s_opd opd_mut this⟩
  · cases h
end
end Sk

namespace Sk
open PySem PySem.Spec PyProof.Rows L2
section
variable {Φ : Tab} {X : Cx} {c : Cc}
theorem gd_blk (g : Gd Φ X c) (s : Shared) (H : Hp) (scope : Scope) (C : Addr) (cl : List (Str × Addr)) (fp : List Addr) : Gd Φ (X.blk s H scope (compEnvC scope cl C X.env) fp) (blkCc c scope) :=
  { N := g.N, nd := g.nd, sc := by show relS scope X.env.scope = relS scope c.sc; rw [g.sc], calm := g.calm, fn := fun x => rfl, bi := g.bi, hu := g.hu, fs := fun f hf => let ⟨np, n, φ, h1, ⟨h2⟩⟩ := g.fs f hf; ⟨np, n, φ, h1, ⟨h2⟩⟩ }
mutual
theorem g_of (g : Gd Φ X c) : ∀ (t : T) (x : Expr), chkG c t x = true → PG X x (WG X.K t)
  | .n i, x, h => by
    cases x with
    | Name y p =>
      simp only [chkG, locOk, Bool.and_eq_true, decide_eq_true_eq] at h
      obtain ⟨h1, h2⟩ := h
      refine g_name (pg_name g.nd (by rw [g.N]; exact h1) ?_ ?_)
      · unfold L2.Loc
        rw [g.sc]
        split at h2
        · exact .inl (by assumption)
        · exact .inr (by assumption)
        · cases h2
      · rw [g.sc, g.fn]
        split at h2
        · exact .inr (by assumption)
        · left
          revert h2
          cases c.blk with
          | none => intro _; rfl
          | some s => intro h; exact h
        · cases h2
    | _ => simp [chkG] at h
  | .t ts, x, h => by
    cases x with
    | Tuple xs k p =>
      simp only [chkG] at h
      obtain ⟨h1, h2, h3⟩ := gs_of g ts xs h
      exact g_tup g.calm h2 h3 h1
    | _ => simp [chkG] at h
theorem gs_of (g : Gd Φ X c) : ∀ (ts : List T) (xs : List Expr), chkGs c ts xs = true → PGs X xs (WGs X.K ts) ∧ xs.length = ts.length ∧ ∀ y ∈ assignEach xs X.env, y.1 = false
  | [], xs, h => by
    cases xs with
    | nil => exact ⟨g_nil, rfl, fun y hy => by cases hy⟩
    | cons _ _ => simp [chkGs] at h
  | t :: ts, xs, h => by
    cases xs with
    | nil => simp [chkGs] at h
    | cons x xs =>
      simp only [chkGs, Bool.and_eq_true] at h
      obtain ⟨h1, h2, h3⟩ := gs_of g ts xs h.2
      refine ⟨g_cons h.1.1 (g_of g t x h.1.2) h1, by rw [List.length_cons, List.length_cons, h2], fun y hy => ?_⟩
      have e : assignEach (x :: xs) X.env = (false, assign x X.env) :: assignEach xs X.env := by
        have := h.1.1
        cases x <;> first | rfl | cases this
      rw [e] at hy
      rcases List.mem_cons.mp hy with rfl | hy
      · rfl
      · exact h3 y hy
end
theorem len1 {c : Cc} {es : List E} {xs : List Expr} (h : chks c es xs = true) : es.length = xs.length := by
  induction xs generalizing es with
  | nil => cases es with
    | nil => rfl
    | cons _ _ => simp [chks] at h
  | cons x xs ih => cases es with
    | nil => simp [chks] at h
    | cons e es =>
      simp only [chks, Bool.and_eq_true] at h
      rw [List.length_cons, List.length_cons, ih h.2]
theorem i_of (g : Gd Φ X c) {k : Ik} {tg it : Expr} {src : List E} {xs : List Expr} (hx : itX c k tg it = some xs) (h : chks c src xs = true) (hs : SeL Φ src) : PI X tg it (WI Φ X.K k src) := by
  have al := al_of g hs h
  cases k with
  | val =>
    cases hx
    match src, h with
    | [e], h => exact i_val al.1.2.2.2
    | [], h => simp [chks] at h
    | _ :: _ :: _, h => simp [chks] at h
  | range =>
    simp only [itX] at hx
    split at hx
    · split at hx
      · rename_i hc
        cases hx
        simp only [Bool.and_eq_true, beq_iff_eq, Bool.or_eq_true] at hc
        obtain ⟨⟨rfl, hg⟩, hl⟩ := hc
        exact i_range g hg hl h al.paO
      · cases hx
    · cases hx
  | enum =>
    simp only [itX] at hx
    split at hx
    · split at hx
      · rename_i hc
        cases hx
        simp only [Bool.and_eq_true, beq_iff_eq] at hc
        obtain ⟨⟨rfl, hg⟩, ht⟩ := hc
        match src, h, al with
        | [e], h, al =>
          simp only [chks, Bool.and_eq_true] at h
          cases tg <;> first | exact i_enum g hg h.1.1 al.paO | cases ht
        | [], h, _ => simp [chks] at h
        | _ :: _ :: _, h, _ => simp [chks] at h
      · cases hx
    · cases hx
  | zip =>
    simp only [itX] at hx
    split at hx
    · split at hx
      · rename_i hc
        cases hx
        simp only [Bool.and_eq_true, beq_iff_eq] at hc
        obtain ⟨⟨rfl, hg⟩, ht⟩ := hc
        match src, h, al with
        | [e, e'], h, al =>
          simp only [chks, Bool.and_eq_true] at h
          cases tg <;> first | exact i_zip g hg h.1.1 h.2.1.1 al.paO | cases ht
        | [], h, _ => simp [chks] at h
        | [_], h, _ => simp [chks] at h
        | _ :: _ :: _ :: _, h, _ => simp [chks] at h
      · cases hx
    · split at hx
      · rename_i hc
        cases hx
        simp only [Bool.and_eq_true, beq_iff_eq] at hc
        obtain ⟨⟨rfl, hg⟩, ht⟩ := hc
        match src, h, al with
        | [e, e', e''], h, al =>
          simp only [chks, Bool.and_eq_true] at h
          cases tg <;> first | exact i_zip3 g hg h.1.1 h.2.1.1 h.2.2.1.1 al.paO | cases ht
        | [], h, _ => simp [chks] at h
        | [_], h, _ => simp [chks] at h
        | [_, _], h, _ => simp [chks] at h
        | _ :: _ :: _ :: _ :: _, h, _ => simp [chks] at h
      · cases hx
    · cases hx
  | rev =>
    simp only [itX] at hx
    split at hx
    · split at hx
      · rename_i hc
        cases hx
        simp only [Bool.and_eq_true, beq_iff_eq] at hc
        obtain ⟨rfl, hg⟩ := hc
        match src, h, al with
        | [e], h, al =>
          simp only [chks, Bool.and_eq_true] at h
          exact i_rev g hg h.1.1 al.paO
        | [], h, _ => simp [chks] at h
        | _ :: _ :: _, h, _ => simp [chks] at h
      · cases hx
    · cases hx
theorem c_of (g : Gd Φ X c) {cond : List E} {ifs : List Expr} (h : chkTs c cond ifs = true) (hl : cond.length ≤ 1) (hs : SeL Φ cond) : PTs X ifs (WC Φ X.K cond) := by
  match cond, ifs, h, hl with
  | [], [], _, _ => exact c_nil
  | [e], [x], h, _ =>
    simp only [chkTs, Bool.and_eq_true] at h
    exact c_one ((hs e (by simp)).2.2 c X x g h.1)
  | [], _ :: _, h, _ => simp [chkTs] at h
  | [_], [], h, _ => simp [chkTs] at h
  | [_], _ :: _ :: _, h, _ => simp [chkTs] at h
theorem fold_set {it : Expr} (h : notSet it = true) (env : Env) (x : Value) : foldedSetIterable it env x = pure x := by
  cases it <;> first | rfl | cases h
theorem own_map (c : Cc) (own : List Nat) : (ownP c own).map (·.2) = own := by
  unfold ownP
  rw [List.map_map]
  induction own with
  | nil => rfl
  | cons i r ih => rw [List.map_cons, ih]; rfl
theorem opd_comp {t : T} {k : Ik} {src cond : List E} {elt : E} {own : List Nat} (Γ : Gm) : ev Φ (.comp t k src cond elt own) .opd Γ = (ev Φ (.comp t k src cond elt own) .val Γ).map (fin .opd) := by
  simp only [ev]
  cases evOs Φ src Γ with
  | none => rfl
  | some q =>
    obtain ⟨ds, Γ1⟩ := q
    simp only [Option.bind_some]
    cases itF k ds with
    | none => rfl
    | some items =>
      simp only [Option.bind_some]
      split
      · generalize compL _ _ _ = z
        cases z with
        | none => rfl
        | some y =>
          obtain ⟨rs, Γ2⟩ := y
          simp only [Option.bind_some]
          split <;> rfl
      · rfl
theorem opd_comp2 {t t2 : T} {k k2 : Ik} {src cond src2 cond2 : List E} {elt : E} {own own2 : List Nat} (Γ : Gm) : ev Φ (.comp2 t k src cond t2 k2 src2 cond2 elt own own2) .opd Γ = (ev Φ (.comp2 t k src cond t2 k2 src2 cond2 elt own own2) .val Γ).map (fin .opd) := by
  simp only [ev]
  cases evOs Φ src Γ with
  | none => rfl
  | some q =>
    obtain ⟨ds, Γ1⟩ := q
    simp only [Option.bind_some]
    cases itF k ds with
    | none => rfl
    | some items =>
      simp only [Option.bind_some]
      split
      · generalize compL _ _ _ = z
        cases z with
        | none => rfl
        | some y =>
          obtain ⟨rs, Γ2⟩ := y
          simp only [Option.bind_some]
          split <;> rfl
      · rfl
theorem snd_comp {t : T} {k : Ik} {src cond : List E} {elt : E} {own : List Nat} (h1 : SeL Φ src) (h2 : SeL Φ cond) (h3 : Se Φ elt) : Se Φ (.comp t k src cond elt own) := by
  refine ⟨ru_of opd_comp, fun c X x g h => ?_, noT fun c x => by cases x <;> rfl⟩
  cases x with
  | ListComp y gens scope pos =>
    match gens, h with
    | [⟨tg, it, ifs, z⟩], h =>
      simp only [chk, Bool.and_eq_true, beq_iff_eq, decide_eq_true_eq] at h
      obtain ⟨⟨⟨⟨⟨⟨⟨rfl, hset⟩, hi⟩, hb⟩, hg⟩, ht⟩, hl⟩, he⟩ := h
      split at hi
      · rename_i xs hx
        have key : PE X (.ListComp y [⟨tg, it, ifs, 0⟩] scope pos) (WE Φ X.K (.comp t k src cond elt own)) := by
          refine pe_imp (pe_lc (g := WG X.K t) (tt := WC Φ X.K cond) (te := WE Φ X.K elt) g.calm g.nd (i_of g hx hi h1) (blkOk_by (by rw [g.N, g.sc]; exact hb)) (fun s H C cl fp => g_of (gd_blk g s H scope C cl fp) t tg hg) (fun s H C cl fp => c_of (gd_blk g s H scope C cl fp) ht hl h2) (fun s H C cl fp => (h3.2.1 _ _ y (gd_blk g s H scope C cl fp) he).1) (fold_set hset _)) fun σ H Q q => ?_
          rw [own_map]
          exact comp_go q
        exact ⟨key, s_opd opd_comp key⟩
      · cases hi
    | [], h => simp [chk] at h
    | _ :: _ :: _, h => simp [chk] at h
  | _ => simp [chk] at h
theorem snd_comp2 {t t2 : T} {k k2 : Ik} {src cond src2 cond2 : List E} {elt : E} {own own2 : List Nat} (h1 : SeL Φ src) (h2 : SeL Φ cond) (h4 : SeL Φ src2) (h5 : SeL Φ cond2) (h3 : Se Φ elt) : Se Φ (.comp2 t k src cond t2 k2 src2 cond2 elt own own2) := by
  refine ⟨ru_of opd_comp2, fun c X x g h => ?_, noT fun c x => by cases x <;> rfl⟩
  cases x with
  | ListComp y gens scope pos =>
    match gens, h with
    | [⟨tg, it, ifs, z⟩, ⟨tg2, it2, ifs2, z2⟩], h =>
      simp only [chk, Bool.and_eq_true, beq_iff_eq, decide_eq_true_eq] at h
      obtain ⟨⟨⟨⟨⟨⟨⟨⟨⟨⟨⟨⟨⟨⟨rfl, rfl⟩, hset⟩, hset2⟩, hi⟩, hb⟩, hown⟩, hg⟩, ht⟩, hl⟩, hi2⟩, hg2⟩, ht2⟩, hl2⟩, he⟩ := h
      split at hi
      · rename_i xs hx
        split at hi2
        · rename_i xs2 hx2
          have hsub : ∀ i ∈ own2, i ∈ (ownP c own).map (·.2) := fun i hi => by
            rw [own_map]
            rw [List.all_eq_true] at hown
            simpa using hown i hi
          have key : PE X (.ListComp y [⟨tg, it, ifs, 0⟩, ⟨tg2, it2, ifs2, 0⟩] scope pos) (WE Φ X.K (.comp2 t k src cond t2 k2 src2 cond2 elt own own2)) := by
            refine pe_imp (pe_lc2 (g := WG X.K t) (tt := WC Φ X.K cond) (wi1 := WI Φ X.K k2 src2) (g1 := WG X.K t2) (tt1 := WC Φ X.K cond2) (te := WE Φ X.K elt) g.calm g.nd (i_of g hx hi h1) (blkOk_by (by rw [g.N, g.sc]; exact hb)) hsub (fun s H C cl fp => g_of (gd_blk g s H scope C cl fp) t tg hg) (fun s H C cl fp => c_of (gd_blk g s H scope C cl fp) ht hl h2)
              (fun s H C cl fp => i_of (gd_blk g s H scope C cl fp) hx2 hi2 h4) (fun s H C cl fp => g_of (gd_blk g s H scope C cl fp) t2 tg2 hg2) (fun s H C cl fp => c_of (gd_blk g s H scope C cl fp) ht2 hl2 h5) (fun s H C cl fp => (h3.2.1 _ _ y (gd_blk g s H scope C cl fp) he).1) (fold_set hset _) (fold_set hset2)) fun σ H Q q => ?_
            rw [own_map]
            exact comp2_go q
          exact ⟨key, s_opd opd_comp2 key⟩
        · cases hi2
      · cases hi
    | [], h => simp [chk] at h
    | [_], h => simp [chk] at h
    | _ :: _ :: _ :: _, h => simp [chk] at h
  | _ => simp [chk] at h
end
/-! ### every expression -/
mutual
theorem sound (Φ : Tab) : ∀ e : E, Se Φ e
  | .int i => snd_int i
  | .bl b => snd_bl b
  | .non => snd_non
  | .str s => snd_str s
  | .loc i => snd_loc i
  | .auto i => snd_auto i
  | .mov i => snd_mov i
  | .tup es => snd_tup (soundL Φ es)
  | .lst es => snd_lst (soundL Φ es)
  | .idx a b => snd_idx (sound Φ a) (sound Φ b)
  | .pr p es => snd_pr (soundL Φ es)
  | .and_ es => snd_and (soundL Φ es)
  | .or_ es => snd_or (soundL Φ es)
  | .not_ a => snd_not (sound Φ a)
  | .ite c a b => snd_ite (sound Φ c) (sound Φ a) (sound Φ b)
  | .chain p q a b c => snd_chain (sound Φ a) (sound Φ b) (sound Φ c)
  | .call f es => snd_call (soundL Φ es)
  | .cio f io es => snd_cio (soundL Φ es)
  | .comp t k src cond elt own => snd_comp (soundL Φ src) (soundL Φ cond) (sound Φ elt)
  | .comp2 t k src cond t2 k2 src2 cond2 elt own own2 => snd_comp2 (soundL Φ src) (soundL Φ cond) (soundL Φ src2) (soundL Φ cond2) (sound Φ elt)
  | .mut i path m es => match path with
    | [] => snd_mut0 (soundL Φ es)
    | [p] => snd_mut1 (sound Φ p) (soundL Φ es)
    | _ :: _ :: _ => ⟨ru_of opd_mut, fun c X x g h => by simp [chk] at h, noT fun c x => by cases x <;> rfl⟩
theorem soundL (Φ : Tab) : ∀ es : List E, SeL Φ es
  | [] => fun _ h => nomatch h
  | e :: es => fun x h => by
    rcases List.mem_cons.mp h with z | z
    · rw [z]; exact sound Φ e
    · exact soundL Φ es x z
end
end Sk

namespace Sk
open PySem PySem.Spec PyProof.Rows L2
/-! ### statements: the look -/
def swapK (sc : Scope) (t : Str) (tl : Nat) (s : Scope) (vl : Nat) : Bool := (if sc.kind.isAnnotationScope then ScopeKind.function else sc.kind) == .function && sc.names.lookup t == some .local && tl == vl && !(s.names.any fun (n, k) => n == t && (k == .local || k == .cell))
def swB (sc : Scope) (t : Str) (tl : Nat) : Expr → Bool
  | .ListComp _ _ s p => swapK sc t tl s p.line
  | .SetComp _ _ s p => swapK sc t tl s p.line
  | .DictComp _ _ _ s p => swapK sc t tl s p.line
  | _ => false
def notComp : Expr → Bool
  | .ListComp _ _ _ _ => false | .SetComp _ _ _ _ => false | .DictComp _ _ _ _ _ => false | _ => true
def isLC : Expr → Bool
  | .ListComp _ _ _ _ => true | _ => false
def isPr : E → Bool
  | .pr _ _ => true | _ => false
def allFold : Expr → Bool
  | .Tuple vs _ _ => vs.all (foldedForSure 8)
  | _ => true
/-- x, y = a, b: stored from the right -/
def parOk (sc : Scope) (x y : Str) (px py : Pos) (a b : Expr) : Bool :=
  sc.kind == .function && sc.names.lookup x == some .local && sc.names.lookup y == some .local && px.line == py.line && !(x == y) && notStar a && notStar b && !([a, b].all (foldedForSure 8)) && !([a, b].all (constantsAlone 8))
def par3Ok (sc : Scope) (x y z : Str) (px py pz : Pos) (a b d : Expr) : Bool :=
  sc.kind == .function && sc.names.lookup x == some .local && sc.names.lookup y == some .local && sc.names.lookup z == some .local && px.line == py.line && px.line == pz.line && !(x == y) && !(x == z) && !(y == z) && notStar a && notStar b && notStar d && !([a, b, d].all (foldedForSure 8)) && !([a, b, d].all (constantsAlone 8))
def augP : Operator → Option Pr
  | .Add => some .add | .Sub => some .sub | _ => none
def chkAsg (c : Cc) (e : E) : T → List Expr → Expr → Bool
  | .n i, [.Name y p], x => locOk c i y && chk c e x && (!(swB c.sc y p.line x) || (isLC x && !isPr e))
  | .t ts, [.Tuple xs _ _], x => chkGs c ts xs && chk c e x && allFold x
  | _, _, _ => false
def chkPar (c : Cc) (i j : Nat) (a b : E) : List Expr → Expr → Bool
  | [.Tuple [.Name x px, .Name y py] _ _], .Tuple [u, v] _ _ => decide (c.N[i]? = some x) && decide (c.N[j]? = some y) && !(i == j) && chk c a u && chk c b v && parOk c.sc x y px py u v
  | _, _ => false
def chkPar3 (c : Cc) (i j l : Nat) (a b d : E) : List Expr → Expr → Bool
  | [.Tuple [.Name x px, .Name y py, .Name z pz] _ _], .Tuple [u, v, w] _ _ => decide (c.N[i]? = some x) && decide (c.N[j]? = some y) && decide (c.N[l]? = some z) && !(i == j) && !(i == l) && !(j == l) && chk c a u && chk c b v && chk c d w && par3Ok c.sc x y z px py pz u v w
  | _, _ => false
def chkAug (c : Cc) (i : Nat) (p : Pr) (e : E) : Expr → Operator → Expr → Bool
  | .Name x _, op, y => locOk c i x && decide (augP op = some p) && chk c e y
  | _, _, _ => false
def chkSet (c : Cc) (i : Nat) (k e : E) : List E → List Expr → Expr → Bool
  | [], [.Subscript (.Name x _) z _], y => visOk c i x && notSlice z && chk c k z && chk c e y
  | [p], [.Subscript (.Subscript (.Name x _) w _) z _], y => visOk c i x && notSlice w && notSlice z && chk c p w && chk c k z && chk c e y
  | _, _, _ => false
def chkAugS (c : Cc) (i : Nat) (k : E) (p : Pr) (e : E) : List E → Expr → Operator → Expr → Bool
  | [], .Subscript (.Name x _) z _, op, y => visOk c i x && notSlice z && chk c k z && decide (augP op = some p) && chk c e y
  | _, _, _, _ => false
def chkRet (c : Cc) (e : E) : Option Expr → Bool
  | some x => chk c e x
  | none => false
def isDoc : Expr → Bool
  | .Constant (.str _) _ _ => true | _ => false
def chkExt (c : Cc) (i j : Nat) (x : Expr) : Bool := match mutX .extend x with | some (.Name y _, [.Name z _]) => visOk c i y && visOk c j z | _ => false
mutual
def chkS (c : Cc) : Sm → Stmt → Bool
  | .asg t e, .Assign tgs x _ => chkAsg c e t tgs x
  | .par i j a b, .Assign tgs x _ => chkPar c i j a b tgs x
  | .par3 i j l a b d, .Assign tgs x _ => chkPar3 c i j l a b d tgs x
  | .set i path k e, .Assign tgs x _ => chkSet c i k e path tgs x
  | .aug i p e, .AugAssign t op y _ => chkAug c i p e t op y
  | .augset i path k p e, .AugAssign t op y _ => chkAugS c i k p e path t op y
  | .ex e, .Expr x _ => notComp x && chk c e x
  | .ext i j, .Expr x _ => chkExt c i j x
  | .iff t a b, .If x u v _ => chkT c t x && chkSs c a u && chkSs c b v
  | .for_ t k src body, .For tg it u o _ => o.isEmpty && notSet it && (match itX c k tg it with | some xs => chks c src xs | none => false) && chkG c t tg && chkSs c body u
  | .whl n t body, .While x u o _ => o.isEmpty && chkT c t x && chkSs c body u
  | .ret e, .Return x _ => chkRet c e x
  | .retN, .Return x _ => x.isNone
  | .brk, .Break _ => true
  | .cont, .Continue _ => true
  | .pass, .Pass _ => true
  | .pass, .Expr x _ => isDoc x
  | .dead, _ => true
  | _, _ => false
def chkSs (c : Cc) : List Sm → List Stmt → Bool
  | .dead :: _, _ => true
  | [], [] => true
  | s :: ss, x :: xs => chkS c s x && chkSs c ss xs
  | _, _ => false
end
/-! ### readings -/
def Frm (f : Nat → Bool) (σ σ' : St) : Prop := ∀ i, f i = false → σ'[i]? = σ[i]?
def FinS (K : PySem.W.Frag) (f : Nat → Bool) (fr : Addr → Prop) (A : List Addr) (H : Hp) (σ : St) (D : Ends) : R → Prop
  | .nx Γ' => ∀ σ' H' fr' A', S K fr' A' Γ' σ' H' → Ext A fr H A' fr' H' → Frm f σ σ' → D.nx σ' H'
  | .bk Γ' => ∀ σ' H' fr' A', S K fr' A' Γ' σ' H' → Ext A fr H A' fr' H' → Frm f σ σ' → D.bk σ' H'
  | .ct Γ' => ∀ σ' H' fr' A', S K fr' A' Γ' σ' H' → Ext A fr H A' fr' H' → Frm f σ σ' → D.ct σ' H'
  | .rt d Γ' => ∀ v σ' H' fr' A' B, Po K fr A H Γ' σ' [d] [v] fr' A' B H' → Frm f σ σ' → D.rt v H'
def WS (Φ : Tab) (K : PySem.W.Frag) (s : Sm) : TS := fun D σ H => ∃ fr A Γ R, S K fr A Γ σ H ∧ evS Φ s Γ = some R ∧ FinS K (fun i => aS i s) fr A H σ D R
def WSs (Φ : Tab) (K : PySem.W.Frag) (ss : List Sm) : TS := fun D σ H => ∃ fr A Γ R, S K fr A Γ σ H ∧ evSs Φ ss Γ = some R ∧ FinS K (fun i => aSL i ss) fr A H σ D R
section
variable {K : PySem.W.Frag} {f f' : Nat → Bool} {fr fr1 : Addr → Prop} {A A1 : List Addr} {H H1 : Hp} {σ σ1 : St} {De : Ends} {R : R}
theorem Frm.refl : Frm f σ σ := fun _ _ => rfl
theorem Po.pre {fr2 : Addr → Prop} {A2 B2 : List Addr} {H2 : Hp} {Γ2 : Gm} {σ2 : St} {ds : List D} {vs : List V} (e : Ext A fr H A1 fr1 H1) (p : Po K fr1 A1 H1 Γ2 σ2 ds vs fr2 A2 B2 H2) : Po K fr A H Γ2 σ2 ds vs fr2 A2 B2 H2 := ⟨p.s, p.o, p.nd, p.dj, e.trans p.ex⟩
theorem FinS.pre (h : FinS K f fr A H σ De R) (e : Ext A fr H A1 fr1 H1) (q : Frm f σ σ1) : FinS K f fr1 A1 H1 σ1 De R := by
  cases R with
  | nx Γ' => exact fun σ' H' fr' A' s e' q' => h σ' H' fr' A' s (e.trans e') fun i hi => (q' i hi).trans (q i hi)
  | bk Γ' => exact fun σ' H' fr' A' s e' q' => h σ' H' fr' A' s (e.trans e') fun i hi => (q' i hi).trans (q i hi)
  | ct Γ' => exact fun σ' H' fr' A' s e' q' => h σ' H' fr' A' s (e.trans e') fun i hi => (q' i hi).trans (q i hi)
  | rt d Γ' => exact fun v σ' H' fr' A' B p q' => h v σ' H' fr' A' B (p.pre e) fun i hi => (q' i hi).trans (q i hi)
theorem FinS.sub (h : FinS K f fr A H σ De R) (g : ∀ i, f i = false → f' i = false) : FinS K f' fr A H σ De R := by
  cases R with
  | nx Γ' => exact fun σ' H' fr' A' s e' q' => h σ' H' fr' A' s e' fun i hi => q' i (g i hi)
  | bk Γ' => exact fun σ' H' fr' A' s e' q' => h σ' H' fr' A' s e' fun i hi => q' i (g i hi)
  | ct Γ' => exact fun σ' H' fr' A' s e' q' => h σ' H' fr' A' s e' fun i hi => q' i (g i hi)
  | rt d Γ' => exact fun v σ' H' fr' A' B p q' => h v σ' H' fr' A' B p fun i hi => q' i (g i hi)
theorem ps_imp {X : Cx} {x : Stmt} {t t' : TS} (h : PS X x t) (g : ∀ D σ H, t' D σ H → t D σ H) : PS X x t' := ⟨fun pins s σ H D I q => h.run pins s σ H D I (g D σ H q)⟩
theorem pss_imp {X : Cx} {x : List Stmt} {t t' : TS} (h : PSs X x t) (g : ∀ D σ H, t' D σ H → t D σ H) : PSs X x t' := ⟨fun pins s σ H D I q => h.run pins s σ H D I (g D σ H q)⟩
end
/-! ### what swaps -/
theorem sw_name (env : Env) (t : Str) (p : Pos) (line : Nat) (x : Expr) : swapsWithSole [.Name t p] x line env = pure (swB env.scope t p.line x) := by
  cases x <;> rfl
theorem sw_tup0 (env : Env) (ts : List Expr) (k : Nat) (p : Pos) (line : Nat) (x : Expr) : swapsWithSole [.Tuple ts k p] x line env = pure false := by
  cases x <;> rfl
theorem sw_sub (env : Env) (a b : Expr) (p : Pos) (line : Nat) (x : Expr) : swapsWithSole [.Subscript a b p] x line env = pure false := by
  cases x <;> rfl
theorem sw_none (env : Env) (line : Nat) {x : Expr} (h : notComp x = true) : swapsWith x none line env = pure false := by
  cases x <;> first | rfl | cases h
theorem st_name (env : Env) (t : Str) (p : Pos) (x : Expr) : swappedStores [.Name t p] x env = pure none := by
  cases x <;> rfl
theorem st_sub (env : Env) (a b : Expr) (p : Pos) (x : Expr) : swappedStores [.Subscript a b p] x env = pure none := by
  cases x <;> rfl
theorem st_tup (env : Env) (ts : List Expr) (k : Nat) (p : Pos) {x : Expr} (h : allFold x = true) : swappedStores [.Tuple ts k p] x env = pure none := by
  cases x <;> first | rfl | skip
  rename_i vs k2 p2
  unfold allFold at h
  unfold swappedStores
  simp only [h]
  split
  · rfl
  · split
    · rfl
    · split <;> rfl
theorem st_par (env : Env) {x y : Str} {px py pt pt2 : Pos} {kt k2 : Nat} {a b : Expr} (h : parOk env.scope x y px py a b = true) : swappedStores [.Tuple [.Name x px, .Name y py] kt pt] (.Tuple [a, b] k2 pt2) env = pure (some [x, y]) := by
  unfold parOk at h
  simp only [Bool.and_eq_true, Bool.not_eq_true', beq_iff_eq] at h
  obtain ⟨⟨⟨⟨⟨⟨⟨⟨h1, h2⟩, h3⟩, h4⟩, h5⟩, h6⟩, h7⟩, h8⟩, h9⟩ := h
  have hk : env.blockKind = .function := by unfold Env.blockKind; rw [h1]; rfl
  have k1 : env.kindOf x = some .local := h2
  have k3 : env.kindOf y = some .local := h3
  have n1 : ∀ {z : Expr}, notStar z = true → ∀ v p, z ≠ .Starred v p := fun {z} hz v p e => by subst e; cases hz
  unfold swappedStores
  simp only [List.length_cons, List.length_nil, hk]
  split
  · rename_i hc; exact absurd hc (by decide)
  · split
    · rename_i hc
      exfalso
      simp only [List.any_cons, List.any_nil, Bool.or_false, Bool.or_eq_true] at hc
      rcases hc with hc | hc
      · split at hc
        · exact n1 h6 _ _ rfl
        · cases hc
      · split at hc
        · exact n1 h7 _ _ rfl
        · cases hc
    · simp [Expr.pos, k1, k3, h4, h5, h8, h9, List.eraseDups_cons]
      intro hn
      have h5' : (y == x) = false := by rw [beq_eq_false_iff_ne] at h5 ⊢; exact Ne.symm h5
      exact absurd (by simp [List.filter, h5', List.eraseDups_cons]) hn
theorem st_par3 (env : Env) {x y z : Str} {px py pz pt pt2 : Pos} {kt k2 : Nat} {a b d : Expr} (h : par3Ok env.scope x y z px py pz a b d = true) : swappedStores [.Tuple [.Name x px, .Name y py, .Name z pz] kt pt] (.Tuple [a, b, d] k2 pt2) env = pure (some [x, y, z]) := by
  unfold par3Ok at h
  simp only [Bool.and_eq_true, Bool.not_eq_true', beq_iff_eq] at h
  obtain ⟨⟨⟨⟨⟨⟨⟨⟨⟨⟨⟨⟨⟨h1, h2⟩, h3⟩, h3b⟩, h4⟩, h4b⟩, h5⟩, h5b⟩, h5c⟩, h6⟩, h7⟩, h7b⟩, h8⟩, h9⟩ := h
  have hk : env.blockKind = .function := by unfold Env.blockKind; rw [h1]; rfl
  have k1 : env.kindOf x = some .local := h2
  have k3 : env.kindOf y = some .local := h3
  have k4 : env.kindOf z = some .local := h3b
  have n1 : ∀ {z : Expr}, notStar z = true → ∀ v p, z ≠ .Starred v p := fun {z} hz v p e => by subst e; cases hz
  unfold swappedStores
  simp only [List.length_cons, List.length_nil, hk]
  split
  · rename_i hc; exact absurd hc (by decide)
  · split
    · rename_i hc
      exfalso
      simp only [List.any_cons, List.any_nil, Bool.or_false, Bool.or_eq_true] at hc
      rcases hc with hc | hc | hc
      · split at hc
        · exact n1 h6 _ _ rfl
        · cases hc
      · split at hc
        · exact n1 h7 _ _ rfl
        · cases hc
      · split at hc
        · exact n1 h7b _ _ rfl
        · cases hc
    · simp [Expr.pos, k1, k3, k4, ← h4, ← h4b, h8, h9]
      intro hn
      have e1 : (y == x) = false := by rw [beq_eq_false_iff_ne] at h5 ⊢; exact Ne.symm h5
      have e2 : (z == x) = false := by rw [beq_eq_false_iff_ne] at h5b ⊢; exact Ne.symm h5b
      have e3 : (z == y) = false := by rw [beq_eq_false_iff_ne] at h5c ⊢; exact Ne.symm h5c
      exact absurd (by simp [List.eraseDups_cons, List.filter, e1, e2, e3]) hn
end Sk

namespace Sk
open PySem PySem.Spec PyProof.Rows L2
section
variable {K : PySem.W.Frag}
/-- an item put in another's place -/
theorem OwL.put {fr : Addr → Prop} {H : Hp} : ∀ {ds : List D} {vs : List V} {B : List Addr} {j : Nat}, OwL K fr H ds vs B → j < ds.length → ∃ Bt R, B.Perm (Bt ++ R) ∧
    ∀ (fr' : Addr → Prop) (H' : Hp) (d' : D) (v' : V) (Bt' : List Addr), (∀ b, fr b → fr' b) → (∀ b x, (fr b ∨ b ∈ R) → H b = some x → H' b = some x) → Ow K fr' H' d' v' Bt' → ∃ B', B'.Perm (Bt' ++ R) ∧ OwL K fr' H' (ds.set j d') (vs.set j v') B'
  | [], vs, B, j, h, e => by simp at e
  | x :: ds, vs, B, j, h, e => by
    obtain ⟨w, us, B1, C, rfl, h1, h2, rfl⟩ := h.cons_inv
    cases j with
    | zero =>
      refine ⟨B1, C, List.Perm.refl _, fun fr' H' d' v' Bt' hf hH o => ?_⟩
      exact ⟨Bt' ++ C, List.Perm.refl _, OwL.cons o (h2.mono hf _ _ _ hH)⟩
    | succ j =>
      obtain ⟨Bt, R, g3, g4⟩ := OwL.put (j := j) h2 (by simpa using e)
      refine ⟨Bt, B1 ++ R, ?_, fun fr' H' d' v' Bt' hf hH o => ?_⟩
      · refine ((List.Perm.refl B1).append g3).trans ?_
        rw [← List.append_assoc, ← List.append_assoc]
        exact List.perm_append_comm.append (List.Perm.refl R)
      · obtain ⟨B', p, q⟩ := g4 fr' H' d' v' Bt' hf (fun b x hb => hH b x (hb.imp id (List.mem_append_right _))) o
        refine ⟨B1 ++ B', ?_, OwL.cons (h1.mono hf _ _ _ fun b x hb => hH b x (hb.imp id (List.mem_append_left _))) q⟩
        refine ((List.Perm.refl B1).append p).trans ?_
        rw [← List.append_assoc, ← List.append_assoc]
        exact List.perm_append_comm.append (List.Perm.refl R)
/-- w[j] = y, as wished behind a change -/
theorem set_end {fr fr2 : Addr → Prop} {A A2 B2 : List Addr} {H H2 : Hp} {Γ2 : Gm} {σ : St} {d kd x x' r : D} {y v w : V} {i : Nat} {ps : List D} (p : Po K fr A H Γ2 σ [d] [y] fr2 A2 B2 H2) (hx : getS Γ2 i = some x) (up : updP (setF kd d) ps x = some (r, x')) (hv : σ[i]? = some (some v)) (al : Along H2 ps v w) :
    ∃ a xs k j, w = .ref a ∧ kd = .int k ∧ H2 a = some (.lst xs) ∧ ixN xs.length k = some j ∧ ∃ A', S K fr2 A' (Γ2.set i (some x')) σ (upd H2 a (.lst (xs.set j y))) ∧ Ext A fr H A' fr2 (upd H2 a (.lst (xs.set j y))) := by
  obtain ⟨v', w', t, t', Bt, e1, al', ft, ot, tA, nt, go⟩ := p.s.change hx up
  rw [hv] at e1
  cases e1
  have := al.fun_ al'
  subst this
  obtain ⟨k, l, rfl, rfl⟩ : ∃ k l, kd = .int k ∧ t = .lst true l := by
    unfold setF at ft
    split at ft
    · split at ft
      · exact ⟨_, _, rfl, rfl⟩
      · cases ft
    · cases ft
  obtain ⟨j, hj, e⟩ := Option.map_eq_some_iff.mp (show (ixD l.length k).map (fun j => (D.non, D.lst true (l.set j d))) = some (r, t') from ft)
  cases e
  have od := OwL.one.mp p.o
  unfold Ow at ot
  obtain ⟨a, zs, C, rfl, ha, ol, _, h1⟩ := ot
  have eB := h1 rfl
  subst eB
  have aC : a ∉ C := (List.nodup_cons.mp nt).1
  have aA : a ∈ A2 := tA a List.mem_cons_self
  have aB : a ∉ B2 := fun z => disj_of p.nd aA z
  have af : ¬ fr2 a := p.s.dj a aA
  obtain ⟨Bo, Ro, pr, put⟩ := ol.put (ixD_lt hj)
  have mC : ∀ b, b ∈ C ↔ b ∈ Bo ∨ b ∈ Ro := fun b => by rw [pr.mem_iff, List.mem_append]
  have aR : a ∉ Ro := fun z => aC ((mC a).mpr (.inr z))
  have nC := nodup_perm_append pr (List.nodup_cons.mp nt).2
  obtain ⟨C', pC', oC'⟩ := put fr2 (upd H2 a (.lst (zs.set j y))) d y B2 (fun _ z => z) (fun b x hb q => by
    rw [upd_ne]
    · exact q
    · rintro rfl
      exact hb.elim af aR) (OwL.one.mp ((OwL.one.mpr od).other aB af))
  have mC' : ∀ b, b ∈ C' ↔ b ∈ B2 ∨ b ∈ Ro := fun b => by rw [pC'.mem_iff, List.mem_append]
  have sub : ∀ b ∈ a :: C', b ∈ a :: C ∨ b ∈ B2 := fun b hb => by
    rcases List.mem_cons.mp hb with z | z
    · exact .inl (z ▸ List.mem_cons_self)
    · rcases (mC' b).mp z with z | z
      · exact .inr z
      · exact .inl (List.mem_cons_of_mem _ ((mC b).mpr (.inr z)))
  have nd' : (a :: C').Nodup := by
    refine List.nodup_cons.mpr ⟨fun z => ((mC' a).mp z).elim aB aR, pC'.nodup_iff.mpr (List.nodup_append.mpr ⟨(List.nodup_append.mp p.nd).2.1, (List.nodup_append.mp nC).2.1, fun x hx y hy e => ?_⟩)⟩
    subst e
    exact disj_of p.nd (tA x (List.mem_cons_of_mem _ ((mC x).mpr (.inr hy)))) hx
  obtain ⟨A', s', mem⟩ := go a (.lst (zs.set j y)) (a :: C') List.mem_cons_self (by
    unfold Ow
    exact ⟨a, zs.set j y, C', rfl, upd_same, oC', (fun z => by cases z), fun _ => rfl⟩) nd' (fun b hb => (sub b hb).elim (fun z => p.s.dj b (tA b z)) (p.dj b)) fun b hb => (sub b hb).imp id fun z hA => disj_of p.nd hA z
  have pe := mut_end p s' mem List.mem_cons_self tA sub (r := .non) (rv := .non) (Br := []) (by unfold Ow; exact ⟨rfl, rfl⟩) (fun _ z => nomatch z) List.nodup_nil fun _ z => nomatch z
  refine ⟨a, zs, k, j, rfl, rfl, ha, ?_, A', s', pe.ex.less fun b hb => List.mem_append_left _ hb⟩
  show ixD zs.length k = some j
  rw [ol.len]; exact hj
end
end Sk

namespace Sk
open PySem PySem.Spec PyProof.Rows L2
section
variable {Φ : Tab} {X : Cx} {c : Cc}
/-! ### name = value -/
theorem asg_go {K : PySem.W.Frag} {t : T} {e : E} {De : Ends} {σ : St} {H : Hp} (q : WS Φ K (.asg t e) De σ H) : tAsg (WE Φ K e) (WG K t) De σ H := by
  obtain ⟨fr, A, Γ, R, s, e1, fin⟩ := q
  simp only [evS, evE] at e1
  obtain ⟨⟨d, Γ1⟩, e2, e3⟩ := Option.bind_eq_some_iff.mp e1
  obtain ⟨Γ2, e4, rfl⟩ := Option.map_eq_some_iff.mp e3
  refine ⟨fr, A, Γ, d, Γ1, s, e2, fun v H1 fr1 A1 B1 p pc => ⟨fr1, A1, Γ1, d, B1, Γ2, p.s, OwL.one.mp p.o, p.nd, p.dj, e4, fun σ' A' s' sub hf => ?_⟩⟩
  exact fin σ' H1 fr1 A' s' (p.ex.less fun b hb => List.mem_append.mpr (sub b hb)) fun i hi => hf i (by simpa only [aS] using hi)
theorem asg_name {i : Nat} {e : E} {De : Ends} {σ : St} {H : Hp} {K : PySem.W.Frag} (q : WS Φ K (.asg (.n i) e) De σ H) : WE Φ K e σ H fun x H1 => gName i x σ H1 De.nx := by
  obtain ⟨fr, A, Γ, R, s, e1, fin⟩ := q
  simp only [evS, evE] at e1
  obtain ⟨⟨d, Γ1⟩, e2, e3⟩ := Option.bind_eq_some_iff.mp e1
  obtain ⟨Γ2, e4, rfl⟩ := Option.map_eq_some_iff.mp e3
  simp only [asgT] at e4
  split at e4
  · rename_i hi
    cases e4
    refine ⟨fr, A, Γ, d, Γ1, s, e2, fun v H1 fr1 A1 B1 p pc => ?_⟩
    obtain ⟨A', s', sub⟩ := p.s.store (OwL.one.mp p.o) p.nd p.dj hi
    refine fin _ H1 fr1 A' s' (p.ex.less fun b hb => List.mem_append.mpr (sub b hb)) fun j hj => ?_
    simp only [aS, aT, beq_eq_false_iff_ne] at hj
    rw [List.getElem?_set_ne (Ne.symm hj)]
  · cases e4
theorem loc_of (g : Gd Φ X c) {i : Nat} {x : Str} (h : locOk c i x = true) : X.N[i]? = some x ∧ L2.Loc X.env.scope x ∧ (X.fn x = true ∨ X.env.scope.names.lookup x = some .local) := by
  simp only [locOk, Bool.and_eq_true, decide_eq_true_eq] at h
  obtain ⟨h1, h2⟩ := h
  refine ⟨by rw [g.N]; exact h1, ?_, ?_⟩
  · unfold L2.Loc
    rw [g.sc]
    split at h2
    · exact .inl (by assumption)
    · exact .inr (by assumption)
    · cases h2
  · rw [g.sc, g.fn]
    split at h2
    · exact .inr (by assumption)
    · left
      revert h2
      cases c.blk with
      | none => intro _; rfl
      | some s => intro h; exact h
    · cases h2
theorem st_asg {i : Nat} {e : E} {y : Str} {p q : Pos} {x : Expr} (g : Gd Φ X c) (h : chkS c (.asg (.n i) e) (.Assign [.Name y p] x q) = true) : PS X (.Assign [.Name y p] x q) (WS Φ X.K (.asg (.n i) e)) := by
  simp only [chkS, chkAsg, chkPar, chkAug, chkSet, Bool.and_eq_true, Bool.or_eq_true, Bool.not_eq_true'] at h
  obtain ⟨⟨h1, h2⟩, h3⟩ := h
  have he := ((sound Φ e).2.1 c X x g h2).1
  by_cases hsw : swB c.sc y p.line x = false
  · refine ps_imp (ps_asg he (g_of g (.n i) (.Name y p) (by simpa only [chkG] using h1)) (by rw [sw_name, g.sc, hsw]) (st_name _ _ _ _) rfl) fun D σ H q => asg_go q
  · obtain ⟨hlc, hnp⟩ := h3.resolve_left hsw
    obtain ⟨l1, l2, l3⟩ := loc_of g h1
    have hsw' : swB c.sc y p.line x = true := by simpa using hsw
    cases x with
    | ListComp elt gens scope pos =>
      have hw : swapsWith (.ListComp elt gens scope pos) (some (.Name y p)) q.line X.env = pure true := by
        have := sw_name X.env y p q.line (.ListComp elt gens scope pos)
        rw [g.sc, hsw'] at this
        exact this
      have hyl : X.env.scope.names.lookup y = some .local := by
        rw [g.sc]
        simp only [swB, swapK, Bool.and_eq_true, beq_iff_eq] at hsw'
        exact hsw'.1.1.2
      cases e with
      | comp t k src cond elt' own =>
        match gens, h2, hw with
        | [⟨tg, it, ifs, z⟩], h2, hw =>
          simp only [chk, Bool.and_eq_true, beq_iff_eq, decide_eq_true_eq] at h2
          obtain ⟨⟨⟨⟨⟨⟨⟨rfl, hset⟩, hi⟩, hb⟩, hg⟩, ht⟩, hl⟩, hel⟩ := h2
          split at hi
          · rename_i xs hx
            refine ps_imp (ps_setLc (g := WG X.K t) (tt := WC Φ X.K cond) (te := WE Φ X.K elt') g.calm g.nd l1 hyl hw (i_of g hx hi (soundL Φ src)) (blkOk_by (by rw [g.N, g.sc]; exact hb)) (fun s H C cl fp => g_of (gd_blk g s H scope C cl fp) t tg hg) (fun s H C cl fp => c_of (gd_blk g s H scope C cl fp) ht hl (soundL Φ cond)) (fun s H C cl fp => ((sound Φ elt').2.1 _ _ _ (gd_blk g s H scope C cl fp) hel).1) (fold_set hset _)) fun D σ H q => ?_
            rw [own_map]
            exact comp_go (asg_name q)
          · cases hi
        | [], h2, _ => simp [chk] at h2
        | _ :: _ :: _, h2, _ => simp [chk] at h2
      | comp2 t k src cond t2 k2 src2 cond2 elt' own own2 =>
        match gens, h2, hw with
        | [⟨tg, it, ifs, z⟩, ⟨tg2, it2, ifs2, z2⟩], h2, hw =>
          simp only [chk, Bool.and_eq_true, beq_iff_eq, decide_eq_true_eq] at h2
          obtain ⟨⟨⟨⟨⟨⟨⟨⟨⟨⟨⟨⟨⟨⟨rfl, rfl⟩, hset⟩, hset2⟩, hi⟩, hb⟩, hown⟩, hg⟩, ht⟩, hl⟩, hi2⟩, hg2⟩, ht2⟩, hl2⟩, hel⟩ := h2
          split at hi
          · rename_i xs hx
            split at hi2
            · rename_i xs2 hx2
              have hsub : ∀ i ∈ own2, i ∈ (ownP c own).map (·.2) := fun i hi => by
                rw [own_map]
                rw [List.all_eq_true] at hown
                simpa using hown i hi
              refine ps_imp (ps_setLc2 (g := WG X.K t) (tt := WC Φ X.K cond) (wi1 := WI Φ X.K k2 src2) (g1 := WG X.K t2) (tt1 := WC Φ X.K cond2) (te := WE Φ X.K elt') g.calm g.nd l1 hyl hw (i_of g hx hi (soundL Φ src)) (blkOk_by (by rw [g.N, g.sc]; exact hb)) hsub (fun s H C cl fp => g_of (gd_blk g s H scope C cl fp) t tg hg) (fun s H C cl fp => c_of (gd_blk g s H scope C cl fp) ht hl (soundL Φ cond))
                (fun s H C cl fp => i_of (gd_blk g s H scope C cl fp) hx2 hi2 (soundL Φ src2)) (fun s H C cl fp => g_of (gd_blk g s H scope C cl fp) t2 tg2 hg2) (fun s H C cl fp => c_of (gd_blk g s H scope C cl fp) ht2 hl2 (soundL Φ cond2)) (fun s H C cl fp => ((sound Φ elt').2.1 _ _ _ (gd_blk g s H scope C cl fp) hel).1) (fold_set hset _) (fold_set hset2)) fun D σ H q => ?_
              rw [own_map]
              exact comp2_go (asg_name q)
            · cases hi2
          · cases hi
        | [], h2, _ => simp [chk] at h2
        | [_], h2, _ => simp [chk] at h2
        | _ :: _ :: _ :: _, h2, _ => simp [chk] at h2
      | pr p es => simp [isPr] at hnp
      | call f es => simp [chk, callX, cstX] at h2
      | cio f io es => simp [chk, callX] at h2
      | «mut» i ps m es => match ps with
        | [] => cases m <;> simp [chk, mutX, getX] at h2
        | [_] => simp [chk, mutX] at h2
        | _ :: _ :: _ => simp [chk] at h2
      | _ => simp [chk] at h2
    | _ => cases hlc
theorem st_asgT {ts : List T} {e : E} {xs : List Expr} {k : Nat} {p q : Pos} {x : Expr} (g : Gd Φ X c) (h : chkS c (.asg (.t ts) e) (.Assign [.Tuple xs k p] x q) = true) : PS X (.Assign [.Tuple xs k p] x q) (WS Φ X.K (.asg (.t ts) e)) := by
  simp only [chkS, chkAsg, chkPar, chkAug, chkSet, Bool.and_eq_true] at h
  obtain ⟨⟨h1, h2⟩, h3⟩ := h
  refine ps_imp (ps_asg ((sound Φ e).2.1 c X x g h2).1 (g_of g (.t ts) (.Tuple xs k p) (by simpa only [chkG] using h1)) (sw_tup0 _ _ _ _ _ _) (st_tup _ _ _ _ h3) rfl) fun D σ H q => asg_go q
end
end Sk

namespace Sk
open PySem PySem.Spec PyProof.Rows L2
section
variable {Φ : Tab} {X : Cx} {c : Cc}
theorem isI_inv {d : D} (h : isI d = true) : ∃ i, d = .int i := by
  cases d <;> first | exact ⟨_, rfl⟩ | cases h
theorem OwL.two_inv {K : PySem.W.Frag} {fr : Addr → Prop} {H : Hp} {a b : D} {vs : List V} {B : List Addr} (h : OwL K fr H [a, b] vs B) : ∃ v w B1 B2, vs = [v, w] ∧ B = B1 ++ B2 ∧ Ow K fr H a v B1 ∧ Ow K fr H b w B2 := by
  obtain ⟨v, us, B1, C, e1, o1, o2, eB⟩ := h.cons_inv
  subst e1 eB
  obtain ⟨w, us', B2, C', e2, o3, o4, eC⟩ := o2.cons_inv
  subst e2 eC
  obtain ⟨rfl, rfl⟩ := o4.nil_inv
  exact ⟨v, w, B1, B2, rfl, by rw [List.append_nil], o1, o3⟩
/-! ### a, b = x, y -/
theorem st_parS {i j : Nat} {a b : E} {x y : Str} {px py pt pt2 q : Pos} {kt k2 : Nat} {u v : Expr} (g : Gd Φ X c) (h : chkS c (.par i j a b) (.Assign [.Tuple [.Name x px, .Name y py] kt pt] (.Tuple [u, v] k2 pt2) q) = true) :
    PS X (.Assign [.Tuple [.Name x px, .Name y py] kt pt] (.Tuple [u, v] k2 pt2) q) (WS Φ X.K (.par i j a b)) := by
  simp only [chkS, chkAsg, chkPar, chkAug, chkSet, Bool.and_eq_true, decide_eq_true_eq, Bool.not_eq_true', beq_eq_false_iff_ne] at h
  obtain ⟨⟨⟨⟨⟨h1, h2⟩, h3⟩, h4⟩, h5⟩, h6⟩ := h
  have hp := h6
  simp only [parOk, Bool.and_eq_true, beq_iff_eq] at hp
  obtain ⟨⟨⟨⟨⟨⟨⟨⟨p1, p2⟩, p3⟩, p4⟩, p5⟩, p6⟩, p7⟩, p8⟩, p9⟩ := hp
  refine ps_imp (ps_par g.calm g.nd (by rw [g.N]; exact h1) (by rw [g.N]; exact h2) h3 (by rw [g.sc]; exact p2) (by rw [g.sc]; exact p3) (s_consE p6 ((sound Φ a).2.1 c X u g h4).1 (s_consE p7 ((sound Φ b).2.1 c X v g h5).1 s_nilE)) (st_par _ (by rw [g.sc]; exact h6)) (sw_tup0 _ _ _ _ _ _)) fun D σ H q => ?_
  obtain ⟨fr, A, Γ, R, s, e1, fin⟩ := q
  simp only [evS, evE] at e1
  obtain ⟨⟨d1, Γ1⟩, e2, e3⟩ := Option.bind_eq_some_iff.mp e1
  obtain ⟨⟨d2, Γ2⟩, e4, e5⟩ := Option.bind_eq_some_iff.mp e3
  simp only at e5
  split at e5
  · rename_i hc
    simp only [Bool.and_eq_true, decide_eq_true_eq] at hc
    cases e5
    have ee : evEs Φ [a, b] Γ = some ([d1, d2], Γ2) := by
      simp only [evEs, e2, e4, Option.bind_some]
    refine ⟨fr, A, Γ, [d1, d2], Γ2, s, ee, fun vs H1 fr1 A1 B p pc => ?_⟩
    obtain ⟨v1, v2, B1, B2, rfl, rfl, o1, o2⟩ := p.o.two_inv
    have nd1 : (A1 ++ B1).Nodup := by
      have := p.nd
      rw [← List.append_assoc] at this
      exact (List.nodup_append.mp this).1
    obtain ⟨A2, s2, sub2⟩ := p.s.store o1 nd1 (fun b hb => p.dj b (List.mem_append_left _ hb)) hc.1.1
    have nd2 : (A2 ++ B2).Nodup := by
      have hh := p.nd
      rw [← List.append_assoc] at hh
      refine List.nodup_append.mpr ⟨s2.nd, (List.nodup_append.mp hh).2.1, fun x hx y hy e => ?_⟩
      subst e
      exact disj_of hh (List.mem_append.mpr (sub2 x hx)) hy
    obtain ⟨A3, s3, sub3⟩ := s2.store o2 nd2 (fun b hb => p.dj b (List.mem_append_right _ hb)) (by rw [List.length_set]; exact hc.1.2)
    refine ⟨v1, v2, rfl, fin _ H1 fr1 A3 s3 (p.ex.less fun b hb => ?_) fun k hk => ?_⟩
    · rcases sub3 b hb with z | z
      · rcases sub2 b z with z | z
        · exact List.mem_append_left _ z
        · exact List.mem_append_right _ (List.mem_append_left _ z)
      · exact List.mem_append_right _ (List.mem_append_right _ z)
    · simp only [aS, Bool.or_eq_false_iff, beq_eq_false_iff_ne] at hk
      rw [List.getElem?_set_ne (Ne.symm hk.2), List.getElem?_set_ne (Ne.symm hk.1)]
  · cases e5
theorem OwL.three_inv {K : PySem.W.Frag} {fr : Addr → Prop} {H : Hp} {a b c : D} {vs : List V} {B : List Addr} (h : OwL K fr H [a, b, c] vs B) : ∃ v w u B1 B2 B3, vs = [v, w, u] ∧ B = B1 ++ (B2 ++ B3) ∧ Ow K fr H a v B1 ∧ Ow K fr H b w B2 ∧ Ow K fr H c u B3 := by
  obtain ⟨v, us, B1, C, e1, o1, o2, eB⟩ := h.cons_inv
  subst e1 eB
  obtain ⟨w, u, B2, B3, rfl, rfl, o3, o4⟩ := o2.two_inv
  exact ⟨v, w, u, B1, B2, B3, rfl, rfl, o1, o3, o4⟩
theorem st_par3S {i j l : Nat} {a b d : E} {x y z : Str} {px py pz pt pt2 q : Pos} {kt k2 : Nat} {u v w : Expr} (g : Gd Φ X c) (h : chkS c (.par3 i j l a b d) (.Assign [.Tuple [.Name x px, .Name y py, .Name z pz] kt pt] (.Tuple [u, v, w] k2 pt2) q) = true) :
    PS X (.Assign [.Tuple [.Name x px, .Name y py, .Name z pz] kt pt] (.Tuple [u, v, w] k2 pt2) q) (WS Φ X.K (.par3 i j l a b d)) := by
  simp only [chkS, chkPar3, Bool.and_eq_true, decide_eq_true_eq, Bool.not_eq_true', beq_eq_false_iff_ne] at h
  obtain ⟨⟨⟨⟨⟨⟨⟨⟨⟨h1, h2⟩, h2b⟩, h3⟩, h3b⟩, h3c⟩, h4⟩, h5⟩, h5b⟩, h6⟩ := h
  have hp := h6
  simp only [par3Ok, Bool.and_eq_true, beq_iff_eq] at hp
  obtain ⟨⟨⟨⟨⟨⟨⟨⟨⟨⟨⟨⟨⟨p1, p2⟩, p3⟩, p3b⟩, p4⟩, p4b⟩, p5⟩, p5b⟩, p5c⟩, p6⟩, p7⟩, p7b⟩, p8⟩, p9⟩ := hp
  refine ps_imp (ps_par3 g.calm g.nd (by rw [g.N]; exact h1) (by rw [g.N]; exact h2) (by rw [g.N]; exact h2b) h3 h3b h3c (by rw [g.sc]; exact p2) (by rw [g.sc]; exact p3) (by rw [g.sc]; exact p3b) (s_consE p6 ((sound Φ a).2.1 c X u g h4).1 (s_consE p7 ((sound Φ b).2.1 c X v g h5).1 (s_consE p7b ((sound Φ d).2.1 c X w g h5b).1 s_nilE))) (st_par3 _ (by rw [g.sc]; exact h6)) (sw_tup0 _ _ _ _ _ _)) fun D σ H q => ?_
  obtain ⟨fr, A, Γ, R, s, e1, fin⟩ := q
  simp only [evS, evE] at e1
  obtain ⟨⟨d1, Γ1⟩, e2, e3⟩ := Option.bind_eq_some_iff.mp e1
  obtain ⟨⟨d2, Γ2⟩, e4, e5⟩ := Option.bind_eq_some_iff.mp e3
  obtain ⟨⟨d3, Γ3⟩, e6, e7⟩ := Option.bind_eq_some_iff.mp e5
  simp only at e7
  split at e7
  · rename_i hc
    simp only [Bool.and_eq_true, decide_eq_true_eq] at hc
    obtain ⟨⟨⟨⟨⟨⟨⟨⟨c1, c2⟩, c3⟩, c4⟩, c5⟩, c6⟩, c7⟩, c8⟩, c9⟩ := hc
    cases e7
    have ee : evEs Φ [a, b, d] Γ = some ([d1, d2, d3], Γ3) := by
      simp only [evEs, e2, e4, e6, Option.bind_some]
    refine ⟨fr, A, Γ, [d1, d2, d3], Γ3, s, ee, fun vs H1 fr1 A1 B p pc => ?_⟩
    obtain ⟨v1, v2, v3, B1, B2, B3, rfl, rfl, o1, o2, o3⟩ := p.o.three_inv
    obtain rfl := o1.un _ _ _ c7
    obtain rfl := o2.un _ _ _ c8
    obtain rfl := o3.un _ _ _ c9
    obtain ⟨A2, s2, sub2⟩ := p.s.store o1 (by rw [List.append_nil]; exact p.s.nd) (fun b hb => nomatch hb) c1
    obtain ⟨A3, s3, sub3⟩ := s2.store o2 (by rw [List.append_nil]; exact s2.nd) (fun b hb => nomatch hb) (by rw [List.length_set]; exact c2)
    obtain ⟨A4, s4, sub4⟩ := s3.store o3 (by rw [List.append_nil]; exact s3.nd) (fun b hb => nomatch hb) (by rw [List.length_set, List.length_set]; exact c3)
    refine ⟨v1, v2, v3, rfl, fin _ H1 fr1 A4 s4 (p.ex.less fun b hb => ?_) fun k hk => ?_⟩
    · rcases sub4 b hb with z | z
      · rcases sub3 b z with z | z
        · rcases sub2 b z with z | z
          · exact List.mem_append_left _ z
          · cases z
        · cases z
      · cases z
    · simp only [aS, Bool.or_eq_false_iff, beq_eq_false_iff_ne] at hk
      rw [List.getElem?_set_ne (Ne.symm hk.2), List.getElem?_set_ne (Ne.symm hk.1.2), List.getElem?_set_ne (Ne.symm hk.1.1)]
  · cases e7
/-! ### name op= e -/
theorem aug_rule {op : Operator} {p : Pr} (h : augP op = some p) : PIp X op (fun x y H Q => ∃ i j k, x = .int i ∧ y = .int j ∧ prF p [.int i, .int j] = some (.int k) ∧ Q (.int k) H) := by
  intro pins s σ H x y v u Q I r1 r2 hh
  obtain ⟨i, j, k, rfl, rfl, e, q⟩ := hh
  cases op <;> first | cases h | skip
  · cases e; exact ip_add pins s σ H _ _ v u Q I r1 r2 ⟨i, j, rfl, rfl, q⟩
  · cases e; exact ip_sub pins s σ H _ _ v u Q I r1 r2 ⟨i, j, rfl, rfl, q⟩
theorem aug_int {op : Operator} {p : Pr} {i j : Int} {z : D} (h : augP op = some p) (e : prF p [.int i, .int j] = some z) : ∃ k, z = .int k := by
  cases op <;> first | cases h | skip
  · cases e; exact ⟨_, rfl⟩
  · cases e; exact ⟨_, rfl⟩
theorem st_aug {i : Nat} {p : Pr} {e : E} {x : Str} {op : Operator} {px q : Pos} {y : Expr} (g : Gd Φ X c) (h : chkS c (.aug i p e) (.AugAssign (.Name x px) op y q) = true) : PS X (.AugAssign (.Name x px) op y q) (WS Φ X.K (.aug i p e)) := by
  simp only [chkS, chkAsg, chkPar, chkAug, chkSet, Bool.and_eq_true, decide_eq_true_eq] at h
  obtain ⟨⟨h1, h2⟩, h3⟩ := h
  obtain ⟨l1, l2, l3⟩ := loc_of g h1
  refine ps_imp (ps_aug g.nd l1 l2 ((sound Φ e).2.1 c X y g h3).2 (aug_rule h2) l3) fun D σ H q => ?_
  obtain ⟨fr, A, Γ, R, s, e1, fin⟩ := q
  simp only [evS] at e1
  obtain ⟨x0, hx, e2⟩ := Option.bind_eq_some_iff.mp e1
  split at e2
  · rename_i hi
    obtain ⟨a, rfl⟩ := isI_inv hi
    obtain ⟨⟨y0, Γ1⟩, e3, e4⟩ := Option.bind_eq_some_iff.mp e2
    simp only at e4
    split at e4
    · rename_i hj
      obtain ⟨b, rfl⟩ := isI_inv hj
      obtain ⟨z, e5, rfl⟩ := Option.map_eq_some_iff.mp e4
      obtain ⟨k, rfl⟩ := aug_int h2 e5
      obtain ⟨w, B, C, hw, ow, _, _, _⟩ := s.sl.take (getS_eq hx)
      have hw2 : w = .int a := (show Vw X.K fr H (.int a) w from ⟨B, ow⟩).int
      subst hw2
      refine ⟨.int a, hw, fr, A, Γ, _, Γ1, s, e3, fun v H1 fr1 A1 B1 p pc => ?_⟩
      have hv : v = .int b := (show Vw X.K fr1 H1 (.int b) v from ⟨B1, OwL.one.mp p.o⟩).int
      subst hv
      refine ⟨a, b, k, rfl, rfl, e5, ?_⟩
      have hlt : i < Γ1.length := by
        rw [← p.s.sl.len]
        exact (List.getElem?_eq_some_iff.mp hw).1
      obtain ⟨A2, s2, sub⟩ := p.s.store (d := .int k) (v := .int k) (B := []) (by unfold Ow; exact ⟨rfl, rfl⟩) (by rw [List.append_nil]; exact p.s.nd) (fun _ z => nomatch z) hlt
      refine fin _ H1 fr1 A2 s2 (p.ex.less fun b hb => (sub b hb).elim id fun z => nomatch z) fun j hj => ?_
      simp only [aS, beq_eq_false_iff_ne] at hj
      rw [List.getElem?_set_ne (Ne.symm hj)]
    · cases e4
  · cases e2
/-! ### o[k] = e -/
theorem int_of {K : PySem.W.Frag} {fr fr1 : Addr → Prop} {A A1 B1 : List Addr} {H H1 : Hp} {Γ1 : Gm} {σ : St} {k : Int} {v : V} (p : Po K fr A H Γ1 σ [.int k] [v] fr1 A1 B1 H1) : v = .int k ∧ B1 = [] ∧ Ext A fr H A1 fr1 H1 := by
  have o := OwL.one.mp p.o
  have := o.un _ _ _ rfl
  subst this
  exact ⟨(show Vw K fr1 H1 (.int k) v from ⟨[], o⟩).int, rfl, p.ex.less fun b hb => List.mem_append_left _ hb⟩
theorem setF_int {d kd t r t' : D} (h : setF kd d t = some (r, t')) : ∃ k l, kd = .int k ∧ t = .lst true l := by
  unfold setF at h
  split at h
  · split at h
    · exact ⟨_, _, rfl, rfl⟩
    · cases h
  · cases h
theorem upd_int {d kd : D} : ∀ {ps : List D} {x : D} {q : D × D}, updP (setF kd d) ps x = some q → ∃ k, kd = .int k
  | [], x, q, h => by
    simp only [updP] at h
    obtain ⟨r, t'⟩ := q
    obtain ⟨k, l, e, _⟩ := setF_int h
    exact ⟨k, e⟩
  | p :: ps, x, q, h => by
    match p, x, h with
    | .int i, .lst true ds, h =>
      simp only [updP] at h
      obtain ⟨j, _, h⟩ := Option.bind_eq_some_iff.mp h
      obtain ⟨y, _, h⟩ := Option.bind_eq_some_iff.mp h
      obtain ⟨q, h, _⟩ := Option.bind_eq_some_iff.mp h
      exact upd_int (x := y) h
/-- the inner list stands there -/
theorem in_at {K : PySem.W.Frag} {fr : Addr → Prop} {A : List Addr} {H : Hp} {Γ : Gm} {σ : St} {i : Nat} {x pd : D} {v : V} (s : S K fr A Γ σ H) (hx : getS Γ i = some x) (hl : isLAt [pd] x = true) (hv : σ[i]? = some (some v)) :
    ∃ a vs j a2 vs2, v = .ref a ∧ pd = .int j ∧ H a = some (.lst vs) ∧ atI vs j = some (.ref a2) ∧ H a2 = some (.lst vs2) := by
  obtain ⟨v', B, C, hv', ho, _, _, _⟩ := s.sl.take (getS_eq hx)
  rw [hv] at hv'
  cases hv'
  match x, hl, ho with
  | .lst o zs, hl, ho =>
    simp only [isLAt] at hl
    split at hl
    · rename_i o2 es2 hix
      match pd, hix with
      | .int j, hix =>
        obtain ⟨jx, hj, hd⟩ := Option.bind_eq_some_iff.mp (show (ixD zs.length j).bind (zs[·]?) = some (.lst o2 es2) from hix)
        unfold Ow at ho
        obtain ⟨a, vs, C', rfl, ha, ol, _, _⟩ := ho
        obtain ⟨w, B', g1, g2, g3⟩ := ol.at hd
        obtain ⟨a2, vs2, _, rfl, ha2, _⟩ := (show Vw K fr H (.lst o2 es2) w from ⟨B', g2⟩).lst
        refine ⟨a, vs, j, a2, vs2, rfl, rfl, ha, ?_, ha2⟩
        show (ixD vs.length j).bind _ = _
        rw [ol.len, hj]; exact g1
    · cases hl
theorem subE {pos : Pos} {o z : Expr} (hz : notSlice z = true) : ∀ v, assign (.Subscript o z pos) X.env v = (do
      let ov ← holding [v] (eval o X.env)
      let iv ← holding [v, ov] (eval z X.env)
      standAt pos
      holding [v, ov, iv] (setItem ov iv v)
      release [v, ov, iv] []) := by
  intro v
  cases z <;> first | rfl | cases hz
theorem has_of {K : PySem.W.Frag} {fr : Addr → Prop} {A : List Addr} {H : Hp} {Γ : Gm} {σ : St} {i : Nat} (s : S K fr A Γ σ H) (h : (getS Γ i).isSome = true) : ∃ w, σ[i]? = some (some w) := by
  obtain ⟨x, hx⟩ := Option.isSome_iff_exists.mp h
  obtain ⟨w, _, _, hw, _⟩ := s.sl.take (getS_eq hx)
  exact ⟨w, hw⟩
theorem set_inv {i : Nat} {path : List E} {k e : E} {Γ : Gm} {R : R} (h : evS Φ (.set i path k e) Γ = some R) : ∃ d Γ1 ps Γ2 x1 kk Γ3 x r x', purL path = true ∧ (path.isEmpty || pur k) = true ∧ ev Φ e .val Γ = some (d, Γ1) ∧ (getS Γ1 i).isSome = true ∧ evEs Φ path Γ1 = some (ps, Γ2) ∧ getS Γ2 i = some x1 ∧ isLAt ps x1 = true ∧
    ev Φ k .val Γ2 = some (.int kk, Γ3) ∧ getS Γ3 i = some x ∧ updP (setF (.int kk) d) ps x = some (r, x') ∧ R = .nx (Γ3.set i (some x')) := by
  simp only [evS] at h
  split at h
  · rename_i hp
    rw [Bool.and_eq_true] at hp
    obtain ⟨⟨d, Γ1⟩, e2, e3⟩ := Option.bind_eq_some_iff.mp h
    simp only at e3
    split at e3
    · rename_i hs
      obtain ⟨⟨ps, Γ2⟩, e4, e5⟩ := Option.bind_eq_some_iff.mp e3
      obtain ⟨x1, e6, e7⟩ := Option.bind_eq_some_iff.mp e5
      simp only at e7
      split at e7
      · rename_i hl
        obtain ⟨⟨kd, Γ3⟩, e8, e9⟩ := Option.bind_eq_some_iff.mp e7
        obtain ⟨x, e10, e11⟩ := Option.bind_eq_some_iff.mp e9
        obtain ⟨⟨r, x'⟩, up, e12⟩ := Option.map_eq_some_iff.mp e11
        obtain ⟨kk, e13⟩ := upd_int up
        cases (show kd = .int kk from e13)
        exact ⟨d, Γ1, ps, Γ2, x1, kk, Γ3, x, r, x', hp.1, hp.2, e2, hs, e4, e6, hl, e8, e10, up, e12.symm⟩
      · cases e7
    · cases e3
  · cases h
theorem st_set0 {i : Nat} {k e : E} {x : Str} {px ps q : Pos} {z y : Expr} (g : Gd Φ X c) (h : chkS c (.set i [] k e) (.Assign [.Subscript (.Name x px) z ps] y q) = true) : PS X (.Assign [.Subscript (.Name x px) z ps] y q) (WS Φ X.K (.set i [] k e)) := by
  simp only [chkS, chkAsg, chkPar, chkAug, chkSet, Bool.and_eq_true] at h
  obtain ⟨⟨⟨h1, h2⟩, h3⟩, h4⟩ := h
  refine ps_imp (ps_asg ((sound Φ e).2.1 c X y g h4).1 (pg_sub (vis_of g h1) ((sound Φ k).2.1 c X z g h3).1 set_list (subE h2)) (sw_sub _ _ _ _ _ _) (st_sub _ _ _ _ _) rfl) fun D σ H q => ?_
  obtain ⟨fr, A, Γ, R, s, e1, fin⟩ := q
  obtain ⟨d, Γ1, ps, Γ2, x1, kk, Γ3, t, r, x', hp, hk, e2, hs, e4, hx1, hl, e8, hx, up, rfl⟩ := set_inv e1
  simp only [evEs] at e4
  cases e4
  refine ⟨fr, A, Γ, d, _, s, e2, fun v H1 fr1 A1 B1 p1 pc1 => ?_⟩
  obtain ⟨w, hw⟩ := has_of p1.s hs
  refine ⟨w, hw, fr1, A1, _, .int kk, Γ3, p1.s, e8, fun kv H2 fr2 A2 B2 p2 pc2 => ?_⟩
  obtain ⟨rfl, rfl, ex2⟩ := int_of p2
  have p3 := p1.next p2.s ex2
  obtain ⟨a, xs, k0, j, rfl, ek, ha, hj, A', s', ex'⟩ := set_end p3 hx up hw (show Along H2 [] w w from rfl)
  cases ek
  exact ⟨a, xs, _, j, rfl, rfl, ha, hj, fin σ _ fr2 A' s' ex' fun _ _ => rfl⟩
/-! ### o[k] op= e -/
theorem pg_in {X : Cx} : PGet X (rIn X.K) := by
  intro pins s σ H o i ov iv Q I ro ri h
  obtain ⟨a, vs, k, z, rfl, rfl, ha, he, q⟩ := h
  cases ro
  obtain ⟨t, rfl⟩ := ri
  obtain ⟨its, r, pl, hz⟩ := I.list (.of ha)
  obtain ⟨j, h1, h2, h3, h4, h5⟩ := atI_get he
  obtain ⟨w, ew, rw'⟩ := r.get h2
  have hl := r.length
  have hn := line63
  have fin : EP X pins σ Q w s := ⟨z, H, I, rw', q⟩
  by_cases h0 : 0 ≤ k
  · have hj : k.toNat = j := by
      rw [seqIndex_of h0 h5] at h1
      exact Option.some.inj h1
    exact wpAny_getItem_list pl.isList h0 (by omega) (by rw [hj]; simpa using ew) fin
  · have hj : (k + (its.toArray.size : Int)).toNat = j := by
      rw [seqIndex_neg (by omega) h4] at h1
      rw [List.size_toArray, ← hl]
      exact Option.some.inj h1
    exact wpAny_getItem_list_neg pl.isList (by omega) (by rw [List.size_toArray] <;> omega) (by omega) (by rw [hj]; simpa using ew) fin
theorem augE {z : Expr} (hz : notSlice z = true) : ∀ ov iv new, augStore z ov iv new = (do holding [new, ov, iv] (setItem ov iv new); release [new, ov, iv] []; pure .next) := by
  intro ov iv new
  cases z <;> first | rfl | cases hz
theorem augset_inv {i : Nat} {path : List E} {k e : E} {p : Pr} {Γ : Gm} {R : R} (h : evS Φ (.augset i path k p e) Γ = some R) : ∃ kk Γ1 x1 a b Γ2 x z r x', path = [] ∧ (getS Γ i).isSome = true ∧ ev Φ k .val Γ = some (.int kk, Γ1) ∧ getS Γ1 i = some x1 ∧ isLAt [] x1 = true ∧ idxF x1 (.int kk) = some (.int a) ∧
    ev Φ e .opd Γ1 = some (.int b, Γ2) ∧ getS Γ2 i = some x ∧ prF p [.int a, .int b] = some z ∧ updP (setF (.int kk) z) [] x = some (r, x') ∧ R = .nx (Γ2.set i (some x')) := by
  simp only [evS] at h
  split at h
  · rename_i hp
    simp only [Bool.and_eq_true] at hp
    obtain ⟨⟨kd, Γ1⟩, e2, h⟩ := Option.bind_eq_some_iff.mp h
    obtain ⟨x1, e3, h⟩ := Option.bind_eq_some_iff.mp h
    simp only at h
    split at h
    · rename_i hl
      obtain ⟨old, e4, h⟩ := Option.bind_eq_some_iff.mp h
      obtain ⟨⟨y, Γ2⟩, e5, h⟩ := Option.bind_eq_some_iff.mp h
      obtain ⟨x, e6, h⟩ := Option.bind_eq_some_iff.mp h
      simp only at h
      split at h
      · rename_i hi
        rw [Bool.and_eq_true] at hi
        obtain ⟨a, rfl⟩ := isI_inv hi.1
        obtain ⟨b, rfl⟩ := isI_inv hi.2
        obtain ⟨z, e7, h⟩ := Option.bind_eq_some_iff.mp h
        obtain ⟨⟨r, x'⟩, up, e9⟩ := Option.map_eq_some_iff.mp h
        obtain ⟨kk, e13⟩ := upd_int up
        cases (show kd = .int kk from e13)
        exact ⟨kk, Γ1, x1, a, b, Γ2, x, z, r, x', List.isEmpty_iff.mp hp.1.1.1, hp.2, e2, e3, hl, e4, e5, e6, e7, up, e9.symm⟩
      · cases h
    · cases h
  · cases h
theorem st_augset {i : Nat} {k e : E} {p : Pr} {op : Operator} {x : Str} {px ps q : Pos} {z y : Expr} (g : Gd Φ X c) (h : chkS c (.augset i [] k p e) (.AugAssign (.Subscript (.Name x px) z ps) op y q) = true) : PS X (.AugAssign (.Subscript (.Name x px) z ps) op y q) (WS Φ X.K (.augset i [] k p e)) := by
  simp only [chkS, chkAugS, Bool.and_eq_true, decide_eq_true_eq] at h
  obtain ⟨⟨⟨⟨h1, h2⟩, h3⟩, h4⟩, h5⟩ := h
  refine ps_imp (ps_augS (vis_of g h1) ((sound Φ k).2.1 c X z g h3).1 pg_in ((sound Φ e).2.1 c X y g h5).2 (aug_rule h4) set_list (augE h2)) fun D σ H q => ?_
  obtain ⟨fr, A, Γ, R, s, e1, fin⟩ := q
  obtain ⟨kk, Γ1, x1, a0, b0, Γ2, t, zd, r, x', _, hs, e2, hx1, hl, hi, e5, hx, e7, up, rfl⟩ := augset_inv e1
  obtain ⟨kz, rfl⟩ := aug_int h4 e7
  obtain ⟨w, hw⟩ := has_of s hs
  refine ⟨w, hw, fr, A, Γ, .int kk, Γ1, s, e2, fun kv H1 fr1 A1 B1 p1 pc1 => ?_⟩
  obtain ⟨rfl, rfl, ex1⟩ := int_of p1
  obtain ⟨v', B, C, hv', ho, _, _, _⟩ := p1.s.sl.take (getS_eq hx1)
  rw [hw] at hv'
  cases hv'
  match x1, hl, ho, hi with
  | .lst o zs, hl, ho, hi =>
    obtain ⟨jx, hj, hd⟩ := Option.bind_eq_some_iff.mp (show (ixD zs.length kk).bind (zs[·]?) = some (.int a0) from hi)
    unfold Ow at ho
    obtain ⟨a, vs, C', rfl, ha, ol, _, _⟩ := ho
    obtain ⟨w1, B', g1, g2, g3⟩ := ol.at hd
    have hw1 : w1 = .int a0 := (show Vw X.K fr1 H1 (.int a0) w1 from ⟨B', g2⟩).int
    subst hw1
    refine ⟨a, vs, kk, .int a0, rfl, rfl, ha, by show (ixD vs.length kk).bind _ = _; rw [ol.len, hj]; exact g1, ?_⟩
    refine ⟨fr1, A1, Γ1, .int b0, Γ2, p1.s, e5, fun v H2 fr2 A2 B2 p2 pc2 => ?_⟩
    have hv : v = .int b0 := (show Vw X.K fr2 H2 (.int b0) v from ⟨B2, OwL.one.mp p2.o⟩).int
    subst hv
    refine ⟨a0, b0, kz, rfl, rfl, e7, ?_⟩
    have ex2 : Ext A1 fr1 H1 A2 fr2 H2 := p2.ex.less fun b hb => hb
    have p3 := Po.pre ex1 (Po.pre ex2 (Po.val p2.s (d := .int kz) (v := .int kz) (by unfold Ow; exact ⟨rfl, rfl⟩)))
    obtain ⟨a', xs, k0, j, ea, ek, ha', hj', A', s', ex'⟩ := set_end p3 hx up hw (show Along H2 [] (.ref a) (.ref a) from rfl)
    cases ea
    cases ek
    exact ⟨a, xs, _, j, rfl, rfl, ha', hj', fin σ _ fr2 A' s' ex' fun _ _ => rfl⟩
theorem st_set1 {i : Nat} {p k e : E} {x : Str} {px pi ps q : Pos} {u z y : Expr} (g : Gd Φ X c) (h : chkS c (.set i [p] k e) (.Assign [.Subscript (.Subscript (.Name x px) u pi) z ps] y q) = true) : PS X (.Assign [.Subscript (.Subscript (.Name x px) u pi) z ps] y q) (WS Φ X.K (.set i [p] k e)) := by
  simp only [chkS, chkAsg, chkPar, chkAug, chkSet, Bool.and_eq_true] at h
  obtain ⟨⟨⟨⟨⟨h1, h2⟩, h3⟩, h4⟩, h5⟩, h6⟩ := h
  refine ps_imp (ps_asg ((sound Φ e).2.1 c X y g h6).1 (pg_sub (pe_ix ix_in (vis_of g h1) ((sound Φ p).2.1 c X u g h4).1 (plainIx h2)) ((sound Φ k).2.1 c X z g h5).1 set_list (subE h3)) (sw_sub _ _ _ _ _ _) (st_sub _ _ _ _ _) rfl) fun D σ H q => ?_
  obtain ⟨fr, A, Γ, R, s, e1, fin⟩ := q
  obtain ⟨d, Γ1, ps, Γ2, x1, kk, Γ3, t, r, x', hp, hk, e2, hs, e4, hx1, hl, e8, hx, up, rfl⟩ := set_inv e1
  simp only [evEs] at e4
  obtain ⟨⟨pd, Γ2'⟩, e5, e6⟩ := Option.bind_eq_some_iff.mp e4
  cases e6
  refine ⟨fr, A, Γ, d, _, s, e2, fun v H1 fr1 A1 B1 p1 pc1 => ?_⟩
  obtain ⟨w, hw⟩ := has_of p1.s hs
  refine ⟨w, hw, fr1, A1, _, pd, _, p1.s, e5, fun pv H2 fr2 A2 B2 p2 pc2 => ?_⟩
  obtain ⟨a, vs, j, a2, vs2, rfl, rfl, ha, hat, ha2⟩ := in_at p2.s hx1 hl hw
  obtain ⟨rfl, rfl, ex2⟩ := int_of p2
  refine ⟨a, vs, j, .ref a2, rfl, rfl, ha, hat, fr2, A2, _, .int kk, Γ3, p2.s, e8, fun kv H3 fr3 A3 B3 p3 pc3 => ?_⟩
  obtain ⟨rfl, rfl, ex3⟩ := int_of p3
  have p4 := (p1.next p2.s ex2).next p3.s ex3
  obtain ⟨b, xs, k0, j', eb, ek, hb, hj, A', s', ex'⟩ := set_end p4 hx up hw (show Along H3 [.int j] (.ref a) (.ref a2) from ⟨a, vs, .ref a2, rfl, (pc3 (by simpa using hk)).1 a _ ha, hat, rfl⟩)
  cases ek
  exact ⟨b, xs, _, j', eb, rfl, hb, hj, fin σ _ fr3 A' s' ex' fun _ _ => rfl⟩
end
end Sk

namespace Sk
open PySem PySem.Spec PyProof.Rows L2
def Ss (Φ : Tab) (s : Sm) : Prop := ∀ c X st, Gd Φ X c → PassesOwn (model X.prog X.w) X.A X.env X.xe → chkS c s st = true → PS X st (WS Φ X.K s)
def SsL (Φ : Tab) (ss : List Sm) : Prop := ∀ c X sts, Gd Φ X c → PassesOwn (model X.prog X.w) X.A X.env X.xe → chkSs c ss sts = true → PSs X sts (WSs Φ X.K ss)
section
variable {Φ : Tab} {X : Cx} {c : Cc}
theorem st_ex {e : E} {x : Expr} {q : Pos} (g : Gd Φ X c) (h : chkS c (.ex e) (.Expr x q) = true) : PS X (.Expr x q) (WS Φ X.K (.ex e)) := by
  simp only [chkS, Bool.and_eq_true] at h
  refine ps_imp (ps_expr ((sound Φ e).2.1 c X x g h.2).1 (sw_none _ _ h.1)) fun D σ H q => ?_
  obtain ⟨fr, A, Γ, R, s, e1, fin⟩ := q
  simp only [evS, evE] at e1
  obtain ⟨⟨d, Γ1⟩, e2, rfl⟩ := Option.map_eq_some_iff.mp e1
  exact ⟨fr, A, Γ, d, Γ1, s, e2, fun v H1 fr1 A1 B1 p pc => fin σ H1 fr1 A1 p.s (p.ex.less fun b hb => List.mem_append_left _ hb) fun _ _ => rfl⟩
theorem m_ext : MtR X "list.extend" rExtend := mt_extend
theorem st_ext {i j : Nat} {x : Expr} {q : Pos} (g : Gd Φ X c) (h : chkS c (.ext i j) (.Expr x q) = true) : PS X (.Expr x q) (WS Φ X.K (.ext i j)) := by
  simp only [chkS] at h
  unfold chkExt at h
  split at h
  · rename_i y yp z zp hm
    obtain ⟨apos, cpos, rfl, hl, hline, hng⟩ := mutX_inv hm
    rw [Bool.and_eq_true] at h
    have pe : PE X (.Call (.Attribute (.Name y yp) (mName .extend) apos) [.Name z zp] [] cpos) _ := pe_bm PySem.F.plainAttrs_list PySem.F.slot_list_extend PySem.F.type_list_extend m_ext (vis_of g h.1) (pa_cons (vis_of g h.2) pa_nil rfl) rfl rfl hline rfl rfl
    refine ps_imp (ps_expr pe (sw_none _ _ rfl)) fun D σ H q => ?_
    obtain ⟨fr, A, Γ, R, s, e1, fin⟩ := q
    simp only [evS] at e1
    obtain ⟨x0, hx, e1⟩ := Option.bind_eq_some_iff.mp e1
    obtain ⟨y0, hy, e1⟩ := Option.bind_eq_some_iff.mp e1
    split at e1
    · cases e1
    · rename_i hij
      obtain ⟨z0, e2, rfl⟩ := Option.map_eq_some_iff.mp e1
      match x0, y0, e2, hx, hy with
      | .lst true l, .lst o xs, e2, hx, hy =>
        simp only [extF] at e2
        split at e2
        · rename_i hz
          cases e2
          rw [Bool.and_eq_true] at hz
          have up : updP (mmF .extend [.lst o xs]) [] (.lst true l) = some (.non, .lst true (l ++ xs)) := by
            simp only [updP, mmF, hz.1, hz.2, Bool.and_self, if_true]
          obtain ⟨v, w, t, t', Bt, hv, al, ft, ot, tA, nt, go⟩ := s.change hx up
          match t, ft, ot, go with
          | .lst true l', ft, ot, go =>
            simp only [mmF] at ft
            split at ft
            · rename_i hz'
              cases ft
              rw [Bool.and_eq_true] at hz'
              obtain ⟨w2, B', hv2, oj, _⟩ := s.sl.get (getS_eq hy)
              unfold Ow at oj
              obtain ⟨b, ys, C2, rfl, hb, oy, _, _⟩ := oj
              have oy := oy.noB hz.1
              have al : v = w := al
              subst al
              unfold Ow at ot
              obtain ⟨a, zs, C, rfl, ha, ol, _, h1⟩ := ot
              have eB := h1 rfl
              subst eB
              have aC : a ∉ C := (List.nodup_cons.mp nt).1
              have aA : a ∈ A := tA a List.mem_cons_self
              have af : ¬ fr a := s.dj a aA
              refine ⟨_, hv, .inl ⟨rfl, zs, .of ha⟩, _, hv2, a, b, zs, ys, rfl, rfl, ha, hb, by rw [ol.len, oy.len]; exact of_decide_eq_true hz'.2, ?_⟩
              obtain ⟨A', s', mem⟩ := go a (.lst (zs ++ ys)) (a :: C) List.mem_cons_self (by
                unfold Ow
                refine ⟨a, zs ++ ys, C, rfl, upd_same, ?_, (fun z => by cases z), fun _ => rfl⟩
                have := (ol.other (o := .lst (zs ++ ys)) aC af).app (oy.other (o := .lst (zs ++ ys)) (fun z => nomatch z) af)
                rw [List.append_nil] at this
                exact this) nt (fun b hb => s.dj b (tA b hb)) fun b hb => .inl hb
              have p := mut_end (Po.nil s) s' mem List.mem_cons_self tA (fun _ z => .inl z) (r := .non) (rv := .non) (Br := []) (by unfold Ow; exact ⟨rfl, rfl⟩) (fun _ z => nomatch z) List.nodup_nil fun _ z => nomatch z
              exact fin σ _ fr A' p.s (p.ex.less fun b hb => List.mem_append_left _ hb) fun _ _ => rfl
            · cases ft
        · cases e2
  · cases h
theorem st_ret {e : E} {x : Expr} {q : Pos} (g : Gd Φ X c) (h : chk c e x = true) : PS X (.Return (some x) q) (WS Φ X.K (.ret e)) := by
  refine ps_imp (ps_ret ((sound Φ e).2.1 c X x g h).1) fun D σ H q => ?_
  obtain ⟨fr, A, Γ, R, s, e1, fin⟩ := q
  simp only [evS, evE] at e1
  obtain ⟨⟨d, Γ1⟩, e2, rfl⟩ := Option.map_eq_some_iff.mp e1
  exact ⟨fr, A, Γ, d, Γ1, s, e2, fun v H1 fr1 A1 B1 p pc => fin v σ H1 fr1 A1 B1 p fun _ _ => rfl⟩
theorem st_retN {q : Pos} : PS X (.Return none q) (WS Φ X.K .retN) := by
  refine ps_imp ps_retN fun D σ H q => ?_
  obtain ⟨fr, A, Γ, R, s, e1, fin⟩ := q
  simp only [evS] at e1
  cases e1
  exact fin .non σ H fr A [] (Po.val s (by unfold Ow; exact ⟨rfl, rfl⟩)) fun _ _ => rfl
theorem st_pass {De : Ends} {σ : St} {H : Hp} {K : PySem.W.Frag} (q : WS Φ K .pass De σ H) : De.nx σ H := by
  obtain ⟨fr, A, Γ, R, s, e1, fin⟩ := q
  simp only [evS] at e1
  cases e1
  exact fin σ H fr A s .refl fun _ _ => rfl
theorem st_brk {De : Ends} {σ : St} {H : Hp} {K : PySem.W.Frag} (q : WS Φ K .brk De σ H) : De.bk σ H := by
  obtain ⟨fr, A, Γ, R, s, e1, fin⟩ := q
  simp only [evS] at e1
  cases e1
  exact fin σ H fr A s .refl fun _ _ => rfl
theorem st_cont {De : Ends} {σ : St} {H : Hp} {K : PySem.W.Frag} (q : WS Φ K .cont De σ H) : De.ct σ H := by
  obtain ⟨fr, A, Γ, R, s, e1, fin⟩ := q
  simp only [evS] at e1
  cases e1
  exact fin σ H fr A s .refl fun _ _ => rfl
theorem st_if {t : E} {a b : List Sm} {x : Expr} {u v : List Stmt} {q : Pos} (g : Gd Φ X c) (ht : chkT c t x = true) (ha : PSs X u (WSs Φ X.K a)) (hb : PSs X v (WSs Φ X.K b)) : PS X (.If x u v q) (WS Φ X.K (.iff t a b)) := by
  refine ps_imp (ps_if ((sound Φ t).2.2 c X x g ht) ha hb) fun D σ H q => ?_
  obtain ⟨fr, A, Γ, R, s, e1, fin⟩ := q
  simp only [evS, evT] at e1
  obtain ⟨⟨tt, Γ1⟩, e2, e3⟩ := Option.bind_eq_some_iff.mp e1
  obtain ⟨⟨d, Γ1'⟩, e4, e5⟩ := Option.bind_eq_some_iff.mp e2
  obtain ⟨tv, e6, e7⟩ := Option.map_eq_some_iff.mp e5
  cases e7
  refine ⟨fr, A, Γ, d, _, _, s, e4, e6, fun H1 fr1 A1 s1 ex1 _ => ?_⟩
  cases tt with
  | true => exact ⟨fr1, A1, _, R, s1, e3, (fin.sub (f' := fun i => aSL i a) fun i hi => by simp only [aS, Bool.or_eq_false_iff] at hi; exact hi.1).pre ex1 .refl⟩
  | false => exact ⟨fr1, A1, _, R, s1, e3, (fin.sub (f' := fun i => aSL i b) fun i hi => by simp only [aS, Bool.or_eq_false_iff] at hi; exact hi.2).pre ex1 .refl⟩
end
end Sk

namespace Sk
open PySem PySem.Spec PyProof.Rows L2
section
variable {Φ : Tab} {X : Cx} {c : Cc}
theorem sts_nil : PSs X [] (WSs Φ X.K []) := by
  refine pss_imp pss_nil fun D σ H q => ?_
  obtain ⟨fr, A, Γ, R, s, e1, fin⟩ := q
  simp only [evSs] at e1
  cases e1
  exact fin σ H fr A s .refl fun _ _ => rfl
theorem sts_cons {a : Sm} {r : List Sm} {x : Stmt} {xs : List Stmt} (h1 : PS X x (WS Φ X.K a)) (h2 : PSs X xs (WSs Φ X.K r)) : PSs X (x :: xs) (WSs Φ X.K (a :: r)) := by
  refine pss_imp (pss_cons h1 h2) fun D σ H q => ?_
  obtain ⟨fr, A, Γ, R, s, e1, fin⟩ := q
  simp only [evSs] at e1
  obtain ⟨R1, e2, e3⟩ := Option.bind_eq_some_iff.mp e1
  have f1 : ∀ i, aSL i (a :: r) = false → aS i a = false := fun i hi => by simp only [aSL, Bool.or_eq_false_iff] at hi; exact hi.1
  have f2 : ∀ i, aSL i (a :: r) = false → aSL i r = false := fun i hi => by simp only [aSL, Bool.or_eq_false_iff] at hi; exact hi.2
  refine ⟨fr, A, Γ, R1, s, e2, ?_⟩
  cases R1 with
  | nx Γ1 => exact fun σ' H' fr' A' s' ex hf => ⟨fr', A', Γ1, R, s', e3, (fin.pre ex fun i hi => hf i (f1 i hi)).sub f2⟩
  | bk Γ1 => cases e3; exact fin.sub f1
  | ct Γ1 => cases e3; exact fin.sub f1
  | rt d Γ1 => cases e3; exact fin.sub f1
theorem sts_dead {r : List Sm} {xs : List Stmt} : PSs X xs (WSs Φ X.K (.dead :: r)) := by
  refine ⟨fun pins s σ H D I q => ?_⟩
  obtain ⟨fr, A, Γ, R, s, e1, fin⟩ := q
  simp only [evSs, evS] at e1
  cases e1
/-! ### for -/
theorem st_for {t : T} {k : Ik} {src : List E} {body : List Sm} {tg it : Expr} {u : List Stmt} {q : Pos} {xs : List Expr} (g : Gd Φ X c) (hp : PassesOwn (model X.prog X.w) X.A X.env X.xe) (hset : notSet it = true) (hx : itX c k tg it = some xs) (hs : chks c src xs = true) (hg : chkG c t tg = true) (hb : PSs X u (WSs Φ X.K body)) :
    PS X (.For tg it u [] q) (WS Φ X.K (.for_ t k src body)) := by
  refine ps_imp (ps_for hp g.calm (i_of g hx hs (soundL Φ src)) (g_of g t tg hg) hb (fold_set hset _)) fun D σ H q => ?_
  obtain ⟨fr, A, Γ, R, s, e1, fin⟩ := q
  simp only [evS] at e1
  obtain ⟨⟨ds, Γ1⟩, e2, e3⟩ := Option.bind_eq_some_iff.mp e1
  obtain ⟨items, e4, e5⟩ := Option.bind_eq_some_iff.mp e3
  simp only at e5
  split at e5
  · rename_i hu
    refine ⟨fr, A, Γ, ds, Γ1, items, s, e2, e4, fun J H1 fr1 A1 s1 ex1 _ hJ => ?_⟩
    refine ⟨fun i m σ2 H2 => m = items.length - i ∧ i ≤ items.length ∧ ∃ Γi fr2 A2, S X.K fr2 A2 Γi σ2 H2 ∧ Ext A1 fr1 H1 A2 fr2 H2 ∧ Frm (fun i => aS i (.for_ t k src body)) σ σ2 ∧
      forL (fun d Γ => (asgT t d Γ).bind fun Γ => evSs Φ body Γ) (items.drop i) Γi = some R, ⟨items.length, by simp, Nat.zero_le _, Γ1, fr1, A1, s1, .refl, .refl, by simpa using e5⟩, ?_⟩
    rintro i m σ2 H2 ⟨rfl, hi, Γi, fr2, A2, s2, ex2, hf2, ef⟩
    obtain ⟨J1, J2⟩ := hJ i fr2 H2 (ex2.zk s1 fun z => by rw [hu] at z; cases z) s2.dm
    by_cases hlt : i < items.length
    · right
      have hd : items[i]? = some items[i] := by simp [hlt]
      obtain ⟨jg, jy⟩ := J2 _ hd
      rw [List.drop_eq_getElem_cons hlt] at ef
      simp only [forL] at ef
      refine ⟨jg, fun σ' H' => ∃ Γi fr2 A2, S X.K fr2 A2 Γi σ' H' ∧ Ext A1 fr1 H1 A2 fr2 H' ∧ Frm (fun i => aS i (.for_ t k src body)) σ σ' ∧ forL (fun d Γ => (asgT t d Γ).bind fun Γ => evSs Φ body Γ) (items.drop (i + 1)) Γi = some R,
        fun σ' H' w => ⟨items.length - (i + 1), by omega, rfl, hlt, w⟩, fun x H' y => ?_⟩
      obtain ⟨fr3, gr, ow⟩ := jy x H' y
      obtain ⟨s3, nd3, ex3⟩ := s2.grow gr
      rw [List.append_nil] at ex3
      cases ea : asgT t items[i] Γi with
      | none =>
        rw [ea] at ef
        simp only [Option.bind_none] at ef
        cases ef
      | some Γa =>
        rw [ea] at ef
        simp only [Option.bind_some] at ef
        cases eb : evSs Φ body Γa with
        | none => rw [eb] at ef; cases ef
        | some R1 =>
          rw [eb] at ef
          refine ⟨fr3, A2, Γi, items[i], [], Γa, s3, ow, nd3, (fun _ z => nomatch z), ea, fun σ3 A3 s4 sub hf3 => ?_⟩
          have ex4 : Ext A2 fr2 H2 A3 fr3 H' := ex3.less fun b hb => (sub b hb).elim id fun z => nomatch z
          have fr4 : Frm (fun i => aS i (.for_ t k src body)) σ σ3 := fun j hj => by
            have hj2 : aT j t = false ∧ aSL j body = false := by simpa only [aS, Bool.or_eq_false_iff] using hj
            exact (hf3 j hj2.1).trans (hf2 j hj)
          have key : ∀ σ', Frm (fun i => aSL i body) σ3 σ' → Frm (fun i => aS i (.for_ t k src body)) σ σ' := fun σ' h j hj => by
            have hj2 : aT j t = false ∧ aSL j body = false := by simpa only [aS, Bool.or_eq_false_iff] using hj
            exact (h j hj2.2).trans (fr4 j hj)
          refine ⟨fr3, A3, Γa, R1, s4, eb, ?_⟩
          cases R1 with
          | nx Γ' => exact fun σ' H'' fr' A' s' ex' hf' => ⟨Γ', fr', A', s', (ex2.trans ex4).trans ex', key σ' hf', ef⟩
          | ct Γ' => exact fun σ' H'' fr' A' s' ex' hf' => ⟨Γ', fr', A', s', (ex2.trans ex4).trans ex', key σ' hf', ef⟩
          | bk Γ' =>
            cases ef
            exact fun σ' H'' fr' A' s' ex' hf' => fin σ' H'' fr' A' s' (((ex1.trans ex2).trans ex4).trans ex') (key σ' hf')
          | rt d Γ' =>
            cases ef
            exact fun v σ' H'' fr' A' B p hf' => fin v σ' H'' fr' A' B (p.pre ((ex1.trans ex2).trans ex4)) (key σ' hf')
    · left
      have e : i = items.length := by omega
      subst e
      refine ⟨J1 (Nat.le_refl _), ?_⟩
      rw [List.drop_length] at ef
      simp only [forL] at ef
      cases ef
      exact fin σ2 H2 fr2 A2 s2 (ex1.trans ex2) hf2
  · cases e5
/-! ### while -/
theorem st_whl {n : Nat} {t : E} {body : List Sm} {x : Expr} {u : List Stmt} {q : Pos} (g : Gd Φ X c) (hp : PassesOwn (model X.prog X.w) X.A X.env X.xe) (ht : chkT c t x = true) (hb : PSs X u (WSs Φ X.K body)) : PS X (.While x u [] q) (WS Φ X.K (.whl n t body)) := by
  refine ps_imp (ps_while hp ((sound Φ t).2.2 c X x g ht) hb) fun D σ H q => ?_
  obtain ⟨fr, A, Γ, R, s, e1, fin⟩ := q
  simp only [evS] at e1
  refine ⟨fun m σ2 H2 => ∃ Γ2 fr2 A2, S X.K fr2 A2 Γ2 σ2 H2 ∧ Ext A fr H A2 fr2 H2 ∧ Frm (fun i => aS i (.whl n t body)) σ σ2 ∧ whlL (fun Γ => evT Φ t Γ) (fun Γ => evSs Φ body Γ) m Γ2 = some R, ⟨n, Γ, fr, A, s, .refl, .refl, e1⟩, ?_⟩
  rintro m σ2 H2 ⟨Γ2, fr2, A2, s2, ex2, hf2, ew⟩
  cases m with
  | zero => simp only [whlL] at ew; cases ew
  | succ m =>
    simp only [whlL] at ew
    cases et : evT Φ t Γ2 with
    | none => rw [et] at ew; cases ew
    | some p =>
      obtain ⟨b, Γ3⟩ := p
      rw [et] at ew
      obtain ⟨⟨d, Γ3'⟩, e4, e5⟩ := Option.bind_eq_some_iff.mp (show ((ev Φ t .tst Γ2).bind fun (d, Γ) => (truD d).map fun b => (b, Γ)) = some (b, Γ3) from et)
      obtain ⟨tv, e6, e7⟩ := Option.map_eq_some_iff.mp e5
      cases e7
      refine ⟨fr2, A2, Γ2, d, _, _, s2, e4, e6, fun H3 fr3 A3 s3 ex3 _ => ?_⟩
      cases b with
      | false =>
        simp only at ew
        cases ew
        exact fin σ2 H3 fr3 A3 s3 (ex2.trans ex3) hf2
      | true =>
        simp only at ew
        refine ⟨fun σ' H' => ∃ Γ2 fr2 A2, S X.K fr2 A2 Γ2 σ' H' ∧ Ext A fr H A2 fr2 H' ∧ Frm (fun i => aS i (.whl n t body)) σ σ' ∧ whlL (fun Γ => evT Φ t Γ) (fun Γ => evSs Φ body Γ) m Γ2 = some R, fun σ' H' w => ⟨m, Nat.lt_succ_self m, w⟩, ?_⟩
        cases eb : evSs Φ body Γ3 with
        | none => rw [eb] at ew; cases ew
        | some R1 =>
          rw [eb] at ew
          have key : ∀ σ', Frm (fun i => aSL i body) σ2 σ' → Frm (fun i => aS i (.whl n t body)) σ σ' := fun σ' h j hj => (h j (by simpa only [aS] using hj)).trans (hf2 j hj)
          refine ⟨fr3, A3, Γ3, R1, s3, eb, ?_⟩
          cases R1 with
          | nx Γ' => exact fun σ' H'' fr' A' s' ex' hf' => ⟨Γ', fr', A', s', (ex2.trans ex3).trans ex', key σ' hf', ew⟩
          | ct Γ' => exact fun σ' H'' fr' A' s' ex' hf' => ⟨Γ', fr', A', s', (ex2.trans ex3).trans ex', key σ' hf', ew⟩
          | bk Γ' =>
            cases ew
            exact fun σ' H'' fr' A' s' ex' hf' => fin σ' H'' fr' A' s' ((ex2.trans ex3).trans ex') (key σ' hf')
          | rt d Γ' =>
            cases ew
            exact fun v σ' H'' fr' A' B p hf' => fin v σ' H'' fr' A' B (p.pre (ex2.trans ex3)) (key σ' hf')
end
end Sk

namespace Sk
open PySem PySem.Spec PyProof.Rows L2
section
variable {Φ : Tab}
theorem snd_dead : Ss Φ .dead := fun c X st g hp h => ⟨fun pins s σ H D I q => by
  obtain ⟨fr, A, Γ, R, s, e1, fin⟩ := q
  simp only [evS] at e1
  cases e1⟩
theorem snd_asg (t : T) (e : E) : Ss Φ (.asg t e) := fun c X st g hp h => by
  cases st with
  | Assign tgs x q =>
    have h' := h
    simp only [chkS] at h'
    unfold chkAsg at h'
    split at h'
    · exact st_asg g h
    · exact st_asgT g h
    · cases h'
  | _ => simp [chkS] at h
theorem snd_par (i j : Nat) (a b : E) : Ss Φ (.par i j a b) := fun c X st g hp h => by
  cases st with
  | Assign tgs x q =>
    have h' := h
    simp only [chkS] at h'
    unfold chkPar at h'
    split at h'
    · exact st_parS g h
    · cases h'
  | _ => simp [chkS] at h
theorem snd_par3 (i j l : Nat) (a b d : E) : Ss Φ (.par3 i j l a b d) := fun c X st g hp h => by
  cases st with
  | Assign tgs x q =>
    have h' := h
    simp only [chkS] at h'
    unfold chkPar3 at h'
    split at h'
    · exact st_par3S g h
    · cases h'
  | _ => simp [chkS] at h
theorem snd_set (i : Nat) (path : List E) (k e : E) : Ss Φ (.set i path k e) := fun c X st g hp h => by
  cases st with
  | Assign tgs x q =>
    have h' := h
    simp only [chkS] at h'
    unfold chkSet at h'
    split at h'
    · exact st_set0 g h
    · exact st_set1 g h
    · cases h'
  | _ => simp [chkS] at h
theorem snd_aug (i : Nat) (p : Pr) (e : E) : Ss Φ (.aug i p e) := fun c X st g hp h => by
  cases st with
  | AugAssign t op y q =>
    have h' := h
    simp only [chkS] at h'
    unfold chkAug at h'
    split at h'
    · exact st_aug g h
    · cases h'
  | _ => simp [chkS] at h
theorem snd_augset (i : Nat) (path : List E) (k : E) (p : Pr) (e : E) : Ss Φ (.augset i path k p e) := fun c X st g hp h => by
  cases st with
  | AugAssign t op y q =>
    have h' := h
    simp only [chkS] at h'
    unfold chkAugS at h'
    split at h'
    · exact st_augset g h
    · cases h'
  | _ => simp [chkS] at h
theorem snd_ex (e : E) : Ss Φ (.ex e) := fun c X st g hp h => by
  cases st with
  | Expr x q => exact st_ex g h
  | _ => simp [chkS] at h
theorem snd_ext (i j : Nat) : Ss Φ (.ext i j) := fun c X st g hp h => by
  cases st with
  | Expr x q => exact st_ext g h
  | _ => simp [chkS] at h
theorem snd_ret (e : E) : Ss Φ (.ret e) := fun c X st g hp h => by
  cases st with
  | Return x q =>
    simp only [chkS] at h
    cases x with
    | some x => exact st_ret g h
    | none => cases h
  | _ => simp [chkS] at h
theorem snd_retN : Ss Φ .retN := fun c X st g hp h => by
  cases st with
  | Return x q =>
    simp only [chkS] at h
    cases x with
    | some x => cases h
    | none => exact st_retN
  | _ => simp [chkS] at h
theorem snd_pass : Ss Φ .pass := fun c X st g hp h => by
  cases st with
  | Pass q => exact ps_imp ps_pass fun D σ H q => st_pass q
  | Expr x q =>
    simp only [chkS] at h
    unfold isDoc at h
    split at h
    · exact ps_imp ps_doc fun D σ H q => st_pass q
    · cases h
  | _ => simp [chkS] at h
theorem snd_brk : Ss Φ .brk := fun c X st g hp h => by
  cases st with
  | Break q => exact ps_imp ps_break fun D σ H q => st_brk q
  | _ => simp [chkS] at h
theorem snd_cont : Ss Φ .cont := fun c X st g hp h => by
  cases st with
  | Continue q => exact ps_imp ps_continue fun D σ H q => st_cont q
  | _ => simp [chkS] at h
theorem snd_if {t : E} {a b : List Sm} (ha : SsL Φ a) (hb : SsL Φ b) : Ss Φ (.iff t a b) := fun c X st g hp h => by
  cases st with
  | If x u v q =>
    simp only [chkS, Bool.and_eq_true] at h
    exact st_if g h.1.1 (ha c X u g hp h.1.2) (hb c X v g hp h.2)
  | _ => simp [chkS] at h
theorem snd_for {t : T} {k : Ik} {src : List E} {body : List Sm} (hb : SsL Φ body) : Ss Φ (.for_ t k src body) := fun c X st g hp h => by
  cases st with
  | For tg it u o q =>
    simp only [chkS, Bool.and_eq_true, List.isEmpty_iff] at h
    obtain ⟨⟨⟨⟨rfl, h1⟩, h2⟩, h3⟩, h4⟩ := h
    split at h2
    · rename_i xs hx
      exact st_for g hp h1 hx h2 h3 (hb c X u g hp h4)
    · cases h2
  | _ => simp [chkS] at h
theorem snd_whl {n : Nat} {t : E} {body : List Sm} (hb : SsL Φ body) : Ss Φ (.whl n t body) := fun c X st g hp h => by
  cases st with
  | While x u o q =>
    simp only [chkS, Bool.and_eq_true, List.isEmpty_iff] at h
    obtain ⟨⟨rfl, h1⟩, h2⟩ := h
    exact st_whl g hp h1 (hb c X u g hp h2)
  | _ => simp [chkS] at h
end
mutual
theorem soundS (Φ : Tab) : ∀ s : Sm, Ss Φ s
  | .asg t e => snd_asg t e
  | .par i j a b => snd_par i j a b
  | .par3 i j l a b d => snd_par3 i j l a b d
  | .aug i p e => snd_aug i p e
  | .set i path k e => snd_set i path k e
  | .augset i path k p e => snd_augset i path k p e
  | .ex e => snd_ex e
  | .ext i j => snd_ext i j
  | .iff t a b => snd_if (soundSs Φ a) (soundSs Φ b)
  | .for_ t k src body => snd_for (soundSs Φ body)
  | .whl n t body => snd_whl (soundSs Φ body)
  | .ret e => snd_ret e
  | .retN => snd_retN
  | .brk => snd_brk
  | .cont => snd_cont
  | .pass => snd_pass
  | .dead => snd_dead
theorem soundSs (Φ : Tab) : ∀ ss : List Sm, SsL Φ ss
  | [] => fun c X sts g hp h => by
    cases sts with
    | nil => exact sts_nil
    | cons _ _ => simp [chkSs] at h
  | s :: ss => fun c X sts g hp h => by
    have go : ∀ x xs, sts = x :: xs → chkS c s x = true → chkSs c ss xs = true → PSs X sts (WSs Φ X.K (s :: ss)) := fun x xs e h1 h2 => by
      subst e
      exact sts_cons (soundS Φ s c X x g hp h1) (soundSs Φ ss c X xs g hp h2)
    unfold chkSs at h
    split at h
    · rename_i e
      cases e
      exact sts_dead
    · exact absurd ‹s :: ss = []› (by simp)
    · rename_i e
      cases e
      rw [Bool.and_eq_true] at h
      exact go _ _ rfl h.1 h.2
    · cases h
end
end Sk

namespace Sk
open PySem PySem.Spec PyProof.Rows L2
section
variable {K : PySem.W.Frag} {fr : Addr → Prop} {H : Hp}
theorem SlO.nones : ∀ (m : Nat), SlO K fr H (List.replicate m none) (List.replicate m none) []
  | 0 => ⟨rfl, rfl⟩
  | m + 1 => ⟨none, _, rfl, SlO.nones m⟩
theorem SlO.ofL {m : Nat} : ∀ {ds : List D} {vs : List V} {A : List Addr}, OwL K fr H ds vs A → SlO K fr H (ds.map some ++ List.replicate m none) (vs.map some ++ List.replicate m none) A
  | [], vs, A, h => by
    obtain ⟨rfl, rfl⟩ := h.nil_inv
    exact SlO.nones m
  | d :: ds, vs, A, h => by
    obtain ⟨v, us, B, C, rfl, h1, h2, rfl⟩ := h.cons_inv
    exact ⟨v, _, B, C, rfl, h1, SlO.ofL h2, rfl⟩
theorem SlO.first : ∀ {xs : List D} {vs : List V} {Γ : Gm} {σ : St} {A : List Addr}, SlO K fr H Γ σ A → xs.length = vs.length → (∀ (i : Nat) (d : D), xs[i]? = some d → Γ[i]? = some (some d)) → (∀ (i : Nat) (v : V), vs[i]? = some v → σ[i]? = some (some v)) → ∃ A1 A2, A = A1 ++ A2 ∧ OwL K fr H xs vs A1
  | [], vs, Γ, σ, A, h, hl, _, _ => by
    cases vs with
    | nil => exact ⟨[], A, rfl, OwL.nil⟩
    | cons _ _ => cases hl
  | x :: xs, vs, Γ, σ, A, h, hl, h1, h2 => by
    cases vs with
    | nil => cases hl
    | cons v vs =>
      have e1 := h1 0 x rfl
      have e2 := h2 0 v rfl
      cases Γ with
      | nil => simp at e1
      | cons g Γ =>
        rw [List.getElem?_cons_zero] at e1
        cases e1
        obtain ⟨w, r, B, C, rfl, o, hs, rfl⟩ := h
        rw [List.getElem?_cons_zero] at e2
        cases e2
        obtain ⟨A1, A2, rfl, ol⟩ := SlO.first hs (by simpa using hl) (fun i d e => by have := h1 (i + 1) d (by simpa using e); simpa using this) (fun i d e => by have := h2 (i + 1) d (by simpa using e); simpa using this)
        exact ⟨B ++ A1, A2, by rw [List.append_assoc], OwL.cons o ol⟩
theorem getSs_at : ∀ {Γ : Gm} {is : List Nat} {xs : List D}, getSs Γ is = some xs → xs.length = is.length ∧ ∀ (j : Nat) (d : D), xs[j]? = some d → ∃ i : Nat, is[j]? = some i ∧ Γ[i]? = some (some d)
  | Γ, [], xs, h => by
    simp only [getSs] at h
    cases h
    exact ⟨rfl, fun j d e => by simp at e⟩
  | Γ, i :: is, xs, h => by
    simp only [getSs] at h
    obtain ⟨d, h1, h2⟩ := Option.bind_eq_some_iff.mp h
    obtain ⟨ds, h3, rfl⟩ := Option.map_eq_some_iff.mp h2
    obtain ⟨l, f⟩ := getSs_at h3
    refine ⟨by simp [l], fun j d' e => ?_⟩
    cases j with
    | zero =>
      rw [List.getElem?_cons_zero] at e
      cases e
      exact ⟨i, rfl, getS_eq h1⟩
    | succ j => exact f j d' (by simpa using e)
theorem getSs_range {Γ : Gm} {n : Nat} {xs : List D} (h : getSs Γ (List.range n) = some xs) : xs.length = n ∧ ∀ (i : Nat) (d : D), xs[i]? = some d → Γ[i]? = some (some d) := by
  obtain ⟨l, f⟩ := getSs_at h
  rw [List.length_range] at l
  refine ⟨l, fun i d e => ?_⟩
  obtain ⟨j, h1, h2⟩ := f i d e
  have hi : i < n := by
    have := (List.getElem?_eq_some_iff.mp e).1
    omega
  rw [List.getElem?_range hi] at h1
  cases h1
  exact h2
end
/-- a def that may be called by its name -/
structure CalF (P : Program) (w : World) (K : PySem.W.Frag) (mg : Str → Option Value) (base : Heap) (k : Nat) (x : Str) (np n : Nat) (φ : Fn) : Prop where
  ex : (n = 0 ∧ np = 2 ∧ φ = gcdF ∧ mg (bse x) = some (.builtin "math.gcd")) ∨ (∃ (a : Addr) (fd : FuncData) (ps : List Str), 0 < np ∧ mg (bse x) = some (.ref a) ∧ PySem.W.keepIn K (.ref a) = true ∧ Binds K fd ps [] ∧ FnOk P w K mg base CX0 k a fd ps (spF K np n φ)) ∨ ∃ (i : Int) (t : Tok), n = 0 ∧ np = 0 ∧ φ = cstF i ∧ mg (bse x) = some (.int i t)
section
variable {P : Program} {w : World} {K : PySem.W.Frag} {mg : Str → Option Value} {base : Heap}
/-- THE RULE of a def -/
theorem fn_ok {Φ : Tab} {x qual : Str} {st : Stmt} {f : Addr} {fd : FuncData} {N ps fns : List Str} {k n : Nat} {body : List Sm} (F : Fun K x qual st f fd) (Sc : FnScope N ps (defScope st)) (hn : n ≤ ps.length)
    (hc : chkSs ⟨N, fns, defScope st, none⟩ body (defBody st) = true) (hio : ((List.range n).all fun i => !aSL i body) = true) (hbi : ∀ f ∈ bnames, mg f = none)
    (hfs : ∀ f ∈ fns, ∃ np n φ, Φ f = some (np, n, φ) ∧ CalF P w K mg base k f np n φ) : FnOk P w K mg base CX0 (k + 1) f fd ps (spF K ps.length n (evF Φ N.length n body)) := by
  refine F.ok Sc (fun vs H Q E h => ?_) (fun cdv A outer s H vs Q E hr h => ?_)
  · obtain ⟨fr, A, ds, r, xs', hl, _⟩ := h
    exact hl
  · obtain ⟨fr, B0, ds, r, xs', hl, hnd, dm, nd, dj, o1, o2, hφ, q⟩ := h
    have g : Gd Φ (cxOf CX0 P w K mg base N qual (defScope st) f cdv A outer s H E).nox ⟨N, fns, defScope st, none⟩ :=
      { N := rfl, nd := Sc.nd, sc := rfl, calm := rfl, fn := fun _ => rfl, bi := hbi
        hu := by have := hr.un; show (A.deeper (envOfC qual (defScope st) s.heap.objs.size f cdv)).units + 65 < cLine; omega
        fs := fun f hf => by
          obtain ⟨np, n, φ, h1, ⟨h2 | ⟨a, fd, ps, h0, h2, h3, h4, h5⟩ | h2⟩⟩ := hfs f hf
          · exact ⟨np, n, φ, h1, ⟨.inl h2⟩⟩
          · exact ⟨np, n, φ, h1, ⟨.inr (.inl ⟨a, fd, ps, k, h0, h2, h3, h4, h5, hr⟩)⟩⟩
          · exact ⟨np, n, φ, h1, ⟨.inr (.inr h2)⟩⟩ }
    refine ⟨_, soundSs Φ body _ _ _ g PassesOwn.never hc, ?_⟩
    have ol : OwL K fr H ds vs (B0 ++ []) := by
      have := o1.app o2
      rwa [List.take_append_drop, List.take_append_drop] at this
    rw [List.append_nil] at ol
    have hlen : vs.length = ds.length := ol.len
    unfold evF at hφ
    split at hφ
    · rename_i hle
      have s0 : S K fr B0 (ds.map some ++ List.replicate (N.length - ds.length) none) (L2.start N vs) H := by
        refine ⟨?_, nd, dj, dm⟩
        unfold L2.start
        rw [hlen]
        exact SlO.ofL ol
      have fin : ∀ {Γ' : Gm} {σ' : St} {H' : Hp} {fr' : Addr → Prop} {A' B : List Addr} {d : D} {v : V}, getSs Γ' (List.range n) = some xs' → Po K fr B0 H Γ' σ' [d] [v] fr' A' B H' → Frm (fun i => aSL i body) (L2.start N vs) σ' → d = r → Q v H' := by
        intro Γ' σ' H' fr' A' B d v hg p hf e
        subst e
        obtain ⟨l, hx⟩ := getSs_range hg
        have hnv : n ≤ vs.length := by omega
        obtain ⟨A1, A2, rfl, oA⟩ := p.s.sl.first (vs := vs.take n) (by rw [l, List.length_take]; omega) hx (fun i v e => by
          have hi : i < n := by
            have := (List.getElem?_eq_some_iff.mp e).1
            rw [List.length_take] at this
            omega
          rw [List.getElem?_take_of_lt hi] at e
          have ha : aSL i body = false := by
            rw [List.all_eq_true] at hio
            simpa using hio i (List.mem_range.mpr hi)
          rw [hf i ha]
          unfold L2.start
          rw [List.getElem?_append_left (by rw [List.length_map]; omega), List.getElem?_map, e]; rfl)
        have nd1 := p.nd
        rw [List.append_assoc] at nd1
        have hs1 : ∀ b, b ∈ A1 ++ B → b ∈ (A1 ++ A2) ++ B := fun b hb => by
          rcases List.mem_append.mp hb with z | z
          · exact List.mem_append_left _ (List.mem_append_left _ z)
          · exact List.mem_append_right _ z
        refine q v H' fr' A1 B oA (OwL.one.mp p.o) (List.nodup_append.mpr ⟨(List.nodup_append.mp nd1).1, (List.nodup_append.mp p.nd).2.1, fun a ha b hb e => ?_⟩) (fun b hb => ?_) p.s.dm (p.ex.less hs1)
        · subst e
          exact disj_of p.nd (List.mem_append_left _ ha) hb
        · rcases List.mem_append.mp hb with z | z
          · exact p.s.dj b (List.mem_append_left _ z)
          · exact p.dj b z
      split at hφ
      · rename_i Γ' he
        obtain ⟨xs, hx, e⟩ := Option.map_eq_some_iff.mp hφ
        cases e
        refine ⟨fr, B0, _, _, s0, he, fun σ' H' fr' A' s' ex hf => ?_⟩
        exact fin hx ⟨s', OwL.one.mpr (show Ow K fr' H' .non .non [] by unfold Ow; exact ⟨rfl, rfl⟩), by rw [List.append_nil]; exact s'.nd, (fun _ z => nomatch z), by rw [List.append_nil]; exact ex⟩ hf rfl
      · rename_i d Γ' he
        obtain ⟨xs, hx, e⟩ := Option.map_eq_some_iff.mp hφ
        cases e
        exact ⟨fr, B0, _, _, s0, he, fun v σ' H' fr' A' B p hf => fin hx p hf rfl⟩
      · cases hφ
    · cases hφ
/-- with no fuel -/
theorem fn_none {f : Addr} {fd : FuncData} {ps : List Str} {k np n : Nat} : FnOk P w K mg base CX0 k f fd ps (spF K np n fun _ => none) :=
  ⟨fun vs H Q E h => (by obtain ⟨fr, A, ds, r, xs', _, _, _, _, _, _, _, h, _⟩ := h; cases h), fun A outer s H args us vs Q E _ _ _ _ h => by obtain ⟨fr, A, ds, r, xs', _, _, _, _, _, _, _, h, _⟩ := h; cases h⟩
end
end Sk

namespace Sk
open PySem PySem.Spec PyProof.Rows L2
section
variable {P : Program} {w : World} {K : PySem.W.Frag} {mg : Str → Option Value} {base : Heap}
theorem CalF.mono {j k : Nat} {x : Str} {np n : Nat} {φ : Fn} (c : CalF P w K mg base j x np n φ) (h : j ≤ k) : CalF P w K mg base k x np n φ := by
  obtain ⟨h0 | ⟨a, fd, ps, hn, h1, h2, h3, h4⟩ | h5⟩ := c
  · exact ⟨.inl h0⟩
  · exact ⟨.inr (.inl ⟨a, fd, ps, hn, h1, h2, h3, h4.mono h⟩)⟩
  · exact ⟨.inr (.inr h5)⟩
theorem CalF.gcd {k : Nat} (h : mg "gcd" = some (.builtin "math.gcd")) : CalF P w K mg base k "gcd" 2 0 gcdF := ⟨.inl ⟨rfl, rfl, rfl, by rw [show bse "gcd" = "gcd" by decide +kernel]; exact h⟩⟩
theorem CalF.cst {k : Nat} {x : Str} {i : Int} {t : Tok} (hb : bse x = x) (h : mg x = some (.int i t)) : CalF P w K mg base k x 0 0 (cstF i) := ⟨.inr (.inr ⟨i, t, rfl, rfl, rfl, by rw [hb]; exact h⟩)⟩
/-- a def that stands in the module, ready to be called -/
structure DefF (K : PySem.W.Frag) (mg : Str → Option Value) (x : Str) (st : Stmt) (ps : List Str) (f : Addr) (fd : FuncData) : Prop where
  fn : Fun K x x st f fd
  mgf : mg x = some (.ref f)
  bnd : Binds K fd ps []
theorem DefF.cal {x : Str} {st : Stmt} {ps : List Str} {f : Addr} {fd : FuncData} (F : DefF K mg x st ps f fd) {key : Str} (hk : bse key = x) {k np n : Nat} {φ : Fn} (hn : 0 < np) (h : FnOk P w K mg base CX0 k f fd ps (spF K np n φ)) : CalF P w K mg base k key np n φ := ⟨.inr (.inl ⟨f, fd, ps, hn, by rw [hk]; exact F.mgf, F.fn.kp, F.bnd, h⟩)⟩
def scC (N P : List Str) (sc : Scope) : Bool :=
  decide (sc.kind = .function) && !sc.isCoroutine && !sc.isGenerator && decide N.Nodup && decide (N.take P.length = P) && P.all (fun x => decide (sc.names.lookup x = some .local) || decide (sc.names.lookup x = some .cell)) && sc.names.all (fun y => !decide (y.2 = .free))
theorem scope_by {N P : List Str} {sc : Scope} (h : scC N P sc = true) : FnScope N P sc := by
  unfold scC at h
  simp only [Bool.and_eq_true, Bool.not_eq_true', decide_eq_true_eq, List.all_eq_true, Bool.or_eq_true, decide_eq_false_iff_not] at h
  exact ⟨h.1.1.1.1.1.1, h.1.1.1.1.1.2, h.1.1.1.1.2, h.1.1.1.2, h.1.1.2, h.1.2, h.2⟩
/-- a table's rows are there -/
def Rows (P : Program) (w : World) (K : PySem.W.Frag) (mg : Str → Option Value) (base : Heap) (k : Nat) (Φ : Tab) (fns : List Str) : Prop := ∀ f ∈ fns, ∃ np n φ, Φ f = some (np, n, φ) ∧ CalF P w K mg base k f np n φ
theorem DefF.okK {x key : Str} (hk : bse key = x)  {st : Stmt} {N ps fns : List Str} {f : Addr} {fd : FuncData} {body : List Sm} {Φ : Tab} {k n : Nat} (F : DefF K mg x st ps f fd) (sc : scC N ps (defScope st) = true) (hc : chkSs ⟨N, fns, defScope st, none⟩ body (defBody st) = true) (hbi : ∀ f ∈ bnames, mg f = none)
    (hio : (decide (n ≤ ps.length) && (List.range n).all fun i => !aSL i body) = true) (hr : Rows P w K mg base k Φ fns) (hpn : 0 < ps.length) : CalF P w K mg base (k + 1) key ps.length n (evF Φ N.length n body) := by
  rw [Bool.and_eq_true, decide_eq_true_eq] at hio
  exact F.cal hk hpn (fn_ok F.fn (scope_by sc) hio.1 hc hio.2 hbi hr)
theorem DefF.ok {x : Str} {st : Stmt} {N ps fns : List Str} {f : Addr} {fd : FuncData} {body : List Sm} {Φ : Tab} {k n : Nat} (F : DefF K mg x st ps f fd) (sc : scC N ps (defScope st) = true) (hc : chkSs ⟨N, fns, defScope st, none⟩ body (defBody st) = true) (hbi : ∀ f ∈ bnames, mg f = none)
    (hio : (decide (n ≤ ps.length) && (List.range n).all fun i => !aSL i body) = true) (hr : Rows P w K mg base k Φ fns) (hk : bse x = x := by decide +kernel) (hpn : 0 < ps.length := by decide) : CalF P w K mg base (k + 1) x ps.length n (evF Φ N.length n body) := DefF.okK hk F sc hc hbi hio hr hpn
/-- the law's own def -/
theorem DefF.okL {x : Str} {st : Stmt} {N ps fns : List Str} {f : Addr} {fd : FuncData} {body : List Sm} {Φ : Tab} {k : Nat} (F : DefF K mg x st ps f fd) (sc : scC N ps (defScope st) = true) (hc : chkSs ⟨N, fns, defScope st, none⟩ body (defBody st) = true) (hbi : ∀ f ∈ bnames, mg f = none)
    (hr : Rows P w K mg base k Φ fns) : FnOk P w K mg base CX0 (k + 1) f fd ps (spF K ps.length 0 (evF Φ N.length 0 body)) := fn_ok F.fn (scope_by sc) (Nat.zero_le _) hc rfl hbi hr
end
/-- a def that calls itself: by fuel -/
def recF (Φ : Fn → Tab) (slots n : Nat) (body : List Sm) : Nat → Fn
  | 0 => fun _ => none
  | j + 1 => evF (Φ (recF Φ slots n body j)) slots n body
section
variable {P : Program} {w : World} {K : PySem.W.Frag} {mg : Str → Option Value} {base : Heap}
theorem DefF.okR {x : Str} {st : Stmt} {N ps fns : List Str} {f : Addr} {fd : FuncData} {body : List Sm} {Φ : Fn → Tab} {k n : Nat} (F : DefF K mg x st ps f fd) (sc : scC N ps (defScope st) = true) (hc : chkSs ⟨N, fns, defScope st, none⟩ body (defBody st) = true) (hbi : ∀ f ∈ bnames, mg f = none)
    (hio : (decide (n ≤ ps.length) && (List.range n).all fun i => !aSL i body) = true) (hr : ∀ j φ, CalF P w K mg base (k + j) x ps.length n φ → Rows P w K mg base (k + j) (Φ φ) fns) (hk : bse x = x := by decide +kernel) (hpn : 0 < ps.length := by decide) : ∀ j, CalF P w K mg base (k + j) x ps.length n (recF Φ N.length n body j)
  | 0 => F.cal hk hpn fn_none
  | j + 1 => DefF.ok F sc hc hbi hio (hr j _ (DefF.okR F sc hc hbi hio hr hk hpn j)) hk hpn
/-- the head: the script as the law's argument -/
theorem sp_end {φ : Fn} (h : ∀ ns : List Int, ns.length ≤ 63 → ∃ xs', φ [.scr ns] = some (.bl true, xs')) (H : Hp) (a : Addr) (ns : List Int) (hl : ns.length ≤ 63) (hS : SqL K H a (ns.map V.int)) (E : XK) : spF K 1 0 φ [.ref a] H (fun v _ => v = .bl true) E := by
  obtain ⟨xs', e⟩ := h ns hl
  refine ⟨fun b => ∃ x, H b = some x, [], [.scr ns], _, xs', rfl, Nat.zero_le _, fun b hb => hb, List.nodup_nil, (fun _ z => nomatch z), OwL.nil, OwL.one.mpr ?_, e, fun v H' fr' A' B _ o _ _ _ _ => (show Vw K fr' H' (.bl true) v from ⟨B, o⟩).bl⟩
  unfold Ow
  refine ⟨⟨a, rfl, ?_⟩, rfl⟩
  rcases hS with z | z
  · rcases z with z | ⟨o, z⟩
    · exact .inl ⟨⟨_, z⟩, .inl z⟩
    · exact .inl ⟨⟨_, z⟩, .inr ⟨o, z⟩⟩
  · exact .inr z
end
end Sk
namespace Sk
open PySem PySem.Spec PyProof.Rows L2
abbrev Rw := Str × Nat × Nat × Fn
def lk (rows : List Rw) : Tab := fun g => rows.lookup g
section
variable {P : Program} {w : World} {K : PySem.W.Frag} {mg : Str → Option Value} {base : Heap} {k : Nat}
def Rws (P : Program) (w : World) (K : PySem.W.Frag) (mg : Str → Option Value) (base : Heap) (k : Nat) (rows : List Rw) : Prop := ∀ r ∈ rows, CalF P w K mg base k r.1 r.2.1 r.2.2.1 r.2.2.2
theorem Rws.nil : Rws P w K mg base k [] := fun _ h => nomatch h
theorem Rws.cons {j : Nat} {x : Str} {np n : Nat} {φ : Fn} {rows : List Rw} (c : CalF P w K mg base j x np n φ) (hj : j ≤ k) (h : Rws P w K mg base k rows) : Rws P w K mg base k ((x, np, n, φ) :: rows) := fun r hr => by
  rcases List.mem_cons.mp hr with rfl | hr
  · exact c.mono hj
  · exact h r hr
theorem Rws.rows {rows : List Rw} {fns : List Str} (h : Rws P w K mg base k rows) (hf : (fns.all fun f => (rows.map (·.1)).contains f) = true) : Rows P w K mg base k (lk rows) fns := fun f hm => by
  rw [List.all_eq_true] at hf
  have := hf f hm
  have go : ∀ l : List Rw, (∀ r ∈ l, r ∈ rows) → (l.map (·.1)).contains f = true → ∃ np n φ, l.lookup f = some (np, n, φ) ∧ CalF P w K mg base k f np n φ := by
    intro l
    induction l with
    | nil => intro _ h; simp at h
    | cons r l ih =>
      intro hs hc
      obtain ⟨x, np, n, φ⟩ := r
      by_cases e : f = x
      · subst e
        exact ⟨np, n, φ, by simp [List.lookup], h _ (hs _ List.mem_cons_self)⟩
      · have : (l.map (·.1)).contains f = true := by
          simp only [List.map_cons, List.contains_cons, Bool.or_eq_true, beq_iff_eq] at hc
          exact hc.resolve_left e
        obtain ⟨np', n', φ', h1, h2⟩ := ih (fun r hr => hs r (List.mem_cons_of_mem _ hr)) this
        refine ⟨np', n', φ', ?_, h2⟩
        rw [List.lookup_cons]
        rw [show (f == x) = false from beq_eq_false_iff_ne.mpr e]
        exact h1
  exact go rows (fun _ h => h) this
end
end Sk

/-! the parts that every law has -/
namespace Sk.H
open PySem PySem.Spec PyProof.Rows L2 Sk
/-! _law_cell -/
def N_law_cell : List Str := ["script", "k"]
def F_law_cell : List Str := []
def b_law_cell : List Sm := [
  .iff (.pr .lt [(.loc 1), (.pr .len [(.loc 0)])]) [
    .ret (.idx (.loc 0) (.loc 1))] [],
  .ret (.int 0)]
def f_law_cell : Fn := evF (lk []) N_law_cell.length 0 b_law_cell

/-! _law_digits -/
def N_law_digits : List Str := ["script", "first", "last", "digits", "k", "cell", "turn", "seed"]
def F_law_digits : List Str := ["_law_cell"]
def b_law_digits : List Sm := [
  .asg (.n 3) (.lst []),
  .for_ (.n 4) .range [(.loc 1), (.loc 2)] [
    .asg (.n 5) (.call "_law_cell" [(.loc 0), (.loc 4)]),
    .iff (.pr .lt [(.loc 5), (.int 0)]) [
      .asg (.n 5) (.pr .sub [(.int 1), (.pr .mul [(.int 2), (.loc 5)])])] [],
    .iff (.pr .ge [(.loc 5), (.pr .pow [(.int 10), (.int 18)])]) [
      .for_ (.n 6) .range [(.int 60)] [
        .iff (.pr .gt [(.loc 5), (.int 0)]) [
          .ex (.mut 3 [] .append [(.pr .mod [(.pr .int_ [(.loc 5)]), (.int 1000)])]),
          .asg (.n 5) (.pr .fdiv [(.loc 5), (.int 1000)])] []]] [
      .asg (.n 7) (.pr .mod [(.pr .int_ [(.pr .add [(.pr .add [(.pr .mul [(.loc 5), (.int 48271)]), (.pr .mul [(.loc 4), (.int 69621)])]), (.int 11)])]), (.int 2147483647)]),
      .for_ (.n 6) .range [(.int 12)] [
        .asg (.n 7) (.pr .mod [(.pr .int_ [(.pr .add [(.pr .add [(.pr .mul [(.loc 7), (.int 16807)]), (.pr .mul [(.int 7), (.loc 6)])]), (.int 1)])]), (.int 2147483647)]),
        .ex (.mut 3 [] .append [(.pr .mod [(.pr .int_ [(.pr .fdiv [(.loc 7), (.int 997)])]), (.int 1000)])])]]],
  .ret (.mov 3)]
def f_law_digits : Fn := evF (lk [("_law_cell", 2, 0, f_law_cell)]) N_law_digits.length 0 b_law_digits

/-! _law_draw -/
def N_law_draw : List Str := ["box", "many"]
def F_law_draw : List Str := []
def b_law_draw : List Sm := [
  .set 0 [] (.int 1) (.pr .add [(.idx (.loc 0) (.int 1)), (.int 1)]),
  .iff (.pr .gt [(.idx (.loc 0) (.int 1)), (.pr .len [(.idx (.loc 0) (.int 0))])]) [
    .ret (.pr .mod [(.pr .int_ [(.pr .add [(.pr .mul [(.idx (.loc 0) (.int 1)), (.int 7)]), (.int 3)])]), (.loc 1)])] [],
  .ret (.pr .mod [(.pr .int_ [(.idx (.idx (.loc 0) (.int 0)) (.pr .sub [(.idx (.loc 0) (.int 1)), (.int 1)]))]), (.loc 1)])]
def f_law_draw : Fn := evF (lk []) N_law_draw.length 1 b_law_draw

/-! _law_pick -/
def N_law_pick : List Str := ["box", "row"]
def F_law_pick : List Str := ["_law_draw"]
def b_law_pick : List Sm := [
  .ret (.idx (.auto 1) (.pr .mod [(.pr .int_ [(.cio "_law_draw" [0] [(.int 1000)])]), (.pr .len [(.loc 1)])]))]
def f_law_pick : Fn := evF (lk [("_law_draw", 2, 1, f_law_draw)]) N_law_pick.length 1 b_law_pick

/-! _law_same -/
def N_law_same : List Str := ["told", "due", "k"]
def F_law_same : List Str := ["_law_same"]
def b_law_same : List Sm := [
  .iff (.pr .isN [(.loc 1)]) [
    .ret (.pr .isN [(.loc 0)])] [],
  .iff (.pr (.isB true) [(.loc 1)]) [
    .ret (.pr (.isB true) [(.loc 0)])] [],
  .iff (.pr (.isB false) [(.loc 1)]) [
    .ret (.pr (.isB false) [(.loc 0)])] [],
  .iff (.pr (.isa "str") [(.loc 1)]) [
    .ret (.and_ [(.pr (.isa "str") [(.loc 0)]), (.pr .eq [(.pr .repr [(.loc 0)]), (.pr .repr [(.loc 1)])])])] [],
  .iff (.pr (.isa "int") [(.loc 1)]) [
    .ret (.and_ [(.pr (.isa "int") [(.loc 0)]), (.not_ (.pr (.isa "bool") [(.loc 0)])), (.pr .eq [(.pr .repr [(.loc 0)]), (.pr .repr [(.loc 1)])])])] [],
  .iff (.or_ [(.and_ [(.pr (.isa "tuple") [(.loc 1)]), (.not_ (.pr (.isa "tuple") [(.loc 0)]))]), (.and_ [(.pr (.isa "list") [(.loc 1)]), (.not_ (.pr (.isa "list") [(.loc 0)]))])]) [
    .ret (.bl false)] [],
  .iff (.pr .ne [(.pr .len [(.loc 0)]), (.pr .len [(.loc 1)])]) [
    .ret (.bl false)] [],
  .for_ (.n 2) .range [(.pr .len [(.loc 1)])] [
    .iff (.not_ (.call "_law_same" [(.idx (.loc 0) (.loc 2)), (.idx (.loc 1) (.loc 2))])) [
      .ret (.bl false)] []],
  .ret (.bl true)]
def r_law_same : Nat → Fn := recF (fun φ => lk (("_law_same", 2, 0, φ) :: [])) N_law_same.length 0 b_law_same
def f_law_same : Fn := r_law_same 12

end Sk.H

namespace Sk.H
open PySem PySem.Spec PyProof.Rows L2 Sk
theorem ixD_nat {n k : Nat} (h : k < n) : ixD n (k : Int) = some k := by
  unfold ixD
  rw [if_pos (by omega), if_pos (by omega)]
  rfl
/-- one cell of the script -/
theorem cell (ns : List Int) (k : Nat) : ∃ c : Int, f_law_cell [.scr ns, .int k] = some (.int c, []) := by
  by_cases h : k < ns.length
  · refine ⟨ns[k], ?_⟩
    have e : ixD ns.length (k : Int) = some k := ixD_nat h
    simp [f_law_cell, evF, N_law_cell, b_law_cell, evSs, evS, evT, ev, evOs, evE, getS, fin, fin2, prF, ltF, truD, root, pur, purL, dSeq, frz, un, h, idxF, e, getSs, evEs]
  · refine ⟨0, ?_⟩
    simp [f_law_cell, evF, N_law_cell, b_law_cell, evSs, evS, evT, ev, evOs, evE, getS, fin, fin2, prF, ltF, truD, root, pur, purL, dSeq, frz, un, h, idxF, getSs, evEs]
/-- a loop with what stays true -/
theorem for_inv {f : D → Gm → Option R} (I : Gm → Prop) : ∀ {items : List D} {Γ : Gm}, (∀ d ∈ items, ∀ Γ, I Γ → ∃ Γ', f d Γ = some (.nx Γ') ∧ I Γ') → I Γ → ∃ Γ', forL f items Γ = some (.nx Γ') ∧ I Γ'
  | [], Γ, _, h => ⟨Γ, rfl, h⟩
  | d :: ds, Γ, hs, h => by
    obtain ⟨Γ1, e1, h1⟩ := hs d List.mem_cons_self Γ h
    obtain ⟨Γ2, e2, h2⟩ := for_inv I (fun x hx => hs x (List.mem_cons_of_mem _ hx)) h1
    refine ⟨Γ2, ?_, h2⟩
    simp only [forL, e1]
    exact e2
/-- .. by the item's place -/
theorem for_at {f : D → Gm → Option R} (I : Nat → Gm → Prop) : ∀ {items : List D} {Γ : Gm} {k : Nat}, (∀ i d, items[i]? = some d → ∀ Γ, I (k + i) Γ → ∃ Γ', f d Γ = some (.nx Γ') ∧ I (k + i + 1) Γ') → I k Γ → ∃ Γ', forL f items Γ = some (.nx Γ') ∧ I (k + items.length) Γ'
  | [], Γ, k, _, h => ⟨Γ, rfl, h⟩
  | d :: ds, Γ, k, hs, h => by
    obtain ⟨Γ1, e1, h1⟩ := hs 0 d rfl Γ h
    obtain ⟨Γ2, e2, h2⟩ := for_at I (items := ds) (k := k + 1) (fun i x hx Γ hI => by
      have := hs (i + 1) x (by simpa using hx) Γ (by rw [show k + (i + 1) = k + 1 + i by omega]; exact hI)
      rw [show k + 1 + i + 1 = k + (i + 1) + 1 by omega]
      exact this) h1
    refine ⟨Γ2, ?_, ?_⟩
    · simp only [forL, e1]
      exact e2
    · rw [List.length_cons, show k + (ds.length + 1) = k + 1 + ds.length by omega]
      exact h2
/-- the digits so far: small numbers -/
def Dg (m : Nat) (ds : List D) : Prop := ds.length ≤ m ∧ ∃ is : List Int, ds = is.map D.int
end Sk.H

namespace Sk.H
open PySem PySem.Spec PyProof.Rows L2 Sk
def Small (is : List Int) : Prop := ∀ i ∈ is, 0 ≤ i ∧ i < 1000
theorem Small.app {is : List Int} {i : Int} (h : Small is) (h0 : 0 ≤ i) (h1 : i < 1000) : Small (is ++ [i]) := fun x hx => by
  rcases List.mem_append.mp hx with z | z
  · exact h x z
  · rw [List.mem_singleton] at z; subst z; exact ⟨h0, h1⟩
def bodyA : List Sm := [
        .iff (.pr .gt [(.loc 5), (.int 0)]) [
          .ex (.mut 3 [] .append [(.pr .mod [(.pr .int_ [(.loc 5)]), (.int 1000)])]),
          .asg (.n 5) (.pr .fdiv [(.loc 5), (.int 1000)])] []]
def bodyB : List Sm := [
        .asg (.n 7) (.pr .mod [(.pr .int_ [(.pr .add [(.pr .add [(.pr .mul [(.loc 7), (.int 16807)]), (.pr .mul [(.int 7), (.loc 6)])]), (.int 1)])]), (.int 2147483647)]),
        .ex (.mut 3 [] .append [(.pr .mod [(.pr .int_ [(.pr .fdiv [(.loc 7), (.int 997)])]), (.int 1000)])])]
theorem stepA {Φ : Tab} {s a b k x7 : Option D} {x6 : D} {is : List Int} {c : Int} (hs : Small is) (hz : is.length < sizeLine) : ∃ is' c', evSs Φ bodyA [s, a, b, some (.lst true (is.map .int)), k, some (.int c), some x6, x7] = some (.nx [s, a, b, some (.lst true (is'.map .int)), k, some (.int c'), some x6, x7]) ∧ Small is' ∧ is'.length ≤ is.length + 1 := by
  by_cases h : 0 < c
  · refine ⟨is ++ [c.fmod 1000], c.fdiv 1000, ?_, hs.app (Int.fmod_nonneg_of_pos _ (by decide)) (Int.fmod_lt_of_pos _ (by decide)), by simp⟩
    simp [bodyA, evSs, evS, evT, ev, evOs, evEs, evE, getS, fin, fin2, prF, ltF, truD, root, pur, purL, frz, h, isLAt, updP, mmF, divOk, asgT, hz]
  · refine ⟨is, c, ?_, hs, by omega⟩
    simp [bodyA, evSs, evS, evT, ev, evOs, evEs, evE, getS, fin, fin2, prF, ltF, truD, root, pur, purL, frz, h, isLAt, updP, mmF, divOk, asgT]
theorem stepB {Φ : Tab} {s a b k x5 : Option D} {t : Int} {is : List Int} {c : Int} (hs : Small is) (hz : is.length < sizeLine) : ∃ is' c', evSs Φ bodyB [s, a, b, some (.lst true (is.map .int)), k, x5, some (.int t), some (.int c)] = some (.nx [s, a, b, some (.lst true (is'.map .int)), k, x5, some (.int t), some (.int c')]) ∧ Small is' ∧ is'.length ≤ is.length + 1 := by
  refine ⟨is ++ [(((c * 16807 + 7 * t + 1).fmod 2147483647).fdiv 997).fmod 1000], (c * 16807 + 7 * t + 1).fmod 2147483647, ?_, hs.app (Int.fmod_nonneg_of_pos _ (by decide)) (Int.fmod_lt_of_pos _ (by decide)), by simp⟩
  simp [bodyB, evSs, evS, evT, ev, evOs, evEs, evE, getS, fin, fin2, prF, ltF, truD, root, pur, purL, frz, isLAt, updP, mmF, divOk, asgT, hz, mulOk]
end Sk.H

namespace Sk.H
open PySem PySem.Spec PyProof.Rows L2 Sk
theorem rangeL_get {lo : Int} : ∀ {n i : Nat} {d : D}, (rangeL lo n)[i]? = some d → d = .int (lo + i) ∧ i < n
  | n, i, d, h => by
    have hi : i < n := by
      have := (List.getElem?_eq_some_iff.mp h).1
      rw [rangeL_len] at this; exact this
    rw [rangeL_at hi] at h
    exact ⟨(Option.some.inj h).symm, hi⟩
theorem loopA {Φ : Tab} {s a b k x6 x7 : Option D} {is : List Int} {c : Int} (hs : Small is) (hz : is.length + 60 < sizeLine) : ∃ is' c' y, forL (fun d Γ => (asgT (.n 6) d Γ).bind fun Γ => evSs Φ bodyA Γ) (rangeL 0 60) [s, a, b, some (.lst true (is.map .int)), k, some (.int c), x6, x7] = some (.nx [s, a, b, some (.lst true (is'.map .int)), k, some (.int c'), y, x7]) ∧ Small is' ∧ is'.length ≤ is.length + 60 := by
  obtain ⟨Γ', e, is', c', y, rfl, h1, h2⟩ := for_at (f := fun d Γ => (asgT (.n 6) d Γ).bind fun Γ => evSs Φ bodyA Γ) (fun j Γ => ∃ (is' : List Int) (c' : Int) (y : Option D), Γ = [s, a, b, some (.lst true (is'.map .int)), k, some (.int c'), y, x7] ∧ Small is' ∧ is'.length ≤ is.length + j) (items := rangeL 0 60) (k := 0) (Γ := [s, a, b, some (.lst true (is.map .int)), k, some (.int c), x6, x7]) (fun i d hd Γ hI => by
    obtain ⟨is', c', y, rfl, h1, h2⟩ := hI
    obtain ⟨rfl, hi⟩ := rangeL_get hd
    obtain ⟨is2, c2, e, h3, h4⟩ := stepA (Φ := Φ) (s := s) (a := a) (b := b) (k := k) (x7 := x7) (x6 := .int (0 + (i : Int))) (c := c') h1 (by omega)
    exact ⟨_, e, is2, c2, some (.int (0 + (i : Int))), rfl, h3, by omega⟩) ⟨is, c, x6, rfl, hs, by omega⟩
  exact ⟨is', c', y, e, h1, by rw [rangeL_len] at h2; omega⟩
theorem loopB {Φ : Tab} {s a b k x5 x6 : Option D} {is : List Int} {c : Int} (hs : Small is) (hz : is.length + 12 < sizeLine) : ∃ is' c' y, forL (fun d Γ => (asgT (.n 6) d Γ).bind fun Γ => evSs Φ bodyB Γ) (rangeL 0 12) [s, a, b, some (.lst true (is.map .int)), k, x5, x6, some (.int c)] = some (.nx [s, a, b, some (.lst true (is'.map .int)), k, x5, y, some (.int c')]) ∧ Small is' ∧ is'.length ≤ is.length + 12 := by
  obtain ⟨Γ', e, is', c', y, rfl, h1, h2⟩ := for_at (f := fun d Γ => (asgT (.n 6) d Γ).bind fun Γ => evSs Φ bodyB Γ) (fun j Γ => ∃ (is' : List Int) (c' : Int) (y : Option D), Γ = [s, a, b, some (.lst true (is'.map .int)), k, x5, y, some (.int c')] ∧ Small is' ∧ is'.length ≤ is.length + j) (items := rangeL 0 12) (k := 0) (Γ := [s, a, b, some (.lst true (is.map .int)), k, x5, x6, some (.int c)]) (fun i d hd Γ hI => by
    obtain ⟨is', c', y, rfl, h1, h2⟩ := hI
    obtain ⟨rfl, hi⟩ := rangeL_get hd
    obtain ⟨is2, c2, e, h3, h4⟩ := stepB (Φ := Φ) (s := s) (a := a) (b := b) (k := k) (x5 := x5) (t := 0 + (i : Int)) (c := c') h1 (by omega)
    exact ⟨_, e, is2, c2, some (.int (0 + (i : Int))), rfl, h3, by omega⟩) ⟨is, c, x6, rfl, hs, by omega⟩
  exact ⟨is', c', y, e, h1, by rw [rangeL_len] at h2; omega⟩
def bodyD : List Sm := [
    .asg (.n 5) (.call "_law_cell" [(.loc 0), (.loc 4)]),
    .iff (.pr .lt [(.loc 5), (.int 0)]) [
      .asg (.n 5) (.pr .sub [(.int 1), (.pr .mul [(.int 2), (.loc 5)])])] [],
    .iff (.pr .ge [(.loc 5), (.pr .pow [(.int 10), (.int 18)])]) [
      .for_ (.n 6) .range [(.int 60)] bodyA] [
      .asg (.n 7) (.pr .mod [(.pr .int_ [(.pr .add [(.pr .add [(.pr .mul [(.loc 5), (.int 48271)]), (.pr .mul [(.loc 4), (.int 69621)])]), (.int 11)])]), (.int 2147483647)]),
      .for_ (.n 6) .range [(.int 12)] bodyB]]
/-- the second half of a turn -/
theorem turn2 {Φ : Tab} {s a b x6 x7 : Option D} {is : List Int} {c k : Int} (hs : Small is) (hz : is.length + 60 < sizeLine) : ∃ is' c' y z, evS Φ (.iff (.pr .ge [(.loc 5), (.pr .pow [(.int 10), (.int 18)])]) [
      .for_ (.n 6) .range [(.int 60)] bodyA] [
      .asg (.n 7) (.pr .mod [(.pr .int_ [(.pr .add [(.pr .add [(.pr .mul [(.loc 5), (.int 48271)]), (.pr .mul [(.loc 4), (.int 69621)])]), (.int 11)])]), (.int 2147483647)]),
      .for_ (.n 6) .range [(.int 12)] bodyB]) [s, a, b, some (.lst true (is.map .int)), some (.int k), some (.int c), x6, x7] = some (.nx [s, a, b, some (.lst true (is'.map .int)), some (.int k), some (.int c'), y, z]) ∧ Small is' ∧ is'.length ≤ is.length + 60 := by
  by_cases h : c < 1000000000000000000
  · obtain ⟨is', c', y, e, h1, h2⟩ := loopB (Φ := Φ) (s := s) (a := a) (b := b) (k := some (.int k)) (x5 := some (.int c)) (x6 := x6) (c := (c * 48271 + k * 69621 + 11).fmod 2147483647) hs (by omega)
    refine ⟨is', c, y, some (.int c'), ?_, h1, by omega⟩
    simp only [asgT] at e
    simp [evSs, evS, evT, ev, evOs, evEs, evE, getS, fin, fin2, prF, ltF, truD, root, pur, purL, frz, powOk, mulOk, itF, rgOk, unL, un, asgT, h, e]
  · obtain ⟨is', c', y, e, h1, h2⟩ := loopA (Φ := Φ) (s := s) (a := a) (b := b) (k := some (.int k)) (x7 := x7) (x6 := x6) (c := c) hs hz
    refine ⟨is', c', y, x7, ?_, h1, h2⟩
    simp only [asgT] at e
    simp [evSs, evS, evT, ev, evOs, evEs, evE, getS, fin, fin2, prF, ltF, truD, root, pur, purL, frz, powOk, mulOk, itF, rgOk, unL, un, asgT, h, e]
theorem turn1 {ns : List Int} {a b x5 x6 x7 : Option D} {is : List Int} {k : Nat} (hs : Small is) (hz : is.length + 60 < sizeLine) : ∃ is' c' y z, evSs (lk [("_law_cell", 2, 0, f_law_cell)]) bodyD [some (.scr ns), a, b, some (.lst true (is.map .int)), some (.int (k : Int)), x5, x6, x7] = some (.nx [some (.scr ns), a, b, some (.lst true (is'.map .int)), some (.int (k : Int)), some (.int c'), y, z]) ∧ Small is' ∧ is'.length ≤ is.length + 60 := by
  obtain ⟨c, hc⟩ := cell ns k
  have step : evSs (lk [("_law_cell", 2, 0, f_law_cell)]) bodyD [some (.scr ns), a, b, some (.lst true (is.map .int)), some (.int (k : Int)), x5, x6, x7] = (evS (lk [("_law_cell", 2, 0, f_law_cell)]) (.iff (.pr .ge [(.loc 5), (.pr .pow [(.int 10), (.int 18)])]) [
      .for_ (.n 6) .range [(.int 60)] bodyA] [
      .asg (.n 7) (.pr .mod [(.pr .int_ [(.pr .add [(.pr .add [(.pr .mul [(.loc 5), (.int 48271)]), (.pr .mul [(.loc 4), (.int 69621)])]), (.int 11)])]), (.int 2147483647)]),
      .for_ (.n 6) .range [(.int 12)] bodyB]) [some (.scr ns), a, b, some (.lst true (is.map .int)), some (.int (k : Int)), some (.int (if c < 0 then 1 - 2 * c else c)), x6, x7]).bind fun x => match x with
        | .nx Γ' => some (.nx Γ')
        | x => some x := by
    generalize hq : (Sm.iff (.pr .ge [(.loc 5), (.pr .pow [(.int 10), (.int 18)])]) [
      .for_ (.n 6) .range [(.int 60)] bodyA] [
      .asg (.n 7) (.pr .mod [(.pr .int_ [(.pr .add [(.pr .add [(.pr .mul [(.loc 5), (.int 48271)]), (.pr .mul [(.loc 4), (.int 69621)])]), (.int 11)])]), (.int 2147483647)]),
      .for_ (.n 6) .range [(.int 12)] bodyB]) = q
    unfold bodyD
    rw [hq]
    by_cases h : c < 0
    · simp [evSs, evS, evT, ev, evOs, evEs, evE, getS, fin, fin2, prF, ltF, truD, root, pur, purL, frz, frzL, unL, un, al, asgT, h, lk, List.lookup, hc, mulOk] <;> rfl
    · simp [evSs, evS, evT, ev, evOs, evEs, evE, getS, fin, fin2, prF, ltF, truD, root, pur, purL, frz, frzL, unL, un, al, asgT, h, lk, List.lookup, hc, mulOk] <;> rfl
  obtain ⟨is', c', y, z, e, h1, h2⟩ := turn2 (Φ := lk [("_law_cell", 2, 0, f_law_cell)]) (s := some (.scr ns)) (a := a) (b := b) (x6 := x6) (x7 := x7) (c := if c < 0 then 1 - 2 * c else c) (k := (k : Int)) hs hz
  exact ⟨is', c', y, z, by rw [step, e]; rfl, h1, h2⟩
end Sk.H

namespace Sk.H
open PySem PySem.Spec PyProof.Rows L2 Sk
theorem sz60 {n : Nat} (h : n ≤ 1000) : 60 * n + 60 < sizeLine := Nat.lt_of_le_of_lt (show 60 * n + 60 ≤ 100000 by omega) (by decide)
theorem digits_run (ns : List Int) (a m : Nat) (B : Option D) (hz : m ≤ 1000) : ∃ (is' : List Int) (y4 y5 y6 y7 : Option D), forL (fun d Γ => (asgT (.n 4) d Γ).bind fun Γ => evSs (lk [("_law_cell", 2, 0, f_law_cell)]) bodyD Γ) (rangeL (a : Int) m) [some (.scr ns), some (.int (a : Int)), B, some (.lst true []), none, none, none, none] = some (.nx [some (.scr ns), some (.int (a : Int)), B, some (.lst true (is'.map .int)), y4, y5, y6, y7]) ∧ Small is' ∧ is'.length ≤ 60 * m := by
  obtain ⟨Γ', e, is', y4, y5, y6, y7, e2, h1, h2⟩ := for_at (f := fun d Γ => (asgT (.n 4) d Γ).bind fun Γ => evSs (lk [("_law_cell", 2, 0, f_law_cell)]) bodyD Γ) (fun j Γ => ∃ (is' : List Int) (y4 y5 y6 y7 : Option D), Γ = [some (.scr ns), some (.int (a : Int)), B, some (.lst true (is'.map .int)), y4, y5, y6, y7] ∧ Small is' ∧ is'.length ≤ 60 * j) (items := rangeL (a : Int) m) (k := 0) (Γ := [some (.scr ns), some (.int (a : Int)), B, some (.lst true []), none, none, none, none]) (fun i d hd Γ hI => by
    obtain ⟨is', y4, y5, y6, y7, e0, h1, h2⟩ := hI
    subst e0
    obtain ⟨e1, hi⟩ := rangeL_get hd
    subst e1
    have hs := sz60 hz
    obtain ⟨is2, c2, y, z, e, h3, h4⟩ := turn1 (ns := ns) (a := some (.int (a : Int))) (b := B) (x5 := y5) (x6 := y6) (x7 := y7) (k := a + i) h1 (Nat.lt_of_le_of_lt (by omega) hs)
    refine ⟨_, e, is2, some (.int ((a + i : Nat) : Int)), some (.int c2), y, z, rfl, h3, by omega⟩) ⟨[], none, none, none, none, rfl, (fun _ z => nomatch z), Nat.zero_le _⟩
  rw [rangeL_len] at h2
  subst e2
  exact ⟨is', y4, y5, y6, y7, e, h1, by omega⟩
end Sk.H

namespace Sk.H
open PySem PySem.Spec PyProof.Rows L2 Sk
theorem rg_small {a : Nat} (h : a ≤ 1000) : rgOk (a : Int) = true := by unfold rgOk; exact decide_eq_true (by omega)
theorem sz0 : szOk 0 = true := by decide
theorem for_range2 (Φ : Tab) (t : T) (q : List Sm) (a b : Int) (s c : Option D) (r : List (Option D)) (h1 : rgOk a = true) (h2 : rgOk b = true) : evS Φ (.for_ t .range [(.loc 1), (.loc 2)] q) (s :: some (.int a) :: some (.int b) :: r) = forL (fun d Γ => (asgT t d Γ).bind fun Γ => evSs Φ q Γ) (rangeL a (b - a).toNat) (s :: some (.int a) :: some (.int b) :: r) := by
  have hi : itF .range [.int a, .int b] = some (rangeL a (b - a).toNat) := by
    show (if (rgOk a && rgOk b) = true then some (rangeL a (b - a).toNat) else none) = _
    rw [h1, h2, if_pos (show (true && true) = true from rfl)]
  have ho : evOs Φ [(.loc 1), (.loc 2)] (s :: some (.int a) :: some (.int b) :: r) = some ([.int a, .int b], s :: some (.int a) :: some (.int b) :: r) := by
    simp only [evOs, ev, getS, fin2, root, pur, purL, List.getElem?_cons_zero, List.getElem?_cons_succ, Option.join_some, Option.bind_some, Bool.or_true, Bool.and_true, ite_true]
  unfold evS
  rw [ho]
  simp only [Option.bind_some, hi]
  rw [if_pos (show unL [D.int a, .int b] = true from rfl)]
theorem ev_start (Φ : Tab) (s a b : D) (y4 y5 y6 y7 : Option D) : evS Φ (.asg (.n 3) (.lst [])) [some s, some a, some b, none, y4, y5, y6, y7] = some (.nx [some s, some a, some b, some (.lst true []), y4, y5, y6, y7]) := by
  simp [evS, evE, ev, evEs, sz0, fin, asgT]
theorem ev_ret (Φ : Tab) (s a b x : D) (y4 y5 y6 y7 : Option D) : evS Φ (.ret (.mov 3)) [some s, some a, some b, some x, y4, y5, y6, y7] = some (.rt x [some s, some a, some b, none, y4, y5, y6, y7]) := by
  simp [evS, evE, ev, getS, fin]
theorem ev3 {Φ : Tab} {p q r : Sm} {Γ Γ1 Γ2 : Gm} {x : R} (h1 : evS Φ p Γ = some (.nx Γ1)) (h2 : evS Φ q Γ1 = some (.nx Γ2)) {d : D} {Γ3 : Gm} (h3 : evS Φ r Γ2 = some (.rt d Γ3)) : evSs Φ [p, q, r] Γ = some (.rt d Γ3) := by
  simp only [evSs, h1, h2, h3, Option.bind_some]
theorem digits_hl (Φ : Tab) (q : List Sm) (s : D) (a b : Nat) (ha : a ≤ 1000) (hb : b ≤ 1000) (x : D) (y4 y5 y6 y7 : Option D)
    (e : forL (fun d Γ => (asgT (.n 4) d Γ).bind fun Γ => evSs Φ q Γ) (rangeL (a : Int) (b - a)) [some s, some (.int (a : Int)), some (.int (b : Int)), some (.lst true []), none, none, none, none] = some (.nx [some s, some (.int (a : Int)), some (.int (b : Int)), some x, y4, y5, y6, y7])) :
    evSs Φ [.asg (.n 3) (.lst []), .for_ (.n 4) .range [(.loc 1), (.loc 2)] q, .ret (.mov 3)] [some s, some (.int (a : Int)), some (.int (b : Int)), none, none, none, none, none] = some (.rt x [some s, some (.int (a : Int)), some (.int (b : Int)), none, y4, y5, y6, y7]) := by
  have hn : ((b : Int) - (a : Int)).toNat = b - a := by omega
  refine ev3 (x := .bk []) (ev_start Φ _ _ _ _ _ _ _) ?_ (ev_ret Φ _ _ _ _ _ _ _ _)
  rw [for_range2 Φ (.n 4) q (a : Int) (b : Int) _ none _ (rg_small ha) (rg_small hb), hn]
  exact e
theorem b_digits : b_law_digits = [.asg (.n 3) (.lst []), .for_ (.n 4) .range [(.loc 1), (.loc 2)] bodyD, .ret (.mov 3)] := rfl
theorem evF_rt {Φ : Tab} {slots : Nat} {body : List Sm} {ds : List D} {d : D} {Γ0 Γ : Gm} (h : ds.length ≤ slots) (h0 : ds.map some ++ List.replicate (slots - ds.length) none = Γ0) (e : evSs Φ body Γ0 = some (.rt d Γ)) : evF Φ slots 0 body ds = some (d, []) := by
  unfold evF
  rw [if_pos h, h0, e]
  rfl
/-- the digits: small numbers, whatever the script -/
theorem digits (ns : List Int) (a b : Nat) (ha : a ≤ 1000) (hb : b ≤ 1000) : ∃ is : List Int, f_law_digits [.scr ns, .int (a : Int), .int (b : Int)] = some (.lst true (is.map .int), []) ∧ Small is ∧ is.length ≤ 60 * (b - a) := by
  obtain ⟨is', y4, y5, y6, y7, e, h1, h2⟩ := digits_run ns a (b - a) (some (.int (b : Int))) (by omega)
  refine ⟨is', ?_, h1, h2⟩
  unfold f_law_digits
  rw [b_digits]
  refine evF_rt (Γ0 := [some (.scr ns), some (.int (a : Int)), some (.int (b : Int)), none, none, none, none, none]) ?_ ?_ (digits_hl _ bodyD (.scr ns) a b ha hb _ y4 y5 y6 y7 e)
  · simp [N_law_digits]
  · simp [N_law_digits, List.replicate]
/-- one draw -/
theorem draw (is : List Int) (j : Nat) (m : Int) (hs : Small is) (hm : 0 < m) : ∃ r : Int, f_law_draw [.lst true [.lst true (is.map .int), .int (j : Int)], .int m] = some (.int r, [.lst true [.lst true (is.map .int), .int ((j + 1 : Nat) : Int)]]) ∧ 0 ≤ r ∧ r < m := by
  have h0 : ixD 2 0 = some 0 := rfl
  have h1 : ixD 2 1 = some 1 := rfl
  have hm0 : m ≠ 0 := by omega
  by_cases h : is.length < j + 1
  · refine ⟨((((j : Int) + 1) * 7 + 3).fmod m), ?_, Int.fmod_nonneg_of_pos _ hm, Int.fmod_lt_of_pos _ hm⟩
    have hg : (is.length : Int) < (j : Int) + 1 := by omega
    simp [f_law_draw, evF, N_law_draw, b_law_draw, evSs, evS, evT, ev, evOs, evEs, evE, getS, fin, fin2, prF, ltF, truD, root, pur, purL, frz, frzL, dSeq, isLAt, idxF, updP, setF, un, unL, mulOk, h0, h1, hm0, hg, getSs, List.range, List.range.loop]
  · have hj : j < is.length := by omega
    have hx : ixD is.length ((j : Int) + 1 - 1) = some j := by rw [show (j : Int) + 1 - 1 = (j : Int) by omega]; exact ixD_nat hj
    have hg : ¬ (is.length : Int) < (j : Int) + 1 := by omega
    refine ⟨is[j].fmod m, ?_, Int.fmod_nonneg_of_pos _ hm, Int.fmod_lt_of_pos _ hm⟩
    have hx' : ixD is.length (j : Int) = some j := ixD_nat hj
    simp [f_law_draw, evF, N_law_draw, b_law_draw, evSs, evS, evT, ev, evOs, evEs, evE, getS, fin, fin2, prF, ltF, truD, root, pur, purL, frz, frzL, dSeq, isLAt, idxF, updP, setF, un, unL, mulOk, h0, h1, hm0, hg, getSs, List.range, List.range.loop, hx, hx', hj]
/-- the box: the digits and how many were drawn -/
def box (is : List Int) (j : Nat) : D := .lst true [.lst true (is.map .int), .int (j : Int)]
theorem pick (is : List Int) (j : Nat) (rs : List D) (hs : Small is) (hr : rs ≠ []) (hu : unL rs = true) : ∃ x ∈ rs, f_law_pick [box is j, .lst false rs] = some (x, [box is (j + 1)]) := by
  obtain ⟨r, e, h1, h2⟩ := draw is j 1000 hs (by decide)
  have hl : 0 < rs.length := List.length_pos_iff.mpr hr
  have hne : (rs.length : Int) ≠ 0 := by omega
  have b1 := Int.fmod_nonneg_of_pos r (show (0 : Int) < rs.length by omega)
  have b2 := Int.fmod_lt_of_pos r (show (0 : Int) < rs.length by omega)
  obtain ⟨k, hk⟩ := Int.eq_ofNat_of_zero_le b1
  have hk2 : k < rs.length := by omega
  refine ⟨rs[k], List.getElem_mem hk2, ?_⟩
  have hx : ixD rs.length (r.fmod rs.length) = some k := by rw [hk]; exact ixD_nat hk2
  have hux : un rs[k] = true := unL_at hu (List.getElem?_eq_getElem hk2)
  have hf : frzL rs = rs := frzL_un rs hu
  unfold box
  simp [f_law_pick, evF, N_law_pick, b_law_pick, evSs, evS, evE, ev, evOs, evEs, getS, fin, fin2, prF, root, pur, purL, frz, frzL, hf, dSeq, idxF, unL, un, lk, List.lookup, getSs, setSs, e, hne, hr, hx, hk2, hux, List.range, List.range.loop]
end Sk.H

namespace Sk.H
open PySem PySem.Spec PyProof.Rows L2 Sk
theorem strOk_int (i : Int) : PyData.strOk (Str.ofString (toString i)) = true := by
  unfold PyData.strOk
  rw [Array.all_eq_true]
  intro j hj
  refine decide_eq_true (Decidable.byContradiction fun h => ?_)
  exact int_text_free' ((Str.ofString (toString i)).cps[j]) ⟨by omega, .inr (by omega)⟩ i (by simp)
theorem eqv_str (s : Str) : PyData.eqv (.str s) (.str s) = true := by simp [PyData.eqv]
mutual
/-- what is told: of depth n at most, small enough to be written out -/
def okD : Nat → D → Bool
  | _, .non => true
  | _, .bl _ => true
  | _, .int i => decide (i.natAbs.log2 < 1920)
  | _, .str s => szOk (reprText s).length && PyData.strOk (reprText s)
  | n, .tup ds => match n with | 0 => false | m + 1 => decide (ds.length < 1000000) && okL m ds
  | n, .lst o ds => match n with | 0 => false | m + 1 => !o && decide (ds.length < 1000000) && okL m ds
  | _, .scr _ => false
def okL : Nat → List D → Bool
  | _, [] => true
  | n, d :: ds => okD n d && okL n ds
end
theorem okL_at : ∀ {n : Nat} {ds : List D} {i : Nat} {d : D}, okL n ds = true → ds[i]? = some d → okD n d = true
  | n, [], i, d, _, h => by simp at h
  | n, x :: r, 0, d, h, e => by
    unfold okL at h; rw [Bool.and_eq_true] at h
    rw [List.getElem?_cons_zero] at e; cases e; exact h.1
  | n, x :: r, i + 1, d, h, e => by
    unfold okL at h; rw [Bool.and_eq_true] at h
    rw [List.getElem?_cons_succ] at e; exact okL_at h.2 e
mutual
theorem okD_un : ∀ (n : Nat) (d : D), okD n d = true → un d = true
  | _, .non, _ => rfl
  | _, .bl _, _ => rfl
  | _, .int i, _ => rfl
  | _, .str s, _ => rfl
  | 0, .tup ds, h => by unfold okD at h; cases h
  | m + 1, .tup ds, h => by
    unfold okD at h; unfold un
    rw [Bool.and_eq_true] at h
    exact okL_un m ds h.2
  | 0, .lst o ds, h => by unfold okD at h; cases h
  | m + 1, .lst o ds, h => by
    unfold okD at h; unfold un
    simp only [Bool.and_eq_true, Bool.not_eq_true'] at h
    rw [h.1.1, okL_un m ds h.2]; rfl
  | _, .scr _, h => by unfold okD at h; cases h
theorem okL_un : ∀ (n : Nat) (ds : List D), okL n ds = true → unL ds = true
  | _, [], _ => rfl
  | n, d :: ds, h => by
    unfold okL at h; unfold unL
    rw [Bool.and_eq_true] at h
    rw [okD_un n d h.1, okL_un n ds h.2]; rfl
end
def bodyS : List Sm := [
    .iff (.not_ (.call "_law_same" [(.idx (.loc 0) (.loc 2)), (.idx (.loc 1) (.loc 2))])) [
      .ret (.bl false)] []]
/-- the loop over the parts -/
theorem same_loop {φ : Fn} {d : D} {ds : List D} (hd : ∀ i x, ds[i]? = some x → idxF d (.int ((i : Nat) : Int)) = some x ∧ φ [x, x] = some (.bl true, []) ∧ un x = true) : ∃ Γ', forL (fun x Γ => (asgT (.n 2) x Γ).bind fun Γ => evSs (lk [("_law_same", 2, 0, φ)]) bodyS Γ) (rangeL 0 ds.length) [some d, some d, none] = some (.nx Γ') ∧ ∃ y, Γ' = [some d, some d, y] := by
  refine for_inv (fun Γ => ∃ y, Γ = [some d, some d, y]) (fun x hx Γ hI => ?_) ⟨none, rfl⟩
  obtain ⟨y, rfl⟩ := hI
  obtain ⟨i, hi⟩ := List.getElem?_of_mem hx
  obtain ⟨rfl, hl⟩ := rangeL_get hi
  obtain ⟨h1, h2, h3⟩ := hd i _ (List.getElem?_eq_getElem hl)
  refine ⟨[some d, some d, some (.int (0 + (i : Int)))], ?_, _, rfl⟩
  have hf := frz_un _ h3
  rw [show (0 : Int) + (i : Int) = (i : Int) by omega]
  simp [bodyS, evSs, evS, evT, ev, evOs, getS, fin, fin2, truD, root, pur, purL, lk, List.lookup, frz, frzL, asgT, h1, h2, hf, un, unL, al]
end Sk.H

namespace Sk.H
open PySem PySem.Spec PyProof.Rows L2 Sk
theorem same_non (Φ : Tab) : evF Φ N_law_same.length 0 b_law_same [.non, .non] = some (.bl true, []) := by
  have a4 : prF .isN [.non] = some (.bl true) := rfl
  simp only [evF, N_law_same, b_law_same]
  simp [evSs, evS, evT, evE, ev, evOs, getS, fin, fin2, truD, root, pur, purL, frz, getSs, a4]
theorem same_bl (Φ : Tab) (b : Bool) : evF Φ N_law_same.length 0 b_law_same [.bl b, .bl b] = some (.bl true, []) := by
  have a4 : prF .isN [.bl b] = some (.bl false) := rfl
  have a5 : prF (.isB true) [.bl b] = some (.bl (b == true)) := rfl
  have a6 : prF (.isB false) [.bl b] = some (.bl (b == false)) := rfl
  simp only [evF, N_law_same, b_law_same]
  cases b <;> simp [evSs, evS, evT, evE, ev, evOs, getS, fin, fin2, truD, root, pur, purL, frz, getSs, a4, a5, a6]
theorem eq_str {s : Str} (h : PyData.strOk s = true) : prF .eq [.str s, .str s] = some (.bl true) := by
  simp [prF, eqF, eqOk, dep, h, py, eqv_str]
theorem same_int (Φ : Tab) (i : Int) (h : i.natAbs.log2 < 1920) : evF Φ N_law_same.length 0 b_law_same [.int i, .int i] = some (.bl true, []) := by
  have e := eq_str (strOk_int i)
  have r : prF .repr [.int i] = some (.str (Str.ofString (toString i))) := by simp only [prF, h, if_true]
  generalize Str.ofString (toString i) = q at e r
  have a1 : prF (.isa "int") [.int i] = some (.bl true) := rfl
  have a2 : prF (.isa "bool") [.int i] = some (.bl false) := rfl
  have a3 : prF (.isa "str") [.int i] = some (.bl false) := rfl
  have a4 : prF .isN [.int i] = some (.bl false) := rfl
  have a5 : prF (.isB true) [.int i] = some (.bl false) := rfl
  have a6 : prF (.isB false) [.int i] = some (.bl false) := rfl
  simp only [evF, N_law_same, b_law_same]
  simp [evSs, evS, evT, evE, ev, evOs, evAnd, getS, fin, fin2, truD, root, pur, purL, frz, getSs, un, e, r, a1, a2, a3, a4, a5, a6]
theorem same_str (Φ : Tab) (s : Str) (h1 : szOk (reprText s).length = true) (h2 : PyData.strOk (reprText s) = true) : evF Φ N_law_same.length 0 b_law_same [.str s, .str s] = some (.bl true, []) := by
  have e := eq_str h2
  have r : prF .repr [.str s] = some (.str (reprText s)) := by simp [prF, h1]
  have a3 : prF (.isa "str") [.str s] = some (.bl true) := rfl
  have a4 : prF .isN [.str s] = some (.bl false) := rfl
  have a5 : prF (.isB true) [.str s] = some (.bl false) := rfl
  have a6 : prF (.isB false) [.str s] = some (.bl false) := rfl
  simp only [evF, N_law_same, b_law_same]
  simp [evSs, evS, evT, evE, ev, evOs, evAnd, getS, fin, fin2, truD, root, pur, purL, frz, getSs, un, e, r, a3, a4, a5, a6]
def restS : List Sm := [
  .iff (.pr .ne [(.pr .len [(.loc 0)]), (.pr .len [(.loc 1)])]) [
    .ret (.bl false)] [],
  .for_ (.n 2) .range [(.pr .len [(.loc 1)])] bodyS,
  .ret (.bl true)]
theorem ne_int (a : Int) : prF .ne [.int a, .int a] = some (.bl false) := by
  simp [prF, eqF, eqOk, dep, py, PyData.eqv]
theorem range1_for (Φ : Tab) (t : T) (q : List Sm) (e : E) (n : Int) (Γ : Gm) (h1 : rgOk n = true) (he : ev Φ e .opd Γ = some (.int n, Γ)) : evS Φ (.for_ t .range [e] q) Γ = forL (fun d Γ => (asgT t d Γ).bind fun Γ => evSs Φ q Γ) (rangeL 0 n.toNat) Γ := by
  have hi : itF .range [.int n] = some (rangeL 0 n.toNat) := by
    show (if rgOk n = true then some (rangeL 0 n.toNat) else none) = _
    rw [h1, if_pos rfl]
  have ho : evOs Φ [e] Γ = some ([.int n], Γ) := by
    simp only [evOs, he, purL, Bool.or_true, Option.bind_some, ite_true]
  unfold evS
  rw [ho]
  simp only [Option.bind_some, hi]
  rw [if_pos (show unL [D.int n] = true from rfl)]
theorem rest_go {φ : Fn} {d : D} {ds : List D} (hl : ds.length < 1000000) (hlen : prF .len [d] = some (.int ds.length)) (hfrz : frz d = d) (hd : ∀ i x, ds[i]? = some x → idxF d (.int ((i : Nat) : Int)) = some x ∧ φ [x, x] = some (.bl true, []) ∧ un x = true) :
    ∃ Γ, evSs (lk [("_law_same", 2, 0, φ)]) restS [some d, some d, none] = some (.rt (.bl true) Γ) := by
  obtain ⟨Γ', e, y, rfl⟩ := same_loop hd
  refine ⟨[some d, some d, y], ?_⟩
  have o0 : ev (lk [("_law_same", 2, 0, φ)]) (.pr .len [(.loc 0)]) .opd [some d, some d, none] = some (.int ds.length, [some d, some d, none]) := by
    simp [ev, evOs, getS, fin, fin2, root, purL, frz, hlen]
  have o1 : ev (lk [("_law_same", 2, 0, φ)]) (.pr .len [(.loc 1)]) .opd [some d, some d, none] = some (.int ds.length, [some d, some d, none]) := by
    simp [ev, evOs, getS, fin, fin2, root, purL, frz, hlen]
  have e1 : evS (lk [("_law_same", 2, 0, φ)]) (.iff (.pr .ne [(.pr .len [(.loc 0)]), (.pr .len [(.loc 1)])]) [.ret (.bl false)] []) [some d, some d, none] = some (.nx [some d, some d, none]) := by
    have : ev (lk [("_law_same", 2, 0, φ)]) (.pr .ne [(.pr .len [(.loc 0)]), (.pr .len [(.loc 1)])]) .tst [some d, some d, none] = some (.bl false, [some d, some d, none]) := by
      unfold ev
      simp only [evOs, o0, o1, Option.bind_some, root, Option.isNone_none, Bool.true_or, purL, Bool.or_true, ite_true, ne_int, Option.map_some, fin, frz]
    simp [evS, evT, this, truD, evSs]
  have e2 : evS (lk [("_law_same", 2, 0, φ)]) (.for_ (.n 2) .range [(.pr .len [(.loc 1)])] bodyS) [some d, some d, none] = some (.nx [some d, some d, y]) := by
    rw [range1_for _ _ _ _ (ds.length : Int) _ (by unfold rgOk; exact decide_eq_true (by omega)) o1, Int.toNat_natCast]
    exact e
  have e3 : evS (lk [("_law_same", 2, 0, φ)]) (.ret (.bl true)) [some d, some d, y] = some (.rt (.bl true) [some d, some d, y]) := by
    simp [evS, evE, ev]
  exact ev3 (x := .bk []) e1 e2 e3
end Sk.H

namespace Sk.H
open PySem PySem.Spec PyProof.Rows L2 Sk
def preS (q : List Sm) : List Sm :=
  .iff (.pr .isN [(.loc 1)]) [
    .ret (.pr .isN [(.loc 0)])] [] ::
  .iff (.pr (.isB true) [(.loc 1)]) [
    .ret (.pr (.isB true) [(.loc 0)])] [] ::
  .iff (.pr (.isB false) [(.loc 1)]) [
    .ret (.pr (.isB false) [(.loc 0)])] [] ::
  .iff (.pr (.isa "str") [(.loc 1)]) [
    .ret (.and_ [(.pr (.isa "str") [(.loc 0)]), (.pr .eq [(.pr .repr [(.loc 0)]), (.pr .repr [(.loc 1)])])])] [] ::
  .iff (.pr (.isa "int") [(.loc 1)]) [
    .ret (.and_ [(.pr (.isa "int") [(.loc 0)]), (.not_ (.pr (.isa "bool") [(.loc 0)])), (.pr .eq [(.pr .repr [(.loc 0)]), (.pr .repr [(.loc 1)])])])] [] ::
  .iff (.or_ [(.and_ [(.pr (.isa "tuple") [(.loc 1)]), (.not_ (.pr (.isa "tuple") [(.loc 0)]))]), (.and_ [(.pr (.isa "list") [(.loc 1)]), (.not_ (.pr (.isa "list") [(.loc 0)]))])]) [
    .ret (.bl false)] [] :: q
theorem b_same : b_law_same = preS restS := rfl
theorem pre_go (Φ : Tab) (q : List Sm) (d : D) (b1 b2 : Bool) (hf : frz d = d) (a1 : prF (.isa "int") [d] = some (.bl false)) (a3 : prF (.isa "str") [d] = some (.bl false)) (a4 : prF .isN [d] = some (.bl false)) (a5 : prF (.isB true) [d] = some (.bl false)) (a6 : prF (.isB false) [d] = some (.bl false)) (a7 : prF (.isa "tuple") [d] = some (.bl b1)) (a8 : prF (.isa "list") [d] = some (.bl b2)) :
    evSs Φ (preS q) [some d, some d, none] = evSs Φ q [some d, some d, none] := by
  unfold preS
  have s1 : ∀ p e, prF p [d] = some (.bl false) → evS Φ (.iff (.pr p [(.loc 1)]) e []) [some d, some d, none] = some (.nx [some d, some d, none]) := fun p e h => by
    simp [evSs, evS, evT, ev, evOs, getS, fin, fin2, truD, root, pur, purL, frz, h]
  have s6 : ∀ e, evS Φ (.iff (.or_ [(.and_ [(.pr (.isa "tuple") [(.loc 1)]), (.not_ (.pr (.isa "tuple") [(.loc 0)]))]), (.and_ [(.pr (.isa "list") [(.loc 1)]), (.not_ (.pr (.isa "list") [(.loc 0)]))])]) e []) [some d, some d, none] = some (.nx [some d, some d, none]) := fun e => by
    cases b1 <;> cases b2 <;> simp [evSs, evS, evT, ev, evOs, evTOr, evTAnd, getS, fin, fin2, truD, root, pur, purL, frz, a7, a8]
  rw [evSs, s1 _ _ a4, Option.bind_some]
  show evSs Φ (_ :: _) _ = _
  rw [evSs, s1 _ _ a5, Option.bind_some]
  show evSs Φ (_ :: _) _ = _
  rw [evSs, s1 _ _ a6, Option.bind_some]
  show evSs Φ (_ :: _) _ = _
  rw [evSs, s1 _ _ a3, Option.bind_some]
  show evSs Φ (_ :: _) _ = _
  rw [evSs, s1 _ _ a1, Option.bind_some]
  show evSs Φ (_ :: _) _ = _
  rw [evSs, s6, Option.bind_some]
theorem r_succ (j : Nat) : r_law_same (j + 1) = evF (lk [("_law_same", 2, 0, r_law_same j)]) N_law_same.length 0 b_law_same := rfl
/-- what is told is what is due -/
theorem same_refl : ∀ (j : Nat) (d : D), okD j d = true → r_law_same (j + 1) [d, d] = some (.bl true, [])
  | j, .non, _ => by rw [r_succ]; exact same_non _
  | j, .bl b, _ => by rw [r_succ]; exact same_bl _ b
  | j, .int i, h => by
    unfold okD at h
    rw [r_succ]; exact same_int _ i (of_decide_eq_true h)
  | j, .str s, h => by
    unfold okD at h
    rw [Bool.and_eq_true] at h
    rw [r_succ]; exact same_str _ s h.1 h.2
  | 0, .tup ds, h => by unfold okD at h; cases h
  | 0, .lst o ds, h => by unfold okD at h; cases h
  | m + 1, .tup ds, h => by
    have hu := okD_un _ _ h
    unfold okD at h
    simp only [Bool.and_eq_true, decide_eq_true_eq] at h
    have hf := frz_un _ hu
    have hul := okL_un m ds h.2
    obtain ⟨Γ, e⟩ := rest_go (φ := r_law_same (m + 1)) (d := .tup ds) (ds := ds) h.1 rfl hf fun i x hx => by
      have hi := (List.getElem?_eq_some_iff.mp hx).1
      refine ⟨?_, same_refl m x (okL_at h.2 hx), unL_at hul hx⟩
      show (ixD ds.length (i : Int)).bind (ds[·]?) = some x
      rw [ixD_nat hi]; exact hx
    rw [r_succ, b_same]
    refine evF_rt (Γ0 := [some (.tup ds), some (.tup ds), none]) (by simp [N_law_same]) (by simp [N_law_same, List.replicate]) ((pre_go _ _ (.tup ds) true false hf rfl rfl rfl rfl rfl rfl rfl).trans e)
  | m + 1, .lst o ds, h => by
    have hu := okD_un _ _ h
    unfold okD at h
    simp only [Bool.and_eq_true, decide_eq_true_eq, Bool.not_eq_true'] at h
    have hf := frz_un _ hu
    have hul := okL_un m ds h.2
    obtain ⟨Γ, e⟩ := rest_go (φ := r_law_same (m + 1)) (d := .lst o ds) (ds := ds) h.1.2 rfl hf fun i x hx => by
      have hi := (List.getElem?_eq_some_iff.mp hx).1
      refine ⟨?_, same_refl m x (okL_at h.2 hx), unL_at hul hx⟩
      show (ixD ds.length (i : Int)).bind (ds[·]?) = some x
      rw [ixD_nat hi]; exact hx
    rw [r_succ, b_same]
    refine evF_rt (Γ0 := [some (.lst o ds), some (.lst o ds), none]) (by simp [N_law_same]) (by simp [N_law_same, List.replicate]) ((pre_go _ _ (.lst o ds) false true hf rfl rfl rfl rfl rfl rfl rfl).trans e)
  | _, .scr _, h => by unfold okD at h; cases h
end Sk.H

namespace Sk
open PySem PySem.Spec PyProof.Rows L2
section
variable {Φ : Tab} {Γ Γ' Γ1 Γ2 : Gm}
theorem evSs_nil : evSs Φ [] Γ = some (.nx Γ) := by simp only [evSs]
theorem evSs_go {s : Sm} {r : List Sm} (h : evS Φ s Γ = some (.nx Γ')) : evSs Φ (s :: r) Γ = evSs Φ r Γ' := by
  simp only [evSs, h, Option.bind_some]
theorem evSs_rt {s : Sm} {r : List Sm} {d : D} (h : evS Φ s Γ = some (.rt d Γ')) : evSs Φ (s :: r) Γ = some (.rt d Γ') := by
  simp only [evSs, h, Option.bind_some]
theorem for_ev {t : T} {k : Ik} {src : List E} {body : List Sm} {ds items : List D} (h1 : evOs Φ src Γ = some (ds, Γ1)) (h2 : itF k ds = some items) (h3 : unL ds = true) :
    evS Φ (.for_ t k src body) Γ = forL (fun d Γ => (asgT t d Γ).bind fun Γ => evSs Φ body Γ) items Γ1 := by
  simp only [evS, h1, h2, h3, Option.bind_some, if_true]
/-- a walk that gathers -/
theorem for_fold {β : Type} {f : D → Gm → Option R} (I : β → Gm → Prop) (g : β → D → β) : ∀ {items : List D} {Γ : Gm} {b : β}, (∀ d ∈ items, ∀ b Γ, I b Γ → ∃ Γ', f d Γ = some (.nx Γ') ∧ I (g b d) Γ') → I b Γ → ∃ Γ', forL f items Γ = some (.nx Γ') ∧ I (items.foldl g b) Γ'
  | [], Γ, b, _, h => ⟨Γ, rfl, h⟩
  | d :: ds, Γ, b, hs, h => by
    obtain ⟨Γ1, e1, h1⟩ := hs d List.mem_cons_self b Γ h
    obtain ⟨Γ2, e2, h2⟩ := for_fold I g (fun x hx => hs x (List.mem_cons_of_mem _ hx)) h1
    refine ⟨Γ2, ?_, h2⟩
    simp only [forL, e1]
    exact e2
/-- a walk over written items -/
theorem for_foldM {α β : Type} {f : D → Gm → Option R} (enc : α → D) (I : β → Gm → Prop) (g : β → α → β) : ∀ {xs : List α} {Γ : Gm} {b : β}, (∀ x ∈ xs, ∀ b Γ, I b Γ → ∃ Γ', f (enc x) Γ = some (.nx Γ') ∧ I (g b x) Γ') → I b Γ → ∃ Γ', forL f (xs.map enc) Γ = some (.nx Γ') ∧ I (xs.foldl g b) Γ'
  | [], Γ, b, _, h => ⟨Γ, rfl, h⟩
  | d :: ds, Γ, b, hs, h => by
    obtain ⟨Γ1, e1, h1⟩ := hs d List.mem_cons_self b Γ h
    obtain ⟨Γ2, e2, h2⟩ := for_foldM enc I g (fun x hx => hs x (List.mem_cons_of_mem _ hx)) h1
    refine ⟨Γ2, ?_, h2⟩
    simp only [forL, List.map_cons, e1]
    exact e2
theorem rangeL_eq : ∀ (n : Nat) (lo : Int), rangeL lo n = (List.range n).map fun i : Nat => D.int (lo + (i : Int))
  | 0, _ => rfl
  | n + 1, lo => by
    rw [List.range_succ_eq_map, List.map_cons, List.map_map, rangeL, rangeL_eq n (lo + 1)]
    congr 1
    · simp
    · refine List.map_congr_left fun i _ => ?_
      simp only [Function.comp]
      congr 1
      omega
/-- one turn of a comprehension -/
def stepC (Φ : Tab) (t : T) (cond : List E) (elt : E) (own : List Nat) (d : D) (Γ : Gm) : Option (List D × Gm) :=
  (asgT t d Γ).bind fun Γ => (evCond Φ cond Γ).bind fun (b, Γ) => if b then (ev Φ elt .val Γ).bind fun (r, Γ) => if hideOk Γ own then some ([r], wipeG Γ own) else none else if hideOk Γ own then some ([], wipeG Γ own) else none
theorem comp_ev {t : T} {k : Ik} {src cond : List E} {elt : E} {own : List Nat} {m : Md} {ds items rs : List D} (h1 : evOs Φ src Γ = some (ds, Γ1)) (h2 : itF k ds = some items) (h3 : hideOk Γ1 own = true) (h4 : (unL ds || (purL cond && pur elt)) = true) (h5 : tIn own t = true)
    (h6 : compL (stepC Φ t cond elt own) items (wipeG Γ1 own) = some (rs, Γ2)) (h7 : rs.length ≤ sizeLine) : ev Φ (.comp t k src cond elt own) m Γ = some (fin m (.lst true rs, backG Γ1 Γ2 own)) := by
  have e : compL (fun d Γ => (asgT t d Γ).bind fun Γ => (evCond Φ cond Γ).bind fun (b, Γ) => if b then (ev Φ elt .val Γ).bind fun (r, Γ) => if hideOk Γ own then some ([r], wipeG Γ own) else none else if hideOk Γ own then some ([], wipeG Γ own) else none) items (wipeG Γ1 own) = some (rs, Γ2) := h6
  simp only [ev, h1, h2, h3, h4, h5, Option.bind_some, Bool.and_self, if_true, e, h7]
theorem compL_map {α : Type} {F : D → Gm → Option (List D × Gm)} {W : Gm} {enc : α → D} {g : α → List D} : ∀ {xs : List α}, (∀ x ∈ xs, F (enc x) W = some (g x, W)) → compL F (xs.map enc) W = some (xs.flatMap g, W)
  | [], _ => rfl
  | x :: xs, h => by
    simp only [List.map_cons, compL, h x List.mem_cons_self, Option.bind_some, compL_map fun y hy => h y (List.mem_cons_of_mem _ hy), List.flatMap_cons]
/-- with a place that changes: a draw's box -/
theorem compL_st {α : Type} {F : D → Gm → Option (List D × Gm)} {W : Nat → Gm} {enc : α → D} {g : Nat → α → List D} : ∀ {xs : List α} {j : Nat}, (∀ x ∈ xs, ∀ j, F (enc x) (W j) = some (g j x, W (j + 1))) → ∃ rs, compL F (xs.map enc) (W j) = some (rs, W (j + xs.length)) ∧ rs = (xs.zipIdx j).flatMap (fun y => g y.2 y.1)
  | [], j, _ => ⟨[], rfl, rfl⟩
  | x :: xs, j, h => by
    obtain ⟨rs, e, e2⟩ := compL_st (xs := xs) (j := j + 1) fun y hy => h y (List.mem_cons_of_mem _ hy)
    refine ⟨g j x ++ rs, ?_, ?_⟩
    · simp only [List.map_cons, compL, h x List.mem_cons_self, Option.bind_some, e, List.length_cons]
      rw [show j + 1 + xs.length = j + (xs.length + 1) by omega]
    · rw [e2]; rfl
end
/-! ### bits -/
@[simp] theorem unL_map_int (xs : List Int) : unL (xs.map D.int) = true := by
  induction xs with
  | nil => rfl
  | cons x r ih => simp [unL, un, ih]
@[simp] theorem frzL_map_int (xs : List Int) : frzL (xs.map D.int) = xs.map D.int := frzL_un _ (unL_map_int xs)
theorem unL_map {α : Type} {f : α → D} (h : ∀ x, un (f x) = true) (xs : List α) : unL (xs.map f) = true := by
  induction xs with
  | nil => rfl
  | cons x r ih => simp [unL, h, ih]
theorem dInts_map' {α : Type} (f : α → Int) (xs : List α) : dInts (xs.map fun x => D.int (f x)) = some (xs.map f) := by
  have : (xs.map fun x => D.int (f x)) = (xs.map f).map D.int := by rw [List.map_map]; rfl
  rw [this, dInts_map]
theorem dBls_map' {α : Type} (f : α → Bool) (xs : List α) : dBls (xs.map fun x => D.bl (f x)) = some (xs.map f) := by
  have : (xs.map fun x => D.bl (f x)) = (xs.map f).map D.bl := by rw [List.map_map]; rfl
  rw [this, dBls_map]
theorem pyL_ints (xs : List Int) : pyL (xs.map D.int) = xs.map PyData.int := by
  induction xs with
  | nil => rfl
  | cons x r ih => simp [pyL, py, ih]
theorem depL_ints (n : Nat) (xs : List Int) : depL n (xs.map D.int) = true := by
  induction xs with
  | nil => simp [depL]
  | cons x r ih => simp [depL, dep, ih]
end Sk

namespace Sk
open PySem PySem.Spec PyProof.Rows L2
theorem szOk_le {n : Nat} (h : n ≤ 100000) : szOk n = true := decide_eq_true (Nat.le_trans h (by decide))
theorem sz_le {n : Nat} (h : n ≤ 100000) : n ≤ sizeLine := Nat.le_trans h (by decide)
theorem rgOk_le {i : Int} (h1 : -1000000 ≤ i) (h2 : i ≤ 1000000) : rgOk i = true := decide_eq_true (by omega)
theorem mulOk_le {i j : Int} (h : i.natAbs < 1000000000) : mulOk i j = true := by
  unfold mulOk
  rw [decide_eq_true (show i.natAbs < 2 ^ 64 by omega)]
  rfl
/-- the numbers from a on, so many -/
def rng (a : Int) (k : Nat) : List Int := (List.range k).map fun i : Nat => a + (i : Int)
theorem rng_eq (a : Int) (k : Nat) : rangeL a k = (rng a k).map D.int := by
  rw [rangeL_eq, rng, List.map_map]; rfl
theorem mem_rng {a x : Int} {k : Nat} : x ∈ rng a k ↔ a ≤ x ∧ x < a + k := by
  unfold rng
  rw [List.mem_map]
  constructor
  · rintro ⟨i, hi, rfl⟩
    rw [List.mem_range] at hi
    omega
  · rintro ⟨h1, h2⟩
    exact ⟨(x - a).toNat, by rw [List.mem_range]; omega, by omega⟩
theorem it_range1 {n : Int} (h1 : -1000000 ≤ n) (h2 : n ≤ 1000000) : itF .range [.int n] = some ((rng 0 n.toNat).map D.int) := by
  show (if rgOk n = true then some (rangeL 0 n.toNat) else none) = _
  rw [rgOk_le h1 h2, if_pos rfl, rng_eq]
theorem it_range2 {a b : Int} (h1 : -1000000 ≤ a) (h2 : a ≤ 1000000) (h3 : -1000000 ≤ b) (h4 : b ≤ 1000000) : itF .range [.int a, .int b] = some ((rng a (b - a).toNat).map D.int) := by
  show (if (rgOk a && rgOk b) = true then some (rangeL a (b - a).toNat) else none) = _
  rw [rgOk_le h1 h2, rgOk_le h3 h4, if_pos (show (true && true) = true from rfl), rng_eq]
theorem it_lst {o : Bool} {ds : List D} (h : unL ds = true) : itF .val [.lst o ds] = some ds := by
  show (if unL ds = true then some ds else none) = _
  rw [h, if_pos rfl]
theorem it_tup {ds : List D} (h : unL ds = true) : itF .val [.tup ds] = some ds := by
  show (if unL ds = true then some ds else none) = _
  rw [h, if_pos rfl]
theorem flat_one {α β : Type} (f : α → β) : ∀ l : List α, (l.flatMap fun x => [f x]) = l.map f
  | [] => rfl
  | x :: l => by rw [List.flatMap_cons, flat_one f l]; rfl
theorem flat_if {α β : Type} (p : α → Bool) (f : α → β) : ∀ l : List α, (l.flatMap fun x => if p x then [f x] else []) = (l.filter p).map f
  | [] => rfl
  | x :: l => by
    rw [List.flatMap_cons, flat_if p f l, List.filter_cons]
    cases p x <;> rfl
section
variable {Φ : Tab} {Γ : Gm} {α : Type} {xs : List α} {enc r : α → D} {t : T} {k : Ik} {src : List E} {elt : E} {own : List Nat} {m : Md} {ds : List D}
theorem comp_map (h1 : evOs Φ src Γ = some (ds, Γ)) (h2 : itF k ds = some (xs.map enc)) (h3 : hideOk Γ own = true) (h4 : (unL ds || pur elt) = true) (h5 : tIn own t = true)
    (h6 : ∀ x ∈ xs, stepC Φ t [] elt own (enc x) (wipeG Γ own) = some ([r x], wipeG Γ own)) (h7 : xs.length ≤ 100000) (h8 : backG Γ (wipeG Γ own) own = Γ) : ev Φ (.comp t k src [] elt own) m Γ = some (fin m (.lst true (xs.map r), Γ)) := by
  have := comp_ev (Φ := Φ) (t := t) (k := k) (cond := []) (elt := elt) (m := m) (rs := xs.map r) h1 h2 h3 (by simpa [purL] using h4) h5 (by rw [compL_map h6, flat_one]) (by rw [List.length_map]; exact sz_le h7)
  rw [this, h8]
theorem comp_filter {c : E} {p : α → Bool} (h1 : evOs Φ src Γ = some (ds, Γ)) (h2 : itF k ds = some (xs.map enc)) (h3 : hideOk Γ own = true) (h4 : (unL ds || (pur c && pur elt)) = true) (h5 : tIn own t = true)
    (h6 : ∀ x ∈ xs, stepC Φ t [c] elt own (enc x) (wipeG Γ own) = some (if p x then [r x] else [], wipeG Γ own)) (h7 : xs.length ≤ 100000) (h8 : backG Γ (wipeG Γ own) own = Γ) : ev Φ (.comp t k src [c] elt own) m Γ = some (fin m (.lst true ((xs.filter p).map r), Γ)) := by
  have := comp_ev (Φ := Φ) (t := t) (k := k) (cond := [c]) (elt := elt) (m := m) (rs := (xs.filter p).map r) h1 h2 h3 (by simpa [purL] using h4) h5 (by rw [compL_map h6, flat_if]) (by
    rw [List.length_map]
    exact sz_le (Nat.le_trans (List.length_filter_le _ _) h7))
  rw [this, h8]
end
/-- a walk that ends at the first that fits -/
theorem for_first {α : Type} {f : D → Gm → Option R} {enc : α → D} (I : Gm → Prop) {x : α} {d : D} {post : List D} : ∀ {pre : List α} {Γ : Gm}, (∀ y ∈ pre, ∀ Γ, I Γ → ∃ Γ', f (enc y) Γ = some (.nx Γ') ∧ I Γ') → I Γ → (∀ Γ, I Γ → ∃ Γ', f (enc x) Γ = some (.rt d Γ')) → ∃ Γ', forL f (pre.map enc ++ enc x :: post) Γ = some (.rt d Γ')
  | [], Γ, _, h, hx => by
    obtain ⟨Γ', e⟩ := hx Γ h
    exact ⟨Γ', by simp only [List.map_nil, List.nil_append, forL, e]⟩
  | y :: pre, Γ, hp, h, hx => by
    obtain ⟨Γ1, e1, h1⟩ := hp y List.mem_cons_self Γ h
    obtain ⟨Γ', e⟩ := for_first I (fun z hz => hp z (List.mem_cons_of_mem _ hz)) h1 hx
    exact ⟨Γ', by simp only [List.map_cons, List.cons_append, forL, e1]; exact e⟩
/-! ### draws, by their values -/
theorem draw_ex : ∃ f : List Int → Nat → Int → Int, ∀ is j m, H.Small is → 0 < m → H.f_law_draw [H.box is j, .int m] = some (.int (f is j m), [H.box is (j + 1)]) ∧ 0 ≤ f is j m ∧ f is j m < m := by
  classical
  refine ⟨fun is j m => if h : H.Small is ∧ 0 < m then Classical.choose (H.draw is j m h.1 h.2) else 0, fun is j m hs hm => ?_⟩
  have h : H.Small is ∧ 0 < m := ⟨hs, hm⟩
  simp only [dif_pos h]
  exact Classical.choose_spec (H.draw is j m h.1 h.2)
noncomputable def drawV : List Int → Nat → Int → Int := Classical.choose draw_ex
theorem draw_eq {is : List Int} (hs : H.Small is) (j : Nat) {m : Int} (hm : 0 < m) : H.f_law_draw [H.box is j, .int m] = some (.int (drawV is j m), [H.box is (j + 1)]) := (Classical.choose_spec draw_ex is j m hs hm).1
theorem draw_nn {is : List Int} (hs : H.Small is) (j : Nat) {m : Int} (hm : 0 < m) : 0 ≤ drawV is j m := (Classical.choose_spec draw_ex is j m hs hm).2.1
theorem draw_lt {is : List Int} (hs : H.Small is) (j : Nat) {m : Int} (hm : 0 < m) : drawV is j m < m := (Classical.choose_spec draw_ex is j m hs hm).2.2
theorem pick_ex : ∃ f : List Int → Nat → List D → D, ∀ is j rs, H.Small is → rs ≠ [] → unL rs = true → H.f_law_pick [H.box is j, .lst false rs] = some (f is j rs, [H.box is (j + 1)]) ∧ f is j rs ∈ rs := by
  classical
  refine ⟨fun is j rs => if h : H.Small is ∧ rs ≠ [] ∧ unL rs = true then Classical.choose (H.pick is j rs h.1 h.2.1 h.2.2) else .non, fun is j rs hs hr hu => ?_⟩
  have h : H.Small is ∧ rs ≠ [] ∧ unL rs = true := ⟨hs, hr, hu⟩
  simp only [dif_pos h]
  exact ⟨(Classical.choose_spec (H.pick is j rs h.1 h.2.1 h.2.2)).2, (Classical.choose_spec (H.pick is j rs h.1 h.2.1 h.2.2)).1⟩
noncomputable def pickV : List Int → Nat → List D → D := Classical.choose pick_ex
theorem pick_eq {is : List Int} (hs : H.Small is) (j : Nat) {rs : List D} (hr : rs ≠ []) (hu : unL rs = true) : H.f_law_pick [H.box is j, .lst false rs] = some (pickV is j rs, [H.box is (j + 1)]) := (Classical.choose_spec pick_ex is j rs hs hr hu).1
theorem pick_mem {is : List Int} (hs : H.Small is) (j : Nat) {rs : List D} (hr : rs ≠ []) (hu : unL rs = true) : pickV is j rs ∈ rs := (Classical.choose_spec pick_ex is j rs hs hr hu).2
/-- a pick of numbers -/
theorem pick_int {is : List Int} (hs : H.Small is) (j : Nat) {ns : List Int} (hr : ns ≠ []) : ∃ i ∈ ns, H.f_law_pick [H.box is j, .lst false (ns.map .int)] = some (.int i, [H.box is (j + 1)]) := by
  have e := pick_eq hs j (rs := ns.map .int) (by simpa using hr) (unL_map_int ns)
  have h := pick_mem hs j (rs := ns.map .int) (by simpa using hr) (unL_map_int ns)
  obtain ⟨i, hi, hx⟩ := List.mem_map.mp h
  exact ⟨i, hi, by rw [e, ← hx]⟩
@[simp] theorem frz_box (is : List Int) (j : Nat) : un (H.box is j) = false := by simp [H.box, un]
/-! ### alike -/
theorem eqvAll_ints : ∀ (xs ys : List Int), PyData.eqvAll (xs.map PyData.int) (ys.map PyData.int) = decide (xs = ys)
  | [], [] => by simp [PyData.eqvAll]
  | [], y :: ys => by simp [PyData.eqvAll]
  | x :: xs, [] => by simp [PyData.eqvAll]
  | x :: xs, y :: ys => by
    have ih := eqvAll_ints xs ys
    simp only [List.map_cons, PyData.eqvAll, ih, PyData.eqv]
    by_cases h : x = y <;> by_cases g : xs = ys <;> simp [h, g]
theorem eqF_ints (a b : Bool) (xs ys : List Int) : eqF (.lst a (xs.map .int)) (.lst b (ys.map .int)) = some (decide (xs = ys)) := by
  have e : eqOk (.lst a (xs.map D.int)) (.lst b (ys.map D.int)) = true := by simp [eqOk, dep, depL_ints]
  simp only [eqF, e, if_true, py, pyL_ints, PyData.eqv, eqvAll_ints]
theorem eqF_int (i j : Int) : eqF (.int i) (.int j) = some (decide (i = j)) := by
  show some (i == j) = _
  rw [show (i == j) = decide (i = j) from by by_cases h : i = j <;> simp [h]]
theorem cutL_ints (xs : List Int) (lo hi : Option Int) : cutL (xs.map D.int) lo hi = (cutL xs lo hi).map D.int := by
  simp [cutL]
theorem minI_eq {l : List Int} {m : Int} (h1 : m ∈ l) (h2 : ∀ y ∈ l, m ≤ y) : minI l = some m := by
  cases l with
  | nil => cases h1
  | cons x r =>
    obtain ⟨a, b⟩ := minI_spec (show minI (x :: r) = some _ from rfl)
    have := h2 _ a
    have := b m h1
    show some _ = _
    congr 1
    exact Int.le_antisymm (by assumption) (by assumption)
theorem maxI_eq {l : List Int} {m : Int} (h1 : m ∈ l) (h2 : ∀ y ∈ l, y ≤ m) : maxI l = some m := by
  cases l with
  | nil => cases h1
  | cons x r =>
    obtain ⟨a, b⟩ := maxI_spec (show maxI (x :: r) = some _ from rfl)
    have := h2 _ a
    have := b m h1
    show some _ = _
    congr 1
    exact Int.le_antisymm (by assumption) (by assumption)
end Sk

namespace Sk
open PySem PySem.Spec PyProof.Rows L2
theorem for_foldN {α β : Type} {f : D → Gm → Option R} (enc : α → D) (I : Nat → β → Gm → Prop) (g : β → α → β) : ∀ {xs : List α} {Γ : Gm} {b : β} {k : Nat}, (∀ i x, xs[i]? = some x → ∀ b Γ, I (k + i) b Γ → ∃ Γ', f (enc x) Γ = some (.nx Γ') ∧ I (k + i + 1) (g b x) Γ') → I k b Γ → ∃ Γ', forL f (xs.map enc) Γ = some (.nx Γ') ∧ I (k + xs.length) (xs.foldl g b) Γ'
  | [], Γ, b, k, _, h => ⟨Γ, rfl, h⟩
  | d :: ds, Γ, b, k, hs, h => by
    obtain ⟨Γ1, e1, h1⟩ := hs 0 d rfl b Γ h
    obtain ⟨Γ2, e2, h2⟩ := for_foldN enc I g (xs := ds) (k := k + 1) (fun i x hx b Γ hI => by
      have := hs (i + 1) x (by simpa using hx) b Γ (by rw [show k + (i + 1) = k + 1 + i by omega]; exact hI)
      rw [show k + 1 + i + 1 = k + (i + 1) + 1 by omega]
      exact this) h1
    refine ⟨Γ2, ?_, ?_⟩
    · simp only [forL, List.map_cons, e1]
      exact e2
    · rw [List.length_cons, show k + (ds.length + 1) = k + 1 + ds.length by omega]
      exact h2
theorem fold2 {α β γ : Type} (R : Nat → β → γ → Prop) (f : β → α → β) (g : γ → α → γ) : ∀ {xs : List α} {b : β} {c : γ} {k : Nat}, (∀ i x, xs[i]? = some x → ∀ b c, R (k + i) b c → R (k + i + 1) (f b x) (g c x)) → R k b c → R (k + xs.length) (xs.foldl f b) (xs.foldl g c)
  | [], b, c, k, _, h => h
  | x :: xs, b, c, k, hs, h => by
    have h1 := hs 0 x rfl b c h
    have := fold2 R f g (xs := xs) (k := k + 1) (fun i y hy b c hR => by
      have := hs (i + 1) y (by simpa using hy) b c (by rw [show k + (i + 1) = k + 1 + i by omega]; exact hR)
      rw [show k + 1 + i + 1 = k + (i + 1) + 1 by omega]
      exact this) h1
    rw [List.length_cons, show k + (xs.length + 1) = k + 1 + xs.length by omega]
    exact this
theorem rng_get {a x : Int} {k i : Nat} (h : (rng a k)[i]? = some x) : x = a + (i : Int) ∧ i < k := by
  unfold rng at h
  rw [List.getElem?_map] at h
  obtain ⟨j, hj, rfl⟩ := Option.map_eq_some_iff.mp h
  have hi : i < k := by
    have := (List.getElem?_eq_some_iff.mp hj).1
    simpa using this
  rw [List.getElem?_range hi] at hj
  cases hj
  exact ⟨rfl, hi⟩
theorem rng_len (a : Int) (k : Nat) : (rng a k).length = k := by simp [rng]
def optI (o : Option Int) : Option D := o.map D.int
@[simp] theorem optI_none : optI none = none := rfl
@[simp] theorem optI_some (i : Int) : optI (some i) = some (.int i) := rfl
theorem depL_map {α : Type} {f : α → D} {n : Nat} (h : ∀ x, dep n (f x) = true) (xs : List α) : depL n (xs.map f) = true := by
  induction xs with
  | nil => simp [depL]
  | cons x r ih => simp [depL, h, ih]
theorem eqF_nil {a b : Bool} {ds : List D} (h : depL 59 ds = true) : eqF (.lst a ds) (.lst b []) = some ds.isEmpty := by
  have e : eqOk (.lst a ds) (.lst b []) = true := by simp [eqOk, dep, h, depL]
  simp only [eqF, e, if_true, py, PyData.eqv]
  cases ds with
  | nil => rfl
  | cons d r => rfl
/-- a call that is handed a box and one value -/
theorem cio1_ev {Φ : Tab} {f : Str} {φ : Fn} {i : Nat} {e : E} {Γ Γ' : Gm} {bx bx' d r : D} {m : Md} (hΦ : Φ f = some (2, 1, φ)) (h0 : (getS Γ i).isSome = true) (he : evOs Φ [e] Γ = some ([d], Γ')) (hu : un d = true) (hg : getS Γ' i = some bx) (hφ : φ [bx, d] = some (r, [bx'])) :
    ev Φ (.cio f [i] [e]) m Γ = some (fin m (r, Γ'.set i (some bx'))) := by
  have hg2 : getSs Γ' [i] = some [bx] := by simp [getSs, hg]
  have hg3 : (getSs Γ [i]).isSome = true := by
    obtain ⟨x, hx⟩ := Option.isSome_iff_exists.mp h0
    simp [getSs, hx]
  simp [ev, hg3, he, hΦ, unL, hu, hg2, hφ, setSs]
/-- .. a box alone -/
theorem cio0_ev {Φ : Tab} {f : Str} {φ : Fn} {i : Nat} {Γ : Gm} {bx bx' r : D} {m : Md} (hΦ : Φ f = some (1, 1, φ)) (hg : getS Γ i = some bx) (hφ : φ [bx] = some (r, [bx'])) :
    ev Φ (.cio f [i] []) m Γ = some (fin m (r, Γ.set i (some bx'))) := by
  have hg2 : getSs Γ [i] = some [bx] := by simp [getSs, hg]
  simp [ev, hg2, evOs, hΦ, unL, hφ, setSs]
theorem evF_rt1 {Φ : Tab} {slots : Nat} {body : List Sm} {ds : List D} {d x : D} {Γ0 Γ : Gm} (h : ds.length ≤ slots) (h0 : ds.map some ++ List.replicate (slots - ds.length) none = Γ0) (e : evSs Φ body Γ0 = some (.rt d (some x :: Γ))) : evF Φ slots 1 body ds = some (d, [x]) := by
  unfold evF
  rw [if_pos h, h0, e]
  rfl
/-- draws for each of so many -/
theorem draws_ev {Φ : Tab} {φ : Fn} (hΦ : Φ "_law_draw" = some (2, 1, φ)) {is : List Int} (hφ : ∀ j m, 0 < m → φ [H.box is j, .int m] = some (.int (drawV is j m), [H.box is (j + 1)])) {F : D → Gm → Option (List D × Gm)} {W : Nat → Gm} {g : Int → Int} {m : Int}
    (hF : ∀ i j, F (.int i) (W j) = some ([.int (g (drawV is j m))], W (j + 1))) (j n : Nat) : compL F ((rng 0 n).map D.int) (W j) = some (((List.range n).map fun i => g (drawV is (j + i) m)).map D.int, W (j + n)) := by
  obtain ⟨rs, e1, e2⟩ := compL_st (F := F) (W := W) (enc := D.int) (g := fun j _ => [.int (g (drawV is j m))]) (xs := rng 0 n) (j := j) (fun x _ j => hF x j)
  rw [e1, rng_len, e2]
  congr 2
  have : ∀ (l : List Int) (j : Nat), (l.zipIdx j).flatMap (fun y => [D.int (g (drawV is y.2 m))]) = ((List.range l.length).map fun i => g (drawV is (j + i) m)).map D.int := by
    intro l
    induction l with
    | nil => intro j; rfl
    | cons x l ih =>
      intro j
      rw [List.zipIdx_cons, List.flatMap_cons, ih (j + 1), List.length_cons, List.range_succ_eq_map, List.map_cons, List.map_cons, List.map_map, List.map_map, List.map_map]
      refine congrArg (D.int (g (drawV is j m)) :: ·) ?_
      refine List.map_congr_left fun i _ => ?_
      simp only [Function.comp]
      rw [show j + 1 + i = j + (i + 1) by omega]
  rw [this, rng_len]
end Sk

namespace Sk
open PySem PySem.Spec PyProof.Rows L2
/-! ### common measure -/
def eu (p : Nat × Nat) : Nat × Nat := if p.2 = 0 then p else (p.2, p.1 % p.2)
def euN : Nat → Nat × Nat → Nat × Nat
  | 0, p => p
  | n + 1, p => euN n (eu p)
theorem eu_gcd (p : Nat × Nat) : Nat.gcd (eu p).1 (eu p).2 = Nat.gcd p.1 p.2 := by
  unfold eu
  split
  · rfl
  · show Nat.gcd p.2 (p.1 % p.2) = _
    rw [Nat.gcd_comm, ← Nat.gcd_rec, Nat.gcd_comm]
theorem euN_gcd : ∀ (n : Nat) (p : Nat × Nat), Nat.gcd (euN n p).1 (euN n p).2 = Nat.gcd p.1 p.2
  | 0, p => rfl
  | n + 1, p => by rw [euN, euN_gcd n, eu_gcd]
theorem eu_two (p : Nat × Nat) : 2 * (eu (eu p)).2 ≤ p.2 := by
  obtain ⟨a, b⟩ := p
  by_cases hb : b = 0
  · subst hb; simp [eu]
  · have e1 : eu (a, b) = (b, a % b) := by simp [eu, hb]
    rw [e1]
    have hr := Nat.mod_lt a (Nat.pos_of_ne_zero hb)
    generalize a % b = r at hr
    by_cases hr0 : r = 0
    · subst hr0; simp [eu]
    · have e2 : eu (b, r) = (r, b % r) := by simp [eu, hr0]
      rw [e2]
      show 2 * (b % r) ≤ b
      have h1 := Nat.mod_lt b (Nat.pos_of_ne_zero hr0)
      have h2 := Nat.div_add_mod b r
      have h3 : 1 ≤ b / r := (Nat.one_le_div_iff (Nat.pos_of_ne_zero hr0)).mpr (Nat.le_of_lt hr)
      have h4 : r * 1 ≤ r * (b / r) := Nat.mul_le_mul_left r h3
      omega
theorem euN_two : ∀ (n : Nat) (p : Nat × Nat), 2 ^ n * (euN (2 * n) p).2 ≤ p.2
  | 0, p => by simp [euN]
  | n + 1, p => by
    rw [show 2 * (n + 1) = 2 * n + 1 + 1 by omega, euN, euN]
    have h1 := euN_two n (eu (eu p))
    have h2 := eu_two p
    rw [Nat.pow_succ, Nat.mul_assoc, Nat.mul_left_comm]
    omega
theorem euN_end (n : Nat) (a b : Nat) (h : b < 2 ^ n) : euN (2 * n) (a, b) = (Nat.gcd a b, 0) := by
  have h1 := euN_two n (a, b)
  have h2 : (euN (2 * n) (a, b)).2 = 0 := by
    apply Decidable.byContradiction
    intro hz
    have : 2 ^ n * 1 ≤ 2 ^ n * (euN (2 * n) (a, b)).2 := Nat.mul_le_mul_left _ (Nat.pos_of_ne_zero hz)
    simp only at h1
    omega
  have h3 := euN_gcd (2 * n) (a, b)
  rw [h2, Nat.gcd_zero_right] at h3
  exact Prod.ext h3 h2
theorem foldl_euN {α : Type} : ∀ (xs : List α) (p : Nat × Nat), xs.foldl (fun p _ => eu p) p = euN xs.length p
  | [], p => rfl
  | x :: xs, p => by rw [List.foldl_cons, foldl_euN xs, List.length_cons, euN]
/-- in lowest terms -/
def lowT (t b : Int) : D := .tup [.int (t.fdiv (Int.gcd t b)), .int (b.fdiv (Int.gcd t b))]
theorem divOk_le {g : Int} (h1 : 0 < g) (h2 : g < 1000000000) : divOk g = true := by
  unfold divOk
  rw [Bool.or_eq_true]
  exact .inr (decide_eq_true (by omega))
theorem gcd_pos {t b : Int} (hb : 0 < b) : 0 < (Int.gcd t b : Int) ∧ (Int.gcd t b : Int) ≤ b := by
  have h1 : 0 < Int.gcd t b := Nat.pos_of_ne_zero fun h => by
    rw [Int.gcd_eq_zero_iff] at h
    omega
  exact ⟨by omega, Int.le_of_dvd hb (Int.gcd_dvd_right ..)⟩
theorem log_lt {n : Nat} (h : n < 1000000000000) : n.log2 < 1920 := by
  by_cases hz : n = 0
  · subst hz; decide
  · exact (Nat.log2_lt hz).mpr (Nat.lt_trans h (by decide +kernel))
end Sk
namespace Sk.H
open PySem PySem.Spec PyProof.Rows L2 Sk
theorem ok_int (n : Nat) (i : Int) (h : i.natAbs < 1000000000000) : okD n (.int i) = true := by
  unfold okD
  exact decide_eq_true (log_lt h)
theorem ok_pair (n : Nat) (i j : Int) (h1 : i.natAbs < 1000000000000) (h2 : j.natAbs < 1000000000000) : okD (n + 1) (.tup [.int i, .int j]) = true := by
  show (decide (([D.int i, D.int j] : List D).length < 1000000) && okL n [D.int i, D.int j]) = true
  simp [okL, ok_int n i h1, ok_int n j h2]
theorem same_ok {d : D} (h : okD 11 d = true) : f_law_same [d, d] = some (.bl true, []) := same_refl 11 d h
end Sk.H
namespace Sk
open PySem PySem.Spec PyProof.Rows L2
theorem fdiv_bd {t g : Int} (ht : 0 ≤ t) (hg : 0 < g) : 0 ≤ t.fdiv g ∧ t.fdiv g ≤ t := by
  rw [Int.fdiv_eq_ediv_of_nonneg _ (Int.le_of_lt hg)]
  exact ⟨Int.ediv_nonneg ht (Int.le_of_lt hg), Int.ediv_le_self _ ht⟩
theorem lowT_ok {t b : Int} (ht : 0 ≤ t) (hb : 0 < b) (h1 : t < 1000000000000) (h2 : b < 1000000000000) : H.okD 11 (lowT t b) = true := by
  obtain ⟨g1, _⟩ := gcd_pos (t := t) hb
  have a1 := fdiv_bd ht g1
  have a2 := fdiv_bd (Int.le_of_lt hb) g1
  exact H.ok_pair 10 _ _ (by omega) (by omega)
end Sk
namespace Sk
open PySem PySem.Spec PyProof.Rows L2
theorem filter_sum {α : Type} (p : α → Bool) (f : α → Int) : ∀ l : List α, ((l.filter p).map f).sum = (l.map fun y => if p y then f y else 0).sum
  | [] => rfl
  | x :: l => by
    rw [List.filter_cons, List.map_cons, List.sum_cons]
    cases h : p x
    · simpa using filter_sum p f l
    · simpa using filter_sum p f l
theorem zip_range (ts : List Int) (g : Nat → Int → Int) : ((ts.zipIdx 0).map fun y => g y.2 y.1) = (List.range ts.length).map fun i => g i (ts.getD i 0) := by
  refine List.ext_getElem (by simp) fun i h1 h2 => ?_
  have hi : i < ts.length := by simpa using h2
  simp [List.getElem?_eq_getElem hi]
theorem foldl_sum {α : Type} (f : α → Int) : ∀ (l : List α) (a : Int), l.foldl (fun t x => t + f x) a = a + (l.map f).sum
  | [], a => by simp
  | x :: l, a => by
    rw [List.foldl_cons, foldl_sum f l, List.map_cons, List.sum_cons]
    omega
theorem enum_ints : ∀ (ts : List Int) (k : Nat), enumL k (ts.map D.int) = (ts.zipIdx k).map fun y => .tup [.int (y.2 : Int), .int y.1]
  | [], _ => rfl
  | t :: ts, k => by
    rw [List.map_cons, enumL, enum_ints ts (k + 1), List.zipIdx_cons, List.map_cons]
theorem it_enum (o : Bool) (ts : List Int) : itF .enum [.lst o (ts.map .int)] = some ((ts.zipIdx 0).map fun y => .tup [.int (y.2 : Int), .int y.1]) := by
  show (if unL (ts.map D.int) = true then some (enumL 0 (ts.map D.int)) else none) = _
  rw [unL_map_int, if_pos rfl, enum_ints]
theorem it_nat (n : Nat) (h : n ≤ 1000) : itF .range [.int (n : Int)] = some ((List.range n).map fun i : Nat => D.int (i : Int)) := by
  rw [it_range1 (by omega) (by omega), rng, List.map_map, Int.toNat_natCast]
  congr 1
  refine List.map_congr_left fun i _ => ?_
  simp
theorem it_from1 (n : Nat) (h : n ≤ 1000) : itF .range [.int 1, .int (n : Int)] = some (((List.range (n - 1)).map fun i => i + 1).map fun m : Nat => D.int (m : Int)) := by
  rw [it_range2 (by omega) (by omega) (by omega) (by omega), rng, List.map_map, List.map_map, show ((n : Int) - 1).toNat = n - 1 by omega]
  congr 1
  refine List.map_congr_left fun i _ => ?_
  simp only [Function.comp]
  congr 1
  omega
/-- drawn values, each of a kind -/
theorem draws_ex {F : D → Gm → Option (List D × Gm)} {W : Nat → Gm} {P : Int → Prop} (hF : ∀ i j, ∃ v j', F (.int i) (W j) = some ([.int v], W j') ∧ P v) : ∀ (xs : List Int) (j : Nat), ∃ (vs : List Int) (j' : Nat), compL F (xs.map .int) (W j) = some (vs.map .int, W j') ∧ vs.length = xs.length ∧ ∀ v ∈ vs, P v
  | [], j => ⟨[], j, rfl, rfl, fun _ z => nomatch z⟩
  | x :: xs, j => by
    obtain ⟨v, j1, e1, h1⟩ := hF x j
    obtain ⟨vs, j2, e2, h2, h3⟩ := draws_ex hF xs j1
    refine ⟨v :: vs, j2, ?_, by simp [h2], fun w hw => ?_⟩
    · simp only [List.map_cons, compL, e1, Option.bind_some, e2]
      rfl
    · rcases List.mem_cons.mp hw with rfl | hw
      · exact h1
      · exact h3 w hw
end Sk

namespace Sk
open PySem PySem.Spec PyProof.Rows L2
/-- a walk that answers at the first that fits, or goes through -/
theorem forL_some {α : Type} {f : D → Gm → Option R} {enc : α → D} (I : Gm → Prop) (g : α → Option D) : ∀ {xs : List α} {Γ : Gm}, (∀ x ∈ xs, ∀ Γ, I Γ → ∃ Γ', match g x with
      | some d => f (enc x) Γ = some (.rt d Γ')
      | none => f (enc x) Γ = some (.nx Γ') ∧ I Γ') → I Γ → ∃ Γ', match xs.findSome? g with
      | some d => forL f (xs.map enc) Γ = some (.rt d Γ')
      | none => forL f (xs.map enc) Γ = some (.nx Γ') ∧ I Γ'
  | [], Γ, _, h => ⟨Γ, rfl, h⟩
  | x :: xs, Γ, hs, h => by
    obtain ⟨Γ1, e1⟩ := hs x List.mem_cons_self Γ h
    rw [List.findSome?_cons]
    cases hg : g x with
    | some d =>
      rw [hg] at e1
      exact ⟨Γ1, by simp only [List.map_cons, forL, e1]⟩
    | none =>
      rw [hg] at e1
      obtain ⟨e1, h1⟩ := e1
      obtain ⟨Γ2, e2⟩ := forL_some I g (fun y hy => hs y (List.mem_cons_of_mem _ hy)) h1
      refine ⟨Γ2, ?_⟩
      simp only [List.map_cons, forL, e1]
      exact e2
/-- a while loop over a counted state -/
theorem whl_to {c : Gm → Option (Bool × Gm)} {f : Gm → Option R} {W : Nat → Gm} {b : Nat} : ∀ {n a : Nat}, a ≤ b → (∀ k, a ≤ k → k < b → c (W k) = some (true, W k) ∧ f (W k) = some (.nx (W (k + 1)))) → c (W b) = some (false, W b) → b - a < n → whlL c f n (W a) = some (.nx (W b))
  | 0, a, _, _, _, h => absurd h (Nat.not_lt_zero _)
  | n + 1, a, hab, hs, hb, h => by
    by_cases hz : a = b
    · subst hz
      simp only [whlL, hb]
    · obtain ⟨e1, e2⟩ := hs a (Nat.le_refl _) (by omega)
      simp only [whlL, e1, e2]
      exact whl_to (by omega) (fun k h1 h2 => hs k (by omega) h2) hb (by omega)
/-- a call that is handed a box and what another slot holds -/
theorem cioV_ev {Φ : Tab} {f : Str} {φ : Fn} {i k : Nat} {Γ : Gm} {bx bx' r : D} {ds : List D} {m : Md} (hΦ : Φ f = some (2, 1, φ)) (hik : i ≠ k) (hi : getS Γ i = some bx) (hk : getS Γ k = some (.lst true ds)) (hφ : φ [bx, .lst false (frzL ds)] = some (r, [bx'])) (ha : al r = true) (hb : al bx' = true) :
    ev Φ (.cio f [i] [.loc k]) m Γ = some (fin m (r, Γ.set i (some bx'))) := by
  have g1 : getSs Γ [i] = some [bx] := by simp [getSs, hi]
  have g2 : getS (Γ.set i none) k = some (.lst true ds) := by
    unfold getS at hk ⊢
    rw [List.getElem?_set_ne hik]
    exact hk
  have e1 : ∀ Γ', getS Γ' k = some (.lst true ds) → evOs Φ [.loc k] Γ' = some ([.lst true ds], Γ') := fun Γ' h => by simp [evOs, ev, h, fin2, fin, purL]
  have e2 : clr Γ [i] = Γ.set i none := rfl
  unfold ev
  rw [g1, e1 Γ hk, e2, e1 _ g2]
  simp [hΦ, unL, un, purL, pur, frzL, frz, hφ, al, alL, ha, hb, setSs]
/-- one more at the end -/
theorem app_ev {Φ : Tab} {i : Nat} {e : E} {Γ Γ2 : Gm} {d : D} {o : Bool} {ds0 ds : List D} {m : Md} (h0 : getS Γ i = some (.lst o ds0)) (he : ev Φ e .val Γ = some (d, Γ2)) (h2 : getS Γ2 i = some (.lst true ds)) (hs : ds.length < sizeLine) :
    ev Φ (.mut i [] .append [e]) m Γ = some (fin m (.non, Γ2.set i (some (.lst true (ds ++ [d]))))) := by
  unfold ev
  simp [evEs, h0, isLAt, he, h2, updP, mmF, hs]
end Sk

namespace Sk
open PySem PySem.Spec PyProof.Rows L2
theorem unL_mapU {α : Type} {f : α → D} (h : ∀ x, un (f x) = true) (xs : List α) : unL (xs.map f) = true := unL_map h xs
theorem unL_app (a b : List D) : unL (a ++ b) = (unL a && unL b) := by
  induction a with
  | nil => simp [unL]
  | cons x r ih => simp [unL, ih, Bool.and_assoc]
theorem unL_app_i {a b : List D} (h1 : unL a = true) (h2 : unL b = true) : unL (a ++ b) = true := by rw [unL_app, h1, h2]; rfl
theorem dInts_app : ∀ {a b : List D} {x y : List Int}, dInts a = some x → dInts b = some y → dInts (a ++ b) = some (x ++ y)
  | [], b, x, y, ha, hb => by cases ha; exact hb
  | .int i :: a, b, x, y, ha, hb => by
    unfold dInts at ha
    obtain ⟨z, h1, rfl⟩ := Option.map_eq_some_iff.mp ha
    rw [List.cons_append, dInts, dInts_app h1 hb]
    rfl
theorem frzL_mapF {α : Type} {f g : α → D} (h : ∀ x, frz (f x) = g x) (xs : List α) : frzL (xs.map f) = xs.map g := by
  induction xs with
  | nil => rfl
  | cons x r ih => simp [frzL, h, ih]
theorem frzL_mapU {α : Type} {f : α → D} (h : ∀ x, un (f x) = true) (xs : List α) : frzL (xs.map f) = xs.map f := frzL_un _ (unL_map h xs)
/-! ### what holds behind a step: rules that walk backward -/
section
variable (Φ : Tab)
@[irreducible] def ze (e : E) (m : Md) (Γ : Gm) (Q : D → Gm → Prop) : Prop := ∃ d Γ', ev Φ e m Γ = some (d, Γ') ∧ Q d Γ'
@[irreducible] def zEs (es : List E) (Γ : Gm) (Q : List D → Gm → Prop) : Prop := ∃ d Γ', evEs Φ es Γ = some (d, Γ') ∧ Q d Γ'
@[irreducible] def zOs (es : List E) (Γ : Gm) (Q : List D → Gm → Prop) : Prop := ∃ d Γ', evOs Φ es Γ = some (d, Γ') ∧ Q d Γ'
@[irreducible] def zt (e : E) (Γ : Gm) (Q : Bool → Gm → Prop) : Prop := ∃ d Γ' b, ev Φ e .tst Γ = some (d, Γ') ∧ truD d = some b ∧ Q b Γ'
@[irreducible] def zAnd (es : List E) (Γ : Gm) (Q : Bool → Gm → Prop) : Prop := ∃ b Γ', evTAnd Φ es Γ = some (.bl b, Γ') ∧ Q b Γ'
@[irreducible] def zOr (es : List E) (Γ : Gm) (Q : Bool → Gm → Prop) : Prop := ∃ b Γ', evTOr Φ es Γ = some (.bl b, Γ') ∧ Q b Γ'
@[irreducible] def zs (s : Sm) (Γ : Gm) (Q : R → Prop) : Prop := ∃ r, evS Φ s Γ = some r ∧ Q r
@[irreducible] def zss (s : List Sm) (Γ : Gm) (Q : R → Prop) : Prop := ∃ r, evSs Φ s Γ = some r ∧ Q r
end
/-- what must hold besides -/
@[irreducible] def zr (A B : Prop) : Prop := A ∧ B
@[irreducible] def zg (Γ : Gm) (i : Nat) (Q : D → Prop) : Prop := ∃ x, getS Γ i = some x ∧ Q x
@[irreducible] def zb (d : D) (Q : Bool → Prop) : Prop := ∃ t, d = .bl t ∧ Q t
theorem zr_i {A B : Prop} (a : A := by first | rfl | with_reducible assumption | decide | (simp [un, unL, unL_map_int, unL_mapU, hideOk, szOk_le, *] <;> fail) | exact szOk_le (by first | with_reducible assumption | (simp; omega))) (h : B) : zr A B := by unfold zr; exact ⟨a, h⟩
theorem zg_i {Γ : Gm} {i : Nat} {d : D} {Q : D → Prop} (e : getS Γ i = some d := by rfl) (h : Q d) : zg Γ i Q := by unfold zg; exact ⟨d, e, h⟩
theorem zb_i {t : Bool} {Q : Bool → Prop} (h : Q t) : zb (.bl t) Q := by unfold zb; exact ⟨t, rfl, h⟩
@[irreducible] def zp (p : Pr) (ds : List D) (Q : D → Prop) : Prop := ∃ r, prF p ds = some r ∧ Q r
@[irreducible] def zx (a b : D) (Q : D → Prop) : Prop := ∃ r, idxF a b = some r ∧ Q r
@[irreducible] def ztr (d : D) (Q : Bool → Prop) : Prop := ∃ b, truD d = some b ∧ Q b
@[irreducible] def zif (b : Bool) (A B : Prop) : Prop := (b = true → A) ∧ (b = false → B)
@[irreducible] def zasg (t : T) (d : D) (Γ : Gm) (Q : Gm → Prop) : Prop := ∃ Γ', asgT t d Γ = some Γ' ∧ Q Γ'
@[irreducible] def zasgs (t : List T) (d : List D) (Γ : Gm) (Q : Gm → Prop) : Prop := ∃ Γ', asgTs t d Γ = some Γ' ∧ Q Γ'
@[irreducible] def zset (Γ : Gm) (i : Nat) (o : Option D) (Q : Gm → Prop) : Prop := Q (Γ.set i o)
@[irreducible] def zfin (m : Md) (d : D) (Q : D → Prop) : Prop := Q (match m with | .val => d | _ => frz d)
@[irreducible] def zfz (d : D) (Q : D → Prop) : Prop := Q (frz d)
@[irreducible] def zfzs (d : List D) (Q : List D → Prop) : Prop := Q (frzL d)
@[irreducible] def znx (r : R) (A : Gm → Prop) (Q : R → Prop) : Prop := match r with | .nx Γ => A Γ | x => Q x
@[irreducible] def zcall (Φ : Tab) (f : Str) (ds : List D) (Q : D → Prop) : Prop := ∃ np φ r x, Φ f = some (np, 0, φ) ∧ ds.length = np ∧ φ (frzL ds) = some (r, x) ∧ (unL ds || al r) = true ∧ Q r
/-- a callee that is handed a box -/
@[irreducible] def zcio (Φ : Tab) (f : Str) (bx : D) (ds : List D) (Q : D → D → Prop) : Prop := ∃ φ r bx', Φ f = some (1 + ds.length, 1, φ) ∧ φ (bx :: ds) = some (r, [bx']) ∧ Q r bx'
section
variable {Φ : Tab} {Γ Γ' : Gm} {m : Md} {d d' r : D} {i : Nat}
theorem fin_eq (x : D) : fin m (x, Γ) = ((match m with | .val => x | _ => frz x), Γ) := by cases m <;> rfl
/-! state -/
theorem zset_i {o : Option D} {Q : Gm → Prop} (e : Γ.set i o = Γ' := by first | (simp only [List.set_cons_succ, List.set_cons_zero]; rfl) | rfl) (h : Q Γ') : zset Γ i o Q := by
  unfold zset; rw [e]; exact h
theorem zif_t {A B : Prop} (h : A) : zif true A B := by unfold zif; exact ⟨fun _ => h, (fun z => nomatch z)⟩
theorem zif_f {A B : Prop} (h : B) : zif false A B := by unfold zif; exact ⟨(fun z => nomatch z), fun _ => h⟩
theorem zif_i {b : Bool} {A B : Prop} (h1 : b = true → A) (h2 : b = false → B) : zif b A B := by unfold zif; exact ⟨h1, h2⟩
theorem zif_d {p : Prop} {_ : Decidable p} {A B : Prop} (h1 : p → A) (h2 : ¬ p → B) : zif (decide p) A B := zif_i (fun h => h1 (of_decide_eq_true h)) (fun h => h2 (of_decide_eq_false h))
theorem zif_nd {p : Prop} {_ : Decidable p} {A B : Prop} (h1 : ¬ p → A) (h2 : p → B) : zif (!decide p) A B := zif_i (fun h => h1 (by simpa using h)) (fun h => h2 (by simpa using h))
theorem zif_tt {b : Bool} {A B : Prop} (hb : b = true) (h : A) : zif b A B := by subst hb; exact zif_t h
theorem zif_ff {b : Bool} {A B : Prop} (hb : b = false) (h : B) : zif b A B := by subst hb; exact zif_f h
/-- all the same -/
theorem zif_s {b : Bool} {A : Prop} (h : A) : zif b A A := zif_i (fun _ => h) (fun _ => h)
theorem znx_nx {A : Gm → Prop} {Q : R → Prop} (h : A Γ) : znx (.nx Γ) A Q := by unfold znx; exact h
theorem znx_rt {A : Gm → Prop} {Q : R → Prop} (h : Q (.rt d Γ)) : znx (.rt d Γ) A Q := by unfold znx; exact h
theorem znx_bk {A : Gm → Prop} {Q : R → Prop} (h : Q (.bk Γ)) : znx (.bk Γ) A Q := by unfold znx; exact h
theorem znx_ct {A : Gm → Prop} {Q : R → Prop} (h : Q (.ct Γ)) : znx (.ct Γ) A Q := by unfold znx; exact h
/-! freezing -/
theorem zfz_i {Q : D → Prop} (e : frz d = d' := by first | (simp only [frz, frzL, frzL_map_int, frzL_mapU, un, unL, implies_true]; rfl) | rfl) (h : Q d') : zfz d Q := by unfold zfz; rw [e]; exact h
theorem zfz_u {Q : D → Prop} (e : un d = true := by first | rfl | with_reducible assumption | exact unL_mapU (fun _ => rfl) _ | exact unL_mapU (by intro _; exact unL_map_int _) _ | exact unL_app_i (by first | rfl | with_reducible assumption | exact unL_mapU (fun _ => rfl) _) (by first | rfl | with_reducible assumption | exact unL_mapU (fun _ => rfl) _) | (simp [un, unL, unL_map_int, unL_app, *] <;> fail)) (h : Q d) : zfz d Q := by unfold zfz; rw [frz_un d e]; exact h
theorem zfzs_u {ds : List D} {Q : List D → Prop} (e : unL ds = true := by first | rfl | with_reducible assumption | exact unL_mapU (fun _ => rfl) _ | exact unL_mapU (by intro _; exact unL_map_int _) _ | exact unL_app_i (by first | rfl | with_reducible assumption | exact unL_mapU (fun _ => rfl) _) (by first | rfl | with_reducible assumption | exact unL_mapU (fun _ => rfl) _) | (simp [un, unL, unL_map_int, unL_app, *] <;> fail)) (h : Q ds) : zfzs ds Q := by unfold zfzs; rw [frzL_un ds e]; exact h
theorem zfzs_i {ds : List D} {ds' : List D} {Q : List D → Prop} (e : frzL ds = ds' := by first | (simp only [frz, frzL, frzL_map_int, frzL_mapU, un, unL, *]; rfl) | rfl) (h : Q ds') : zfzs ds Q := by unfold zfzs; rw [e]; exact h
theorem zfz_l {o : Bool} {ds : List D} {Q : D → Prop} (u : unL ds = true := by first | rfl | with_reducible assumption | exact unL_mapU (fun _ => rfl) _ | exact unL_mapU (by intro _; exact unL_map_int _) _ | exact unL_app_i (by first | rfl | with_reducible assumption | exact unL_mapU (fun _ => rfl) _) (by first | rfl | with_reducible assumption | exact unL_mapU (fun _ => rfl) _) | (simp [un, unL, unL_map_int, unL_app, *] <;> fail)) (h : Q (.lst false ds)) : zfz (.lst o ds) Q := by unfold zfz; rw [frz, frzL_un ds u]; exact h
theorem zfin_v {Q : D → Prop} (h : Q d) : zfin .val d Q := by unfold zfin; exact h
theorem zfin_o {Q : D → Prop} (h : zfz d Q) : zfin .opd d Q := by unfold zfin; unfold zfz at h; exact h
theorem zfin_t {Q : D → Prop} (h : zfz d Q) : zfin .tst d Q := by unfold zfin; unfold zfz at h; exact h
/-! expressions -/
theorem ze_int {z : Int} {Q : D → Gm → Prop} (h : Q (.int z) Γ) : ze Φ (.int z) m Γ Q := by unfold ze; exact ⟨_, _, by simp only [ev], h⟩
theorem ze_bl {z : Bool} {Q : D → Gm → Prop} (h : Q (.bl z) Γ) : ze Φ (.bl z) m Γ Q := by unfold ze; exact ⟨_, _, by simp only [ev], h⟩
theorem ze_non {Q : D → Gm → Prop} (h : Q .non Γ) : ze Φ .non m Γ Q := by unfold ze; exact ⟨_, _, by simp only [ev], h⟩
theorem ze_str {z : Str} {Q : D → Gm → Prop} (h : Q (.str z) Γ) : ze Φ (.str z) m Γ Q := by unfold ze; exact ⟨_, _, by simp only [ev], h⟩
theorem ze_loc_v {Q : D → Gm → Prop} (e : getS Γ i = some d := by rfl) (u : un d = true := by first | rfl | with_reducible assumption | exact unL_mapU (fun _ => rfl) _ | exact unL_mapU (by intro _; exact unL_map_int _) _ | exact unL_app_i (by first | rfl | with_reducible assumption | exact unL_mapU (fun _ => rfl) _) (by first | rfl | with_reducible assumption | exact unL_mapU (fun _ => rfl) _) | (simp [un, unL, unL_map_int, unL_app, *] <;> fail)) (h : Q d Γ) : ze Φ (.loc i) .val Γ Q := by unfold ze; exact ⟨d, Γ, by simp only [ev, e, fin2, u, Option.bind_some, if_true], h⟩
theorem ze_loc_o {Q : D → Gm → Prop} (e : getS Γ i = some d := by rfl) (h : Q d Γ) : ze Φ (.loc i) .opd Γ Q := by unfold ze; exact ⟨d, Γ, by simp only [ev, e, fin2, Option.bind_some], h⟩
theorem ze_loc_t {Q : D → Gm → Prop} (e : getS Γ i = some d := by rfl) (h : Q d Γ) : ze Φ (.loc i) .tst Γ Q := by unfold ze; exact ⟨d, Γ, by simp only [ev, e, fin2, Option.bind_some], h⟩
theorem ze_auto {Q : D → Gm → Prop} (e : getS Γ i = some d := by rfl) (h : zfz d fun d' => zset Γ i (some d') fun Γ' => Q d' Γ') : ze Φ (.auto i) m Γ Q := by
  unfold ze
  unfold zfz zset at h
  exact ⟨_, _, by simp only [ev, e, Option.bind_some], h⟩
theorem ze_mov {Q : D → Gm → Prop} (e : getS Γ i = some d := by rfl) (h : zset Γ i none fun Γ' => zfin m d fun d' => Q d' Γ') : ze Φ (.mov i) m Γ Q := by
  unfold ze
  unfold zset zfin at h
  exact ⟨_, _, by simp only [ev, e, Option.bind_some, fin_eq], h⟩
theorem ze_tup {es : List E} {Q : D → Gm → Prop} (h : zEs Φ es Γ fun ds Γ' => zr (szOk ds.length = true) (zfin m (.tup ds) fun d' => Q d' Γ')) : ze Φ (.tup es) m Γ Q := by
  unfold ze
  unfold zEs zr zfin at h
  obtain ⟨ds, Γ', e, hz, h⟩ := h
  exact ⟨_, _, by simp only [ev, e, Option.bind_some, hz, if_true, fin_eq], h⟩
theorem ze_lst {es : List E} {Q : D → Gm → Prop} (h : zEs Φ es Γ fun ds Γ' => zr (szOk ds.length = true) (zfin m (.lst true ds) fun d' => Q d' Γ')) : ze Φ (.lst es) m Γ Q := by
  unfold ze
  unfold zEs zr zfin at h
  obtain ⟨ds, Γ', e, hz, h⟩ := h
  exact ⟨_, _, by simp only [ev, e, Option.bind_some, hz, if_true, fin_eq], h⟩
theorem ze_idx_v {a b : E} {Q : D → Gm → Prop} (c : ((root a).isNone || pur b) = true := by rfl) (h : ze Φ a .opd Γ fun x Γ1 => ze Φ b .val Γ1 fun y Γ2 => zx x y fun r => zr (un r = true) (Q r Γ2)) : ze Φ (.idx a b) .val Γ Q := by
  unfold ze at h ⊢
  obtain ⟨x, Γ1, e1, y, Γ2, e2, h⟩ := h
  unfold zx zr at h
  obtain ⟨r, e3, u, h⟩ := h
  exact ⟨r, Γ2, by simp only [ev, e1, e2, e3, Option.bind_some, c, if_true, fin2, u], h⟩
theorem ze_idx_o {a b : E} {Q : D → Gm → Prop} (hm : m ≠ .val := by decide) (c : ((root a).isNone || pur b) = true := by rfl) (h : ze Φ a .opd Γ fun x Γ1 => ze Φ b .val Γ1 fun y Γ2 => zx x y fun r => Q r Γ2) : ze Φ (.idx a b) m Γ Q := by
  unfold ze at h ⊢
  obtain ⟨x, Γ1, e1, y, Γ2, e2, h⟩ := h
  unfold zx at h
  obtain ⟨r, e3, h⟩ := h
  cases m with
  | val => exact absurd rfl hm
  | opd => exact ⟨r, Γ2, by simp only [ev, e1, e2, e3, Option.bind_some, c, if_true, fin2], h⟩
  | tst => exact ⟨r, Γ2, by simp only [ev, e1, e2, e3, Option.bind_some, c, if_true, fin2], h⟩
theorem ze_pr {p : Pr} {es : List E} {Q : D → Gm → Prop} (h : zOs Φ es Γ fun ds Γ' => zp p ds fun r => zfin m r fun r => Q r Γ') : ze Φ (.pr p es) m Γ Q := by
  unfold ze
  unfold zOs zp zfin at h
  obtain ⟨ds, Γ', e, r, e2, h⟩ := h
  exact ⟨_, _, by simp only [ev, e, Option.bind_some, e2, Option.map_some, fin_eq], h⟩
theorem ze_not {a : E} {Q : D → Gm → Prop} (h : zt Φ a Γ fun b Γ' => Q (.bl (!b)) Γ') : ze Φ (.not_ a) m Γ Q := by
  unfold ze
  unfold zt at h
  obtain ⟨d, Γ', b, e, e2, h⟩ := h
  exact ⟨_, _, by simp only [ev, e, Option.bind_some, e2, Option.map_some], h⟩
theorem ze_andT {es : List E} {Q : D → Gm → Prop} (h : zAnd Φ es Γ fun b Γ' => Q (.bl b) Γ') : ze Φ (.and_ es) .tst Γ Q := by
  unfold ze
  unfold zAnd at h
  obtain ⟨b, Γ', e, h⟩ := h
  exact ⟨_, _, by simp only [ev]; exact e, h⟩
theorem ze_orT {es : List E} {Q : D → Gm → Prop} (h : zOr Φ es Γ fun b Γ' => Q (.bl b) Γ') : ze Φ (.or_ es) .tst Γ Q := by
  unfold ze
  unfold zOr at h
  obtain ⟨b, Γ', e, h⟩ := h
  exact ⟨_, _, by simp only [ev]; exact e, h⟩
@[irreducible] def zAndV (Φ : Tab) (es : List E) (Γ : Gm) (Q : D → Gm → Prop) : Prop := ∃ d Γ', evAnd Φ es Γ = some (d, Γ') ∧ Q d Γ'
@[irreducible] def zOrV (Φ : Tab) (es : List E) (Γ : Gm) (Q : D → Gm → Prop) : Prop := ∃ d Γ', evOr Φ es Γ = some (d, Γ') ∧ Q d Γ'
theorem ze_andV {es : List E} {Q : D → Gm → Prop} (hm : m ≠ .tst := by decide) (h : zAndV Φ es Γ fun d Γ' => zfin m d fun d => Q d Γ') : ze Φ (.and_ es) m Γ Q := by
  unfold ze
  unfold zAndV zfin at h
  obtain ⟨d, Γ', e, h⟩ := h
  cases m with
  | tst => exact absurd rfl hm
  | val => exact ⟨_, _, by simp only [ev, e, Option.map_some, fin], h⟩
  | opd => exact ⟨_, _, by simp only [ev, e, Option.map_some, fin], h⟩
theorem ze_orV {es : List E} {Q : D → Gm → Prop} (hm : m ≠ .tst := by decide) (h : zOrV Φ es Γ fun d Γ' => zfin m d fun d => Q d Γ') : ze Φ (.or_ es) m Γ Q := by
  unfold ze
  unfold zOrV zfin at h
  obtain ⟨d, Γ', e, h⟩ := h
  cases m with
  | tst => exact absurd rfl hm
  | val => exact ⟨_, _, by simp only [ev, e, Option.map_some, fin], h⟩
  | opd => exact ⟨_, _, by simp only [ev, e, Option.map_some, fin], h⟩
theorem zAndV_one {e : E} {Q : D → Gm → Prop} (h : ze Φ e .val Γ Q) : zAndV Φ [e] Γ Q := by
  unfold zAndV; unfold ze at h
  obtain ⟨d, Γ', e, h⟩ := h
  exact ⟨d, Γ', by simp only [evAnd, e, Option.bind_some], h⟩
theorem zAndV_cons {e e2 : E} {es : List E} {Q : D → Gm → Prop} (h : ze Φ e .val Γ fun d Γ' => zr (un d = true) (ztr d fun b => zif b (zAndV Φ (e2 :: es) Γ' Q) (Q d Γ'))) : zAndV Φ (e :: e2 :: es) Γ Q := by
  unfold ze zr ztr zif zAndV at h; unfold zAndV
  obtain ⟨d, Γ1, e1, hu, b, e2, h1, h2⟩ := h
  cases b with
  | false => exact ⟨_, _, by rw [evAnd]; simp only [e1, Option.bind_some, hu, e2, if_true, Bool.false_eq_true, if_false], h2 rfl⟩
  | true =>
    obtain ⟨d, Γ', e3, h⟩ := h1 rfl
    exact ⟨_, _, by rw [evAnd]; simp only [e1, Option.bind_some, hu, e2, if_true]; exact e3, h⟩
theorem zOrV_one {e : E} {Q : D → Gm → Prop} (h : ze Φ e .val Γ Q) : zOrV Φ [e] Γ Q := by
  unfold zOrV; unfold ze at h
  obtain ⟨d, Γ', e, h⟩ := h
  exact ⟨d, Γ', by simp only [evOr, e, Option.bind_some], h⟩
theorem zOrV_cons {e e2 : E} {es : List E} {Q : D → Gm → Prop} (h : ze Φ e .val Γ fun d Γ' => zr (un d = true) (ztr d fun b => zif b (Q d Γ') (zOrV Φ (e2 :: es) Γ' Q))) : zOrV Φ (e :: e2 :: es) Γ Q := by
  unfold ze zr ztr zif zOrV at h; unfold zOrV
  obtain ⟨d, Γ1, e1, hu, b, e2, h1, h2⟩ := h
  cases b with
  | true => exact ⟨_, _, by rw [evOr]; simp only [e1, Option.bind_some, hu, e2, if_true], h1 rfl⟩
  | false =>
    obtain ⟨d, Γ', e3, h⟩ := h2 rfl
    exact ⟨_, _, by rw [evOr]; simp only [e1, Option.bind_some, hu, e2, if_true, Bool.false_eq_true, if_false]; exact e3, h⟩
theorem ze_ite {c a b : E} {Q : D → Gm → Prop} (h : zt Φ c Γ fun t Γ' => zif t (ze Φ a .val Γ' fun d Γ' => zfin m d fun d => Q d Γ') (ze Φ b .val Γ' fun d Γ' => zfin m d fun d => Q d Γ')) : ze Φ (.ite c a b) m Γ Q := by
  unfold ze
  unfold zt zif zfin ze at h
  obtain ⟨d, Γ1, t, e1, e2, h1, h2⟩ := h
  cases t with
  | true =>
    obtain ⟨d, Γ', e, h⟩ := h1 rfl
    exact ⟨_, _, by simp only [ev, e1, e2, e, Option.bind_some, if_true, Option.map_some, fin_eq], h⟩
  | false =>
    obtain ⟨d, Γ', e, h⟩ := h2 rfl
    exact ⟨_, _, by simp only [ev, e1, e2, e, Option.bind_some, Bool.false_eq_true, if_false, Option.map_some, fin_eq], h⟩
theorem ze_chain {p q : Pr} {a b c : E} {Q : D → Gm → Prop} (hp : (pur a && pur b && pur c) = true := by rfl) (h : ze Φ a .opd Γ fun x Γ1 => ze Φ b .opd Γ1 fun y Γ2 => zp p [x, y] fun r => zb r fun t => zif t (ze Φ c .opd Γ2 fun z Γ3 => zp q [y, z] fun r => zb r fun t => Q (.bl t) Γ3) (Q (.bl false) Γ2)) : ze Φ (.chain p q a b c) m Γ Q := by
  unfold ze at *
  obtain ⟨x, Γ1, e1, y, Γ2, e2, h⟩ := h
  unfold zp zb zif at h
  obtain ⟨r, e3, t, rfl, h1, h2⟩ := h
  cases t with
  | true =>
    obtain ⟨z, Γ3, e4, r, e5, t, rfl, h⟩ := h1 rfl
    exact ⟨_, _, by simp only [ev, hp, if_true, e1, e2, e3, e4, e5, Option.bind_some], h⟩
  | false => exact ⟨_, _, by simp only [ev, hp, if_true, e1, e2, e3, Option.bind_some], h2 rfl⟩
theorem ze_call {f : Str} {es : List E} {Q : D → Gm → Prop} (h : zOs Φ es Γ fun ds Γ' => zcall Φ f ds fun r => zfin m r fun r => Q r Γ') : ze Φ (.call f es) m Γ Q := by
  unfold ze
  unfold zOs zcall zfin at h
  obtain ⟨ds, Γ', e, np, φ, r, x, e1, e2, e3, e4, h⟩ := h
  exact ⟨_, _, by simp only [ev, e, Option.bind_some, e1, e2, e3, e4, if_true, fin_eq], h⟩
theorem zcall_i {f : Str} {ds ds' : List D} {Q : D → Prop} {φ : Fn} {np : Nat} {x : List D} (hf : Φ f = some (np, 0, φ)) (hφ : φ ds' = some (r, x)) (hz : frzL ds = ds' := by first | rfl | (simp [frz, frzL, frzL_map_int, frzL_mapU, un, unL, *] <;> fail)) (hl : ds.length = np := by rfl) (hu : (unL ds || al r) = true := by first | rfl | (simp [un, unL, al, alL, unL_map_int, unL_mapU, *] <;> fail)) (h : Q r) : zcall Φ f ds Q := by
  unfold zcall
  exact ⟨np, φ, r, x, hf, hl, by rw [hz]; exact hφ, hu, h⟩
theorem zc {f : Str} {ds ds' : List D} {Q : D → Prop} {φ : Fn} {np : Nat} {x : List D} (hf : Φ f = some (np, 0, φ)) (hz : frzL ds = ds' := by first | rfl | (simp [frz, frzL, frzL_map_int, frzL_mapU, un, unL, *] <;> fail)) (hl : ds.length = np := by rfl) (hφ : φ ds' = some (r, x)) (hu : (unL ds || al r) = true := by first | rfl | (simp [un, unL, al, alL, unL_map_int, *] <;> fail)) (h : Q r) : zcall Φ f ds Q := zcall_i hf hφ hz hl hu h
theorem zEs_nil {Q : List D → Gm → Prop} (h : Q [] Γ) : zEs Φ [] Γ Q := by unfold zEs; exact ⟨_, _, by simp only [evEs], h⟩
theorem zEs_cons {e : E} {es : List E} {Q : List D → Gm → Prop} (h : ze Φ e .val Γ fun d Γ' => zEs Φ es Γ' fun ds Γ' => Q (d :: ds) Γ') : zEs Φ (e :: es) Γ Q := by
  unfold ze zEs at *
  obtain ⟨d, Γ1, e1, ds, Γ2, e2, h⟩ := h
  exact ⟨_, _, by simp only [evEs, e1, e2, Option.bind_some], h⟩
theorem zOs_nil {Q : List D → Gm → Prop} (h : Q [] Γ) : zOs Φ [] Γ Q := by unfold zOs; exact ⟨_, _, by simp only [evOs], h⟩
theorem zOs_cons {e : E} {es : List E} {Q : List D → Gm → Prop} (c : ((root e).isNone || purL es) = true := by rfl) (h : ze Φ e .opd Γ fun d Γ' => zOs Φ es Γ' fun ds Γ' => Q (d :: ds) Γ') : zOs Φ (e :: es) Γ Q := by
  unfold ze zOs at *
  obtain ⟨d, Γ1, e1, ds, Γ2, e2, h⟩ := h
  exact ⟨_, _, by simp only [evOs, e1, e2, c, if_true, Option.bind_some], h⟩
/-! tests -/
theorem zt_not {a : E} {Q : Bool → Gm → Prop} (h : zt Φ a Γ fun b Γ' => Q (!b) Γ') : zt Φ (.not_ a) Γ Q := by
  unfold zt at *
  obtain ⟨d, Γ', b, e, e2, h⟩ := h
  exact ⟨.bl (!b), Γ', !b, by simp only [ev, e, Option.bind_some, e2, Option.map_some], rfl, h⟩
theorem zt_and {es : List E} {Q : Bool → Gm → Prop} (h : zAnd Φ es Γ Q) : zt Φ (.and_ es) Γ Q := by
  unfold zt; unfold zAnd at h
  obtain ⟨b, Γ', e, h⟩ := h
  exact ⟨_, _, _, by simp only [ev]; exact e, rfl, h⟩
theorem zt_or {es : List E} {Q : Bool → Gm → Prop} (h : zOr Φ es Γ Q) : zt Φ (.or_ es) Γ Q := by
  unfold zt; unfold zOr at h
  obtain ⟨b, Γ', e, h⟩ := h
  exact ⟨_, _, _, by simp only [ev]; exact e, rfl, h⟩
theorem zt_of {a : E} {Q : Bool → Gm → Prop} (h : ze Φ a .tst Γ fun d Γ' => ztr d fun b => Q b Γ') : zt Φ a Γ Q := by
  unfold zt; unfold ze at h
  obtain ⟨d, Γ', e, h⟩ := h
  unfold ztr at h
  obtain ⟨b, e2, h⟩ := h
  exact ⟨_, _, _, e, e2, h⟩
theorem zAnd_one {e : E} {Q : Bool → Gm → Prop} (h : zt Φ e Γ Q) : zAnd Φ [e] Γ Q := by
  unfold zAnd; unfold zt at h
  obtain ⟨d, Γ', b, e1, e2, h⟩ := h
  refine ⟨b, Γ', ?_, h⟩
  cases b <;> simp only [evTAnd, e1, e2, Option.bind_some] <;> rfl
theorem zAnd_cons {e e2 : E} {es : List E} {Q : Bool → Gm → Prop} (h : zt Φ e Γ fun b Γ' => zif b (zAnd Φ (e2 :: es) Γ' Q) (Q false Γ')) : zAnd Φ (e :: e2 :: es) Γ Q := by
  unfold zt zif zAnd at *
  obtain ⟨d, Γ', b, e1, e3, h1, h2⟩ := h
  cases b with
  | false => exact ⟨_, _, by rw [evTAnd]; simp only [e1, e3, Option.bind_some]; rfl, h2 rfl⟩
  | true =>
    obtain ⟨b, Γ', e4, h⟩ := h1 rfl
    exact ⟨_, _, by rw [evTAnd]; simp only [e1, e3, Option.bind_some, if_true]; exact e4, h⟩
theorem zOr_one {e : E} {Q : Bool → Gm → Prop} (h : zt Φ e Γ Q) : zOr Φ [e] Γ Q := by
  unfold zOr; unfold zt at h
  obtain ⟨d, Γ', b, e1, e2, h⟩ := h
  refine ⟨b, Γ', ?_, h⟩
  cases b <;> simp only [evTOr, e1, e2, Option.bind_some] <;> rfl
theorem zOr_cons {e e2 : E} {es : List E} {Q : Bool → Gm → Prop} (h : zt Φ e Γ fun b Γ' => zif b (Q true Γ') (zOr Φ (e2 :: es) Γ' Q)) : zOr Φ (e :: e2 :: es) Γ Q := by
  unfold zt zif zOr at *
  obtain ⟨d, Γ', b, e1, e3, h1, h2⟩ := h
  cases b with
  | true => exact ⟨_, _, by rw [evTOr]; simp only [e1, e3, Option.bind_some]; rfl, h1 rfl⟩
  | false =>
    obtain ⟨b, Γ', e4, h⟩ := h2 rfl
    exact ⟨_, _, by rw [evTOr]; simp only [e1, e3, Option.bind_some]; exact e4, h⟩
theorem ztr_bl {b : Bool} {Q : Bool → Prop} (h : Q b) : ztr (.bl b) Q := by unfold ztr; exact ⟨_, rfl, h⟩
theorem ztr_int {z : Int} {Q : Bool → Prop} (h : Q (!decide (z = 0))) : ztr (.int z) Q := by unfold ztr; exact ⟨_, by rw [truD], by
  rw [show (z != 0) = (!decide (z = 0)) from by by_cases h : z = 0 <;> simp [h]]; exact h⟩
theorem ztr_non {Q : Bool → Prop} (h : Q false) : ztr .non Q := by unfold ztr; exact ⟨_, rfl, h⟩
theorem ztr_lst {o : Bool} {ds : List D} {Q : Bool → Prop} (h : Q (!ds.isEmpty)) : ztr (.lst o ds) Q := by unfold ztr; exact ⟨_, rfl, h⟩
theorem ztr_tup {ds : List D} {Q : Bool → Prop} (h : Q (!ds.isEmpty)) : ztr (.tup ds) Q := by unfold ztr; exact ⟨_, rfl, h⟩
/-! assignments -/
theorem zasg_n {Q : Gm → Prop} (hi : i < Γ.length := by first | decide | (simp <;> fail)) (h : zset Γ i (some d) Q) : zasg (.n i) d Γ Q := by
  unfold zasg; unfold zset at h
  exact ⟨_, by simp only [asgT, hi, if_true], h⟩
theorem zasg_t {ts : List T} {ds : List D} {Q : Gm → Prop} (h : zasgs ts ds Γ Q) : zasg (.t ts) (.tup ds) Γ Q := by
  unfold zasg; unfold zasgs at h
  obtain ⟨Γ', e, h⟩ := h
  exact ⟨_, by simp only [asgT]; exact e, h⟩
theorem zasgs_nil {Q : Gm → Prop} (h : Q Γ) : zasgs [] [] Γ Q := by unfold zasgs; exact ⟨_, rfl, h⟩
theorem zasgs_cons {t : T} {ts : List T} {ds : List D} {Q : Gm → Prop} (h : zasg t d Γ fun Γ' => zasgs ts ds Γ' Q) : zasgs (t :: ts) (d :: ds) Γ Q := by
  unfold zasg zasgs at *
  obtain ⟨Γ1, e, Γ2, e2, h⟩ := h
  exact ⟨_, by simp only [asgTs, e, Option.bind_some]; exact e2, h⟩
/-! statements -/
theorem zss_nil {Q : R → Prop} (h : Q (.nx Γ)) : zss Φ [] Γ Q := by unfold zss; exact ⟨_, evSs_nil, h⟩
theorem zss_cons {s : Sm} {r : List Sm} {Q : R → Prop} (h : zs Φ s Γ fun x => znx x (fun Γ' => zss Φ r Γ' Q) Q) : zss Φ (s :: r) Γ Q := by
  unfold zs zss at *
  obtain ⟨x, e, h⟩ := h
  cases x with
  | nx Γ' =>
    unfold znx at h
    obtain ⟨r, e2, h⟩ := h
    exact ⟨r, (evSs_go e).trans e2, h⟩
  | rt d Γ' => exact ⟨_, evSs_rt e, by unfold znx at h; exact h⟩
  | bk Γ' => exact ⟨.bk Γ', by simp only [evSs, e, Option.bind_some], by unfold znx at h; exact h⟩
  | ct Γ' => exact ⟨.ct Γ', by simp only [evSs, e, Option.bind_some], by unfold znx at h; exact h⟩
theorem zs_asg {t : T} {e : E} {Q : R → Prop} (h : ze Φ e .val Γ fun d Γ' => zasg t d Γ' fun Γ' => Q (.nx Γ')) : zs Φ (.asg t e) Γ Q := by
  unfold zs; unfold ze at h
  obtain ⟨d, Γ', e1, h⟩ := h
  unfold zasg at h
  obtain ⟨Γ2, e2, h⟩ := h
  exact ⟨_, by simp only [evS, evE, e1, e2, Option.bind_some, Option.map_some], h⟩
theorem zs_par {i j : Nat} {a b : E} {Q : R → Prop} (h : ze Φ a .val Γ fun x Γ' => ze Φ b .val Γ' fun y Γ' => zr ((decide (i < Γ'.length) && decide (j < Γ'.length) && decide (i ≠ j)) = true) (zset Γ' i (some x) fun Γ' => zset Γ' j (some y) fun Γ' => Q (.nx Γ'))) : zs Φ (.par i j a b) Γ Q := by
  unfold zs; unfold ze at h
  obtain ⟨x, Γ1, e1, y, Γ2, e2, h⟩ := h
  unfold zr zset at h
  obtain ⟨c, h⟩ := h
  simp only [Bool.and_eq_true, decide_eq_true_eq] at c
  exact ⟨_, by simp [evS, evE, e1, e2, c], h⟩
theorem zs_aug {p : Pr} {e : E} {x : Int} {Q : R → Prop} (g : getS Γ i = some (.int x) := by rfl) (h : ze Φ e .opd Γ fun y Γ' => zr (isI y = true) (zp p [.int x, y] fun z => zset Γ' i (some z) fun Γ' => Q (.nx Γ'))) : zs Φ (.aug i p e) Γ Q := by
  unfold zs; unfold ze at h
  obtain ⟨y, Γ1, e1, h⟩ := h
  unfold zr zp zset at h
  obtain ⟨c, h⟩ := h
  obtain ⟨z, e2, h⟩ := h
  have c0 : isI (.int x) = true := rfl
  exact ⟨_, by simp only [evS, g, e1, e2, c, c0, if_true, Option.bind_some, Option.map_some], h⟩
theorem zs_ex {e : E} {Q : R → Prop} (h : ze Φ e .val Γ fun _ Γ' => Q (.nx Γ')) : zs Φ (.ex e) Γ Q := by
  unfold zs; unfold ze at h
  obtain ⟨d, Γ', e1, h⟩ := h
  exact ⟨_, by simp only [evS, evE, e1, Option.map_some], h⟩
theorem zs_iff {c : E} {a b : List Sm} {Q : R → Prop} (h : zt Φ c Γ fun t Γ' => zif t (zss Φ a Γ' Q) (zss Φ b Γ' Q)) : zs Φ (.iff c a b) Γ Q := by
  unfold zs; unfold zt zif at h
  obtain ⟨d, Γ', t, e1, e2, h1, h2⟩ := h
  have e3 : evT Φ c Γ = some (t, Γ') := by unfold evT; simp only [e1, e2, Option.bind_some, Option.map_some]
  cases t with
  | true =>
    have h := h1 rfl
    unfold zss at h
    obtain ⟨r, e4, h⟩ := h
    exact ⟨r, by simp only [evS, e3, Option.bind_some, if_true]; exact e4, h⟩
  | false =>
    have h := h2 rfl
    unfold zss at h
    obtain ⟨r, e4, h⟩ := h
    exact ⟨r, by simp only [evS, e3, Option.bind_some, Bool.false_eq_true, if_false]; exact e4, h⟩
theorem zs_ret {e : E} {Q : R → Prop} (h : ze Φ e .val Γ fun d Γ' => Q (.rt d Γ')) : zs Φ (.ret e) Γ Q := by
  unfold zs; unfold ze at h
  obtain ⟨d, Γ', e1, h⟩ := h
  exact ⟨_, by simp only [evS, evE, e1, Option.map_some], h⟩
theorem zs_retN {Q : R → Prop} (h : Q (.rt .non Γ)) : zs Φ .retN Γ Q := by unfold zs; exact ⟨_, by simp only [evS], h⟩
theorem zs_brk {Q : R → Prop} (h : Q (.bk Γ)) : zs Φ .brk Γ Q := by unfold zs; exact ⟨_, by simp only [evS], h⟩
theorem zs_cont {Q : R → Prop} (h : Q (.ct Γ)) : zs Φ .cont Γ Q := by unfold zs; exact ⟨_, by simp only [evS], h⟩
theorem zs_pass {Q : R → Prop} (h : Q (.nx Γ)) : zs Φ .pass Γ Q := by unfold zs; exact ⟨_, by simp only [evS], h⟩
end
end Sk
namespace Sk
open PySem PySem.Spec PyProof.Rows L2
theorem zs_par3 {Φ : Tab} {Γ : Gm} {i j l : Nat} {a b c : E} {Q : R → Prop} (h : ze Φ a .val Γ fun x Γ' => ze Φ b .val Γ' fun y Γ' => ze Φ c .val Γ' fun z Γ' => zr ((decide (i < Γ'.length) && decide (j < Γ'.length) && decide (l < Γ'.length) && decide (i ≠ j) && decide (i ≠ l) && decide (j ≠ l)) = true) (zr ((un x && un y && un z) = true) (zset Γ' i (some x) fun Γ' => zset Γ' j (some y) fun Γ' => zset Γ' l (some z) fun Γ' => Q (.nx Γ')))) : zs Φ (.par3 i j l a b c) Γ Q := by
  unfold zs; unfold ze at h
  obtain ⟨x, Γ1, e1, y, Γ2, e2, z, Γ3, e3, h⟩ := h
  unfold zr zset at h
  obtain ⟨c, u, h⟩ := h
  simp only [Bool.and_eq_true, decide_eq_true_eq] at c u
  exact ⟨_, by simp [evS, evE, e1, e2, e3, c, u], h⟩
theorem zs_augset {Φ : Tab} {Γ : Gm} {i : Nat} {k e : E} {p : Pr} {Q : R → Prop} (hp : (pur k && pur e) = true := by rfl) (hg : (getS Γ i).isSome = true := by rfl) (h : ze Φ k .val Γ fun kd Γ1 => zg Γ1 i fun x1 => zr (isLAt [] x1 = true) (zx x1 kd fun old => ze Φ e .opd Γ1 fun y Γ2 => zg Γ2 i fun x => zr ((isI old && isI y) = true) (zp p [old, y] fun z => ∃ r x', updP (setF kd z) [] x = some (r, x') ∧ zset Γ2 i (some x') fun Γ' => Q (.nx Γ')))) : zs Φ (.augset i [] k p e) Γ Q := by
  unfold zs; unfold ze at h
  obtain ⟨kd, Γ1, e1, h⟩ := h
  unfold zg zr zx at h
  obtain ⟨x1, e2, hl, old, e3, y, Γ2, e4, x, e5, hi, h⟩ := h
  unfold zp zset at h
  obtain ⟨z, e6, r, x', e7, h⟩ := h
  simp only [Bool.and_eq_true] at hp
  simp only [Bool.and_eq_true] at hi
  exact ⟨_, by simp [evS, hp, hg, e1, e2, hl, e3, e4, e5, hi, e6, e7], h⟩
end Sk

namespace Sk
open PySem PySem.Spec PyProof.Rows L2
section
variable {Q : D → Prop} {i j : Int} {a b d r : D} {ds es : List D} {o o2 : Bool} {α β : Type}
theorem zp_of {p : Pr} (e : prF p ds = some r) (h : Q r) : zp p ds Q := by unfold zp; exact ⟨r, e, h⟩
theorem zp_add (h : Q (.int (i + j))) : zp .add [.int i, .int j] Q := zp_of rfl h
theorem zp_sub (h : Q (.int (i - j))) : zp .sub [.int i, .int j] Q := zp_of rfl h
theorem zp_neg (h : Q (.int (-i))) : zp .neg [.int i] Q := zp_of rfl h
theorem mulOk_leR {i j : Int} (h : j.natAbs < 1000000000) : mulOk i j = true := by
  unfold mulOk
  rw [decide_eq_true (show j.natAbs < 2 ^ 64 by omega)]
  simp
theorem mulOk_64 {i j : Int} (h : i.natAbs < 18446744073709551616) : mulOk i j = true := by
  unfold mulOk
  rw [decide_eq_true (show i.natAbs < 2 ^ 64 by omega)]
  rfl
theorem zp_mul (m : mulOk i j = true := by first | with_reducible assumption | exact mulOk_le (by omega) | exact mulOk_leR (by omega) | rfl) (h : Q (.int (i * j))) : zp .mul [.int i, .int j] Q := zp_of (by simp [prF, m]) h
theorem zp_fdiv (m : divOk j = true := by first | with_reducible assumption | exact divOk_le (by omega) (by omega) | rfl) (h : Q (.int (i.fdiv j))) : zp .fdiv [.int i, .int j] Q := zp_of (by simp [prF, m]) h
theorem zp_mod (m : j ≠ 0 := by first | with_reducible assumption | omega) (h : Q (.int (i.fmod j))) : zp .mod [.int i, .int j] Q := zp_of (by simp [prF, m]) h
theorem zp_powL (m : powOk i j = true := by first | rfl | decide | with_reducible assumption) (h : Q (.int (i ^ j.toNat))) : zp .pow [.int i, .int j] Q := zp_of (by simp [prF, m]) h
theorem zp_lt (h : Q (.bl (decide (i < j)))) : zp .lt [.int i, .int j] Q := zp_of rfl h
theorem zp_gt (h : Q (.bl (decide (j < i)))) : zp .gt [.int i, .int j] Q := zp_of rfl h
theorem zp_le (h : Q (.bl (decide (i ≤ j)))) : zp .le [.int i, .int j] Q := zp_of (r := .bl (decide (i ≤ j))) (by
  show some (D.bl (!decide (j < i))) = _
  by_cases h : i ≤ j
  · rw [decide_eq_true h, decide_eq_false (by omega)]; rfl
  · rw [decide_eq_false h, decide_eq_true (by omega)]; rfl) h
theorem zp_ge (h : Q (.bl (decide (j ≤ i)))) : zp .ge [.int i, .int j] Q := zp_of (r := .bl (decide (j ≤ i))) (by
  show some (D.bl (!decide (i < j))) = _
  by_cases h : j ≤ i
  · rw [decide_eq_true h, decide_eq_false (by omega)]; rfl
  · rw [decide_eq_false h, decide_eq_true (by omega)]; rfl) h
theorem zp_eqI (h : Q (.bl (decide (i = j)))) : zp .eq [.int i, .int j] Q := zp_of (by simp only [prF, eqF_int, Option.map_some]) h
theorem zp_neI (h : Q (.bl (!decide (i = j)))) : zp .ne [.int i, .int j] Q := zp_of (by simp only [prF, eqF_int, Option.map_some]) h
theorem eqF_same (h : py a = py b) (ha : dep 60 a = true) (hb : dep 60 b = true) : eqF a b = some (PyData.eqv (py b) (py b)) := by
  unfold eqF eqOk
  rw [ha, hb, h]
  rfl
theorem zp_eqE {c : Bool} (e : eqF a b = some c) (h : Q (.bl c)) : zp .eq [a, b] Q := zp_of (by simp only [prF, e, Option.map_some]) h
theorem zp_neE {c : Bool} (e : eqF a b = some c) (h : Q (.bl (!c))) : zp .ne [a, b] Q := zp_of (by simp only [prF, e, Option.map_some]) h
theorem zp_eqInts {xs ys : List Int} (h : Q (.bl (decide (xs = ys)))) : zp .eq [.lst o (xs.map .int), .lst o2 (ys.map .int)] Q := zp_eqE (eqF_ints _ _ _ _) h
theorem zp_neInts {xs ys : List Int} (h : Q (.bl (!decide (xs = ys)))) : zp .ne [.lst o (xs.map .int), .lst o2 (ys.map .int)] Q := zp_neE (eqF_ints _ _ _ _) h
theorem zp_isN (h : Q (.bl (nonD a))) : zp .isN [a] Q := zp_of rfl h
theorem zp_notN (h : Q (.bl (!nonD a))) : zp .notN [a] Q := zp_of rfl h
theorem zp_isB {c : Bool} (h : Q (.bl (isBD c a))) : zp (.isB c) [a] Q := zp_of rfl h
theorem zp_notB {c : Bool} (h : Q (.bl (!isBD c a))) : zp (.notB c) [a] Q := zp_of rfl h
theorem zp_isa {t : String} (h : Q (.bl (isaD t a))) : zp (.isa t) [a] Q := zp_of rfl h
theorem zp_lenM {xs : List α} {f : α → D} (h : Q (.int xs.length)) : zp .len [.lst o (xs.map f)] Q := zp_of (by simp [prF, dSeq]) h
theorem zp_lenMT {xs : List α} {f : α → D} (h : Q (.int xs.length)) : zp .len [.tup (xs.map f)] Q := zp_of (by simp [prF, dSeq]) h
theorem zp_lenL (h : Q (.int ds.length)) : zp .len [.lst o ds] Q := zp_of (by simp [prF, dSeq]) h
theorem zp_lenT (h : Q (.int ds.length)) : zp .len [.tup ds] Q := zp_of (by simp [prF, dSeq]) h
theorem zp_int (h : Q (.int i)) : zp .int_ [.int i] Q := zp_of rfl h
theorem zp_intB {c : Bool} (h : Q (.int (if c then 1 else 0))) : zp .int_ [.bl c] Q := zp_of rfl h
theorem zp_abs (h : Q (.int (i.natAbs : Int))) : zp .abs_ [.int i] Q := zp_of (by
  show some (D.int (if i < 0 then -i else i)) = _
  congr 2
  split <;> omega) h
theorem zp_min2 (h : Q (.int (min i j))) : zp .min2 [.int i, .int j] Q := zp_of (by
  show some (D.int (if j < i then j else i)) = _
  congr 2
  split <;> omega) h
theorem zp_max2 (h : Q (.int (max i j))) : zp .max2 [.int i, .int j] Q := zp_of (by
  show some (D.int (if j > i then j else i)) = _
  congr 2
  split <;> omega) h
theorem zp_sumM {xs : List α} {f : α → Int} (h : Q (.int (xs.map f).sum)) : zp .sum [.lst o (xs.map fun x => .int (f x))] Q := zp_of (by simp only [prF, dInts_map', Option.map_some]) h
theorem zp_sumL {ns : List Int} (e : dInts ds = some ns := by rfl) (h : Q (.int ns.sum)) : zp .sum [.lst o ds] Q := zp_of (by simp only [prF, e, Option.map_some]) h
theorem zp_allM {xs : List α} {f : α → Bool} (h : Q (.bl (xs.all f))) : zp .all1 [.lst o (xs.map fun x => .bl (f x))] Q := zp_of (by simp only [prF, dBls_map', Option.map_some, List.all_map]; rfl) h
theorem zp_anyM {xs : List α} {f : α → Bool} (h : Q (.bl (xs.any f))) : zp .any1 [.lst o (xs.map fun x => .bl (f x))] Q := zp_of (by simp only [prF, dBls_map', Option.map_some, List.any_map]; rfl) h
theorem zp_allL {ns : List Bool} (e : dBls ds = some ns := by rfl) (h : Q (.bl (ns.all id))) : zp .all1 [.lst o ds] Q := zp_of (by simp only [prF, e, Option.map_some]) h
/-- the least, as a law: one of them, and none is less -/
theorem zp_min1M {xs : List α} {f : α → Int} (ne : xs ≠ [] := by with_reducible assumption) (h : ∀ v, v ∈ xs.map f → (∀ x ∈ xs, v ≤ f x) → Q (.int v)) : zp .min1 [.lst o (xs.map fun x => .int (f x))] Q := by
  cases hm : minI (xs.map f) with
  | none => cases xs with
    | nil => exact absurd rfl ne
    | cons x r => simp [minI] at hm
  | some v =>
    obtain ⟨h1, h2⟩ := minI_spec hm
    exact zp_of (by simp only [prF, dInts_map', hm, Option.map_some]) (h v h1 fun x hx => h2 _ (List.mem_map_of_mem hx))
theorem zp_max1M {xs : List α} {f : α → Int} (ne : xs ≠ [] := by with_reducible assumption) (h : ∀ v, v ∈ xs.map f → (∀ x ∈ xs, f x ≤ v) → Q (.int v)) : zp .max1 [.lst o (xs.map fun x => .int (f x))] Q := by
  cases hm : maxI (xs.map f) with
  | none => cases xs with
    | nil => exact absurd rfl ne
    | cons x r => simp [maxI] at hm
  | some v =>
    obtain ⟨h1, h2⟩ := maxI_spec hm
    exact zp_of (by simp only [prF, dInts_map', hm, Option.map_some]) (h v h1 fun x hx => h2 _ (List.mem_map_of_mem hx))
theorem zp_minE {v : Int} {ns : List Int} (e : dInts ds = some ns) (m : minI ns = some v) (h : Q (.int v)) : zp .min1 [.lst o ds] Q := zp_of (by simp only [prF, e, m, Option.map_some]) h
theorem zp_maxE {v : Int} {ns : List Int} (e : dInts ds = some ns) (m : maxI ns = some v) (h : Q (.int v)) : zp .max1 [.lst o ds] Q := zp_of (by simp only [prF, e, m, Option.map_some]) h
theorem zp_lst1L (u : unL ds = true := by first | rfl | with_reducible assumption | exact unL_mapU (fun _ => rfl) _ | exact unL_mapU (by intro _; exact unL_map_int _) _ | exact unL_app_i (by first | rfl | with_reducible assumption | exact unL_mapU (fun _ => rfl) _) (by first | rfl | with_reducible assumption | exact unL_mapU (fun _ => rfl) _) | (simp [un, unL, unL_map_int, unL_app, *] <;> fail)) (h : Q (.lst true ds)) : zp .lst1 [.lst o ds] Q := zp_of (by simp only [prF, dSeq, u, if_true]) h
theorem zp_lst1T (u : unL ds = true := by first | rfl | with_reducible assumption | exact unL_mapU (fun _ => rfl) _ | exact unL_mapU (by intro _; exact unL_map_int _) _ | exact unL_app_i (by first | rfl | with_reducible assumption | exact unL_mapU (fun _ => rfl) _) (by first | rfl | with_reducible assumption | exact unL_mapU (fun _ => rfl) _) | (simp [un, unL, unL_map_int, unL_app, *] <;> fail)) (h : Q (.lst true ds)) : zp .lst1 [.tup ds] Q := zp_of (by simp only [prF, dSeq, u, if_true]) h
theorem zp_tup1L (u : unL ds = true := by first | rfl | with_reducible assumption | exact unL_mapU (fun _ => rfl) _ | exact unL_mapU (by intro _; exact unL_map_int _) _ | exact unL_app_i (by first | rfl | with_reducible assumption | exact unL_mapU (fun _ => rfl) _) (by first | rfl | with_reducible assumption | exact unL_mapU (fun _ => rfl) _) | (simp [un, unL, unL_map_int, unL_app, *] <;> fail)) (h : Q (.tup ds)) : zp .tup1 [.lst o ds] Q := zp_of (by simp only [prF, dSeq, u, if_true]) h
theorem zp_tup1T (u : unL ds = true := by first | rfl | with_reducible assumption | exact unL_mapU (fun _ => rfl) _ | exact unL_mapU (by intro _; exact unL_map_int _) _ | exact unL_app_i (by first | rfl | with_reducible assumption | exact unL_mapU (fun _ => rfl) _) (by first | rfl | with_reducible assumption | exact unL_mapU (fun _ => rfl) _) | (simp [un, unL, unL_map_int, unL_app, *] <;> fail)) (h : Q (.tup ds)) : zp .tup1 [.tup ds] Q := zp_of (by simp only [prF, dSeq, u, if_true]) h
theorem zp_addL (u : unL ds = true := by first | rfl | with_reducible assumption | exact unL_mapU (fun _ => rfl) _ | exact unL_mapU (by intro _; exact unL_map_int _) _ | exact unL_app_i (by first | rfl | with_reducible assumption | exact unL_mapU (fun _ => rfl) _) (by first | rfl | with_reducible assumption | exact unL_mapU (fun _ => rfl) _) | (simp [un, unL, unL_map_int, unL_app, *] <;> fail)) (v : unL es = true := by first | rfl | with_reducible assumption | exact unL_mapU (fun _ => rfl) _ | exact unL_mapU (by intro _; exact unL_map_int _) _ | exact unL_app_i (by first | rfl | with_reducible assumption | exact unL_mapU (fun _ => rfl) _) (by first | rfl | with_reducible assumption | exact unL_mapU (fun _ => rfl) _) | (simp [un, unL, unL_map_int, unL_app, *] <;> fail)) (z : ds.length + es.length ≤ 100000 := by first | with_reducible assumption | decide | (simp; omega)) (h : Q (.lst true (ds ++ es))) : zp .add [.lst o ds, .lst o2 es] Q := zp_of (by simp only [prF, u, v, szOk_le z, Bool.and_self, if_true]) h
theorem zp_addT (u : unL ds = true := by first | rfl | with_reducible assumption | exact unL_mapU (fun _ => rfl) _ | exact unL_mapU (by intro _; exact unL_map_int _) _ | exact unL_app_i (by first | rfl | with_reducible assumption | exact unL_mapU (fun _ => rfl) _) (by first | rfl | with_reducible assumption | exact unL_mapU (fun _ => rfl) _) | (simp [un, unL, unL_map_int, unL_app, *] <;> fail)) (v : unL es = true := by first | rfl | with_reducible assumption | exact unL_mapU (fun _ => rfl) _ | exact unL_mapU (by intro _; exact unL_map_int _) _ | exact unL_app_i (by first | rfl | with_reducible assumption | exact unL_mapU (fun _ => rfl) _) (by first | rfl | with_reducible assumption | exact unL_mapU (fun _ => rfl) _) | (simp [un, unL, unL_map_int, unL_app, *] <;> fail)) (z : ds.length + es.length ≤ 100000 := by first | decide | (simp; omega)) (h : Q (.tup (ds ++ es))) : zp .add [.tup ds, .tup es] Q := zp_of (by simp only [prF, u, v, szOk_le z, Bool.and_self, if_true]) h
theorem zp_revL (u : unL ds = true := by first | rfl | with_reducible assumption | exact unL_mapU (fun _ => rfl) _ | exact unL_mapU (by intro _; exact unL_map_int _) _ | exact unL_app_i (by first | rfl | with_reducible assumption | exact unL_mapU (fun _ => rfl) _) (by first | rfl | with_reducible assumption | exact unL_mapU (fun _ => rfl) _) | (simp [un, unL, unL_map_int, unL_app, *] <;> fail)) (h : Q (.lst true ds.reverse)) : zp .rev [.lst o ds] Q := zp_of (by simp only [prF, u, if_true]) h
theorem zp_slcA {lo hi : Int} (e : slcF d (some lo) (some hi) = some r) (h : Q r) : zp (.slc true true) [d, .int lo, .int hi] Q := zp_of (by simp only [prF, e]) h
theorem cutL_map (f : α → β) (xs : List α) (lo hi : Option Int) : cutL (xs.map f) lo hi = (cutL xs lo hi).map f := by simp [cutL]
theorem zp_slcLL {xs : List α} {f : α → D} {lo hi : Int} (u : unL (xs.map f) = true := by first | rfl | with_reducible assumption | exact unL_mapU (fun _ => rfl) _ | exact unL_mapU (by intro _; exact unL_map_int _) _ | exact unL_app_i (by first | rfl | with_reducible assumption | exact unL_mapU (fun _ => rfl) _) (by first | rfl | with_reducible assumption | exact unL_mapU (fun _ => rfl) _) | (simp [un, unL, unL_map_int, unL_app, *] <;> fail)) (h : Q (.lst true ((cutL xs (some lo) (some hi)).map f))) : zp (.slc true true) [.lst o (xs.map f), .int lo, .int hi] Q := zp_of (by simp only [prF, slcF, u, if_true, cutL_map]) h
theorem zp_slcLT {xs : List α} {f : α → D} {lo : Int} (u : unL (xs.map f) = true := by first | rfl | with_reducible assumption | exact unL_mapU (fun _ => rfl) _ | exact unL_mapU (by intro _; exact unL_map_int _) _ | exact unL_app_i (by first | rfl | with_reducible assumption | exact unL_mapU (fun _ => rfl) _) (by first | rfl | with_reducible assumption | exact unL_mapU (fun _ => rfl) _) | (simp [un, unL, unL_map_int, unL_app, *] <;> fail)) (h : Q (.lst true ((cutL xs (some lo) none).map f))) : zp (.slc true false) [.lst o (xs.map f), .int lo] Q := zp_of (by simp only [prF, slcF, u, if_true, cutL_map]) h
theorem zp_slcLF {xs : List α} {f : α → D} {hi : Int} (u : unL (xs.map f) = true := by first | rfl | with_reducible assumption | exact unL_mapU (fun _ => rfl) _ | exact unL_mapU (by intro _; exact unL_map_int _) _ | exact unL_app_i (by first | rfl | with_reducible assumption | exact unL_mapU (fun _ => rfl) _) (by first | rfl | with_reducible assumption | exact unL_mapU (fun _ => rfl) _) | (simp [un, unL, unL_map_int, unL_app, *] <;> fail)) (h : Q (.lst true ((cutL xs none (some hi)).map f))) : zp (.slc false true) [.lst o (xs.map f), .int hi] Q := zp_of (by simp only [prF, slcF, u, if_true, cutL_map]) h
theorem zp_slcTL {xs : List α} {f : α → D} {lo hi : Int} (u : unL (xs.map f) = true := by first | rfl | with_reducible assumption | exact unL_mapU (fun _ => rfl) _ | exact unL_mapU (by intro _; exact unL_map_int _) _ | exact unL_app_i (by first | rfl | with_reducible assumption | exact unL_mapU (fun _ => rfl) _) (by first | rfl | with_reducible assumption | exact unL_mapU (fun _ => rfl) _) | (simp [un, unL, unL_map_int, unL_app, *] <;> fail)) (h : Q (.tup ((cutL xs (some lo) (some hi)).map f))) : zp (.slc true true) [.tup (xs.map f), .int lo, .int hi] Q := zp_of (by simp only [prF, slcF, u, if_true, cutL_map]) h
theorem zp_slcTT {xs : List α} {f : α → D} {lo : Int} (u : unL (xs.map f) = true := by first | rfl | with_reducible assumption | exact unL_mapU (fun _ => rfl) _ | exact unL_mapU (by intro _; exact unL_map_int _) _ | exact unL_app_i (by first | rfl | with_reducible assumption | exact unL_mapU (fun _ => rfl) _) (by first | rfl | with_reducible assumption | exact unL_mapU (fun _ => rfl) _) | (simp [un, unL, unL_map_int, unL_app, *] <;> fail)) (h : Q (.tup ((cutL xs (some lo) none).map f))) : zp (.slc true false) [.tup (xs.map f), .int lo] Q := zp_of (by simp only [prF, slcF, u, if_true, cutL_map]) h
theorem zp_slcTF {xs : List α} {f : α → D} {hi : Int} (u : unL (xs.map f) = true := by first | rfl | with_reducible assumption | exact unL_mapU (fun _ => rfl) _ | exact unL_mapU (by intro _; exact unL_map_int _) _ | exact unL_app_i (by first | rfl | with_reducible assumption | exact unL_mapU (fun _ => rfl) _) (by first | rfl | with_reducible assumption | exact unL_mapU (fun _ => rfl) _) | (simp [un, unL, unL_map_int, unL_app, *] <;> fail)) (h : Q (.tup ((cutL xs none (some hi)).map f))) : zp (.slc false true) [.tup (xs.map f), .int hi] Q := zp_of (by simp only [prF, slcF, u, if_true, cutL_map]) h
theorem cutL_nat {xs : List α} {a b : Nat} (ha : a ≤ xs.length) (hb : b ≤ xs.length) : cutL xs (some (a : Int)) (some (b : Int)) = (xs.drop a).take (b - a) := by
  unfold cutL HT.sIx
  simp only
  have h1 : ¬ ((a : Int) < 0) := by omega
  have h2 : ¬ ((b : Int) < 0) := by omega
  simp [h1, h2, Nat.min_eq_left ha, Nat.min_eq_left hb]
theorem cutL_natN {xs : List α} {a : Nat} (ha : a ≤ xs.length) : cutL xs (some (a : Int)) none = xs.drop a := by
  unfold cutL HT.sIx
  have h1 : ¬ ((a : Int) < 0) := by omega
  simp [h1, Nat.min_eq_left ha, List.take_of_length_le]
theorem cutL_Nnat {xs : List α} {b : Nat} (hb : b ≤ xs.length) : cutL xs none (some (b : Int)) = xs.take b := by
  unfold cutL HT.sIx
  have h1 : ¬ ((b : Int) < 0) := by omega
  simp [h1, Nat.min_eq_left hb]
theorem mem_cutL {xs : List α} {lo hi : Option Int} {x : α} (h : x ∈ cutL xs lo hi) : x ∈ xs := List.mem_of_mem_drop (List.mem_of_mem_take h)
theorem zp_inE {c : Bool} (e : inF a d = some c) (h : Q (.bl c)) : zp .isin [a, d] Q := zp_of (by simp only [prF, e, Option.map_some]) h
theorem zp_ninE {c : Bool} (e : inF a d = some c) (h : Q (.bl (!c))) : zp .notin [a, d] Q := zp_of (by simp only [prF, e, Option.map_some]) h
theorem anyEq_ints (i : Int) : ∀ xs : List Int, anyEq (.int i) (xs.map .int) = decide (i ∈ xs)
  | [] => by simp [anyEq]
  | x :: xs => by
    have ih := anyEq_ints i xs
    unfold anyEq at ih ⊢
    rw [List.map_cons, List.any_cons, ih]
    have : PyData.eqv (py (.int x)) (py (.int i)) = decide (i = x) := by
      show (x == i) = _
      by_cases h : i = x
      · subst h; simp
      · simp [h, Ne.symm h]
    rw [this]
    by_cases h : i = x <;> simp [h]
theorem inF_ints (i : Int) (xs : List Int) : inF (.int i) (.lst o (xs.map .int)) = some (decide (i ∈ xs)) := by
  show (if (dep 60 (.int i) && depL 60 (xs.map D.int)) = true then some (anyEq (.int i) (xs.map D.int)) else none) = _
  rw [depL_ints, show dep 60 (.int i) = true by simp [dep], anyEq_ints]
  rfl
theorem scal_ints (xs : List Int) : (xs.map D.int).all scalD = true := by
  induction xs with
  | nil => rfl
  | cons x r ih => simpa [scalD] using ih
theorem inF_intsT (i : Int) (xs : List Int) : inF (.int i) (.tup (xs.map .int)) = some (decide (i ∈ xs)) := by
  show (if (scalD (.int i) && (xs.map D.int).all scalD) = true then some (anyEq (.int i) (xs.map D.int)) else none) = _
  rw [scal_ints, show scalD (.int i) = true by rfl, anyEq_ints]
  rfl
/-! places -/
theorem zx_of (e : idxF a b = some r) (h : Q r) : zx a b Q := by unfold zx; exact ⟨r, e, h⟩
theorem zx_rfl (e : idxF a b = some r := by rfl) (h : Q r) : zx a b Q := zx_of e h
theorem ixD_nat {n k : Nat} (h : k < n) : ixD n (k : Int) = some k := by
  unfold ixD
  rw [if_pos (by omega), if_pos (by omega)]
  simp
theorem ixD_neg {n k : Nat} (h1 : 0 < k) (h : k ≤ n) : ixD n (-(k : Int)) = some (n - k) := by
  unfold ixD
  rw [if_neg (by omega), if_pos (by omega)]
  congr 1
  omega
theorem ixD_int {n : Nat} {i : Int} (h0 : 0 ≤ i) (h : i < n) : ixD n i = some i.toNat := by
  unfold ixD
  rw [if_pos h0, if_pos h]
theorem idxF_nat {xs : List α} {f : α → D} {k : Nat} (h : k < xs.length) : idxF (.lst o (xs.map f)) (.int (k : Int)) = some (f (xs[k]'h)) := by
  simp only [idxF]
  rw [List.length_map, ixD_nat h]
  simp [List.getElem?_eq_getElem h]
theorem idxF_natT {xs : List α} {f : α → D} {k : Nat} (h : k < xs.length) : idxF (.tup (xs.map f)) (.int (k : Int)) = some (f (xs[k]'h)) := by
  simp only [idxF]
  rw [List.length_map, ixD_nat h]
  simp [List.getElem?_eq_getElem h]
theorem idxF_int {xs : List α} {f : α → D} (h0 : 0 ≤ i) (h : i.toNat < xs.length) : idxF (.lst o (xs.map f)) (.int i) = some (f (xs[i.toNat]'h)) := by
  simp only [idxF]
  rw [List.length_map, ixD_int h0 (by omega)]
  simp [List.getElem?_eq_getElem h]
theorem idxF_intT {xs : List α} {f : α → D} (h0 : 0 ≤ i) (h : i.toNat < xs.length) : idxF (.tup (xs.map f)) (.int i) = some (f (xs[i.toNat]'h)) := by
  simp only [idxF]
  rw [List.length_map, ixD_int h0 (by omega)]
  simp [List.getElem?_eq_getElem h]
theorem idxF_last {xs : List α} {f : α → D} (h : xs ≠ []) : idxF (.lst o (xs.map f)) (.int (-1)) = some (f (xs.getLast h)) := by
  have hl := List.length_pos_iff.mpr h
  simp only [idxF]
  rw [List.length_map, show (-1 : Int) = -((1 : Nat) : Int) from rfl, ixD_neg (by omega) (by omega)]
  simp [List.getElem?_eq_getElem (show xs.length - 1 < xs.length by omega), List.getLast_eq_getElem]
theorem zx_nat {xs : List α} {f : α → D} {k : Nat} (hk : k < xs.length := by first | with_reducible assumption | omega | (simp only [List.length_range, List.length_take, List.length_map, List.length_cons, List.length_append, List.length_nil]; omega)) (h : Q (f (xs[k]'hk))) : zx (.lst o (xs.map f)) (.int (k : Int)) Q := zx_of (idxF_nat hk) h
theorem zx_natT {xs : List α} {f : α → D} {k : Nat} (hk : k < xs.length := by first | with_reducible assumption | omega | (simp only [List.length_range, List.length_take, List.length_map, List.length_cons, List.length_append, List.length_nil]; omega)) (h : Q (f (xs[k]'hk))) : zx (.tup (xs.map f)) (.int (k : Int)) Q := zx_of (idxF_natT hk) h
theorem zx_int {xs : List α} {f : α → D} {k : Nat} (e : i.toNat = k := by first | (simp only [Int.reduceToNat, Int.toNat_natCast]; rfl) | rfl) (h0 : 0 ≤ i := by first | with_reducible assumption | omega) (hk : k < xs.length := by first | with_reducible assumption | omega | (simp only [List.length_range, List.length_take, List.length_map, List.length_cons, List.length_append, List.length_nil]; omega)) (h : Q (f (xs[k]'hk))) : zx (.lst o (xs.map f)) (.int i) Q := by
  subst e
  exact zx_of (idxF_int h0 hk) h
theorem zx_intT {xs : List α} {f : α → D} {k : Nat} (e : i.toNat = k := by first | (simp only [Int.reduceToNat, Int.toNat_natCast]; rfl) | rfl) (h0 : 0 ≤ i := by first | with_reducible assumption | omega) (hk : k < xs.length := by first | with_reducible assumption | omega | (simp only [List.length_range, List.length_take, List.length_map, List.length_cons, List.length_append, List.length_nil]; omega)) (h : Q (f (xs[k]'hk))) : zx (.tup (xs.map f)) (.int i) Q := by
  subst e
  exact zx_of (idxF_intT h0 hk) h
theorem zx_last {xs : List α} {f : α → D} (ne : xs ≠ [] := by with_reducible assumption) (h : Q (f (xs.getLast ne))) : zx (.lst o (xs.map f)) (.int (-1)) Q := zx_of (idxF_last ne) h
end
/-! ### walks -/
@[irreducible] def zit (k : Ik) (ds : List D) (Q : List D → Prop) : Prop := ∃ is, itF k ds = some is ∧ Q is
@[irreducible] def zfor (Φ : Tab) (t : T) (body : List Sm) (items : List D) (Γ : Gm) (Q : R → Prop) : Prop := ∃ r, forL (fun d Γ => (asgT t d Γ).bind fun Γ => evSs Φ body Γ) items Γ = some r ∧ Q r
/-- behind one turn of a loop -/
@[irreducible] def ztu (r : R) (A : Gm → Prop) (Q : R → Prop) : Prop := match r with | .nx Γ => A Γ | .ct Γ => A Γ | .bk Γ => Q (.nx Γ) | .rt d Γ => Q (.rt d Γ)
section
variable {Φ : Tab} {Γ Γ' : Gm} {t : T} {k : Ik} {src : List E} {body : List Sm} {Q : R → Prop} {α : Type}
theorem ztu_nx {A : Gm → Prop} (h : A Γ) : ztu (.nx Γ) A Q := by unfold ztu; exact h
theorem ztu_ct {A : Gm → Prop} (h : A Γ) : ztu (.ct Γ) A Q := by unfold ztu; exact h
theorem ztu_bk {A : Gm → Prop} (h : Q (.nx Γ)) : ztu (.bk Γ) A Q := by unfold ztu; exact h
theorem ztu_rt {d : D} {A : Gm → Prop} (h : Q (.rt d Γ)) : ztu (.rt d Γ) A Q := by unfold ztu; exact h
theorem zs_for (h : zOs Φ src Γ fun ds Γ1 => zr (unL ds = true) (zit k ds fun items => zfor Φ t body items Γ1 Q)) : zs Φ (.for_ t k src body) Γ Q := by
  unfold zs; unfold zOs zr zit zfor at h
  obtain ⟨ds, Γ1, e1, hu, is, e2, r, e3, h⟩ := h
  exact ⟨r, by rw [for_ev e1 e2 hu]; exact e3, h⟩
theorem zit_of {ds is : List D} {Q : List D → Prop} (e : itF k ds = some is) (h : Q is) : zit k ds Q := by unfold zit; exact ⟨is, e, h⟩
theorem zit_lst {o : Bool} {ds : List D} {Q : List D → Prop} (u : unL ds = true := by first | rfl | with_reducible assumption | exact unL_mapU (fun _ => rfl) _ | exact unL_mapU (by intro _; exact unL_map_int _) _ | exact unL_app_i (by first | rfl | with_reducible assumption | exact unL_mapU (fun _ => rfl) _) (by first | rfl | with_reducible assumption | exact unL_mapU (fun _ => rfl) _) | (simp [un, unL, unL_map_int, unL_app, *] <;> fail)) (h : Q ds) : zit .val [.lst o ds] Q := zit_of (it_lst u) h
theorem zit_tup {ds : List D} {Q : List D → Prop} (u : unL ds = true := by first | rfl | with_reducible assumption | exact unL_mapU (fun _ => rfl) _ | exact unL_mapU (by intro _; exact unL_map_int _) _ | exact unL_app_i (by first | rfl | with_reducible assumption | exact unL_mapU (fun _ => rfl) _) (by first | rfl | with_reducible assumption | exact unL_mapU (fun _ => rfl) _) | (simp [un, unL, unL_map_int, unL_app, *] <;> fail)) (h : Q ds) : zit .val [.tup ds] Q := zit_of (it_tup u) h
theorem zit_nat {n : Nat} {Q : List D → Prop} (b : n ≤ 1000000 := by first | decide | omega) (h : Q ((List.range n).map fun i : Nat => .int (i : Int))) : zit .range [.int (n : Int)] Q := zit_of (by
  rw [it_range1 (by omega) (by omega), rng, List.map_map, Int.toNat_natCast]
  congr 1
  refine List.map_congr_left fun i _ => ?_
  simp) h
theorem zit_r1 {n : Int} {Q : List D → Prop} (b1 : -1000000 ≤ n := by first | decide | omega) (b2 : n ≤ 1000000 := by first | decide | omega) (h : Q ((rng 0 n.toNat).map .int)) : zit .range [.int n] Q := zit_of (it_range1 b1 b2) h
theorem zit_r2 {a b : Int} {Q : List D → Prop} (b1 : -1000000 ≤ a := by first | decide | omega) (b2 : a ≤ 1000000 := by first | decide | omega) (b3 : -1000000 ≤ b := by first | decide | omega) (b4 : b ≤ 1000000 := by first | decide | omega) (h : Q ((rng a (b - a).toNat).map .int)) : zit .range [.int a, .int b] Q := zit_of (it_range2 b1 b2 b3 b4) h
theorem enumL_map {f : α → D} : ∀ (xs : List α) (k : Nat), enumL k (xs.map f) = (xs.zipIdx k).map fun y => .tup [.int (y.2 : Int), f y.1]
  | [], _ => rfl
  | t :: ts, k => by
    rw [List.map_cons, enumL, enumL_map ts (k + 1), List.zipIdx_cons, List.map_cons]
theorem zit_enum {o : Bool} {xs : List α} {f : α → D} {Q : List D → Prop} (u : unL (xs.map f) = true := by first | rfl | with_reducible assumption | exact unL_mapU (fun _ => rfl) _ | exact unL_mapU (by intro _; exact unL_map_int _) _ | exact unL_app_i (by first | rfl | with_reducible assumption | exact unL_mapU (fun _ => rfl) _) (by first | rfl | with_reducible assumption | exact unL_mapU (fun _ => rfl) _) | (simp [un, unL, unL_map_int, unL_app, *] <;> fail)) (h : Q ((xs.zipIdx 0).map fun y => .tup [.int (y.2 : Int), f y.1])) : zit .enum [.lst o (xs.map f)] Q := zit_of (by
  show (if unL (xs.map f) = true then some (enumL 0 (xs.map f)) else none) = _
  rw [u, if_pos rfl, enumL_map]) h
theorem zit_enumT {xs : List α} {f : α → D} {Q : List D → Prop} (u : unL (xs.map f) = true := by first | rfl | with_reducible assumption | exact unL_mapU (fun _ => rfl) _ | exact unL_mapU (by intro _; exact unL_map_int _) _ | exact unL_app_i (by first | rfl | with_reducible assumption | exact unL_mapU (fun _ => rfl) _) (by first | rfl | with_reducible assumption | exact unL_mapU (fun _ => rfl) _) | (simp [un, unL, unL_map_int, unL_app, *] <;> fail)) (h : Q ((xs.zipIdx 0).map fun y => .tup [.int (y.2 : Int), f y.1])) : zit .enum [.tup (xs.map f)] Q := zit_of (by
  show (if unL (xs.map f) = true then some (enumL 0 (xs.map f)) else none) = _
  rw [u, if_pos rfl, enumL_map]) h
theorem zipLD_map {β : Type} {f : α → D} {g : β → D} : ∀ (xs : List α) (ys : List β), zipLD (xs.map f) (ys.map g) = (xs.zip ys).map fun y => .tup [f y.1, g y.2]
  | [], _ => by simp [zipLD]
  | x :: xs, [] => by simp [zipLD]
  | x :: xs, y :: ys => by
    rw [List.map_cons, List.map_cons, zipLD, zipLD_map xs ys, List.zip_cons_cons, List.map_cons]
theorem zit_zip {β : Type} {o o2 : Bool} {xs : List α} {f : α → D} {ys : List β} {g : β → D} {Q : List D → Prop} (u : unL (xs.map f) = true := by first | rfl | with_reducible assumption | exact unL_mapU (fun _ => rfl) _ | exact unL_mapU (by intro _; exact unL_map_int _) _ | exact unL_app_i (by first | rfl | with_reducible assumption | exact unL_mapU (fun _ => rfl) _) (by first | rfl | with_reducible assumption | exact unL_mapU (fun _ => rfl) _) | (simp [un, unL, unL_map_int, unL_app, *] <;> fail)) (u2 : unL (ys.map g) = true := by first | rfl | with_reducible assumption | exact unL_mapU (fun _ => rfl) _ | exact unL_mapU (by intro _; exact unL_map_int _) _ | exact unL_app_i (by first | rfl | with_reducible assumption | exact unL_mapU (fun _ => rfl) _) (by first | rfl | with_reducible assumption | exact unL_mapU (fun _ => rfl) _) | (simp [un, unL, unL_map_int, unL_app, *] <;> fail)) (h : Q ((xs.zip ys).map fun y => .tup [f y.1, g y.2])) : zit .zip [.lst o (xs.map f), .lst o2 (ys.map g)] Q := zit_of (by
  show (if (unL (xs.map f) && unL (ys.map g)) = true then some (zipLD (xs.map f) (ys.map g)) else none) = _
  rw [u, u2, if_pos (show (true && true) = true from rfl), zipLD_map]) h
theorem zit_zipT {β : Type} {xs : List α} {f : α → D} {ys : List β} {g : β → D} {Q : List D → Prop} (u : unL (xs.map f) = true := by first | rfl | with_reducible assumption | exact unL_mapU (fun _ => rfl) _ | exact unL_mapU (by intro _; exact unL_map_int _) _ | exact unL_app_i (by first | rfl | with_reducible assumption | exact unL_mapU (fun _ => rfl) _) (by first | rfl | with_reducible assumption | exact unL_mapU (fun _ => rfl) _) | (simp [un, unL, unL_map_int, unL_app, *] <;> fail)) (u2 : unL (ys.map g) = true := by first | rfl | with_reducible assumption | exact unL_mapU (fun _ => rfl) _ | exact unL_mapU (by intro _; exact unL_map_int _) _ | exact unL_app_i (by first | rfl | with_reducible assumption | exact unL_mapU (fun _ => rfl) _) (by first | rfl | with_reducible assumption | exact unL_mapU (fun _ => rfl) _) | (simp [un, unL, unL_map_int, unL_app, *] <;> fail)) (h : Q ((xs.zip ys).map fun y => .tup [f y.1, g y.2])) : zit .zip [.tup (xs.map f), .tup (ys.map g)] Q := zit_of (by
  show (if (unL (xs.map f) && unL (ys.map g)) = true then some (zipLD (xs.map f) (ys.map g)) else none) = _
  rw [u, u2, if_pos (show (true && true) = true from rfl), zipLD_map]) h
theorem zit_zipLT {o : Bool} {β : Type} {xs : List α} {f : α → D} {ys : List β} {g : β → D} {Q : List D → Prop} (u : unL (xs.map f) = true := by first | rfl | with_reducible assumption | exact unL_mapU (fun _ => rfl) _ | exact unL_mapU (by intro _; exact unL_map_int _) _ | exact unL_app_i (by first | rfl | with_reducible assumption | exact unL_mapU (fun _ => rfl) _) (by first | rfl | with_reducible assumption | exact unL_mapU (fun _ => rfl) _) | (simp [un, unL, unL_map_int, unL_app, *] <;> fail)) (u2 : unL (ys.map g) = true := by first | rfl | with_reducible assumption | exact unL_mapU (fun _ => rfl) _ | exact unL_mapU (by intro _; exact unL_map_int _) _ | exact unL_app_i (by first | rfl | with_reducible assumption | exact unL_mapU (fun _ => rfl) _) (by first | rfl | with_reducible assumption | exact unL_mapU (fun _ => rfl) _) | (simp [un, unL, unL_map_int, unL_app, *] <;> fail)) (h : Q ((xs.zip ys).map fun y => .tup [f y.1, g y.2])) : zit .zip [.lst o (xs.map f), .tup (ys.map g)] Q := zit_of (by
  show (if (unL (xs.map f) && unL (ys.map g)) = true then some (zipLD (xs.map f) (ys.map g)) else none) = _
  rw [u, u2, if_pos (show (true && true) = true from rfl), zipLD_map]) h
theorem zit_zipTL {o : Bool} {β : Type} {xs : List α} {f : α → D} {ys : List β} {g : β → D} {Q : List D → Prop} (u : unL (xs.map f) = true := by first | rfl | with_reducible assumption | exact unL_mapU (fun _ => rfl) _ | exact unL_mapU (by intro _; exact unL_map_int _) _ | exact unL_app_i (by first | rfl | with_reducible assumption | exact unL_mapU (fun _ => rfl) _) (by first | rfl | with_reducible assumption | exact unL_mapU (fun _ => rfl) _) | (simp [un, unL, unL_map_int, unL_app, *] <;> fail)) (u2 : unL (ys.map g) = true := by first | rfl | with_reducible assumption | exact unL_mapU (fun _ => rfl) _ | exact unL_mapU (by intro _; exact unL_map_int _) _ | exact unL_app_i (by first | rfl | with_reducible assumption | exact unL_mapU (fun _ => rfl) _) (by first | rfl | with_reducible assumption | exact unL_mapU (fun _ => rfl) _) | (simp [un, unL, unL_map_int, unL_app, *] <;> fail)) (h : Q ((xs.zip ys).map fun y => .tup [f y.1, g y.2])) : zit .zip [.tup (xs.map f), .lst o (ys.map g)] Q := zit_of (by
  show (if (unL (xs.map f) && unL (ys.map g)) = true then some (zipLD (xs.map f) (ys.map g)) else none) = _
  rw [u, u2, if_pos (show (true && true) = true from rfl), zipLD_map]) h
theorem zit_rev {o : Bool} {ds : List D} {Q : List D → Prop} (u : unL ds = true := by first | rfl | with_reducible assumption | exact unL_mapU (fun _ => rfl) _ | exact unL_mapU (by intro _; exact unL_map_int _) _ | exact unL_app_i (by first | rfl | with_reducible assumption | exact unL_mapU (fun _ => rfl) _) (by first | rfl | with_reducible assumption | exact unL_mapU (fun _ => rfl) _) | (simp [un, unL, unL_map_int, unL_app, *] <;> fail)) (h : Q ds.reverse) : zit .rev [.lst o ds] Q := zit_of (by
  show (if unL ds = true then some ds.reverse else none) = _
  rw [u, if_pos rfl]) h
theorem zfor_nil (h : Q (.nx Γ)) : zfor Φ t body [] Γ Q := by unfold zfor; exact ⟨_, rfl, h⟩
theorem zfor_cons {d : D} {ds : List D} (h : zasg t d Γ fun Γ1 => zss Φ body Γ1 fun r => ztu r (fun Γ2 => zfor Φ t body ds Γ2 Q) Q) : zfor Φ t body (d :: ds) Γ Q := by
  unfold zfor; unfold zasg zss at h
  obtain ⟨Γ1, e1, r, e2, h⟩ := h
  have e3 : ((asgT t d Γ).bind fun Γ => evSs Φ body Γ) = some r := by rw [e1]; exact e2
  cases r with
  | nx Γ2 =>
    unfold ztu zfor at h
    obtain ⟨r, e4, h⟩ := h
    exact ⟨r, by rw [forL]; simp only [e3]; exact e4, h⟩
  | ct Γ2 =>
    unfold ztu zfor at h
    obtain ⟨r, e4, h⟩ := h
    exact ⟨r, by rw [forL]; simp only [e3]; exact e4, h⟩
  | bk Γ2 =>
    unfold ztu at h
    exact ⟨_, by rw [forL]; simp only [e3], h⟩
  | rt d Γ2 =>
    unfold ztu at h
    exact ⟨_, by rw [forL]; simp only [e3], h⟩
/-- with a law that stands ahead of turn n -/
theorem zfor_inv {enc : α → D} {xs : List α} (I : Nat → Gm → Prop) (h0 : I 0 Γ) (hs : ∀ n (hn : n < xs.length) Γ, I n Γ → zasg t (enc (xs[n]'hn)) Γ fun Γ1 => zss Φ body Γ1 fun r => ztu r (fun Γ2 => I (n + 1) Γ2) Q) (he : ∀ Γ, I xs.length Γ → Q (.nx Γ)) : zfor Φ t body (xs.map enc) Γ Q := by
  have main : ∀ (k n : Nat) (Γ : Gm), n + k = xs.length → I n Γ → zfor Φ t body ((xs.drop n).map enc) Γ Q := by
    intro k
    induction k with
    | zero =>
      intro n Γ hk hI
      rw [List.drop_eq_nil_of_le (by omega)]
      have : n = xs.length := by omega
      subst this
      exact zfor_nil (he Γ hI)
    | succ k ih =>
      intro n Γ hk hI
      have hn : n < xs.length := by omega
      rw [List.drop_eq_getElem_cons hn, List.map_cons]
      refine zfor_cons ?_
      have h := hs n hn Γ hI
      unfold zasg zss at h ⊢
      obtain ⟨Γ1, e1, r, e2, h⟩ := h
      refine ⟨Γ1, e1, r, e2, ?_⟩
      cases r with
      | nx Γ2 => unfold ztu at h ⊢; exact ih (n + 1) Γ2 (by omega) h
      | ct Γ2 => unfold ztu at h ⊢; exact ih (n + 1) Γ2 (by omega) h
      | bk Γ2 => unfold ztu at h ⊢; exact h
      | rt d Γ2 => unfold ztu at h ⊢; exact h
  simpa using main xs.length 0 Γ (by omega) h0
def updM (Γ : Gm) : List Nat → List (Option D) → Gm
  | i :: is, o :: os => updM (Γ.set i o) is os
  | _, _ => Γ
/-- .. where only some slots change -/
theorem zfor_mod {enc : α → D} {xs : List α} (ms : List Nat) (P : Nat → List (Option D) → Prop) (h0 : ∃ vs, Γ = updM Γ ms vs ∧ P 0 vs) (hs : ∀ n (hn : n < xs.length) vs, P n vs → zasg t (enc (xs[n]'hn)) (updM Γ ms vs) fun Γ1 => zss Φ body Γ1 fun r => ztu r (fun Γ2 => ∃ vs, Γ2 = updM Γ ms vs ∧ P (n + 1) vs) Q) (he : ∀ vs, P xs.length vs → Q (.nx (updM Γ ms vs))) : zfor Φ t body (xs.map enc) Γ Q := by
  refine zfor_inv (fun n Γ' => ∃ vs, Γ' = updM Γ ms vs ∧ P n vs) ?_ ?_ ?_
  · exact h0
  · rintro n hn _ ⟨vs, rfl, hP⟩
    exact hs n hn vs hP
  · rintro _ ⟨vs, rfl, hP⟩
    exact he vs hP
end
end Sk

namespace Sk
open PySem PySem.Spec PyProof.Rows L2
/-! ### comprehensions -/
@[irreducible] def zst (Φ : Tab) (t : T) (cond : List E) (elt : E) (own : List Nat) (d : D) (Γ : Gm) (Q : List D → Gm → Prop) : Prop := ∃ rs Γ', stepC Φ t cond elt own d Γ = some (rs, Γ') ∧ Q rs Γ'
@[irreducible] def zcomp (Φ : Tab) (t : T) (k : Ik) (cond : List E) (elt : E) (own : List Nat) (ds : List D) (Γ : Gm) (Q : D → Gm → Prop) : Prop :=
  ∃ items rs Γ2, itF k ds = some items ∧ hideOk Γ own = true ∧ (unL ds || (purL cond && pur elt)) = true ∧ tIn own t = true ∧ compL (stepC Φ t cond elt own) items (wipeG Γ own) = some (rs, Γ2) ∧ rs.length ≤ sizeLine ∧ Q (.lst true rs) (backG Γ Γ2 own)
@[irreducible] def zwipe (Γ : Gm) (own : List Nat) (Q : Gm → Prop) : Prop := Q (wipeG Γ own)
section
variable {Φ : Tab} {Γ Γ' : Gm} {m : Md} {t : T} {k : Ik} {src cond : List E} {elt : E} {own : List Nat} {ds : List D} {Q : D → Gm → Prop} {α β : Type}
theorem ze_comp (h : zOs Φ src Γ fun ds Γ1 => zcomp Φ t k cond elt own ds Γ1 fun d Γ' => zfin m d fun d => Q d Γ') : ze Φ (.comp t k src cond elt own) m Γ Q := by
  unfold ze; unfold zOs zcomp zfin at h
  obtain ⟨ds, Γ1, e1, items, rs, Γ2, e2, e3, e4, e5, e6, e7, h⟩ := h
  exact ⟨_, _, (comp_ev e1 e2 e3 e4 e5 e6 e7).trans (by rw [fin_eq]), h⟩
theorem zwipe_i {Q : Gm → Prop} (e : wipeG Γ own = Γ' := by first | (simp only [wipeG, List.set_cons_succ, List.set_cons_zero]; rfl) | rfl) (h : Q Γ') : zwipe Γ own Q := by unfold zwipe; rw [e]; exact h
theorem zst_i {d : D} {Q : List D → Gm → Prop} (h : zasg t d Γ fun Γ1 => zt Φ c Γ1 fun b Γ2 => zif b (ze Φ elt .val Γ2 fun r Γ3 => zr (hideOk Γ3 own = true) (zwipe Γ3 own fun Γ4 => Q [r] Γ4)) (zr (hideOk Γ2 own = true) (zwipe Γ2 own fun Γ4 => Q [] Γ4))) : zst Φ t [c] elt own d Γ Q := by
  unfold zasg at h; unfold zst
  obtain ⟨Γ1, e1, h⟩ := h
  unfold zt zif ze zr zwipe at h
  obtain ⟨x, Γ2, b, e2, e3, h1, h2⟩ := h
  have ec : evCond Φ [c] Γ1 = some (b, Γ2) := by simp only [evCond, e2, e3, Option.bind_some, Option.map_some]
  cases b with
  | true =>
    obtain ⟨r, Γ3, e4, e5, h⟩ := h1 rfl
    exact ⟨_, _, by simp only [stepC, e1, ec, e4, e5, Option.bind_some, if_true], h⟩
  | false =>
    obtain ⟨e5, h⟩ := h2 rfl
    exact ⟨_, _, by simp only [stepC, e1, ec, e5, Option.bind_some, if_true, Bool.false_eq_true, if_false], h⟩
theorem zst_n {d : D} {Q : List D → Gm → Prop} (h : zasg t d Γ fun Γ1 => ze Φ elt .val Γ1 fun r Γ3 => zr (hideOk Γ3 own = true) (zwipe Γ3 own fun Γ4 => Q [r] Γ4)) : zst Φ t [] elt own d Γ Q := by
  unfold zasg at h; unfold zst
  obtain ⟨Γ1, e1, h⟩ := h
  unfold ze zr zwipe at h
  obtain ⟨r, Γ3, e4, e5, h⟩ := h
  exact ⟨_, _, by simp only [stepC, e1, evCond, e4, e5, Option.bind_some, if_true], h⟩
theorem zit_elim {Q : List D → Prop} (h : zit k ds Q) : ∃ is, itF k ds = some is ∧ Q is := by unfold zit at h; exact h
theorem hideB (own : List Nat) : hideOk Γ own = true → ∀ v ∈ own, ∃ o, Γ[v]? = some o := by
  intro h v hv
  have := List.all_eq_true.mp h v hv
  cases hg : Γ[v]? with
  | none => rw [hg] at this; cases this
  | some o => exact ⟨o, rfl⟩
/-- pure: each one's value -/
theorem zcomp_map {xs : List α} {enc r : α → D} (hit : zit k ds fun is => is = xs.map enc) (hh : hideOk Γ own = true := by first | rfl | (simp [hideOk, un, unL, unL_map_int, unL_mapU, *] <;> fail)) (hp : (unL ds || pur elt) = true := by first | rfl | exact (Bool.or_eq_true _ _).mpr (.inr rfl) | with_reducible assumption | exact unL_mapU (fun _ => rfl) _ | exact unL_mapU (by intro _; exact unL_map_int _) _ | exact unL_app_i (by first | rfl | with_reducible assumption | exact unL_mapU (fun _ => rfl) _) (by first | rfl | with_reducible assumption | exact unL_mapU (fun _ => rfl) _) | (simp [un, unL, unL_map_int, unL_app, *] <;> fail)) (ht : tIn own t = true := by first | rfl | decide) (hl : xs.length ≤ 100000)
    (hs : ∀ x ∈ xs, zst Φ t [] elt own (enc x) (wipeG Γ own) fun rs Γ' => rs = [r x] ∧ Γ' = wipeG Γ own) (hb : backG Γ (wipeG Γ own) own = Γ := by first | rfl | (simp [backG, wipeG] <;> fail)) (h : Q (.lst true (xs.map r)) Γ) : zcomp Φ t k [] elt own ds Γ Q := by
  obtain ⟨is, e1, rfl⟩ := zit_elim hit
  unfold zcomp
  refine ⟨_, xs.map r, wipeG Γ own, e1, hh, by simpa [purL] using hp, ht, ?_, by rw [List.length_map]; exact sz_le hl, by rw [hb]; exact h⟩
  rw [compL_map (g := fun x => [r x]) fun x hx => ?_, flat_one]
  have := hs x hx
  unfold zst at this
  obtain ⟨rs, Γ', e, rfl, rfl⟩ := this
  exact e
/-- .. those that fit -/
theorem zcomp_flt {c : E} {xs : List α} {enc r : α → D} (p : α → Bool) (hit : zit k ds fun is => is = xs.map enc) (hh : hideOk Γ own = true := by first | rfl | (simp [hideOk, un, unL, unL_map_int, unL_mapU, *] <;> fail)) (hp : (unL ds || (pur c && pur elt)) = true := by first | rfl | exact (Bool.or_eq_true _ _).mpr (.inr rfl) | with_reducible assumption | exact unL_mapU (fun _ => rfl) _ | exact unL_mapU (by intro _; exact unL_map_int _) _ | exact unL_app_i (by first | rfl | with_reducible assumption | exact unL_mapU (fun _ => rfl) _) (by first | rfl | with_reducible assumption | exact unL_mapU (fun _ => rfl) _) | (simp [un, unL, unL_map_int, unL_app, *] <;> fail)) (ht : tIn own t = true := by first | rfl | decide) (hl : xs.length ≤ 100000)
    (hs : ∀ x ∈ xs, zst Φ t [c] elt own (enc x) (wipeG Γ own) fun rs Γ' => rs = (if p x then [r x] else []) ∧ Γ' = wipeG Γ own) (hb : backG Γ (wipeG Γ own) own = Γ := by first | rfl | (simp [backG, wipeG] <;> fail)) (h : Q (.lst true ((xs.filter p).map r)) Γ) : zcomp Φ t k [c] elt own ds Γ Q := by
  obtain ⟨is, e1, rfl⟩ := zit_elim hit
  unfold zcomp
  refine ⟨_, (xs.filter p).map r, wipeG Γ own, e1, hh, by simpa [purL] using hp, ht, ?_, ?_, by rw [hb]; exact h⟩
  · rw [compL_map (g := fun x => if p x then [r x] else []) fun x hx => ?_, flat_if]
    have := hs x hx
    unfold zst at this
    obtain ⟨rs, Γ', e, rfl, rfl⟩ := this
    exact e
  · rw [List.length_map]
    exact sz_le (Nat.le_trans (List.length_filter_le _ _) hl)
/-! ### draws -/
/-- a box of draws -/
def Bx (d : D) : Prop := ∃ is j, H.Small is ∧ d = H.box is j
theorem Bx.al {d : D} (h : Bx d) : al d = true := by
  obtain ⟨is, j, _, rfl⟩ := h
  have : ∀ xs : List Int, alL (xs.map D.int) = true := fun xs => by
    induction xs with
    | nil => rfl
    | cons x r ih => simp [alL, Sk.al, ih]
  simp [H.box, Sk.al, alL, this]
def Draws (φ : Fn) : Prop := ∀ bx (m : Int), Bx bx → 0 < m → ∃ v bx', φ [bx, .int m] = some (.int v, [bx']) ∧ 0 ≤ v ∧ v < m ∧ Bx bx'
def Picks (φ : Fn) : Prop := ∀ bx rs, Bx bx → rs ≠ [] → unL rs = true → ∃ d bx', φ [bx, .lst false rs] = some (d, [bx']) ∧ d ∈ rs ∧ Bx bx'
def Sames (φ : Fn) : Prop := ∀ d, H.okD 11 d = true → φ [d, d] = some (.bl true, [])
theorem draws_H : Draws H.f_law_draw := by
  rintro bx m ⟨is, j, hs, rfl⟩ hm
  exact ⟨_, _, draw_eq hs j hm, draw_nn hs j hm, draw_lt hs j hm, is, j + 1, hs, rfl⟩
theorem picks_H : Picks H.f_law_pick := by
  rintro bx rs ⟨is, j, hs, rfl⟩ hr hu
  exact ⟨_, _, pick_eq hs j hr hu, pick_mem hs j hr hu, is, j + 1, hs, rfl⟩
theorem sames_H : Sames H.f_law_same := fun d h => H.same_ok h
/-- behind the operands of a call that is handed a box -/
@[irreducible] def zbox (Φ : Tab) (f : Str) (i : Nat) (ds : List D) (Γ : Gm) (Q : D → Gm → Prop) : Prop := ∃ bx r bx' φ, getS Γ i = some bx ∧ Φ f = some (1 + ds.length, 1, φ) ∧ φ (bx :: ds) = some (r, [bx']) ∧ unL ds = true ∧ Q r (Γ.set i (some bx'))
theorem zbox_e {f : Str} {i : Nat} {es : List E} (hg : (getS Γ i).isSome = true := by rfl) (h : zOs Φ es Γ fun ds Γ' => zbox Φ f i ds Γ' fun d Γ' => zfin m d fun d => Q d Γ') : ze Φ (.cio f [i] es) m Γ Q := by
  unfold ze; unfold zOs zbox zfin at h
  obtain ⟨ds, Γ1, e1, bx, r, bx', φ, e2, e3, e4, e5, h⟩ := h
  have hg2 : getSs Γ1 [i] = some [bx] := by simp [getSs, e2]
  have hg3 : (getSs Γ [i]).isSome = true := by
    obtain ⟨x, hx⟩ := Option.isSome_iff_exists.mp hg
    simp [getSs, hx]
  refine ⟨_, _, ?_, h⟩
  simp [ev, hg3, e1, e3, e5, hg2, e4, setSs, fin_eq]
theorem zbox_draw {i : Nat} {n : Int} {φ : Fn} {bx : D} (hf : Φ "_law_draw" = some (2, 1, φ) := by with_reducible assumption) (hd : Draws φ := by with_reducible assumption) (hg : getS Γ i = some bx := by rfl) (hb : Bx bx := by with_reducible assumption) (hm : 0 < n := by first | decide | omega)
    (h : ∀ v, 0 ≤ v → v < n → ∀ bx', Bx bx' → zset Γ i (some bx') fun Γ' => Q (.int v) Γ') : zbox Φ "_law_draw" i [.int n] Γ Q := by
  obtain ⟨v, bx', e, h1, h2, h3⟩ := hd bx n hb hm
  have := h v h1 h2 bx' h3
  unfold zset at this
  unfold zbox
  exact ⟨bx, _, bx', φ, hg, hf, e, rfl, this⟩
theorem zbox_pick {i : Nat} {rs : List D} {φ : Fn} {bx : D} (hf : Φ "_law_pick" = some (2, 1, φ) := by with_reducible assumption) (hd : Picks φ := by with_reducible assumption) (hg : getS Γ i = some bx := by rfl) (hb : Bx bx := by with_reducible assumption) (hm : rs ≠ [] := by first | (exact List.cons_ne_nil _ _) | with_reducible assumption | (simp <;> fail)) (hu : unL rs = true := by first | rfl | with_reducible assumption | exact unL_mapU (fun _ => rfl) _ | exact unL_mapU (by intro _; exact unL_map_int _) _ | exact unL_app_i (by first | rfl | with_reducible assumption | exact unL_mapU (fun _ => rfl) _) (by first | rfl | with_reducible assumption | exact unL_mapU (fun _ => rfl) _) | (simp [un, unL, unL_map_int, unL_app, *] <;> fail))
    (h : ∀ d, d ∈ rs → ∀ bx', Bx bx' → zset Γ i (some bx') fun Γ' => Q d Γ') : zbox Φ "_law_pick" i [.lst false rs] Γ Q := by
  obtain ⟨d, bx', e, h1, h3⟩ := hd bx rs hb hm hu
  have := h d h1 bx' h3
  unfold zset at this
  unfold zbox
  refine ⟨bx, _, bx', φ, hg, hf, e, ?_, this⟩
  simp [unL, un, hu]
/-- .. of numbers -/
theorem zbox_pickI {i : Nat} {rs : List D} {ns : List Int} {φ : Fn} {bx : D} (en : dInts rs = some ns := by rfl) (hf : Φ "_law_pick" = some (2, 1, φ) := by with_reducible assumption) (hd : Picks φ := by with_reducible assumption) (hg : getS Γ i = some bx := by rfl) (hb : Bx bx := by with_reducible assumption) (hm : rs ≠ [] := by first | (exact List.cons_ne_nil _ _) | with_reducible assumption | (simp <;> fail))
    (h : ∀ v, v ∈ ns → ∀ bx', Bx bx' → zset Γ i (some bx') fun Γ' => Q (.int v) Γ') : zbox Φ "_law_pick" i [.lst false rs] Γ Q := by
  have key : ∀ (rs : List D) (ns : List Int), dInts rs = some ns → rs = ns.map .int := by
    intro rs
    induction rs with
    | nil => intro ns h; cases h; rfl
    | cons d rs ih =>
      intro ns h
      cases d with
      | int i =>
        unfold dInts at h
        obtain ⟨ms, h1, rfl⟩ := Option.map_eq_some_iff.mp h
        rw [ih ms h1]; rfl
      | _ => cases h
  have e := key rs ns en
  subst e
  refine zbox_pick hf hd hg hb hm (unL_map_int ns) fun d hd => ?_
  obtain ⟨v, hv, rfl⟩ := List.mem_map.mp hd
  exact h v hv
theorem zcall_same {d : D} {φ : Fn} {Q : D → Prop} (hf : Φ "_law_same" = some (2, 0, φ) := by with_reducible assumption) (hs : Sames φ := by with_reducible assumption) {a b : D} (ha : frz a = d := by first | rfl | with_reducible assumption | (simp [frz, frzL, frzL_map_int, frzL_mapU, un, unL, *] <;> fail)) (hb : frz b = d := by first | rfl | with_reducible assumption | (simp [frz, frzL, frzL_map_int, frzL_mapU, un, unL, *] <;> fail)) (ok : H.okD 11 d = true := by first | exact H.ok_int _ _ (by omega) | exact H.ok_pair 10 _ _ (by omega) (by omega) | with_reducible assumption | rfl) (h : Q (.bl true)) : zcall Φ "_law_same" [a, b] Q := by
  unfold zcall
  exact ⟨2, φ, .bl true, [], hf, rfl, by simp only [frzL, ha, hb]; exact hs d ok, by simp [al], h⟩
/-- comprehensions that draw: each value of a kind -/
theorem zcomp_box {xs : List β} {encx : β → D} {enc : α → D} (i : Nat) {bx : D} (P : α → Prop) (hit : zit k ds fun is => is = xs.map encx) (hh : hideOk Γ own = true := by first | rfl | (simp [hideOk, un, unL, unL_map_int, unL_mapU, *] <;> fail)) (hu : unL ds = true := by first | rfl | with_reducible assumption | exact unL_mapU (fun _ => rfl) _ | exact unL_mapU (by intro _; exact unL_map_int _) _ | exact unL_app_i (by first | rfl | with_reducible assumption | exact unL_mapU (fun _ => rfl) _) (by first | rfl | with_reducible assumption | exact unL_mapU (fun _ => rfl) _) | (simp [un, unL, unL_map_int, unL_app, *] <;> fail)) (ht : tIn own t = true := by first | rfl | decide) (hl : xs.length ≤ 100000) (hg : (wipeG Γ own).set i (some bx) = wipeG Γ own := by rfl) (hb : Bx bx := by with_reducible assumption)
    (hs : ∀ x ∈ xs, ∀ bx, Bx bx → zst Φ t [] elt own (encx x) ((wipeG Γ own).set i (some bx)) fun rs Γ' => ∃ v bx', P v ∧ rs = [enc v] ∧ Bx bx' ∧ Γ' = (wipeG Γ own).set i (some bx'))
    (h : ∀ vs : List α, vs.length = xs.length → (∀ v ∈ vs, P v) → ∀ bx', Bx bx' → Q (.lst true (vs.map enc)) (backG Γ ((wipeG Γ own).set i (some bx')) own)) : zcomp Φ t k [] elt own ds Γ Q := by
  obtain ⟨is, e1, rfl⟩ := zit_elim hit
  have main : ∀ (xs : List β), (∀ x ∈ xs, ∀ bx, Bx bx → zst Φ t [] elt own (encx x) ((wipeG Γ own).set i (some bx)) fun rs Γ' => ∃ v bx', P v ∧ rs = [enc v] ∧ Bx bx' ∧ Γ' = (wipeG Γ own).set i (some bx')) → ∀ bx, Bx bx → ∃ (vs : List α) (bx' : D), compL (stepC Φ t [] elt own) (xs.map encx) ((wipeG Γ own).set i (some bx)) = some (vs.map enc, (wipeG Γ own).set i (some bx')) ∧ Bx bx' ∧ vs.length = xs.length ∧ ∀ v ∈ vs, P v := by
    intro xs
    induction xs with
    | nil => exact fun _ bx hb => ⟨[], bx, rfl, hb, rfl, fun _ z => nomatch z⟩
    | cons x xs ih =>
      intro hs bx hb
      have h1 := hs x List.mem_cons_self bx hb
      unfold zst at h1
      obtain ⟨rs, Γ1, e, v, bx1, hv, rfl, hb1, rfl⟩ := h1
      obtain ⟨vs, bx2, e2, hb2, hl, hvs⟩ := ih (fun y hy => hs y (List.mem_cons_of_mem _ hy)) bx1 hb1
      refine ⟨v :: vs, bx2, ?_, hb2, by simp [hl], fun w hw => ?_⟩
      · simp only [List.map_cons, compL, e, Option.bind_some, e2]; rfl
      · rcases List.mem_cons.mp hw with rfl | hw
        · exact hv
        · exact hvs w hw
  obtain ⟨vs, bx', e, hb', hl2, hP⟩ := main xs hs bx hb
  rw [hg] at e
  unfold zcomp
  exact ⟨_, _, _, e1, hh, by rw [hu]; rfl, ht, e, by rw [List.length_map, hl2]; exact sz_le hl, h vs hl2 hP bx' hb'⟩
/-! ### changes of lists -/
@[irreducible] def zupd (f : D → Option (D × D)) (ps : List D) (x : D) (Q : D → D → Prop) : Prop := ∃ r x', updP f ps x = some (r, x') ∧ Q r x'
theorem ze_mut0 {i : Nat} {mm : Mm} {es : List E} {o : Bool} {ds0 : List D} (h0 : getS Γ i = some (.lst o ds0) := by rfl) (h : zEs Φ es Γ fun ds Γ2 => zg Γ2 i fun x => zupd (mmF mm ds) [] x fun r x' => zfin m r fun r => zset Γ2 i (some x') fun Γ' => Q r Γ') : ze Φ (.mut i [] mm es) m Γ Q := by
  unfold ze; unfold zEs at h
  obtain ⟨ds, Γ2, e1, h⟩ := h
  unfold zg zupd zfin zset at h
  obtain ⟨x, e2, h⟩ := h
  obtain ⟨r, x', e3, h⟩ := h
  refine ⟨_, _, ?_, h⟩
  unfold ev
  simp [evEs, h0, isLAt, e1, e2, e3, fin_eq]
theorem zupd_app {x : D} {ds : List D} {Q : D → D → Prop} (hl : ds.length < sizeLine := by first | with_reducible assumption | decide | (simp <;> fail) | exact Nat.lt_of_le_of_lt (by first | with_reducible assumption | (simp; omega)) (show 100000 < sizeLine by decide)) (h : Q .non (.lst true (ds ++ [x]))) : zupd (mmF .append [x]) [] (.lst true ds) Q := by
  unfold zupd
  exact ⟨_, _, by simp [updP, mmF, hl], h⟩
theorem zs_set0 {i : Nat} {k e : E} {Q : R → Prop} (hk : pur k = true := by rfl) (h : ze Φ e .val Γ fun v Γ1 => zg Γ1 i fun x1 => zr (isLAt [] x1 = true) (ze Φ k .val Γ1 fun kd Γ2 => zg Γ2 i fun x => zupd (setF kd v) [] x fun _ x' => zset Γ2 i (some x') fun Γ' => Q (.nx Γ'))) : zs Φ (.set i [] k e) Γ Q := by
  unfold zs; unfold ze at h
  obtain ⟨v, Γ1, e1, h⟩ := h
  unfold zg zr zupd zset at h
  obtain ⟨x1, e2, hl, kd, Γ2, e3, x, e4, h⟩ := h
  obtain ⟨r, x', e5, h⟩ := h
  refine ⟨_, ?_, h⟩
  simp [evS, purL, hk, e1, e2, evEs, hl, e3, e4, e5]
theorem zupd_set {v : D} {ds : List D} {j : Nat} {z : Int} {Q : D → D → Prop} (e : ixD ds.length z = some j) (h : Q .non (.lst true (ds.set j v))) : zupd (setF (.int z) v) [] (.lst true ds) Q := by
  unfold zupd
  exact ⟨_, _, by simp [updP, setF, e], h⟩
/-! ### while -/
theorem zs_whl {N : Nat} {c : E} {body : List Sm} {Q : R → Prop} (I : Nat → Gm → Prop) (h0 : I 0 Γ) (hN : ∀ n Γ, I n Γ → n < N) (hs : ∀ n Γ, I n Γ → zt Φ c Γ fun b Γ1 => zif b (zss Φ body Γ1 fun r => ztu r (fun Γ2 => I (n + 1) Γ2) Q) (Q (.nx Γ1))) : zs Φ (.whl N c body) Γ Q := by
  have main : ∀ (k n : Nat) (Γ : Gm), n + k = N → I n Γ → ∃ r, whlL (fun Γ => evT Φ c Γ) (fun Γ => evSs Φ body Γ) k Γ = some r ∧ Q r := by
    intro k
    induction k with
    | zero =>
      intro n Γ hk hI
      have := hN n Γ hI
      omega
    | succ k ih =>
      intro n Γ hk hI
      have h := hs n Γ hI
      unfold zt zif at h
      obtain ⟨d, Γ1, b, e1, e2, h1, h2⟩ := h
      have e3 : evT Φ c Γ = some (b, Γ1) := by unfold evT; simp only [e1, e2, Option.bind_some, Option.map_some]
      cases b with
      | false => exact ⟨_, by simp only [whlL, e3], h2 rfl⟩
      | true =>
        have h := h1 rfl
        unfold zss at h
        obtain ⟨r, e4, h⟩ := h
        cases r with
        | nx Γ2 =>
          unfold ztu at h
          obtain ⟨r, e5, h⟩ := ih (n + 1) Γ2 (by omega) h
          exact ⟨r, by simp only [whlL, e3, e4]; exact e5, h⟩
        | ct Γ2 =>
          unfold ztu at h
          obtain ⟨r, e5, h⟩ := ih (n + 1) Γ2 (by omega) h
          exact ⟨r, by simp only [whlL, e3, e4]; exact e5, h⟩
        | bk Γ2 =>
          unfold ztu at h
          exact ⟨_, by simp only [whlL, e3, e4], h⟩
        | rt d Γ2 =>
          unfold ztu at h
          exact ⟨_, by simp only [whlL, e3, e4], h⟩
  obtain ⟨r, e, h⟩ := main N 0 Γ (by omega) h0
  unfold zs
  exact ⟨r, by simp only [evS]; exact e, h⟩
end
/-! ### a def -/
def Rt (d : D) (r : R) : Prop := ∃ Γ, r = .rt d Γ
theorem Rt.i {d : D} {Γ : Gm} : Rt d (.rt d Γ) := ⟨Γ, rfl⟩
theorem Rt.e {d d' : D} {Γ : Gm} (h : d = d') : Rt d (.rt d' Γ) := by subst h; exact ⟨Γ, rfl⟩
theorem fn_z {Φ : Tab} {slots : Nat} {body : List Sm} {ds : List D} {d : D} {Γ0 : Gm} (h : ds.length ≤ slots) (h0 : ds.map some ++ List.replicate (slots - ds.length) none = Γ0) (e : zss Φ body Γ0 (Rt d)) : evF Φ slots 0 body ds = some (d, []) := by
  unfold zss at e
  obtain ⟨r, e, Γ, rfl⟩ := e
  exact H.evF_rt h h0 e
/-- .. that is handed a box -/
def Rt1 (Q : D → D → Prop) (r : R) : Prop := ∃ d x Γ, r = .rt d (some x :: Γ) ∧ Q d x
theorem fn_z1 {Φ : Tab} {slots : Nat} {body : List Sm} {ds : List D} {Q : D → D → Prop} {Γ0 : Gm} (h : ds.length ≤ slots) (h0 : ds.map some ++ List.replicate (slots - ds.length) none = Γ0) (e : zss Φ body Γ0 (Rt1 Q)) : ∃ d x, evF Φ slots 1 body ds = some (d, [x]) ∧ Q d x := by
  unfold zss at e
  obtain ⟨r, e, d, x, Γ, rfl, h⟩ := e
  exact ⟨d, x, evF_rt1 (by assumption) h0 e, h⟩
end Sk
namespace Sk
open PySem PySem.Spec PyProof.Rows L2
def pad : List D → List Str → Gm
  | d :: ds, _ :: ns => some d :: pad ds ns
  | [], _ :: ns => none :: pad [] ns
  | _, [] => []
theorem pad_eq : ∀ (ds : List D) (N : List Str), ds.length ≤ N.length → ds.map some ++ List.replicate (N.length - ds.length) none = pad ds N
  | [], [], _ => rfl
  | d :: ds, n :: ns, h => by
    have := pad_eq ds ns (by simpa using h)
    simp only [List.map_cons, List.length_cons, Nat.add_sub_add_right, List.cons_append, this, pad]
  | [], n :: ns, _ => by
    have := pad_eq [] ns (by simp)
    simp only [List.map_nil, List.nil_append, List.length_nil, Nat.sub_zero, List.length_cons, List.replicate_succ, pad] at this ⊢
    rw [this]
  | d :: ds, [], h => by simp at h
theorem fn_p {Φ : Tab} {N : List Str} {body : List Sm} {ds : List D} {d : D} {Γ0 : Gm} (h : ds.length ≤ N.length) (h0 : pad ds N = Γ0) (e : zss Φ body Γ0 (Rt d)) : evF Φ N.length 0 body ds = some (d, []) :=
  fn_z h ((pad_eq ds N h).trans h0) e
theorem fn_p1 {Φ : Tab} {N : List Str} {body : List Sm} {ds : List D} {Q : D → D → Prop} {Γ0 : Gm} (h : ds.length ≤ N.length) (h0 : pad ds N = Γ0) (e : zss Φ body Γ0 (Rt1 Q)) : ∃ d x, evF Φ N.length 1 body ds = some (d, [x]) ∧ Q d x :=
  fn_z1 h ((pad_eq ds N h).trans h0) e
end Sk
namespace Sk
open PySem PySem.Spec PyProof.Rows L2
theorem lt_sz {n : Nat} (h : n ≤ 100000) : n < PySem.sizeLine := Nat.lt_of_le_of_lt h (by decide)
theorem hide1 {Γ : Gm} {v : Nat} {a : Option Int} (h : Γ[v]? = some (optI a)) : hideOk Γ [v] = true := by
  simp only [hideOk, List.all_cons, List.all_nil, Bool.and_true, h]
  cases a <;> rfl
/-- the first two parts of a whole are as they should be -/
theorem eqF_py {a b : D} (h : py a = py b) (ha : dep 60 a = true) (hb : dep 60 b = true) (hr : PyData.eqv (py b) (py b) = true) : eqF a b = some true := by
  rw [eqF_same h ha hb, hr]
end Sk

namespace Sk
open PySem PySem.Spec PyProof.Rows L2
mutual
theorem eqv_py : ∀ d : D, PyData.eqv (py d) (py d) = true
  | .non => rfl
  | .bl b => by simp [py, PyData.eqv]
  | .int i => by simp [py, PyData.eqv]
  | .str s => by simp [py, PyData.eqv]
  | .scr ns => by
    rw [py, PyData.eqv]
    have : ∀ ns : List Int, PyData.eqvAll (ns.map PyData.int) (ns.map PyData.int) = true := by
      intro ns
      induction ns with
      | nil => rfl
      | cons x r ih => simp [PyData.eqvAll, PyData.eqv, ih]
    exact this ns
  | .tup ds => by rw [py, PyData.eqv]; exact eqvAll_pyL ds
  | .lst o ds => by rw [py, PyData.eqv]; exact eqvAll_pyL ds
theorem eqvAll_pyL : ∀ ds : List D, PyData.eqvAll (pyL ds) (pyL ds) = true
  | [] => rfl
  | d :: ds => by rw [pyL, PyData.eqvAll, eqv_py d, eqvAll_pyL ds]; rfl
end
theorem depL_mapU {α : Type} {f : α → D} {n : Nat} (h : ∀ x, dep n (f x) = true) (xs : List α) : depL n (xs.map f) = true := depL_map h xs
theorem dep_lst {n : Nat} {o : Bool} {ds : List D} (h : depL n ds = true) : dep (n + 1) (.lst o ds) = true := by rw [dep]; exact h
theorem dep_tup {n : Nat} {ds : List D} (h : depL n ds = true) : dep (n + 1) (.tup ds) = true := by rw [dep]; exact h
section
variable {Q : D → Prop} {a b : D}
/-- the same parts: alike -/
theorem zp_eqS (h0 : py a = py b := by first | rfl | with_reducible assumption) (ha : dep 60 a = true := by first | rfl | with_reducible assumption | exact dep_lst (depL_mapU (fun _ => rfl) _) | exact dep_tup (depL_mapU (fun _ => rfl) _) | (simp [dep, depL, *] <;> fail)) (hb : dep 60 b = true := by first | rfl | with_reducible assumption | exact dep_lst (depL_mapU (fun _ => rfl) _) | exact dep_tup (depL_mapU (fun _ => rfl) _) | (simp [dep, depL, *] <;> fail)) (h : Q (.bl true)) : zp .eq [a, b] Q :=
  zp_eqE (eqF_py h0 ha hb (eqv_py b)) h
theorem zp_neS (h0 : py a = py b := by first | rfl | with_reducible assumption) (ha : dep 60 a = true := by first | rfl | with_reducible assumption | exact dep_lst (depL_mapU (fun _ => rfl) _) | exact dep_tup (depL_mapU (fun _ => rfl) _) | (simp [dep, depL, *] <;> fail)) (hb : dep 60 b = true := by first | rfl | with_reducible assumption | exact dep_lst (depL_mapU (fun _ => rfl) _) | exact dep_tup (depL_mapU (fun _ => rfl) _) | (simp [dep, depL, *] <;> fail)) (h : Q (.bl false)) : zp .ne [a, b] Q :=
  zp_neE (eqF_py h0 ha hb (eqv_py b)) h
end
theorem okL_map {α : Type} {f : α → D} {n : Nat} {xs : List α} (h : ∀ x ∈ xs, H.okD n (f x) = true) : H.okL n (xs.map f) = true := by
  induction xs with
  | nil => rfl
  | cons x r ih =>
    rw [List.map_cons, H.okL, h x List.mem_cons_self, ih fun y hy => h y (List.mem_cons_of_mem _ hy)]
    rfl
theorem ok_lst {α : Type} {f : α → D} {n : Nat} {xs : List α} (hl : xs.length < 1000000) (h : ∀ x ∈ xs, H.okD n (f x) = true) : H.okD (n + 1) (.lst false (xs.map f)) = true := by
  rw [H.okD]
  simp only [List.length_map, Bool.and_eq_true, decide_eq_true_eq]
  exact ⟨⟨rfl, hl⟩, okL_map h⟩
theorem ok_tup {α : Type} {f : α → D} {n : Nat} {xs : List α} (hl : xs.length < 1000000) (h : ∀ x ∈ xs, H.okD n (f x) = true) : H.okD (n + 1) (.tup (xs.map f)) = true := by
  rw [H.okD]
  simp only [List.length_map, Bool.and_eq_true, decide_eq_true_eq]
  exact ⟨hl, okL_map h⟩
theorem alL_mapU {α : Type} {f : α → D} (h : ∀ x, al (f x) = true) (xs : List α) : alL (xs.map f) = true := by
  induction xs with
  | nil => rfl
  | cons x r ih => simp [alL, h, ih]
/-- the script's digits -/
theorem digits_z {Φ : Tab} {ns : List Int} {a b : Nat} {Q : D → Prop} (hf : Φ "_law_digits" = some (3, 0, H.f_law_digits)) (ha : a ≤ 1000 := by decide) (hb : b ≤ 1000 := by decide) (h : ∀ is, H.Small is → Q (.lst true (is.map .int))) : zcall Φ "_law_digits" [.scr ns, .int (a : Int), .int (b : Int)] Q := by
  obtain ⟨is, e, hs, _⟩ := H.digits ns a b ha hb
  exact zcall_i hf e (h := h is hs)
theorem Bx.mk {is : List Int} (h : H.Small is) : Bx (.lst true [.lst true (is.map .int), .int 0]) := ⟨is, 0, h, rfl⟩
/-- a law that is told true -/
theorem law_z {Φ : Tab} {N : List Str} {body : List Sm} {ns : List Int} {Γ0 : Gm} (h : 1 ≤ N.length) (h0 : pad [.scr ns] N = Γ0) (e : zss Φ body Γ0 (Rt (.bl true))) : ∃ xs, evF Φ N.length 0 body [.scr ns] = some (.bl true, xs) := ⟨[], fn_p h h0 e⟩
end Sk
namespace Sk
open PySem PySem.Spec PyProof.Rows L2
/-! ### lowest terms -/
def t2 (a b : Int) : D := .tup [.int a, .int b]
theorem low_scale {k t b : Int} (hk : 0 < k) : lowT (k * t) (k * b) = lowT t b := by
  unfold lowT
  have e : (Int.gcd (k * t) (k * b) : Int) = k * (Int.gcd t b : Int) := by
    rw [Int.gcd_mul_left, Int.natCast_mul, Int.natAbs_of_nonneg (Int.le_of_lt hk)]
  rw [e, Int.mul_fdiv_mul_of_pos _ _ hk, Int.mul_fdiv_mul_of_pos _ _ hk]
theorem low_can {t b t' b' : Int} (hb : 0 < b) (hb' : 0 < b') (h : t * b' = t' * b) : lowT t b = lowT t' b' := by
  rw [← low_scale (t := t) (b := b) hb', ← low_scale (t := t') (b := b') hb]
  rw [show b' * t = b * t' by rw [Int.mul_comm b' t, h, Int.mul_comm], Int.mul_comm b' b]
theorem low_ex {t b : Int} (hb : 0 < b) : ∃ n d, lowT t b = t2 n d ∧ (0 < d ∧ d ≤ b) ∧ n * b = t * d ∧ (0 ≤ t → 0 ≤ n ∧ n ≤ t) := by
  obtain ⟨g1, g2⟩ := gcd_pos (t := t) hb
  have d1 : (Int.gcd t b : Int) ∣ t := Int.gcd_dvd_left ..
  have d2 : (Int.gcd t b : Int) ∣ b := Int.gcd_dvd_right ..
  refine ⟨_, _, rfl, ?_⟩
  have f1 := fun h : 0 ≤ t => fdiv_bd h g1
  have f2 := fdiv_bd (t := b) (by omega) g1
  generalize (Int.gcd t b : Int) = g at *
  obtain ⟨x, rfl⟩ := d1
  obtain ⟨y, rfl⟩ := d2
  rw [Int.mul_fdiv_cancel_left _ (by omega)] at f1 f2 ⊢
  rw [Int.mul_fdiv_cancel_left _ (by omega)]
  have hy : y ≠ 0 := fun z => by subst z; simp at hb
  exact ⟨by omega, by grind, f1⟩
theorem low_un (t b : Int) : un (lowT t b) = true := rfl
theorem low0 {b : Int} (hb : 0 < b) : lowT 0 b = t2 0 1 := by
  have : lowT 0 b = lowT 0 1 := low_can hb (by decide) (by simp)
  rw [this]; rfl
theorem euN_succ : ∀ (n : Nat) (p : Nat × Nat), euN (n + 1) p = eu (euN n p)
  | 0, p => rfl
  | n + 1, p => by rw [euN, euN_succ n (eu p), euN]
theorem mul_bd {a b A B : Int} (ha : 0 < a) (hb : 0 < b) (hA : a ≤ A) (hB : b ≤ B) : 0 < a * b ∧ a * b ≤ A * B := ⟨Int.mul_pos ha hb, Int.mul_le_mul hA hB (by omega) (by omega)⟩
theorem foldl_take {α β : Type} (f : β → α → β) (b : β) (xs : List α) (n : Nat) (h : n < xs.length) : (xs.take (n + 1)).foldl f b = f ((xs.take n).foldl f b) xs[n] := by
  rw [List.take_succ_eq_append_getElem h, List.foldl_append]; rfl
theorem gcd_call {Φ : Tab} {t b : Int} {Q : D → Prop} (hf : Φ "gcd" = some (2, 0, gcdF)) (h : Q (.int (Int.gcd t b : Int))) : zcall Φ "gcd" [.int t, .int b] Q := zcall_i hf (ds' := [.int t, .int b]) rfl rfl rfl rfl h
/-! ### stores two deep -/
theorem zs_set1 {Φ : Tab} {Γ : Gm} {i : Nat} {p k e : E} {Q : R → Prop} (hk : (pur p && pur k) = true := by rfl) (h : ze Φ e .val Γ fun v Γ1 => zr ((getS Γ1 i).isSome = true) (ze Φ p .val Γ1 fun pd Γ2 => zg Γ2 i fun x1 => zr (isLAt [pd] x1 = true) (ze Φ k .val Γ2 fun kd Γ3 => zg Γ3 i fun x => zupd (setF kd v) [pd] x fun _ x' => zset Γ3 i (some x') fun Γ' => Q (.nx Γ')))) : zs Φ (.set i [p] k e) Γ Q := by
  unfold zs; unfold ze at h
  obtain ⟨v, Γ1, e1, h⟩ := h
  unfold zr at h
  obtain ⟨h0, pd, Γ2, e2, h⟩ := h
  unfold zg at h
  obtain ⟨x1, e3, hl, kd, Γ3, e4, h⟩ := h
  obtain ⟨x, e5, h⟩ := h
  unfold zupd zset at h
  obtain ⟨r, x', e6, h⟩ := h
  simp only [Bool.and_eq_true] at hk
  refine ⟨_, ?_, h⟩
  simp [evS, purL, hk, e1, h0, e2, evEs, e3, hl, e4, e5, e6]
theorem zupd_set1 {v : D} {ds0 ds : List D} {i z : Int} {j m : Nat} {Q : D → D → Prop} (e1 : ixD ds0.length i = some j) (e2 : ds0[j]? = some (.lst true ds)) (e3 : ixD ds.length z = some m) (h : Q .non (.lst true (ds0.set j (.lst true (ds.set m v))))) : zupd (setF (.int z) v) [.int i] (.lst true ds0) Q := by
  unfold zupd
  exact ⟨_, _, by simp [updP, setF, e1, e2, e3], h⟩
theorem isLAt_of {o o' : Bool} {ds0 ds : List D} {i : Int} {j : Nat} (e1 : ixD ds0.length i = some j) (e2 : ds0[j]? = some (.lst o ds)) : isLAt [.int i] (.lst o' ds0) = true := by
  simp [isLAt, idxF, e1, e2]
theorem set_range {α : Type} (f : Nat → α) (N i : Nat) (v : α) : ((List.range N).map f).set i v = (List.range N).map fun k => if k = i then v else f k := by
  refine List.ext_getElem (by simp) fun k h1 h2 => ?_
  simp only [List.getElem_set, List.getElem_map, List.getElem_range]
  by_cases h : k = i
  · simp [h]
  · simp [h, Ne.symm h]
theorem range_congr {α : Type} {f g : Nat → α} {N : Nat} (h : ∀ k, k < N → f k = g k) : (List.range N).map f = (List.range N).map g := List.map_congr_left fun k hk => h k (List.mem_range.mp hk)
end Sk
namespace Sk
open PySem PySem.Spec PyProof.Rows L2
theorem zit_natS {n : Nat} {Q : List D → Prop} (b : n + 1 ≤ 1000000 := by first | decide | omega) (h : Q ((List.range (n + 1)).map fun i : Nat => .int (i : Int))) : zit .range [.int ((n : Int) + 1)] Q := by
  have := zit_nat (n := n + 1) b h
  rwa [show (((n + 1 : Nat)) : Int) = (n : Int) + 1 by omega] at this
theorem hide2 {Γ : Gm} {v w : Nat} {a b : Option Int} (h : Γ[v]? = some (optI a)) (h2 : Γ[w]? = some (optI b)) : hideOk Γ [v, w] = true := by
  simp only [hideOk, List.all_cons, List.all_nil, Bool.and_true, h, h2]
  cases a <;> cases b <;> rfl
theorem take_map_sum {α : Type} (f : α → Int) (xs : List α) (n : Nat) (h : n < xs.length) : ((xs.take (n + 1)).map f).sum = ((xs.take n).map f).sum + f xs[n] := by
  rw [List.take_succ_eq_append_getElem h, List.map_append, List.sum_append]
  simp
end Sk
namespace Sk
theorem zp_id1 {a : D} {Q : D → Prop} (u : un a = true := by first | rfl | with_reducible assumption | (show unL _ = true; first | with_reducible assumption | exact unL_mapU (fun _ => rfl) _) | (simp [un, unL, unL_map_int, *] <;> fail)) (h : Q a) : zp .id1 [a] Q := zp_of (by simp [prF, u]) h
end Sk
namespace Sk
open PySem PySem.Spec PyProof.Rows L2
theorem zit_from1 {n : Nat} {Q : List D → Prop} (b : n + 1 ≤ 1000000 := by first | decide | omega) (h : Q ((List.range n).map fun i : Nat => .int ((i : Int) + 1))) : zit .range [.int 1, .int ((n : Int) + 1)] Q := zit_of (by
  rw [it_range2 (by omega) (by omega) (by omega) (by omega), rng, List.map_map, show ((n : Int) + 1 - 1).toNat = n by omega]
  congr 1
  refine List.map_congr_left fun i _ => ?_
  simp only [Function.comp]
  congr 1
  omega) h
theorem ixD_S {n k : Nat} (h : k + 1 < n) : ixD n ((k : Int) + 1) = some (k + 1) := by
  rw [show (k : Int) + 1 = ((k + 1 : Nat) : Int) by omega, ixD_nat h]
end Sk
namespace Sk
@[simp] theorem frz_low (a b : Int) : frz (lowT a b) = lowT a b := rfl
@[simp] theorem un_low (a b : Int) : un (lowT a b) = true := rfl
@[simp] theorem al_low (a b : Int) : al (lowT a b) = true := rfl
@[simp] theorem frz_t2 (a b : Int) : frz (t2 a b) = t2 a b := rfl
@[simp] theorem un_t2 (a b : Int) : un (t2 a b) = true := rfl
@[simp] theorem al_t2 (a b : Int) : al (t2 a b) = true := rfl
end Sk
namespace Sk
open PySem PySem.Spec PyProof.Rows L2
theorem hideV {Γ : Gm} {v : Nat} {d : D} (h : Γ[v]? = some (some d)) (u : un d = true) : hideOk Γ [v] = true := by
  simp only [hideOk, List.all_cons, List.all_nil, Bool.and_true, h, u]
theorem low_okn (n : Nat) {t b : Int} (ht : 0 ≤ t) (hb : 0 < b) (h1 : t < 1000000000000) (h2 : b < 1000000000000) : H.okD (n + 1) (lowT t b) = true := by
  obtain ⟨g1, _⟩ := gcd_pos (t := t) hb
  have a1 := fdiv_bd ht g1
  have a2 := fdiv_bd (Int.le_of_lt hb) g1
  exact H.ok_pair n _ _ (by omega) (by omega)
end Sk
namespace Sk
open PySem PySem.Spec PyProof.Rows L2
section
variable {Q : D → Prop} {i j : Int} {o : Bool}
theorem zp_str1 (m : i.natAbs.log2 < 1920 := by first | with_reducible assumption | exact log_lt (by omega)) (h : Q (.str (intT i))) : zp .str1 [.int i] Q := zp_of (by simp [prF, m]) h
theorem zp_fs1 (m : i.natAbs.log2 < 1920 := by first | with_reducible assumption | exact log_lt (by omega)) (h : Q (.str (intT i))) : zp .fs1 [.int i] Q := zp_of (by simp [prF, m]) h
theorem zp_fj {s t : Str} (m : fjF s i j = some (.str t) := by with_reducible assumption) (h : Q (.str t)) : zp (.fj s) [.int i, .int j] Q := zp_of (by simp [prF, m]) h
theorem zp_sort1 {ns : List Int} (h : Q (.lst true ((ns.mergeSort fun a b => decide (a ≤ b)).map .int))) : zp .sorted1 [.lst o (ns.map .int)] Q := zp_of (by simp [prF, dInts_map]) h
end
end Sk

namespace Sk
open PySem PySem.Spec PyProof.Rows L2
/-! ### texts of numbers -/
theorem chr_lt (c : Char) : c.toNat < 1114112 := by
  have := c.valid
  unfold UInt32.isValidChar Nat.isValidChar at this
  show c.val.toNat < _
  omega
theorem reprChar_ok (q c : Nat) (hc : c < 1114112) : ∀ x ∈ Builtin.Str.reprChar q c, x < 1114112 := by
  have hex : ∀ w : Nat, ∀ x ∈ (List.replicate (w - ((Nat.toDigits 16 c).map Char.toNat).length) 48 ++ (Nat.toDigits 16 c).map Char.toNat), x < 1114112 := by
    intro w x hx
    rcases List.mem_append.mp hx with hx | hx
    · rw [(List.mem_replicate.mp hx).2]; decide
    · obtain ⟨d, _, rfl⟩ := List.mem_map.mp hx
      exact chr_lt d
  have two : ∀ a b : Nat, a < 1114112 → b < 1114112 → ∀ x ∈ [a, b], x < 1114112 := by
    intro a b ha hb x hx
    simp only [List.mem_cons, List.not_mem_nil, or_false] at hx
    rcases hx with rfl | rfl <;> assumption
  intro x hx
  unfold Builtin.Str.reprChar at hx
  simp only at hx
  split at hx
  · exact two _ _ (by decide) hc x hx
  · split at hx
    · exact two _ _ (by decide) (by decide) x hx
    · split at hx
      · exact two _ _ (by decide) (by decide) x hx
      · split at hx
        · exact two _ _ (by decide) (by decide) x hx
        · split at hx
          · rw [List.mem_singleton] at hx; subst hx; exact hc
          · split at hx
            · rcases List.mem_append.mp hx with hx | hx
              · exact two _ _ (by decide) (by decide) x hx
              · exact hex 2 x hx
            · split at hx
              · rcases List.mem_append.mp hx with hx | hx
                · exact two _ _ (by decide) (by decide) x hx
                · exact hex 4 x hx
              · rcases List.mem_append.mp hx with hx | hx
                · exact two _ _ (by decide) (by decide) x hx
                · exact hex 8 x hx
theorem strOk_iff (x : Str) : PyData.strOk x = true ↔ ∀ c ∈ x.cps.toList, c < 1114112 := by
  unfold PyData.strOk
  rw [← Array.all_toList, List.all_eq_true]
  simp only [decide_eq_true_eq]
theorem strOk_repr (x : Str) (h : PyData.strOk x = true) : PyData.strOk (reprText x) = true := by
  rw [strOk_iff] at h ⊢
  have hq : reprQuote x < 1114112 := by
    unfold reprQuote
    split <;> decide
  have main : ∀ (l : List Nat) (acc : Array Nat), (∀ c ∈ l, c < 1114112) → (∀ c ∈ acc.toList, c < 1114112) → ∀ c ∈ (l.foldl (fun out c => out ++ (Builtin.Str.reprChar (reprQuote x) c).toArray) acc).toList, c < 1114112 := by
    intro l
    induction l with
    | nil => intro acc _ h; exact h
    | cons d l ih =>
      intro acc hl ha
      refine ih _ (fun c hc => hl c (List.mem_cons_of_mem _ hc)) fun c hc => ?_
      rw [Array.toList_append] at hc
      rcases List.mem_append.mp hc with hc | hc
      · exact ha c hc
      · exact reprChar_ok _ d (hl d List.mem_cons_self) c (by simpa using hc)
  intro c hc
  unfold reprText at hc
  simp only [Array.toList_push, List.mem_append, List.mem_singleton] at hc
  rcases hc with hc | rfl
  · rw [← Array.foldl_toList] at hc
    exact main _ _ h (fun c hc => by
      simp only [List.mem_singleton] at hc
      subst hc; exact hq) c hc
  · exact hq
theorem okD_str (n : Nat) (x : Str) (h1 : x.length ≤ 10000) (h2 : PyData.strOk x = true) : H.okD n (.str x) = true := by
  have h3 := (strOk_iff x).mp h2
  have h4 := PySem.StrLaws.reprText_len x (fun c hc => Nat.lt_trans (h3 c hc) (by decide))
  unfold H.okD
  rw [Bool.and_eq_true]
  exact ⟨decide_eq_true (Nat.le_trans (show (reprText x).length ≤ 100002 by omega) (by decide)), strOk_repr x h2⟩
theorem strOk_app (a b : Str) (ha : PyData.strOk a = true) (hb : PyData.strOk b = true) : PyData.strOk (a ++ b) = true := by
  rw [strOk_iff] at *
  intro c hc
  rw [show (a ++ b).cps = a.cps ++ b.cps from rfl, Array.toList_append] at hc
  rcases List.mem_append.mp hc with hc | hc
  · exact ha c hc
  · exact hb c hc
theorem len_app (a b : Str) : (a ++ b).length = a.length + b.length := by
  show (a.cps ++ b.cps).size = _
  rw [Array.size_append]; rfl
theorem intT_ok (i : Int) : PyData.strOk (intT i) = true := H.strOk_int i
theorem intT_len {i : Int} (h : i.natAbs.log2 < 1920) : (intT i).length ≤ 1921 := int_text_len_1921 h
theorem intT_okD (n : Nat) {i : Int} (h : i.natAbs.log2 < 1920) : H.okD n (.str (intT i)) = true := okD_str n _ (Nat.le_trans (intT_len h) (by decide)) (intT_ok i)
/-- f"{i}s{j}" -/
theorem fj_ex {s : Str} {i j : Int} (hi : i.natAbs.log2 < 1920) (hj : j.natAbs.log2 < 1920) (hs : s.length ≤ 1000) (ho : PyData.strOk s = true) : ∃ t, fjF s i j = some (.str t) ∧ ∀ n, H.okD n (.str t) = true := by
  have l1 := intT_len hi
  have l2 := intT_len hj
  have e0 : Str.empty.length = 0 := rfl
  refine ⟨Str.empty ++ intT i ++ s ++ intT j, ?_, fun n => okD_str n _ ?_ ?_⟩
  · unfold fjF
    rw [if_pos]
    simp only [Bool.and_eq_true, decide_eq_true_eq]
    refine ⟨⟨⟨⟨hi, hj⟩, szOk_le ?_⟩, szOk_le ?_⟩, szOk_le ?_⟩ <;> simp only [len_app] <;> omega
  · simp only [len_app]; omega
  · exact strOk_app _ _ (strOk_app _ _ (strOk_app _ _ (by kernel_rfl) (intT_ok i)) ho) (intT_ok j)
end Sk

namespace Sk
open PySem PySem.Spec PyProof.Rows L2
section
variable {Q : D → Prop} {i j : Int} {a b d r : D} {ds es : List D} {o o2 o3 : Bool} {α β γ : Type}
theorem findE_ints (i : Int) (xs : List Int) (h : i ∈ xs) : findE (.int i) (xs.map .int) = some (xs.idxOf i) := by
  unfold findE PySem.SeqAt.dataPlace
  rw [pyL_ints, List.findIdx?_map]
  have e : ((fun y => PyData.eqv y (py (.int i))) ∘ PyData.int) = fun y : Int => y == i := by
    funext y; rfl
  rw [e, List.findIdx?_eq_some_iff_findIdx_eq]
  exact ⟨List.idxOf_lt_length_iff.mpr h, rfl⟩
theorem zp_indexI {xs : List Int} (m : i ∈ xs) (h : Q (.int (xs.idxOf i : Nat))) : zp .index [.lst o (xs.map .int), .int i] Q := zp_of (by
  have e : (dep 60 (.int i) && depL 60 (xs.map D.int)) = true := by rw [depL_ints]; rfl
  simp only [prF, e, if_true, findE_ints i xs m, Option.map_some]) h
theorem cntE_ints (i : Int) (xs : List Int) : cntE (.int i) (xs.map .int) = xs.count i := by
  unfold cntE
  rw [pyL_ints, List.countP_map]
  rfl
theorem zp_countI {xs : List Int} (h : Q (.int (xs.count i : Nat))) : zp .count [.lst o (xs.map .int), .int i] Q := zp_of (by
  have e : (dep 60 (.int i) && depL 60 (xs.map D.int)) = true := by rw [depL_ints]; rfl
  simp only [prF, e, if_true, cntE_ints]) h
theorem zip3LD_map {f : α → D} {g : β → D} {k : γ → D} : ∀ (xs : List α) (ys : List β) (zs : List γ), zip3LD (xs.map f) (ys.map g) (zs.map k) = (xs.zip (ys.zip zs)).map fun y => .tup [f y.1, g y.2.1, k y.2.2]
  | [], _, _ => by simp [zip3LD]
  | x :: xs, [], _ => by simp [zip3LD]
  | x :: xs, y :: ys, [] => by simp [zip3LD]
  | x :: xs, y :: ys, z :: zs => by
    rw [List.map_cons, List.map_cons, List.map_cons, zip3LD, zip3LD_map xs ys zs, List.zip_cons_cons, List.zip_cons_cons, List.map_cons]
theorem zit_zip3 {xs : List α} {f : α → D} {ys : List β} {g : β → D} {zs : List γ} {k : γ → D} {Q : List D → Prop} (u : unL (xs.map f) = true := by first | rfl | with_reducible assumption | exact unL_mapU (fun _ => rfl) _) (u2 : unL (ys.map g) = true := by first | rfl | with_reducible assumption | exact unL_mapU (fun _ => rfl) _) (u3 : unL (zs.map k) = true := by first | rfl | with_reducible assumption | exact unL_mapU (fun _ => rfl) _) (h : Q ((xs.zip (ys.zip zs)).map fun y => .tup [f y.1, g y.2.1, k y.2.2])) : zit .zip [.lst o (xs.map f), .lst o2 (ys.map g), .lst o3 (zs.map k)] Q := zit_of (by
  show (if (unL (xs.map f) && unL (ys.map g) && unL (zs.map k)) = true then some (zip3LD (xs.map f) (ys.map g) (zs.map k)) else none) = _
  rw [u, u2, u3, if_pos (show (true && true && true) = true from rfl), zip3LD_map]) h
/-- a text, sign by sign -/
def sgn (c : Nat) : D := .str ⟨#[c]⟩
theorem zit_str {z : Str} {Q : List D → Prop} (h : Q (z.cps.toList.map sgn)) : zit .val [.str z] Q := zit_of rfl h
theorem zp_range2 {i j : Int} (b1 : -1000000 ≤ i := by omega) (b2 : i ≤ 1000000 := by omega) (b3 : -1000000 ≤ j := by omega) (b4 : j ≤ 1000000 := by omega) (h : Q (.lst true ((rng i (j - i).toNat).map .int))) : zp .range2 [.int i, .int j] Q := zp_of (by
  simp only [prF]
  rw [if_pos (decide_eq_true (by omega)), rng_eq]) h
theorem zp_range1 {n : Nat} (b : n ≤ 1000000 := by omega) (h : Q (.lst true ((List.range n).map fun i : Nat => .int (i : Int)))) : zp .range1 [.int (n : Int)] Q := zp_of (by
  simp only [prF]
  rw [if_pos (decide_eq_true (by omega)), rng_eq, rng, List.map_map, Int.toNat_natCast]
  congr 2
  refine List.map_congr_left fun i _ => ?_
  simp) h
theorem zp_trange1 {n : Nat} (b : n ≤ 1000000 := by omega) (h : Q (.tup ((List.range n).map fun i : Nat => .int (i : Int)))) : zp .trange1 [.int (n : Int)] Q := zp_of (by
  simp only [prF]
  rw [if_pos (decide_eq_true (by omega)), rng_eq, rng, List.map_map, Int.toNat_natCast]
  congr 2
  refine List.map_congr_left fun i _ => ?_
  simp) h
end
end Sk
namespace Sk
open PySem PySem.Spec PyProof.Rows L2
/-! ### tests whose parts all have a value -/
@[irreducible] def ztA (Φ : Tab) (e : E) (Γ : Gm) (Q : Bool → Prop) : Prop := ∃ d b, ev Φ e .tst Γ = some (d, Γ) ∧ truD d = some b ∧ Q b
@[irreducible] def zAndA (Φ : Tab) (es : List E) (Γ : Gm) (Q : Bool → Prop) : Prop := ∃ b, evTAnd Φ es Γ = some (.bl b, Γ) ∧ Q b
@[irreducible] def zOrA (Φ : Tab) (es : List E) (Γ : Gm) (Q : Bool → Prop) : Prop := ∃ b, evTOr Φ es Γ = some (.bl b, Γ) ∧ Q b
section
variable {Φ : Tab} {Γ Γ' : Gm} {m : Md} {d d' r : D} {i : Nat} {Q : Bool → Prop}
theorem ztA_of {a : E} (h : ze Φ a .tst Γ fun d Γ' => zr (Γ' = Γ) (ztr d Q)) : ztA Φ a Γ Q := by
  unfold ztA; unfold ze zr ztr at h
  obtain ⟨d, Γ', e, rfl, b, e2, h⟩ := h
  exact ⟨d, b, e, e2, h⟩
theorem ztA_not {a : E} (h : ztA Φ a Γ fun b => Q (!b)) : ztA Φ (.not_ a) Γ Q := by
  unfold ztA at *
  obtain ⟨d, b, e, e2, h⟩ := h
  exact ⟨.bl (!b), !b, by simp only [ev, e, Option.bind_some, e2, Option.map_some], rfl, h⟩
theorem ztA_and {es : List E} (h : zAndA Φ es Γ Q) : ztA Φ (.and_ es) Γ Q := by
  unfold ztA; unfold zAndA at h
  obtain ⟨b, e, h⟩ := h
  exact ⟨_, _, by simp only [ev]; exact e, rfl, h⟩
theorem ztA_or {es : List E} (h : zOrA Φ es Γ Q) : ztA Φ (.or_ es) Γ Q := by
  unfold ztA; unfold zOrA at h
  obtain ⟨b, e, h⟩ := h
  exact ⟨_, _, by simp only [ev]; exact e, rfl, h⟩
theorem ztA_chain {p q : Pr} {a b c : E} (hp : (pur a && pur b && pur c) = true := by rfl) (h : ze Φ a .opd Γ fun x Γ1 => zr (Γ1 = Γ) (ze Φ b .opd Γ fun y Γ2 => zr (Γ2 = Γ) (ze Φ c .opd Γ fun z Γ3 => zr (Γ3 = Γ) (zp p [x, y] fun r => zb r fun t => zp q [y, z] fun r2 => zb r2 fun t2 => Q (t && t2))))) : ztA Φ (.chain p q a b c) Γ Q := by
  unfold ztA; unfold ze zr at h
  obtain ⟨x, Γ1, e1, rfl, h⟩ := h
  obtain ⟨y, Γ2, e2, rfl, h⟩ := h
  obtain ⟨z, Γ3, e3, rfl, h⟩ := h
  unfold zp zb at h
  obtain ⟨r, e4, t, rfl, r2, e5, t2, rfl, h⟩ := h
  cases t with
  | true => exact ⟨.bl t2, t2, by simp only [ev, hp, if_true, e1, e2, e3, e4, e5, Option.bind_some], rfl, by simpa using h⟩
  | false => exact ⟨.bl false, false, by simp only [ev, hp, if_true, e1, e2, e4, Option.bind_some], rfl, by simpa using h⟩
theorem zAndA_one {e : E} (h : ztA Φ e Γ Q) : zAndA Φ [e] Γ Q := by
  unfold zAndA; unfold ztA at h
  obtain ⟨d, b, e1, e2, h⟩ := h
  refine ⟨b, ?_, h⟩
  cases b <;> simp only [evTAnd, e1, e2, Option.bind_some] <;> rfl
theorem zAndA_cons {e e2 : E} {es : List E} (h : ztA Φ e Γ fun b => zAndA Φ (e2 :: es) Γ fun c => Q (b && c)) : zAndA Φ (e :: e2 :: es) Γ Q := by
  unfold ztA zAndA at h; unfold zAndA
  obtain ⟨d, b, e1, e3, c, e4, h⟩ := h
  cases b with
  | false => exact ⟨_, by rw [evTAnd]; simp only [e1, e3, Option.bind_some]; rfl, h⟩
  | true => exact ⟨_, by rw [evTAnd]; simp only [e1, e3, Option.bind_some, if_true]; exact e4, by simpa using h⟩
theorem zOrA_one {e : E} (h : ztA Φ e Γ Q) : zOrA Φ [e] Γ Q := by
  unfold zOrA; unfold ztA at h
  obtain ⟨d, b, e1, e2, h⟩ := h
  refine ⟨b, ?_, h⟩
  cases b <;> simp only [evTOr, e1, e2, Option.bind_some] <;> rfl
theorem zOrA_cons {e e2 : E} {es : List E} (h : ztA Φ e Γ fun b => zOrA Φ (e2 :: es) Γ fun c => Q (b || c)) : zOrA Φ (e :: e2 :: es) Γ Q := by
  unfold ztA zOrA at h; unfold zOrA
  obtain ⟨d, b, e1, e3, c, e4, h⟩ := h
  cases b with
  | true => exact ⟨_, by rw [evTOr]; simp only [e1, e3, Option.bind_some]; rfl, h⟩
  | false => exact ⟨_, by rw [evTOr]; simp only [e1, e3, Option.bind_some]; exact e4, by simpa using h⟩
theorem zs_iffA {c : E} {a b : List Sm} {Q : R → Prop} (h : ztA Φ c Γ fun t => zif t (zss Φ a Γ Q) (zss Φ b Γ Q)) : zs Φ (.iff c a b) Γ Q := by
  refine zs_iff ?_
  unfold zt; unfold ztA at h
  obtain ⟨d, t, e1, e2, h⟩ := h
  exact ⟨d, Γ, t, e1, e2, h⟩
theorem zt_A {c : E} {Q : Bool → Gm → Prop} (h : ztA Φ c Γ fun t => Q t Γ) : zt Φ c Γ Q := by
  unfold zt; unfold ztA at h
  obtain ⟨d, t, e1, e2, h⟩ := h
  exact ⟨d, Γ, t, e1, e2, h⟩
/-- one turn of a comprehension whose value always stands -/
theorem zst_c {t : T} {c elt : E} {own : List Nat} {d : D} {Q : List D → Gm → Prop} (h : zasg t d Γ fun Γ1 => ztA Φ c Γ1 fun b => ze Φ elt .val Γ1 fun r Γ3 => zr (Γ3 = Γ1) (zr (hideOk Γ1 own = true) (zwipe Γ1 own fun Γ4 => Q (if b then [r] else []) Γ4))) : zst Φ t [c] elt own d Γ Q := by
  refine zst_i ?_
  unfold zasg at h ⊢
  obtain ⟨Γ1, e1, h⟩ := h
  refine ⟨Γ1, e1, ?_⟩
  unfold ztA at h; unfold zt
  obtain ⟨x, b, e2, e3, h⟩ := h
  refine ⟨x, Γ1, b, e2, e3, ?_⟩
  unfold ze zr zwipe at h
  obtain ⟨r, Γ3, e4, rfl, e5, h⟩ := h
  unfold zif zr zwipe ze
  cases b with
  | true => exact ⟨fun _ => ⟨r, Γ3, e4, e5, by simpa using h⟩, fun z => nomatch z⟩
  | false => exact ⟨(fun z => nomatch z), fun _ => ⟨e5, by simpa using h⟩⟩
end
end Sk
namespace Sk
open PySem PySem.Spec PyProof.Rows L2
/-! ### places of numbers, without a bound in the term -/
section
variable {Q : D → Prop} {i : Int} {o : Bool}
theorem gD_at {xs : List Int} {k : Nat} (h : k < xs.length) : xs[k] = xs.getD k 0 := by
  rw [List.getD_eq_getElem?_getD, List.getElem?_eq_getElem h]; rfl
theorem gD_mem {xs : List Int} {k : Nat} (h : k < xs.length) : xs.getD k 0 ∈ xs := by rw [← gD_at h]; exact List.getElem_mem h
theorem zx_natI {xs : List Int} {k : Nat} (hk : k < xs.length := by first | with_reducible assumption | omega | (simp only [List.length_range, List.length_take, List.length_map, List.length_cons, List.length_append, List.length_nil]; omega)) (h : Q (.int (xs.getD k 0))) : zx (.lst o (xs.map .int)) (.int (k : Int)) Q := zx_of (idxF_nat hk) (by rw [gD_at hk]; exact h)
theorem zx_natTI {xs : List Int} {k : Nat} (hk : k < xs.length := by first | with_reducible assumption | omega | (simp only [List.length_range, List.length_take, List.length_map, List.length_cons, List.length_append, List.length_nil]; omega)) (h : Q (.int (xs.getD k 0))) : zx (.tup (xs.map .int)) (.int (k : Int)) Q := zx_of (idxF_natT hk) (by rw [gD_at hk]; exact h)
theorem zx_intI {xs : List Int} {k : Nat} (e : i.toNat = k := by first | (simp only [Int.reduceToNat, Int.toNat_natCast]; rfl) | rfl) (h0 : 0 ≤ i := by first | with_reducible assumption | omega) (hk : k < xs.length := by first | with_reducible assumption | omega | (simp only [List.length_range, List.length_take, List.length_map, List.length_cons, List.length_append, List.length_nil]; omega)) (h : Q (.int (xs.getD k 0))) : zx (.lst o (xs.map .int)) (.int i) Q := by
  subst e
  exact zx_of (idxF_int h0 hk) (by rw [gD_at hk]; exact h)
theorem zx_intTI {xs : List Int} {k : Nat} (e : i.toNat = k := by first | (simp only [Int.reduceToNat, Int.toNat_natCast]; rfl) | rfl) (h0 : 0 ≤ i := by first | with_reducible assumption | omega) (hk : k < xs.length := by first | with_reducible assumption | omega | (simp only [List.length_range, List.length_take, List.length_map, List.length_cons, List.length_append, List.length_nil]; omega)) (h : Q (.int (xs.getD k 0))) : zx (.tup (xs.map .int)) (.int i) Q := by
  subst e
  exact zx_of (idxF_intT h0 hk) (by rw [gD_at hk]; exact h)
end
end Sk

namespace Sk
open PySem PySem.Spec PyProof.Rows L2
/-! ### pairs in order -/
abbrev pE2 (p : Int × Int) : D := .tup [.int p.1, .int p.2]
abbrev lexP (p q : Int × Int) : Prop := p.1 < q.1 ∨ (p.1 = q.1 ∧ p.2 ≤ q.2)
theorem sortD_pairs {l l' : List (Int × Int)} (hp : l'.Perm l) (hs : l'.Pairwise lexP) : sortD (l.map pE2) = l'.map pE2 := by
  have e1 : sortD (l.map pE2) = (l.mergeSort (PySem.W.dataLe false fun b => py (pE2 b))).map pE2 := by
    unfold sortD
    exact (PySem.W.sort_maps (r := PySem.W.dataLe false fun b => py (pE2 b)) (s := PySem.W.dataLe false py) pE2 (fun a _ b _ => rfl)).symm
  rw [e1]
  congr 1
  have e2 : (PySem.W.dataLe false fun b => py (pE2 b)) = fun p q : Int × Int => decide (p.1 < q.1 ∨ (p.1 = q.1 ∧ p.2 ≤ q.2)) := PySem.W.dataLe_ii (fun p : Int × Int => p.1) (fun p => p.2)
  rw [e2]
  refine List.Perm.eq_of_pairwise (le := lexP) (fun a b _ _ x y => ?_) ?_ hs ((List.mergeSort_perm _ _).trans hp.symm)
  · unfold lexP at x y
    have h1 : a.1 = b.1 := by omega
    have h2 : a.2 = b.2 := by omega
    exact Prod.ext h1 h2
  · refine (List.pairwise_mergeSort (fun a b c x y => ?_) (fun a b => ?_) l).imp fun {a b} x => of_decide_eq_true x
    · have x := of_decide_eq_true x
      have y := of_decide_eq_true y
      exact decide_eq_true (by omega)
    · rw [Bool.or_eq_true, decide_eq_true_eq, decide_eq_true_eq]
      omega
theorem srt_pairs {l : List (Int × Int)} (hl : l.length ≤ 100000) : srtOk (l.map pE2) = true := by
  unfold srtOk
  have h1 : unL (l.map pE2) = true := unL_map (fun _ => rfl) _
  have h2 : cmpAll (l.map pE2) = true := by
    unfold cmpAll
    rw [List.all_eq_true]
    intro x hx
    obtain ⟨p, _, rfl⟩ := List.mem_map.mp hx
    simp only [Bool.and_eq_true, Bool.not_eq_true', List.all_eq_true]
    refine ⟨⟨rfl, rfl⟩, fun y hy => ?_⟩
    obtain ⟨q, _, rfl⟩ := List.mem_map.mp hy
    rfl
  have h3 : (l.map pE2).all tupD = true := by
    rw [List.all_eq_true]
    intro x hx
    obtain ⟨p, _, rfl⟩ := List.mem_map.mp hx
    rfl
  rw [h1, h2, h3, decide_eq_true (by rw [List.length_map]; exact sz_le hl)]
  rfl
section
variable {Q : D → Prop} {i j : Int} {a b d r : D} {ds es : List D} {o o2 o3 : Bool} {α β γ : Type}
theorem zp_sortP {l l' : List (Int × Int)} (hl : l.length ≤ 100000) (hp : l'.Perm l) (hs : l'.Pairwise lexP) (h : Q (.lst true (l'.map pE2))) : zp .sorted1 [.lst o (l.map pE2)] Q := by
  cases l with
  | nil =>
    have := hp.eq_nil
    subst this
    exact zp_of (r := .lst true []) (by simp [prF, dInts]) h
  | cons p l =>
    refine zp_of (r := .lst true (l'.map pE2)) ?_ h
    have e1 : dInts ((p :: l).map pE2) = none := rfl
    simp only [prF, e1, srt_pairs hl, if_true, sortD_pairs hp hs]
/-! ### signs -/
theorem sgn_ok {c : Nat} (h : c < 1114112) (n : Nat) : dep n (sgn c) = true := by
  show PyData.strOk ⟨#[c]⟩ = true
  rw [strOk_iff]
  intro x hx
  simp only [List.mem_singleton] at hx
  omega
theorem zp_eqSgn {c d : Nat} (hc : c < 1114112) (hd : d < 1114112) (h : Q (.bl (decide (c = d)))) : zp .eq [sgn c, sgn d] Q := zp_eqE (by
  unfold eqF eqOk
  rw [sgn_ok hc, sgn_ok hd]
  show some (PyData.eqv (.str ⟨#[c]⟩) (.str ⟨#[d]⟩)) = _
  congr 1
  show ((⟨#[c]⟩ : Str) == ⟨#[d]⟩) = _
  by_cases h : c = d
  · subst h; simp
  · simp [h]) h
theorem zp_neSgn {c d : Nat} (hc : c < 1114112) (hd : d < 1114112) (h : Q (.bl (!decide (c = d)))) : zp .ne [sgn c, sgn d] Q := zp_neE (by
  unfold eqF eqOk
  rw [sgn_ok hc, sgn_ok hd]
  show some (PyData.eqv (.str ⟨#[c]⟩) (.str ⟨#[d]⟩)) = some (decide (c = d))
  congr 1
  show ((⟨#[c]⟩ : Str) == ⟨#[d]⟩) = _
  by_cases h : c = d
  · subst h; simp
  · simp [h]) h
theorem zx_str {s : Str} {k : Nat} (hz : s.length ≤ 100000) (hk : k < s.length) (h : Q (sgn (s.cps.getD k 0))) : zx (.str s) (.int (k : Int)) Q := zx_of (by
  simp only [idxF, szOk_le hz, if_true]
  have hl : s.cps.toList.length = s.length := Array.length_toList
  rw [hl, ixD_nat hk]
  have hk2 : k < s.cps.size := hk
  simp only [Option.bind_some, Array.getElem?_toList, Array.getElem?_eq_getElem hk2, Option.map_some]
  simp [sgn, Array.getD, hk2]) h
end
end Sk
namespace Sk
open PySem PySem.Spec PyProof.Rows L2
theorem zit_enumS {z : Str} {Q : List D → Prop} (h : Q ((z.cps.toList.zipIdx 0).map fun y => .tup [.int (y.2 : Int), sgn y.1])) : zit .enum [.str z] Q := zit_of (by
  show some (enumL 0 (z.cps.toList.map sgn)) = _
  rw [enumL_map]) h
theorem zp_lenS {s : Str} {Q : D → Prop} (hz : s.length ≤ 100000 := by first | with_reducible assumption | omega) (h : Q (.int (s.length : Int))) : zp .len [.str s] Q := zp_of (by simp [prF, szOk_le hz]) h
theorem zp_revS {s : Str} {Q : D → Prop} (hz : s.length ≤ 100000 := by first | with_reducible assumption | omega) (h : Q (.str (revS s))) : zp .rev [.str s] Q := zp_of (by simp [prF, szOk_le hz]) h
theorem filter_range_succ {p : Nat → Bool} {n : Nat} : (List.range (n + 1)).filter p = (List.range n).filter p ++ if p n then [n] else [] := by
  rw [List.range_succ, List.filter_append]
  cases h : p n <;> simp [h]
theorem zupd_ins {i : Int} {x : D} {ds : List D} {Q : D → D → Prop} (h0 : 0 ≤ i := by first | with_reducible assumption | omega) (h1 : i ≤ 1000000 := by first | with_reducible assumption | omega) (hl : ds.length < sizeLine := by first | with_reducible assumption | decide | (simp <;> fail)) (h : Q .non (.lst true (ds.take i.toNat ++ [x] ++ ds.drop i.toNat))) : zupd (mmF .insert [.int i, x]) [] (.lst true ds) Q := by
  unfold zupd
  refine ⟨_, _, ?_, h⟩
  have c : (decide (ds.length < sizeLine) && decide (0 ≤ i ∧ i < 2 ^ 63)) = true := by
    rw [decide_eq_true hl, decide_eq_true (show 0 ≤ i ∧ i < 2 ^ 63 by omega)]
    rfl
  simp only [updP, mmF, c, if_true]
theorem evSs_app {Φ : Tab} : ∀ (a b : List Sm) (Γ : Gm), evSs Φ (a ++ b) Γ = (evSs Φ a Γ).bind fun x => match x with | .nx Γ' => evSs Φ b Γ' | x => some x
  | [], b, Γ => by simp only [List.nil_append, evSs, Option.bind_some]
  | x :: a, b, Γ => by
    rw [List.cons_append, evSs, evSs]
    cases evS Φ x Γ with
    | none => rfl
    | some r =>
      cases r with
      | nx Γ' => exact evSs_app a b Γ'
      | rt d Γ' => rfl
      | bk Γ' => rfl
      | ct Γ' => rfl
theorem zss_app {Φ : Tab} {a b : List Sm} {Γ : Gm} {Q : R → Prop} (h : zss Φ a Γ fun r => znx r (fun Γ' => zss Φ b Γ' Q) Q) : zss Φ (a ++ b) Γ Q := by
  unfold zss at *
  obtain ⟨r, e, h⟩ := h
  unfold znx at h
  cases r with
  | nx Γ' =>
    obtain ⟨r2, e2, h⟩ := h
    exact ⟨r2, by rw [evSs_app, e]; exact e2, h⟩
  | rt d Γ' => exact ⟨_, by rw [evSs_app, e]; rfl, h⟩
  | bk Γ' => exact ⟨_, by rw [evSs_app, e]; rfl, h⟩
  | ct Γ' => exact ⟨_, by rw [evSs_app, e]; rfl, h⟩
/-- a def whose answer is told by what holds of it -/
theorem fn_q {Φ : Tab} {N : List Str} {body : List Sm} {ds : List D} {P : D → Prop} {Γ0 : Gm} (h : ds.length ≤ N.length) (h0 : pad ds N = Γ0) (e : zss Φ body Γ0 fun r => ∃ d Γ, r = .rt d Γ ∧ P d) : ∃ d, evF Φ N.length 0 body ds = some (d, []) ∧ P d := by
  unfold zss at e
  obtain ⟨r, e, d, Γ, rfl, hP⟩ := e
  exact ⟨d, H.evF_rt h ((pad_eq ds N h).trans h0) e, hP⟩
theorem zp_revT {ds : List D} {Q : D → Prop} (u : unL ds = true := by first | rfl | with_reducible assumption | exact unL_mapU (fun _ => rfl) _ | exact unL_mapU (by intro _; exact unL_map_int _) _ | (simp [un, unL, unL_map_int, unL_app, *] <;> fail)) (h : Q (.tup ds.reverse)) : zp .rev [.tup ds] Q := zp_of (by simp only [prF, u, if_true]) h
end Sk

namespace Sk
open PySem PySem.Spec PyProof.Rows L2
/-! ### a comprehension in two steps -/
def stepD (Φ : Tab) (t : T) (cond : List E) (elt : E) (own own2 : List Nat) (d : D) (Γ : Gm) : Option (List D × Gm) :=
  (asgT t d Γ).bind fun Γ => (evCond Φ cond Γ).bind fun (b, Γ) => if b then (ev Φ elt .val Γ).bind fun (r, Γ) => if hideOk Γ own then some ([r], wipeG Γ own2) else none else if hideOk Γ own then some ([], wipeG Γ own2) else none
def stepE (Φ : Tab) (t : T) (cond : List E) (t2 : T) (k2 : Ik) (src2 cond2 : List E) (elt : E) (own own2 : List Nat) (d : D) (Γ : Gm) : Option (List D × Gm) :=
  (asgT t d Γ).bind fun Γ => (evCond Φ cond Γ).bind fun (b, Γ) => if b then
      (evOs Φ src2 Γ).bind fun (ds2, Γ) => (itF k2 ds2).bind fun items2 => if hideOk Γ own && (unL ds2 || (purL cond2 && pur elt)) then
        (compL (stepD Φ t2 cond2 elt own own2) items2 (wipeG Γ own2)).bind fun (rs, Γ) => some (rs, wipeG Γ own)
      else none
    else if hideOk Γ own then some ([], wipeG Γ own) else none
theorem comp2_ev {Φ : Tab} {Γ Γ1 Γ2 : Gm} {t t2 : T} {k k2 : Ik} {src cond src2 cond2 : List E} {elt : E} {own own2 : List Nat} {m : Md} {ds items rs : List D} (h1 : evOs Φ src Γ = some (ds, Γ1)) (h2 : itF k ds = some items) (h3 : hideOk Γ1 own = true) (h4 : (unL ds || (purL cond && purL src2 && purL cond2 && pur elt)) = true)
    (h5 : tIn own t = true) (h6 : tIn own2 t2 = true) (h7 : own2.all own.contains = true) (h8 : compL (stepE Φ t cond t2 k2 src2 cond2 elt own own2) items (wipeG Γ1 own) = some (rs, Γ2)) (h9 : rs.length ≤ sizeLine) : ev Φ (.comp2 t k src cond t2 k2 src2 cond2 elt own own2) m Γ = some (fin m (.lst true rs, backG Γ1 Γ2 own)) := by
  rw [ev, h1]
  simp only [Option.bind_some, h2]
  rw [if_pos (by rw [h3, h4, h5, h6, h7]; rfl)]
  have e := h8
  unfold stepE stepD at e
  simp only [e, Option.bind_some]
  rw [if_pos h9]
@[irreducible] def zst2 (Φ : Tab) (t : T) (cond : List E) (elt : E) (own own2 : List Nat) (d : D) (Γ : Gm) (Q : List D → Gm → Prop) : Prop := ∃ rs Γ', stepD Φ t cond elt own own2 d Γ = some (rs, Γ') ∧ Q rs Γ'
theorem zst2_n {Φ : Tab} {t : T} {elt : E} {own own2 : List Nat} {d : D} {Γ : Gm} {Q : List D → Gm → Prop} (h : zasg t d Γ fun Γ1 => ze Φ elt .val Γ1 fun r Γ3 => zr (hideOk Γ3 own = true) (zwipe Γ3 own2 fun Γ4 => Q [r] Γ4)) : zst2 Φ t [] elt own own2 d Γ Q := by
  unfold zasg at h; unfold zst2
  obtain ⟨Γ1, e1, h⟩ := h
  unfold ze zr zwipe at h
  obtain ⟨r, Γ3, e4, e5, h⟩ := h
  exact ⟨_, _, by simp only [stepD, e1, evCond, e4, e5, Option.bind_some, if_true], h⟩
theorem zst2_c {Φ : Tab} {t : T} {c elt : E} {own own2 : List Nat} {d : D} {Γ : Gm} {Q : List D → Gm → Prop} (h : zasg t d Γ fun Γ1 => ztA Φ c Γ1 fun b => ze Φ elt .val Γ1 fun r Γ3 => zr (Γ3 = Γ1) (zr (hideOk Γ1 own = true) (zwipe Γ1 own2 fun Γ4 => Q (if b then [r] else []) Γ4))) : zst2 Φ t [c] elt own own2 d Γ Q := by
  unfold zasg at h; unfold zst2
  obtain ⟨Γ1, e1, h⟩ := h
  unfold ztA at h
  obtain ⟨x, b, e2, e3, h⟩ := h
  unfold ze zr zwipe at h
  obtain ⟨r, Γ3, e4, rfl, e5, h⟩ := h
  have ec : evCond Φ [c] Γ3 = some (b, Γ3) := by simp only [evCond, e2, e3, Option.bind_some, Option.map_some]
  cases b with
  | true => exact ⟨[r], wipeG Γ3 own2, by simp only [stepD, e1, ec, e4, e5, Option.bind_some, if_true], by simpa using h⟩
  | false => exact ⟨[], wipeG Γ3 own2, by simp only [stepD, e1, ec, e5, Option.bind_some, if_true, Bool.false_eq_true, if_false], by simpa using h⟩
theorem ze_comp2 {α β : Type} {Φ : Tab} {Γ : Gm} {m : Md} {Q : D → Gm → Prop} {t t2 : T} {k k2 : Ik} {src src2 cond2 : List E} {elt : E} {own own2 : List Nat} {xs : List α} {enc : α → D} (ys : α → List β) (enc2 : α → β → D) (g : α → β → List D)
    (hsrc : zOs Φ src Γ fun ds Γ1 => zr (Γ1 = Γ) (zr ((unL ds || (purL src2 && purL cond2 && pur elt)) = true) (zit k ds fun is => is = xs.map enc)))
    (hh : hideOk Γ own = true := by first | rfl | (simp [hideOk, un, unL, unL_map_int, unL_mapU, *] <;> fail)) (ht : (tIn own t && tIn own2 t2 && own2.all own.contains) = true := by first | rfl | decide)
    (hl : (xs.flatMap fun x => (ys x).flatMap (g x)).length ≤ 100000)
    (hs : ∀ x ∈ xs, zasg t (enc x) (wipeG Γ own) fun Γ1 => zOs Φ src2 Γ1 fun ds2 Γ2 => zr (Γ2 = Γ1) (zr (hideOk Γ1 own = true) (zr ((unL ds2 || (purL cond2 && pur elt)) = true) (zit k2 ds2 fun is2 => is2 = (ys x).map (enc2 x) ∧ wipeG (wipeG Γ1 own2) own = wipeG Γ own ∧ ∀ y ∈ ys x, zst2 Φ t2 cond2 elt own own2 (enc2 x y) (wipeG Γ1 own2) fun rs Γ' => rs = g x y ∧ Γ' = wipeG Γ1 own2))))
    (hb : backG Γ (wipeG Γ own) own = Γ := by first | rfl | (simp [backG, wipeG] <;> fail)) (h : zfin m (.lst true (xs.flatMap fun x => (ys x).flatMap (g x))) fun d => Q d Γ) : ze Φ (.comp2 t k src [] t2 k2 src2 cond2 elt own own2) m Γ Q := by
  unfold zOs zr at hsrc
  obtain ⟨ds, Γ1, e1, rfl, hp, hit⟩ := hsrc
  obtain ⟨is, e2, rfl⟩ := zit_elim hit
  simp only [Bool.and_eq_true] at ht
  have ec : compL (stepE Φ t [] t2 k2 src2 cond2 elt own own2) (xs.map enc) (wipeG Γ1 own) = some (xs.flatMap fun x => (ys x).flatMap (g x), wipeG Γ1 own) := by
    refine compL_map fun x hx => ?_
    have := hs x hx
    unfold zasg at this
    obtain ⟨Γ2, a1, this⟩ := this
    unfold zOs zr at this
    obtain ⟨ds2, Γ3, a2, rfl, a3, a4, a5⟩ := this
    obtain ⟨is2, a6, rfl, a7, a8⟩ := zit_elim a5
    have ei : compL (stepD Φ t2 cond2 elt own own2) ((ys x).map (enc2 x)) (wipeG Γ3 own2) = some ((ys x).flatMap (g x), wipeG Γ3 own2) := by
      refine compL_map fun y hy => ?_
      have := a8 y hy
      unfold zst2 at this
      obtain ⟨rs, Γ', b1, rfl, rfl⟩ := this
      exact b1
    simp only [stepE, a1, evCond, a2, a6, a3, a4, ei, a7, Option.bind_some, Bool.and_self, if_true]
  have e9 := comp2_ev (m := m) e1 e2 hh (by simpa [purL] using hp) ht.1.1 ht.1.2 ht.2 ec (sz_le hl)
  rw [hb] at e9
  unfold ze; unfold zfin at h
  exact ⟨_, _, e9.trans (by rw [fin_eq]), h⟩
/-! ### what other laws wrote before -/
theorem zbox_of {Φ : Tab} {Γ : Gm} {Q : D → Gm → Prop} {i : Nat} {bx : D} {f : Str} {φ : Fn} {ds : List D} {P : D → D → Prop} (hf : Φ f = some (1 + ds.length, 1, φ)) (hg : getS Γ i = some bx) (hu : unL ds = true) (hφ : ∃ d x, φ (bx :: ds) = some (d, [x]) ∧ P d x)
    (h : ∀ d x, P d x → zset Γ i (some x) fun Γ' => Q d Γ') : zbox Φ f i ds Γ Q := by
  obtain ⟨d, x, e, hp⟩ := hφ
  have := h d x hp
  unfold zset at this
  unfold zbox
  exact ⟨bx, d, x, φ, hg, hf, e, hu, this⟩
theorem zcio2 {Φ : Tab} {Γ : Gm} {m : Md} {Q : D → Gm → Prop} {i : Nat} {bx : D} {f : Str} {φ : Fn} {es : List E} {ds ds' : List D} {P : D → D → Prop} (hp : purL es = true) (hf : Φ f = some (1 + ds.length, 1, φ)) (hg : getS Γ i = some bx) (h1 : zOs Φ es Γ fun d Γ' => d = ds) (hu : unL ds = false) (h2 : zOs Φ es (Γ.set i none) fun d Γ' => d = ds)
    (hz : frzL ds = ds') (hφ : ∃ d x, φ (bx :: ds') = some (d, [x]) ∧ P d x) (hal : ∀ d x, P d x → al d = true ∧ al x = true) (h : ∀ d x, P d x → zset Γ i (some x) fun Γ' => zfin m d fun d => Q d Γ') : ze Φ (.cio f [i] es) m Γ Q := by
  obtain ⟨d, x, e, hP⟩ := hφ
  have hh := h d x hP
  obtain ⟨a1, a2⟩ := hal d x hP
  unfold zOs at h1 h2
  obtain ⟨_, Γ1, e1, rfl⟩ := h1
  obtain ⟨_, Γ2, e2, e2'⟩ := h2
  subst e2'
  unfold zset zfin at hh
  unfold ze
  subst hz
  refine ⟨_, _, ?_, hh⟩
  have hg3 : getSs Γ [i] = some [bx] := by simp [getSs, hg]
  simp [ev, hg3, e1, e2, hf, hu, hp, clr, e, a1, a2, alL, setSs, fin_eq]
theorem dStrs_map : ∀ l : List Str, dStrs (l.map D.str) = some l
  | [] => rfl
  | c :: r => by
    show (dStrs (r.map D.str)).map _ = _
    rw [dStrs_map r]
    rfl
theorem zp_joinT {a : Str} {l : List Str} {o : Bool} {Q : D → Prop} (h1 : (l.map (·.length)).sum ≤ 100000) (h2 : l.length ≤ 1000) (h3 : a.length ≤ 1000) (h : Q (.str (Txt.join a l))) : zp .join [.str a, .lst o (l.map .str)] Q := zp_of (by
  have e : joinOk a l = true := by
    unfold joinOk
    have : l.length * a.length ≤ 1000 * 1000 := Nat.mul_le_mul h2 h3
    exact decide_eq_true (by omega)
  simp only [prF, dStrs_map, Option.bind_some, e, if_true]) h
theorem zp_addX {a b : Str} {Q : D → Prop} (hl : a.length + b.length ≤ 100000) (h : Q (.str (a ++ b))) : zp .add [.str a, .str b] Q := zp_of (by simp [prF, szOk_le hl]) h
theorem zp_repT {a : Str} {j : Int} {Q : D → Prop} (h0 : 0 ≤ j) (h1 : j ≤ 1000) (h2 : a.length ≤ 10) (h : Q (.str (repS a j.toNat))) : zp .mul [.str a, .int j] Q := zp_of (by
  have h3 : a.length * j.toNat ≤ 10 * 1000 := Nat.mul_le_mul h2 (by omega)
  have c : (decide (-(2 ^ 63) ≤ j ∧ j < 2 ^ 63) && szOk (a.length * j.toNat)) = true := by
    rw [szOk_le (by omega), decide_eq_true (by omega)]
    rfl
  simp only [prF, c, if_true]) h
@[simp] theorem unL_strs (rs : List Str) : unL (rs.map D.str) = true := unL_mapU (fun _ => rfl) _
@[simp] theorem frzL_strs (rs : List Str) : frzL (rs.map D.str) = rs.map D.str := frzL_un _ (unL_strs rs)
theorem join_sgn : ∀ cs : List Nat, Txt.join (Str.ofString "") (cs.map fun c => (⟨#[c]⟩ : Str)) = ⟨cs.toArray⟩ := by
  intro cs
  show Builtin.Str.glued _ _ = _
  rw [StrLaws.glued_eq_join]
  induction cs with
  | nil => rfl
  | cons c r ih =>
    cases r with
    | nil => rfl
    | cons d r =>
      rw [List.map_cons] at ih ⊢
      rw [List.map_cons]
      show (⟨#[c]⟩ : Str) ++ Str.ofString "" ++ _ = _
      rw [ih]
      show (⟨(#[c] ++ #[]) ++ (d :: r).toArray⟩ : Str) = _
      simp
theorem dStrs_sgn : ∀ cs : List Nat, dStrs (cs.map sgn) = some (cs.map fun c => (⟨#[c]⟩ : Str))
  | [] => rfl
  | c :: r => by
    rw [List.map_cons]
    show (dStrs (r.map sgn)).map _ = _
    rw [dStrs_sgn r]
    rfl
theorem zp_joinS {cs : List Nat} {o : Bool} {Q : D → Prop} (hl : cs.length ≤ 100000) (h : Q (.str ⟨cs.toArray⟩)) : zp .join [.str "", .lst o (cs.map sgn)] Q := zp_of (by
  have e : joinOk (Str.ofString "") (cs.map fun c => (⟨#[c]⟩ : Str)) = true := by
    unfold joinOk
    refine decide_eq_true ?_
    have e1 : ((cs.map fun c => (⟨#[c]⟩ : Str)).map (·.length)).sum = cs.length := by
      rw [List.map_map]
      clear hl h
      induction cs with
      | nil => rfl
      | cons c r ih =>
        rw [List.map_cons, List.sum_cons, ih, List.length_cons]
        show 1 + r.length = _
        omega
    rw [e1, show (Str.ofString "").length = 0 by decide]
    omega
  simp only [prF, dStrs_sgn, Option.bind_some, e, if_true, join_sgn]) h
theorem zp_repI {x j : Int} {o : Bool} {Q : D → Prop} (h0 : 0 ≤ j) (h1 : j ≤ 10000) (h : Q (.lst true ((List.replicate j.toNat x).map .int))) : zp .mul [.lst o [.int x], .int j] Q := zp_of (by
  have e : (List.replicate j.toNat [D.int x]).flatten = (List.replicate j.toNat x).map .int := by
    generalize j.toNat = m
    induction m with
    | zero => rfl
    | succ m ih => rw [List.replicate_succ, List.flatten_cons, ih, List.replicate_succ]; rfl
  have c : (unL [D.int x] && decide (-(2 ^ 63) ≤ j ∧ j < 2 ^ 63) && szOk ([D.int x].length * j.toNat)) = true := by
    rw [szOk_le (by simp; omega)]
    simp [unL, un]
    omega
  simp only [prF, c, if_true, e]) h
theorem getD_app {l : List Int} {d : Int} {k : Nat} : (l ++ [d]).getD k 0 = if k < l.length then l.getD k 0 else if k = l.length then d else 0 := by
  simp only [List.getD_eq_getElem?_getD, List.getElem?_append]
  split
  · rfl
  · split
    · rename_i h; subst h; simp
    · rename_i h1 h2
      have : ¬ k - l.length < 1 := by omega
      rw [List.getElem?_eq_none (by simp; omega)]; rfl
end Sk

namespace Sk
open PySem PySem.Spec PyProof.Rows L2
abbrev eS (s : List Int) : D := .tup (s.map .int)
section
variable {α : Type} {enc : α → D} {lt : α → α → Prop} [DecidableRel lt]
theorem least_go (h : ∀ x y, PySem.W.dataLt (py (enc x)) (py (enc y)) = decide (lt x y)) (irr : ∀ x, ¬ lt x x) (tr : ∀ x y z, lt x y → lt y z → lt x z) : ∀ (xs ys : List α) (a : α), a ∈ ys → (∀ y ∈ ys, ¬ lt y a) → ∃ m, m ∈ ys ++ xs ∧ (xs.map enc).foldl (fun a y => if PySem.W.dataLt (py y) (py a) then y else a) (enc a) = enc m ∧ ∀ x ∈ ys ++ xs, ¬ lt x m
  | [], ys, a, ha, hm => ⟨a, by simpa using ha, rfl, by simpa using hm⟩
  | x :: xs, ys, a, ha, hm => by
    rw [List.map_cons, List.foldl_cons, h]
    by_cases z : lt x a
    · rw [if_pos (decide_eq_true z)]
      obtain ⟨m, m1, m2, m3⟩ := least_go h irr tr xs (ys ++ [x]) x (by simp) (fun y hy => by
        rcases List.mem_append.mp hy with q | q
        · exact fun w => hm y q (tr _ _ _ w z)
        · rw [List.mem_singleton] at q
          rw [q]
          exact irr x)
      exact ⟨m, by simpa using m1, m2, by simpa using m3⟩
    · rw [if_neg (by simpa using z)]
      obtain ⟨m, m1, m2, m3⟩ := least_go h irr tr xs (ys ++ [x]) a (by simp [ha]) (fun y hy => by
        rcases List.mem_append.mp hy with q | q
        · exact hm y q
        · rw [List.mem_singleton] at q
          rw [q]
          exact z)
      exact ⟨m, by simpa using m1, m2, by simpa using m3⟩
theorem leastD_spec (h : ∀ x y, PySem.W.dataLt (py (enc x)) (py (enc y)) = decide (lt x y)) (irr : ∀ x, ¬ lt x x) (tr : ∀ x y z, lt x y → lt y z → lt x z) {xs : List α} (ne : xs ≠ []) : ∃ m, m ∈ xs ∧ leastD (xs.map enc) = some (enc m) ∧ ∀ x ∈ xs, ¬ lt x m := by
  cases xs with
  | nil => exact absurd rfl ne
  | cons x xs =>
    obtain ⟨m, m1, m2, m3⟩ := least_go h irr tr xs [x] x (by simp) (fun y hy => by rw [List.mem_singleton] at hy; rw [hy]; exact irr x)
    exact ⟨m, by simpa using m1, by show some _ = _; rw [m2], by simpa using m3⟩
theorem most_go (h : ∀ x y, PySem.W.dataLt (py (enc x)) (py (enc y)) = decide (lt x y)) (irr : ∀ x, ¬ lt x x) (tr : ∀ x y z, lt x y → lt y z → lt x z) : ∀ (xs ys : List α) (a : α), a ∈ ys → (∀ y ∈ ys, ¬ lt a y) → ∃ m, m ∈ ys ++ xs ∧ (xs.map enc).foldl (fun a y => if PySem.W.dataLt (py a) (py y) then y else a) (enc a) = enc m ∧ ∀ x ∈ ys ++ xs, ¬ lt m x
  | [], ys, a, ha, hm => ⟨a, by simpa using ha, rfl, by simpa using hm⟩
  | x :: xs, ys, a, ha, hm => by
    rw [List.map_cons, List.foldl_cons, h]
    by_cases z : lt a x
    · rw [if_pos (decide_eq_true z)]
      obtain ⟨m, m1, m2, m3⟩ := most_go h irr tr xs (ys ++ [x]) x (by simp) (fun y hy => by
        rcases List.mem_append.mp hy with q | q
        · exact fun w => hm y q (tr _ _ _ z w)
        · rw [List.mem_singleton] at q
          rw [q]
          exact irr x)
      exact ⟨m, by simpa using m1, m2, by simpa using m3⟩
    · rw [if_neg (by simpa using z)]
      obtain ⟨m, m1, m2, m3⟩ := most_go h irr tr xs (ys ++ [x]) a (by simp [ha]) (fun y hy => by
        rcases List.mem_append.mp hy with q | q
        · exact hm y q
        · rw [List.mem_singleton] at q
          rw [q]
          exact z)
      exact ⟨m, by simpa using m1, m2, by simpa using m3⟩
theorem mostD_spec (h : ∀ x y, PySem.W.dataLt (py (enc x)) (py (enc y)) = decide (lt x y)) (irr : ∀ x, ¬ lt x x) (tr : ∀ x y z, lt x y → lt y z → lt x z) {xs : List α} (ne : xs ≠ []) : ∃ m, m ∈ xs ∧ mostD (xs.map enc) = some (enc m) ∧ ∀ x ∈ xs, ¬ lt m x := by
  cases xs with
  | nil => exact absurd rfl ne
  | cons x xs =>
    obtain ⟨m, m1, m2, m3⟩ := most_go h irr tr xs [x] x (by simp) (fun y hy => by rw [List.mem_singleton] at hy; rw [hy]; exact irr x)
    exact ⟨m, by simpa using m1, by show some _ = _; rw [m2], by simpa using m3⟩
end
theorem cmp_map {α : Type} {enc : α → D} {xs : List α} (h1 : ∀ x, dep 60 (enc x) = true) (h2 : ∀ x, nonD (enc x) = false) (h3 : ∀ x y, PySem.W.alike (py (enc x)) (py (enc y)) = true) : cmpAll (xs.map enc) = true := by
  unfold cmpAll
  rw [List.all_eq_true]
  intro d hd
  obtain ⟨x, _, rfl⟩ := List.mem_map.mp hd
  rw [h1, h2]
  simp only [Bool.not_false, Bool.and_self, Bool.true_and, List.all_eq_true]
  intro e he
  obtain ⟨y, _, rfl⟩ := List.mem_map.mp he
  exact h3 x y
theorem zp_max1T {s : List Int} {Q : D → Prop} (ne : s ≠ []) (h : ∀ v, v ∈ s → (∀ x ∈ s, x ≤ v) → Q (.int v)) : zp .max1 [.tup (s.map .int)] Q := by
  obtain ⟨m, m1, m2, m3⟩ := mostD_spec (enc := D.int) (lt := fun x y : Int => x < y) (fun x y => PySem.W.dataLt_int x y) (fun x => by omega) (fun x y z h g => by omega) ne
  refine zp_of (r := .int m) ?_ (h m m1 fun x hx => by have := m3 x hx; omega)
  have c : (unL (s.map D.int) && cmpAll (s.map D.int)) = true := by
    rw [unL_map_int, cmp_map (fun _ => rfl) (fun _ => rfl) (fun _ _ => rfl)]
    rfl
  simp only [prF, c, if_true, m2]
theorem pyL_int : ∀ l : List Int, pyL (l.map D.int) = l.map PyData.int
  | [] => rfl
  | x :: l => by rw [List.map_cons, pyL, pyL_int l]; rfl
theorem lt_eS (x y : List Int) : PySem.W.dataLt (py (eS x)) (py (eS y)) = decide (x < y) := by
  rw [show py (eS x) = .tuple (x.map .int) by rw [py, pyL_int], show py (eS y) = .tuple (y.map .int) by rw [py, pyL_int]]
  rw [PySem.W.dataLt_tuple]
  exact PySem.W.dataLt_ints x y
theorem eqv_ints : ∀ x y : List Int, PyData.eqvAll (x.map .int) (y.map .int) = decide (x = y)
  | [], [] => rfl
  | [], y :: ys => rfl
  | x :: xs, [] => rfl
  | x :: xs, y :: ys => by
    have ih := eqv_ints xs ys
    show ((x == y) && PyData.eqvAll (xs.map .int) (ys.map .int)) = _
    rw [ih]
    by_cases h : x = y <;> by_cases g : xs = ys <;> simp [h, g]
theorem alikeL : ∀ x y : List Int, PySem.W.alikeAll (x.map .int) (y.map .int) = true
  | [], [] => by simp [PySem.W.alikeAll]
  | [], y :: ys => by simp [PySem.W.alikeAll]
  | x :: xs, [] => by simp [PySem.W.alikeAll]
  | x :: xs, y :: ys => by
    have ih := alikeL xs ys
    simp [PySem.W.alikeAll, PySem.W.alike, ih]
theorem alikeT (x y : List Int) : PySem.W.alike (.tuple (x.map .int)) (.tuple (y.map .int)) = true := by
  rw [PySem.W.alike]
  exact alikeL x y
theorem pyS (z : List Int) : py (eS z) = .tuple (z.map .int) := by rw [py, pyL_int]
theorem sortD_ints (l : List Int) : sortD (l.map .int) = (l.mergeSort fun a b => decide (a ≤ b)).map .int := by
  unfold sortD
  refine (PySem.W.sort_maps (r := fun a b : Int => decide (a ≤ b)) (s := PySem.W.dataLe false py) D.int (fun a _ b _ => ?_)).symm
  show decide (a ≤ b) = !PySem.W.dataLt (.int b) (.int a)
  rw [PySem.W.dataLt_int]
  by_cases h : a ≤ b
  · simp [h]
  · have : b < a := by omega
    simp [h, this]
theorem zp_sortT {l : List Int} (hl : l.length ≤ 100000) {Q : D → Prop} (h : Q (.lst true ((l.mergeSort fun a b => decide (a ≤ b)).map .int))) : zp .sorted1 [.tup (l.map .int)] Q := zp_of (r := .lst true ((l.mergeSort fun a b => decide (a ≤ b)).map .int)) (by
  have c : srtOk (l.map D.int) = true := by
    unfold srtOk
    have h3 : (l.map D.int).all notTup = true := by
      rw [List.all_eq_true]
      intro x hx
      obtain ⟨p, _, rfl⟩ := List.mem_map.mp hx
      rfl
    rw [unL_map_int, cmp_map (fun _ => rfl) (fun _ => rfl) (fun _ _ => rfl), h3, decide_eq_true (by rw [List.length_map]; exact sz_le hl)]
    simp
  simp only [prF, c, if_true, sortD_ints]) h
theorem sorted_fix {l : List Int} : l = (l.mergeSort fun a b => decide (a ≤ b)) ↔ l.Pairwise (· ≤ ·) := by
  have hp : (l.mergeSort fun a b => decide (a ≤ b)).Pairwise (· ≤ ·) := (List.pairwise_mergeSort (fun a b c x y => by
      have x := of_decide_eq_true x
      have y := of_decide_eq_true y
      exact decide_eq_true (by omega)) (fun a b => by
      rw [Bool.or_eq_true, decide_eq_true_eq, decide_eq_true_eq]
      omega) l).imp fun {a b} x => of_decide_eq_true x
  constructor
  · intro h
    rw [h]
    exact hp
  · intro h
    exact List.Perm.eq_of_pairwise (le := fun a b : Int => a ≤ b) (fun a b _ _ x y => by omega) h hp (List.mergeSort_perm _ _).symm

section
variable {α : Type} {enc : α → D} {lt : α → α → Prop} [DecidableRel lt]
/-- the least of some data -/
theorem zp_min1G {o : Bool} {xs : List α} {Q : D → Prop} (ne : xs ≠ []) (hi : dInts (xs.map enc) = none) (hu : ∀ x, un (enc x) = true) (h1 : ∀ x, dep 60 (enc x) = true) (h2 : ∀ x, nonD (enc x) = false) (h3 : ∀ x y, PySem.W.alike (py (enc x)) (py (enc y)) = true) (h : ∀ x y, PySem.W.dataLt (py (enc x)) (py (enc y)) = decide (lt x y)) (irr : ∀ x, ¬ lt x x) (tr : ∀ x y z, lt x y → lt y z → lt x z) (hQ : ∀ m, m ∈ xs → (∀ x ∈ xs, ¬ lt x m) → Q (enc m)) : zp .min1 [.lst o (xs.map enc)] Q := by
  obtain ⟨m, m1, m2, m3⟩ := leastD_spec (enc := enc) h irr tr ne
  refine zp_of (r := enc m) ?_ (hQ m m1 m3)
  have c : (unL (xs.map enc) && cmpAll (xs.map enc)) = true := by
    rw [unL_mapU hu, cmp_map h1 h2 h3]; rfl
  simp only [prF, hi, c, if_true, m2]
theorem zp_max1G {o : Bool} {xs : List α} {Q : D → Prop} (ne : xs ≠ []) (hi : dInts (xs.map enc) = none) (hu : ∀ x, un (enc x) = true) (h1 : ∀ x, dep 60 (enc x) = true) (h2 : ∀ x, nonD (enc x) = false) (h3 : ∀ x y, PySem.W.alike (py (enc x)) (py (enc y)) = true) (h : ∀ x y, PySem.W.dataLt (py (enc x)) (py (enc y)) = decide (lt x y)) (irr : ∀ x, ¬ lt x x) (tr : ∀ x y z, lt x y → lt y z → lt x z) (hQ : ∀ m, m ∈ xs → (∀ x ∈ xs, ¬ lt m x) → Q (enc m)) : zp .max1 [.lst o (xs.map enc)] Q := by
  obtain ⟨m, m1, m2, m3⟩ := mostD_spec (enc := enc) h irr tr ne
  refine zp_of (r := enc m) ?_ (hQ m m1 m3)
  have c : (unL (xs.map enc) && cmpAll (xs.map enc)) = true := by
    rw [unL_mapU hu, cmp_map h1 h2 h3]; rfl
  simp only [prF, hi, c, if_true, m2]
end
/-- a number ahead of a tuple of numbers -/
abbrev pIS (p : Int × List Int) : D := .tup [.int p.1, eS p.2]
def ltIS (p q : Int × List Int) : Prop := p.1 < q.1 ∨ (p.1 = q.1 ∧ p.2 < q.2)
instance : DecidableRel ltIS := fun x y => by unfold ltIS; exact inferInstance
theorem lt_pIS (x y : Int × List Int) : PySem.W.dataLt (py (pIS x)) (py (pIS y)) = decide (ltIS x y) := by
  have e : ∀ z : Int × List Int, py (pIS z) = .tuple [.int z.1, .tuple (z.2.map .int)] := fun z => by
    show PyData.tuple [.int z.1, py (eS z.2)] = _
    rw [show py (eS z.2) = .tuple (z.2.map .int) by rw [py, pyL_int]]
  rw [e, e, PySem.W.dataLt_pair rfl (alikeT x.2 y.2)]
  have h1 : PyData.eqv (.int x.1) (.int y.1) = decide (x.1 = y.1) := by
    show (x.1 == y.1) = _
    by_cases h : x.1 = y.1 <;> simp [h]
  have h2 : PyData.eqv (.tuple (x.2.map .int)) (.tuple (y.2.map .int)) = decide (x.2 = y.2) := eqv_ints x.2 y.2
  have h3 := lt_eS x.2 y.2
  rw [show py (eS x.2) = .tuple (x.2.map .int) by rw [py, pyL_int], show py (eS y.2) = .tuple (y.2.map .int) by rw [py, pyL_int]] at h3
  rw [h1, h2, h3, PySem.W.dataLt_int]
  unfold ltIS
  by_cases a : x.1 = y.1
  · rw [if_pos (decide_eq_true a)]
    by_cases b : x.2 = y.2
    · have : ¬ x.2 < y.2 := by rw [b]; exact List.lt_irrefl y.2
      rw [if_pos (decide_eq_true b)]
      simp [a, this]
    · rw [if_neg (by simpa using b)]
      simp [a]
  · rw [if_neg (by simpa using a)]
    simp only [a, false_and, or_false]
theorem ltIS_irr (x : Int × List Int) : ¬ ltIS x x := fun h => by
  rcases h with h | ⟨_, h⟩
  · omega
  · exact List.lt_irrefl x.2 h
theorem ltIS_tr (x y z : Int × List Int) (h : ltIS x y) (g : ltIS y z) : ltIS x z := by
  unfold ltIS at *
  rcases h with h | ⟨h, h'⟩
  · rcases g with g | ⟨g, g'⟩
    · exact .inl (by omega)
    · exact .inl (by omega)
  · rcases g with g | ⟨g, g'⟩
    · exact .inl (by omega)
    · exact .inr ⟨by omega, List.lt_trans h' g'⟩
theorem ltIS_tri {x y : Int × List Int} (h : ¬ ltIS x y) (g : ¬ ltIS y x) : x = y := by
  unfold ltIS at *
  have e : x.1 = y.1 := by
    have h1 : ¬ x.1 < y.1 := fun z => h (.inl z)
    have h2 : ¬ y.1 < x.1 := fun z => g (.inl z)
    omega
  have e2 : x.2 = y.2 := List.le_antisymm (List.not_lt.mp fun z => g (.inr ⟨e.symm, z⟩)) (List.not_lt.mp fun z => h (.inr ⟨e, z⟩))
  exact Prod.ext e e2
/-- not less, one behind the other -/
theorem ltIS_le_tr {x y z : Int × List Int} (h : ¬ ltIS y x) (g : ¬ ltIS z y) : ¬ ltIS z x := fun c => by
  by_cases a : ltIS x y
  · exact g (ltIS_tr _ _ _ c a)
  · have e := ltIS_tri a h
    subst e
    exact g c
theorem alike_pIS (x y : Int × List Int) : PySem.W.alike (py (pIS x)) (py (pIS y)) = true := by
  have e : ∀ z : Int × List Int, py (pIS z) = .tuple [.int z.1, .tuple (z.2.map .int)] := fun z => by
    show PyData.tuple [.int z.1, py (eS z.2)] = _
    rw [pyS]
  rw [e, e]
  simp [PySem.W.alike, PySem.W.alikeAll, alikeL]
theorem dep_pIS (x : Int × List Int) : dep 60 (pIS x) = true := by
  rw [dep, depL, depL, depL]
  simp only [Bool.and_true, Bool.and_eq_true]
  exact ⟨rfl, dep_tup (depL_mapU (fun _ => rfl) _)⟩
@[simp] theorem un_eS (s : List Int) : un (eS s) = true := by simp [un, unL_map_int]
@[simp] theorem un_pIS (s : Int × List Int) : un (pIS s) = true := by simp [un, unL, unL_map_int]
@[simp] theorem unL_eS (l : List (List Int)) : unL (l.map eS) = true := unL_mapU un_eS l
@[simp] theorem frzL_eS (l : List (List Int)) : frzL (l.map eS) = l.map eS := frzL_un _ (unL_eS l)
@[simp] theorem unL_pIS (l : List (Int × List Int)) : unL (l.map pIS) = true := unL_mapU un_pIS l
@[simp] theorem frzL_pIS (l : List (Int × List Int)) : frzL (l.map pIS) = l.map pIS := frzL_un _ (unL_pIS l)
theorem zp_min1IS {o : Bool} {xs : List (Int × List Int)} {Q : D → Prop} (ne : xs ≠ []) (hQ : ∀ m, m ∈ xs → (∀ x ∈ xs, ¬ ltIS x m) → Q (pIS m)) : zp .min1 [.lst o (xs.map pIS)] Q :=
  zp_min1G (enc := pIS) (lt := ltIS) ne (by cases xs with | nil => exact absurd rfl ne | cons a l => rfl) un_pIS dep_pIS (fun _ => rfl) alike_pIS lt_pIS ltIS_irr ltIS_tr hQ
/-- told by what holds of it -/
def RtX (P : D → Prop) (r : R) : Prop := ∃ d Γ, r = .rt d Γ ∧ P d
theorem RtX.i {P : D → Prop} {d : D} {Γ : Gm} (h : P d) : RtX P (.rt d Γ) := ⟨d, Γ, rfl, h⟩
theorem fn_pX {Φ : Tab} {N : List Str} {body : List Sm} {ds : List D} {P : D → Prop} {Γ0 : Gm} (h : ds.length ≤ N.length) (h0 : pad ds N = Γ0) (e : zss Φ body Γ0 (RtX P)) : ∃ d, evF Φ N.length 0 body ds = some (d, []) ∧ P d := by
  have e2 : ∃ d, P d ∧ zss Φ body Γ0 (Rt d) := by
    unfold zss at *
    obtain ⟨r, e1, d, Γ, rfl, hp⟩ := e
    exact ⟨d, hp, _, e1, Γ, rfl⟩
  obtain ⟨d, hp, e2⟩ := e2
  exact ⟨d, fn_p h h0 e2, hp⟩
section
variable {α : Type} {l : List α} {f : α → D} {o o2 : Bool} {Q : D → Prop}
theorem zp_eqNil (hd : depL 59 (l.map f) = true := by first | exact depL_mapU (fun _ => rfl) _ | (simp [dep, depL, *] <;> fail)) (h : Q (.bl (decide (l = [])))) : zp .eq [.lst o (l.map f), .lst o2 []] Q := zp_eqE (c := decide (l = [])) (by
  rw [eqF_nil hd]
  cases l <;> rfl) h
theorem zp_neNil (hd : depL 59 (l.map f) = true := by first | exact depL_mapU (fun _ => rfl) _ | (simp [dep, depL, *] <;> fail)) (h : Q (.bl (decide (l ≠ [])))) : zp .ne [.lst o (l.map f), .lst o2 []] Q := zp_neE (c := decide (l = [])) (by
  rw [eqF_nil hd]
  cases l <;> rfl) (by simpa using h)
end
theorem dep59_pIS (x : Int × List Int) : dep 59 (pIS x) = true := by
  rw [dep, depL, depL, depL]
  simp only [Bool.and_true, Bool.and_eq_true]
  exact ⟨rfl, dep_tup (depL_mapU (fun _ => rfl) _)⟩
theorem cut_len {α : Type} (m : List α) (lo hi : Option Int) : (cutL m lo hi).length ≤ m.length := by
  unfold cutL
  rw [List.length_take, List.length_drop]
  omega
theorem zp_addI {a b : List Int} (h1 : a.length ≤ 1000) (h2 : b.length ≤ 1000) {Q : D → Prop} (h : Q (.tup ((a ++ b).map .int))) : zp .add [.tup (a.map .int), .tup (b.map .int)] Q := by
  refine zp_addT (u := unL_map_int _) (v := unL_map_int _) (z := by rw [List.length_map, List.length_map]; omega) (h := ?_)
  rw [← List.map_append]
  exact h
theorem zp_sumTI {ns : List Int} {Q : D → Prop} (h : Q (.int ns.sum)) : zp .sum [.tup (ns.map .int)] Q := zp_of (by simp only [prF, dInts_map, Option.map_some]) h
def U (x : Option D) : Prop := ∀ d, x = some d → un d = true
theorem U.n : U none := fun d h => nomatch h
theorem U.s {d : D} (h : un d = true) : U (some d) := fun e he => by cases he; exact h
theorem hideX {Γ : Gm} {v : Nat} {x : Option D} (h : Γ[v]? = some x) (hu : U x) : hideOk Γ [v] = true := by
  simp only [hideOk, List.all_cons, List.all_nil, Bool.and_true, h]
  cases x with
  | none => rfl
  | some d => exact hu d rfl
structure Pn (z : Str) : Prop where
  l : 1 ≤ z.length ∧ z.length ≤ 9
  c : PyData.strOk z = true
@[simp] theorem alL_ints (l : List Int) : alL (l.map D.int) = true := alL_mapU (f := D.int) (fun _ => rfl) l
@[simp] theorem alL_nats (l : List Nat) : alL (l.map fun k : Nat => D.int (k : Int)) = true := alL_mapU (fun _ => rfl) l
@[simp] theorem al_eS (s : List Int) : al (eS s) = true := alL_ints s
@[simp] theorem alL_eS (l : List (List Int)) : alL (l.map eS) = true := alL_mapU al_eS l
@[simp] theorem unL_nats (l : List Nat) : unL (l.map fun k : Nat => D.int (k : Int)) = true := unL_mapU (fun _ => rfl) l
@[simp] theorem frzL_nats (l : List Nat) : frzL (l.map fun k : Nat => D.int (k : Int)) = l.map fun k : Nat => D.int (k : Int) := frzL_un _ (unL_nats l)
end Sk

namespace Sk
open PySem PySem.Spec PyProof.Rows L2
/-! a method behind a path of one place; its operands may draw -/
@[irreducible] def zupdQ (f : D → Option (D × D)) (ps : List D) (x : D) (Q : D → D → Prop) : Prop := ∃ r x', updQ f ps x = some (r, x') ∧ Q r x'
theorem ze_mut1 {Φ : Tab} {Γ : Gm} {m : Md} {i : Nat} {p : E} {mm : Mm} {es : List E} {Q : D → Gm → Prop} (hp : purL es = true := by rfl) (hi : (getS Γ i).isSome = true := by rfl)
    (h : ze Φ p .val Γ fun pd Γ1 => zg Γ1 i fun x1 => zr (isLAtQ [pd] x1 = true) (zEs Φ es Γ1 fun ds Γ2 => zg Γ2 i fun x => zupdQ (mmF mm ds) [pd] x fun r x' => zfin m r fun r => zset Γ2 i (some x') fun Γ' => Q r Γ')) : ze Φ (.mut i [p] mm es) m Γ Q := by
  unfold ze at h
  obtain ⟨pd, Γ1, e1, h⟩ := h
  unfold zg zr zEs at h
  obtain ⟨x1, hx1, hl, ds, Γ2, e2, x, hx, h⟩ := h
  unfold zupdQ zfin zset at h
  obtain ⟨r, x', e3, h⟩ := h
  unfold ze
  refine ⟨_, _, ?_, h⟩
  simp [ev, evEs, hp, hi, e1, hx1, hl, e2, hx, e3, fin_eq]
theorem ze_mut1F {Φ : Tab} {Γ : Gm} {m : Md} {i : Nat} {p : E} {mm : Mm} {es : List E} {Q : D → Gm → Prop} (hp : purL es = false := by rfl) (hr : rdL i es = false := by rfl) (hi : (getS Γ i).isSome = true := by rfl)
    (h : ze Φ p .val Γ fun pd Γ1 => zg Γ1 i fun x1 => zr (isLAtQ [pd] x1 = true) (zset Γ1 i none fun Γ0 => zEs Φ es Γ0 fun ds Γ2 => zr (Γ2[i]? = some none) (zupdQ (mmF mm ds) [pd] x1 fun r x' => zfin m r fun r => zset Γ2 i (some x') fun Γ' => Q r Γ'))) : ze Φ (.mut i [p] mm es) m Γ Q := by
  unfold ze at h
  obtain ⟨pd, Γ1, e1, h⟩ := h
  unfold zg zr zset zEs at h
  obtain ⟨x1, hx1, hl, ds, Γ2, e2, hn, h⟩ := h
  unfold zupdQ zfin at h
  obtain ⟨r, x', e3, h⟩ := h
  unfold ze
  refine ⟨_, _, ?_, h⟩
  simp [ev, evEs, hp, hr, hi, e1, hx1, hl, e2, hn, e3, fin_eq]
/-- .. whose operands look at the list itself: lent as a view -/
theorem ze_mut1V {Φ : Tab} {Γ : Gm} {m : Md} {i : Nat} {p : E} {mm : Mm} {es : List E} {Q : D → Gm → Prop} (hp : purL es = false := by rfl) (hr : rdL i es = true := by rfl) (hi : (getS Γ i).isSome = true := by rfl)
    (h : ze Φ p .val Γ fun pd Γ1 => zg Γ1 i fun x1 => zr (isLAtQ [pd] x1 = true) (zfz x1 fun y => zset Γ1 i (some y) fun Γ0 => zEs Φ es Γ0 fun ds Γ2 => zr (alL ds = true) (zr (okB Γ1 Γ2 i = true) (zupdQ (mmF mm ds) [pd] x1 fun r x' => zfin m r fun r => zset Γ2 i (some x') fun Γ' => Q r Γ')))) : ze Φ (.mut i [p] mm es) m Γ Q := by
  unfold ze at h
  obtain ⟨pd, Γ1, e1, h⟩ := h
  unfold zg zr zfz zset zEs at h
  obtain ⟨x1, hx1, hl, ds, Γ2, e2, ha, hn, h⟩ := h
  unfold zupdQ zfin at h
  obtain ⟨r, x', e3, h⟩ := h
  unfold ze
  refine ⟨_, _, ?_, h⟩
  simp [ev, evEs, hp, hr, hi, e1, hx1, hl, e2, ha, hn, e3, fin_eq]
theorem zupdT_app {x : D} {ds l : List D} {j : Nat} {z : Int} {Q : D → D → Prop} (e : ixD ds.length z = some j := by rfl) (hj : ds[j]? = some (.lst true l) := by rfl) (hl : l.length < sizeLine := by first | with_reducible assumption | decide) (h : Q .non (.tup (ds.set j (.lst true (l ++ [x]))))) : zupdQ (mmF .append [x]) [.int z] (.tup ds) Q := by
  unfold zupdQ
  exact ⟨_, _, by simp [updQ, mmF, e, hj, hl], h⟩
theorem zupdL_app {x : D} {ds l : List D} {j : Nat} {z : Int} {Q : D → D → Prop} (e : ixD ds.length z = some j) (hj : ds[j]? = some (.lst true l)) (hl : l.length < sizeLine) (h : Q .non (.lst true (ds.set j (.lst true (l ++ [x]))))) : zupdQ (mmF .append [x]) [.int z] (.lst true ds) Q := by
  unfold zupdQ
  exact ⟨_, _, by simp [updQ, updP, mmF, e, hj, hl], h⟩
/-- o[..] where what stands in the brackets draws -/
theorem zupd_get {α : Type} {xs : List α} {f : α → D} {k : Nat} {z : Int} {Q : D → D → Prop} (e : z = (k : Int)) (hk : k < xs.length) (u : un (f xs[k]) = true := by first | rfl | (simp <;> fail)) (h : Q (f xs[k]) (.lst true (xs.map f))) : zupd (mmF .getAt [.int z]) [] (.lst true (xs.map f)) Q := by
  unfold zupd
  have e1 : ixD (xs.map f).length (k : Int) = some k := by
    unfold ixD
    rw [List.length_map, if_pos (by omega), if_pos (by omega)]; rfl
  have e2 : (xs.map f)[k]? = some (f xs[k]) := by rw [List.getElem?_map, List.getElem?_eq_getElem hk]; rfl
  subst e
  exact ⟨_, _, by simp only [updP, mmF, e1, Option.bind_some, e2, u, if_true], h⟩
/-- a pick out of a list that the def owns -/
theorem ze_pickO {Φ : Tab} {φp : Fn} {Γ : Gm} {m : Md} {b i : Nat} {lens : List Int} {bx : D} {Q : D → Gm → Prop} (hp : Φ "_law_pick" = some (2, 1, φp) := by with_reducible assumption) (hP : Picks φp := by with_reducible assumption) (g1 : getS Γ b = some bx := by rfl) (g6 : getS Γ i = some (.lst true (lens.map .int)) := by rfl) (g62 : getS (Γ.set b none) i = some (.lst true (lens.map .int)) := by rfl) (hb : Bx bx := by with_reducible assumption) (hne : lens ≠ [] := by with_reducible assumption)
    (h : ∀ n bx', n ∈ lens → Bx bx' → zset Γ b (some bx') fun Γ' => zfin m (.int n) fun d => Q d Γ') : ze Φ (.cio "_law_pick" [b] [.loc i]) m Γ Q := by
  refine zcio2 (P := fun d x => ∃ n, n ∈ lens ∧ d = .int n ∧ Bx x) (ds := [.lst true (lens.map .int)]) (ds' := [.lst false (lens.map .int)]) rfl hp g1 ?_ rfl ?_ ?_ ?_ ?_ ?_
  · refine zOs_cons (h := ?_)
    refine ze_loc_o g6 ?_
    refine zOs_nil ?_
    rfl
  · refine zOs_cons (h := ?_)
    refine ze_loc_o g62 ?_
    refine zOs_nil ?_
    rfl
  · simp [frz, frzL, frzL_map_int]
  · have hm : lens.map D.int ≠ [] := fun z => hne (List.map_eq_nil_iff.mp z)
    obtain ⟨d, bx', e, h1, h3⟩ := hP bx (lens.map .int) hb hm (unL_map_int lens)
    obtain ⟨n, hn, rfl⟩ := List.mem_map.mp h1
    exact ⟨_, _, e, n, hn, rfl, h3⟩
  · rintro d x ⟨n, _, rfl, hx⟩
    exact ⟨rfl, hx.al⟩
  · rintro d x ⟨n, hn, rfl, hx⟩
    exact h n x hn hx
theorem cutL_all {α : Type} (xs : List α) : cutL xs none none = xs := by
  unfold cutL HT.sIx
  simp
/-- xs[:] -/
theorem zp_slcFF {ds : List D} {o : Bool} {Q : D → Prop} (u : unL ds = true := by first | rfl | with_reducible assumption | exact unL_mapU (fun _ => rfl) _ | exact unL_mapU (by intro _; exact unL_map_int _) _) (h : Q (.lst true ds)) : zp (.slc false false) [.lst o ds] Q := zp_of (r := .lst true ds) (by simp only [prF, slcF, u, if_true, cutL_all]) h
theorem depL_mem {n : Nat} {ds : List D} (h : ∀ d ∈ ds, dep n d = true) : depL n ds = true := by
  induction ds with
  | nil => rw [depL]
  | cons d ds ih => rw [depL, h d List.mem_cons_self, ih fun e he => h e (List.mem_cons_of_mem _ he)]; rfl
@[simp] theorem unL_strL (ls : List Str) : unL (ls.map D.str) = true := unL_mapU (fun _ => rfl) ls
@[simp] theorem frzL_strL (ls : List Str) : frzL (ls.map D.str) = ls.map D.str := frzL_un _ (unL_strL ls)
end Sk

namespace Sk
open PySem PySem.Spec PyProof.Rows L2
/-- xs.extend(ys) where ys is a name whose list stays the def's own -/
theorem zs_ext {Φ : Tab} {Γ : Gm} {i j : Nat} {l xs : List D} {o : Bool} {Q : R → Prop} (gi : getS Γ i = some (.lst true l) := by rfl) (gj : getS Γ j = some (.lst o xs) := by rfl) (hij : i ≠ j := by decide) (u : unL xs = true := by first | rfl | with_reducible assumption | exact unL_mapU (fun _ => rfl) _) (hz : l.length + xs.length ≤ 100000 := by first | with_reducible assumption | (simp only [List.length_map]; omega)) (h : zset Γ i (some (.lst true (l ++ xs))) fun Γ' => Q (.nx Γ')) : zs Φ (.ext i j) Γ Q := by
  unfold zset at h
  unfold zs
  exact ⟨_, by simp only [evS, gi, gj, Option.bind_some, if_neg hij, extF, u, szOk_le hz, Bool.and_self, if_true, Option.map_some], h⟩
end Sk

namespace Sk
open PySem PySem.Spec PyProof.Rows L2
section
variable {Q : D → Prop}
/-! texts as lists of signs -/
abbrev tX (cs : List Nat) : D := .str ⟨cs.toArray⟩
theorem replL_one (c d : Nat) : ∀ l : List Nat, StrLaws.replL [c] [d] l = l.map fun x => if x = c then d else x
  | [] => StrLaws.replL_nil
  | x :: l => by
    by_cases h : x = c
    · rw [StrLaws.replL_hit (by simp) (by simp [h]), List.map_cons, if_pos h]
      show [d] ++ StrLaws.replL [c] [d] l = _
      rw [replL_one c d l]; rfl
    · rw [StrLaws.replL_miss (by simpa using h), List.map_cons, if_neg h, replL_one c d l]
theorem repl_one {c d : Nat} (cs : List Nat) : Txt.replace ⟨cs.toArray⟩ ⟨#[c]⟩ ⟨#[d]⟩ = ⟨(cs.map fun x => if x = c then d else x).toArray⟩ := by
  have h := StrLaws.replace_list (x := ⟨cs.toArray⟩) (y := ⟨#[c]⟩) (z := ⟨#[d]⟩) (show 1 ≤ 1 from Nat.le_refl 1)
  rw [show (⟨#[c]⟩ : Str).cps.toList = [c] from rfl, show (⟨#[d]⟩ : Str).cps.toList = [d] from rfl, show (⟨cs.toArray⟩ : Str).cps.toList = cs from rfl, replL_one] at h
  have : Txt.replace ⟨cs.toArray⟩ ⟨#[c]⟩ ⟨#[d]⟩ = ⟨(Txt.replace ⟨cs.toArray⟩ ⟨#[c]⟩ ⟨#[d]⟩).cps.toList.toArray⟩ := by simp
  rw [this, h]
theorem tx_len (cs : List Nat) : (⟨cs.toArray⟩ : Str).length = cs.length := by show cs.toArray.size = _; simp
theorem zp_crep1 {c y z : Str} {a b : Nat} {cs ds : List Nat} (hc : c = ⟨ds.toArray⟩) (hy : y = ⟨#[a]⟩) (hz : z = ⟨#[b]⟩) (hd : ds.length ≤ 1000) (hl : cs.length ≤ 1000) (h : Q (tX (ds ++ cs.map fun x => if x = a then b else x))) : zp (.crep c y z) [tX cs] Q := by
  subst hc hy hz
  refine zp_of (r := tX (ds ++ cs.map fun x => if x = a then b else x)) ?_ h
  show crepF _ _ _ _ = _
  unfold crepF
  have e1 : (⟨#[b]⟩ : Str).length = 1 := rfl
  rw [repl_one, tx_len ds, tx_len cs, tx_len (cs.map _), List.length_map, e1, decide_eq_true (by omega), szOk_le (by omega)]
  simp only [Bool.and_self, if_true]
  congr 2
  show Str.mk _ = Str.mk _
  simp
/-- parts of a text -/
theorem cutS_tx (cs : List Nat) (lo hi : Option Int) : cutS ⟨cs.toArray⟩ lo hi = ⟨(cutL cs lo hi).toArray⟩ := by
  unfold cutS cutL
  rw [tx_len]
theorem zp_slcTX {cs : List Nat} {lo hi : Int} (hl : cs.length ≤ 1000) (h : Q (tX (cutL cs (some lo) (some hi)))) : zp (.slc true true) [tX cs, .int lo, .int hi] Q := zp_of (r := tX (cutL cs (some lo) (some hi))) (by
  simp only [prF, slcF, tx_len, szOk_le (show cs.length ≤ 100000 by omega), if_true, cutS_tx]) h
theorem zp_slcTXL {cs : List Nat} {lo : Int} (hl : cs.length ≤ 1000) (h : Q (tX (cutL cs (some lo) none))) : zp (.slc true false) [tX cs, .int lo] Q := zp_of (r := tX (cutL cs (some lo) none)) (by
  simp only [prF, slcF, tx_len, szOk_le (show cs.length ≤ 100000 by omega), if_true, cutS_tx]) h
theorem zp_slcTXH {cs : List Nat} {hi : Int} (hl : cs.length ≤ 1000) (h : Q (tX (cutL cs none (some hi)))) : zp (.slc false true) [tX cs, .int hi] Q := zp_of (r := tX (cutL cs none (some hi))) (by
  simp only [prF, slcF, tx_len, szOk_le (show cs.length ≤ 100000 by omega), if_true, cutS_tx]) h
theorem zp_addTX {a b : List Nat} (ha : a.length ≤ 10000) (hb : b.length ≤ 10000) (h : Q (tX (a ++ b))) : zp .add [tX a, tX b] Q := by
  refine zp_addX (by rw [tx_len, tx_len]; omega) ?_
  rwa [show ((⟨a.toArray⟩ : Str) ++ ⟨b.toArray⟩) = ⟨(a ++ b).toArray⟩ from by show Str.mk _ = Str.mk _; simp]
theorem rep_tx (a : List Nat) : ∀ n, repS ⟨a.toArray⟩ n = ⟨((List.replicate n a).flatten).toArray⟩ := by
  intro n
  unfold repS
  have key : ∀ (m : Nat) (x : Array Nat), (List.replicate m a.toArray).foldl (· ++ ·) x = x ++ ((List.replicate m a).flatten).toArray := by
    intro m
    induction m with
    | zero => intro x; simp
    | succ m ih => intro x; rw [List.replicate_succ, List.foldl_cons, ih, List.replicate_succ, List.flatten_cons]; simp
  rw [key]; simp
theorem zp_repTX {a : List Nat} {j : Int} (h0 : 0 ≤ j) (h1 : j ≤ 1000) (h2 : a.length ≤ 10) (h : Q (tX (List.replicate j.toNat a).flatten)) : zp .mul [tX a, .int j] Q := by
  refine zp_repT h0 h1 (by rw [tx_len]; omega) ?_
  rwa [rep_tx]
/-- signs of a text -/
def okC (cs : List Nat) : Prop := ∀ c ∈ cs, c < 1114112
theorem dep_tx {cs : List Nat} (h : okC cs) (n : Nat) : dep n (tX cs) = true := by
  have : PyData.strOk ⟨cs.toArray⟩ = true := (strOk_iff _).mpr h
  cases n <;> (rw [dep]; exact this)
theorem ok_tx {cs : List Nat} (h : okC cs) (hl : cs.length ≤ 10000) (n : Nat) : H.okD n (tX cs) = true := okD_str n _ (by rw [tx_len]; exact hl) ((strOk_iff _).mpr h)
theorem eqF_tx {a b : List Nat} (ha : okC a) (hb : okC b) : eqF (tX a) (tX b) = some (decide (a = b)) := by
  unfold eqF eqOk
  rw [dep_tx ha, dep_tx hb]
  simp only [Bool.and_self, if_true]
  congr 1
  show PyData.eqv (.str ⟨a.toArray⟩) (.str ⟨b.toArray⟩) = _
  by_cases h : a = b
  · subst h
    rw [H.eqv_str, decide_eq_true rfl]
  · rw [decide_eq_false h]
    have : ¬ ((⟨a.toArray⟩ : Str) = ⟨b.toArray⟩) := fun e => h (by
      have := congrArg (fun s : Str => s.cps.toList) e
      simpa using this)
    simpa [PyData.eqv] using this
theorem zx_tx {cs : List Nat} {k : Nat} (hz : cs.length ≤ 100000) (hk : k < cs.length) (hq : Q (sgn (cs.getD k 0))) : zx (tX cs) (.int (k : Int)) Q := by
  refine zx_str (by rw [tx_len]; exact hz) (by rw [tx_len]; exact hk) ?_
  simpa using hq
theorem count_tx {cs : List Nat} {c : Nat} : Txt.count ⟨cs.toArray⟩ ⟨#[c]⟩ = ((cs.count c : Nat) : Int) := by
  rw [count_cnt]
  show cnt c cs = _
  induction cs with
  | nil => rfl
  | cons x cs ih =>
    rw [cnt_cons, ih, List.count_cons]
    by_cases h : x = c
    · simp [h]; omega
    · simp [h]
theorem zp_countTX {cs : List Nat} {b : Str} {c : Nat} (hb : b = ⟨#[c]⟩) (h : Q (.int (cs.count c : Nat))) : zp .count [tX cs, .str b] Q := by
  subst hb
  exact zp_of (r := .int (cs.count c : Nat)) (by simp only [prF, count_tx]) h
theorem zp_band {i j : Int} (h : Q (.int (Builtin.bitAnd i j))) : zp .band [.int i, .int j] Q := zp_of rfl h
end
end Sk

namespace K86
open PySem PySem.Spec PyProof.Rows L2 Sk
def topS (i : Nat) : Stmt := PySem.Challenge.pw_stagelands_k86_whole_bills_judged.main.body.getD i (.Pass ⟨0, 0, 0, 0⟩)
def q_spot_of_1 : Sm := .ret (.tup [(.loc 2), (.pr .index [(.loc 3), (.loc 1)])])
def q_spot_of_2 : Sm := .iff (.pr .isin [(.loc 1), (.loc 3)]) [q_spot_of_1] []
def lb_spot_of_1 : List Sm := [q_spot_of_2]
def q_spot_of_3 : Sm := .for_ (.t [(.n 2), (.n 3)]) .enum [(.auto 0)] lb_spot_of_1
def q_spot_of_4 : Sm := .ret .non
/-! spot_of -/
def N_spot_of : List Str := ["bill", "name", "line", "names"]
def F_spot_of : List Str := []
def b_spot_of : List Sm := [q_spot_of_3, q_spot_of_4]
def T_spot_of : Tab := lk []
def f_spot_of : Fn := evF T_spot_of N_spot_of.length 0 b_spot_of

def q_keeps_claim_1 : Sm := .asg (.t [(.n 2), (.n 3), (.n 4)]) (.loc 1)
def q_keeps_claim_2 : Sm := .par 5 6 (.call "spot_of" [(.loc 0), (.loc 2)]) (.call "spot_of" [(.loc 0), (.loc 4)])
def q_keeps_claim_3 : Sm := .ret (.bl false)
def q_keeps_claim_4 : Sm := .iff (.or_ [(.pr .isN [(.loc 5)]), (.pr .isN [(.loc 6)])]) [q_keeps_claim_3] []
def q_keeps_claim_5 : Sm := .ret (.pr .lt [(.idx (.loc 5) (.int 0)), (.idx (.loc 6) (.int 0))])
def q_keeps_claim_6 : Sm := .iff (.pr .eq [(.loc 3), (.str "above")]) [q_keeps_claim_5] []
def q_keeps_claim_7 : Sm := .ret (.pr .eq [(.idx (.loc 5) (.int 0)), (.idx (.loc 6) (.int 0))])
def q_keeps_claim_8 : Sm := .iff (.pr .eq [(.loc 3), (.str "level")]) [q_keeps_claim_7] []
def q_keeps_claim_9 : Sm := .ret (.pr .lt [(.loc 5), (.loc 6)])
/-! keeps_claim -/
def N_keeps_claim : List Str := ["bill", "claim", "name", "kind", "other", "one", "far"]
def F_keeps_claim : List Str := ["spot_of"]
def b_keeps_claim : List Sm := [q_keeps_claim_1, q_keeps_claim_2, q_keeps_claim_4, q_keeps_claim_6, q_keeps_claim_8, q_keeps_claim_9]
def T_keeps_claim : Tab := lk [("spot_of", 2, 0, f_spot_of)]
def f_keeps_claim : Fn := evF T_keeps_claim N_keeps_claim.length 0 b_keeps_claim

@[simp] theorem T_keeps_claim_spot_of : T_keeps_claim "spot_of" = some (2, 0, f_spot_of) := by kernel_rfl
def ec_is_bill_1 : E := (.comp2 (.n 4) .val [(.loc 0)] [] (.n 5) .val [(.loc 4)] [] (.loc 5) [4, 5] [5])
@[simp] theorem p_ec_is_bill_1 : pur ec_is_bill_1 = true := rfl
@[simp] theorem r_ec_is_bill_1 : root ec_is_bill_1 = none := rfl
def q_is_bill_1 : Sm := .asg (.n 3) ec_is_bill_1
def ec_is_bill_2 : E := (.comp (.n 4) .val [(.loc 0)] [] (.pr .gt [(.pr .len [(.loc 4)]), (.int 0)]) [4])
@[simp] theorem p_ec_is_bill_2 : pur ec_is_bill_2 = true := rfl
@[simp] theorem r_ec_is_bill_2 : root ec_is_bill_2 = none := rfl
def q_is_bill_2 : Sm := .ret (.bl false)
def q_is_bill_3 : Sm := .iff (.or_ [(.pr .ne [(.pr .sorted1 [(.loc 3)]), (.pr .sorted1 [(.loc 1)])]), (.not_ (.pr .all1 [ec_is_bill_2]))]) [q_is_bill_2] []
def ec_is_bill_3 : E := (.comp (.n 6) .val [(.loc 2)] [] (.call "keeps_claim" [(.loc 0), (.loc 6)]) [6])
@[simp] theorem p_ec_is_bill_3 : pur ec_is_bill_3 = true := rfl
@[simp] theorem r_ec_is_bill_3 : root ec_is_bill_3 = none := rfl
def q_is_bill_4 : Sm := .ret (.pr .all1 [ec_is_bill_3])
/-! is_bill -/
def N_is_bill : List Str := ["bill", "names", "claims", "told", "line", "name", "claim"]
def F_is_bill : List Str := ["keeps_claim"]
def b_is_bill : List Sm := [q_is_bill_1, q_is_bill_3, q_is_bill_4]
def T_is_bill : Tab := lk [("keeps_claim", 2, 0, f_keeps_claim)]
def f_is_bill : Fn := evF T_is_bill N_is_bill.length 0 b_is_bill

@[simp] theorem T_is_bill_keeps_claim : T_is_bill "keeps_claim" = some (2, 0, f_keeps_claim) := by kernel_rfl
def q_law_spot_1 : Sm := .ret (.tup [(.loc 2), (.loc 3)])
def q_law_spot_2 : Sm := .iff (.pr .eq [(.idx (.idx (.loc 0) (.loc 2)) (.loc 3)), (.loc 1)]) [q_law_spot_1] []
def lb_law_spot_1 : List Sm := [q_law_spot_2]
def q_law_spot_3 : Sm := .for_ (.n 3) .range [(.pr .len [(.idx (.loc 0) (.loc 2))])] lb_law_spot_1
def lb_law_spot_2 : List Sm := [q_law_spot_3]
def q_law_spot_4 : Sm := .for_ (.n 2) .range [(.pr .len [(.loc 0)])] lb_law_spot_2
def q_law_spot_5 : Sm := .ret .non
/-! _law_spot -/
def N_law_spot : List Str := ["bill", "name_of", "k", "far"]
def F_law_spot : List Str := []
def b_law_spot : List Sm := [q_law_spot_4, q_law_spot_5]
def T_law_spot : Tab := lk []
def f_law_spot : Fn := evF T_law_spot N_law_spot.length 0 b_law_spot

def q_law_keeps_1 : Sm := .asg (.t [(.n 4), (.n 5), (.n 6)]) (.loc 1)
def q_law_keeps_2 : Sm := .asg (.n 2) (.call "_law_spot" [(.auto 0), (.auto 4)])
def q_law_keeps_3 : Sm := .asg (.n 3) (.call "_law_spot" [(.auto 0), (.auto 6)])
def q_law_keeps_4 : Sm := .ret (.bl false)
def q_law_keeps_5 : Sm := .iff (.or_ [(.pr .isN [(.loc 2)]), (.pr .isN [(.loc 3)])]) [q_law_keeps_4] []
def q_law_keeps_6 : Sm := .ret (.or_ [(.pr .eq [(.loc 5), (.str "level")]), (.and_ [(.pr .eq [(.loc 5), (.str "before")]), (.pr .lt [(.idx (.loc 2) (.int 1)), (.idx (.loc 3) (.int 1))])])])
def q_law_keeps_7 : Sm := .iff (.pr .eq [(.idx (.loc 2) (.int 0)), (.idx (.loc 3) (.int 0))]) [q_law_keeps_6] []
def q_law_keeps_8 : Sm := .ret (.and_ [(.pr .ne [(.loc 5), (.str "level")]), (.pr .lt [(.idx (.loc 2) (.int 0)), (.idx (.loc 3) (.int 0))])])
/-! _law_keeps -/
def N_law_keeps : List Str := ["bill", "claim", "here", "there", "one", "kind", "other"]
def F_law_keeps : List Str := ["_law_spot"]
def b_law_keeps : List Sm := [q_law_keeps_1, q_law_keeps_2, q_law_keeps_3, q_law_keeps_5, q_law_keeps_7, q_law_keeps_8]
def T_law_keeps : Tab := lk [("_law_spot", 2, 0, f_law_spot)]
def f_law_keeps : Fn := evF T_law_keeps N_law_keeps.length 0 b_law_keeps

@[simp] theorem T_law_keeps_law_spot : T_law_keeps "_law_spot" = some (2, 0, f_law_spot) := by kernel_rfl
def q_law_people_1 : Sm := .asg (.n 2) (.pr (.slc false true) [(.str "Abcdef"), (.cio "_law_draw" [0] [(.int 4)])])
def q_law_people_2 : Sm := .asg (.n 3) (.lst [])
def q_law_people_3 : Sm := .asg (.n 4) (.str "ghijklmnop")
def q_law_people_4 : Sm := .asg (.n 6) (.cio "_law_draw" [0] [(.pr .len [(.loc 4)])])
def q_law_people_5 : Sm := .ex (.mut 3 [] .append [(.pr .add [(.loc 2), (.idx (.loc 4) (.loc 6))])])
def q_law_people_6 : Sm := .ex (.mut 3 [] .append [(.pr .add [(.pr .add [(.idx (.loc 4) (.loc 6)), (.loc 2)]), (.str "s")])])
def q_law_people_7 : Sm := .iff (.pr .eq [(.cio "_law_draw" [0] [(.int 2)]), (.int 0)]) [q_law_people_5] [q_law_people_6]
def q_law_people_8 : Sm := .asg (.n 4) (.pr .add [(.pr (.slc false true) [(.loc 4), (.loc 6)]), (.pr (.slc true false) [(.loc 4), (.pr .add [(.loc 6), (.int 1)])])])
def lb_law_people_1 : List Sm := [q_law_people_4, q_law_people_7, q_law_people_8]
def q_law_people_9 : Sm := .for_ (.n 5) .range [(.loc 1)] lb_law_people_1
def q_law_people_10 : Sm := .ret (.mov 3)
/-! _law_people -/
def N_law_people : List Str := ["box", "many", "shared", "found", "left", "k", "at"]
def F_law_people : List Str := ["_law_draw"]
def b_law_people : List Sm := [q_law_people_1, q_law_people_2, q_law_people_3, q_law_people_9, q_law_people_10]
def T_law_people : Tab := lk [("_law_draw", 2, 1, H.f_law_draw)]
def f_law_people : Fn := evF T_law_people N_law_people.length 1 b_law_people

@[simp] theorem T_law_people_law_draw : T_law_people "_law_draw" = some (2, 1, H.f_law_draw) := by kernel_rfl
def q_law_judge_1 : Sm := .asg (.n 3) (.lst [])
def q_law_judge_2 : Sm := .ret (.bl false)
def q_law_judge_3 : Sm := .iff (.pr .eq [(.loc 4), (.lst [])]) [q_law_judge_2] []
def q_law_judge_4 : Sm := .asg (.n 3) (.pr .add [(.loc 3), (.loc 4)])
def lb_law_judge_1 : List Sm := [q_law_judge_3, q_law_judge_4]
def q_law_judge_5 : Sm := .for_ (.n 4) .val [(.auto 0)] lb_law_judge_1
def q_law_judge_6 : Sm := .ret (.bl false)
def q_law_judge_7 : Sm := .iff (.pr .notin [(.loc 5), (.loc 1)]) [q_law_judge_6] []
def lb_law_judge_2 : List Sm := [q_law_judge_7]
def q_law_judge_8 : Sm := .for_ (.n 5) .val [(.auto 3)] lb_law_judge_2
def q_law_judge_9 : Sm := .ret (.bl false)
def q_law_judge_10 : Sm := .iff (.pr .ne [(.pr .count [(.loc 3), (.loc 5)]), (.int 1)]) [q_law_judge_9] []
def lb_law_judge_3 : List Sm := [q_law_judge_10]
def q_law_judge_11 : Sm := .for_ (.n 5) .val [(.auto 1)] lb_law_judge_3
def q_law_judge_12 : Sm := .ret (.bl false)
def q_law_judge_13 : Sm := .iff (.not_ (.call "_law_keeps" [(.loc 0), (.loc 6)])) [q_law_judge_12] []
def lb_law_judge_4 : List Sm := [q_law_judge_13]
def q_law_judge_14 : Sm := .for_ (.n 6) .val [(.auto 2)] lb_law_judge_4
def q_law_judge_15 : Sm := .ret (.bl true)
/-! _law_judge -/
def N_law_judge : List Str := ["bill", "people", "claims", "told", "row", "one", "claim"]
def F_law_judge : List Str := ["_law_keeps"]
def b_law_judge : List Sm := [q_law_judge_1, q_law_judge_5, q_law_judge_8, q_law_judge_11, q_law_judge_14, q_law_judge_15]
def T_law_judge : Tab := lk [("_law_keeps", 2, 0, f_law_keeps)]
def f_law_judge : Fn := evF T_law_judge N_law_judge.length 0 b_law_judge

@[simp] theorem T_law_judge_law_keeps : T_law_judge "_law_keeps" = some (2, 0, f_law_keeps) := by kernel_rfl
def ec_law_bent_1 : E := (.comp (.n 9) .val [(.loc 1)] [] (.pr .lst1 [(.loc 9)]) [9])
@[simp] theorem p_ec_law_bent_1 : pur ec_law_bent_1 = true := rfl
@[simp] theorem r_ec_law_bent_1 : root ec_law_bent_1 = none := rfl
def q_law_bent_1 : Sm := .asg (.n 3) ec_law_bent_1
def q_law_bent_2 : Sm := .asg (.n 4) (.cio "_law_draw" [0] [(.pr .len [(.loc 3)])])
def q_law_bent_3 : Sm := .asg (.n 5) (.cio "_law_draw" [0] [(.pr .len [(.loc 3)])])
def q_law_bent_4 : Sm := .asg (.n 6) (.cio "_law_draw" [0] [(.pr .len [(.idx (.loc 3) (.loc 4))])])
def q_law_bent_5 : Sm := .asg (.n 7) (.cio "_law_draw" [0] [(.int 8)])
def q_law_bent_6 : Sm := .asg (.n 8) (.idx (.idx (.loc 3) (.loc 4)) (.loc 6))
def q_law_bent_7 : Sm := .ex (.mut 3 [(.auto 4)] .insert [(.auto 6), (.cio "_law_pick" [0] [(.loc 2)])])
def q_law_bent_8 : Sm := .ex (.mut 3 [(.auto 4)] .popAt [(.auto 6)])
def q_law_bent_9 : Sm := .ex (.mut 3 [] .insert [(.auto 4), (.lst [])])
def q_law_bent_10 : Sm := .ex (.mut 3 [(.auto 4)] .append [(.str "nobody")])
def q_law_bent_11 : Sm := .asg (.n 10) (.cio "_law_draw" [0] [(.pr .len [(.idx (.loc 3) (.loc 5))])])
def q_law_bent_12 : Sm := .set 3 [(.loc 4)] (.loc 6) (.idx (.idx (.loc 1) (.loc 5)) (.loc 10))
def q_law_bent_13 : Sm := .set 3 [(.loc 5)] (.loc 10) (.auto 8)
def q_law_bent_14 : Sm := .ex (.mut 3 [(.auto 4)] .popAt [(.auto 6)])
def q_law_bent_15 : Sm := .ex (.mut 3 [(.auto 5)] .append [(.auto 8)])
def q_law_bent_16 : Sm := .set 3 [(.loc 4)] (.loc 6) (.cio "_law_pick" [0] [(.pr .add [(.loc 2), (.lst [(.str "nobody")])])])
def ec_law_bent_2 : E := (.comp (.n 11) .range [(.pr .len [(.idx (.loc 3) (.loc 4))])] [] (.idx (.idx (.loc 3) (.loc 4)) (.pr .sub [(.pr .sub [(.pr .len [(.idx (.loc 3) (.loc 4))]), (.int 1)]), (.loc 11)])) [11])
@[simp] theorem p_ec_law_bent_2 : pur ec_law_bent_2 = true := rfl
@[simp] theorem r_ec_law_bent_2 : root ec_law_bent_2 = none := rfl
def q_law_bent_17 : Sm := .set 3 [] (.loc 4) ec_law_bent_2
def q_law_bent_18 : Sm := .iff (.pr .eq [(.loc 7), (.int 6)]) [q_law_bent_16] [q_law_bent_17]
def q_law_bent_19 : Sm := .iff (.pr .eq [(.loc 7), (.int 5)]) [q_law_bent_14, q_law_bent_15] [q_law_bent_18]
def q_law_bent_20 : Sm := .iff (.pr .eq [(.loc 7), (.int 4)]) [q_law_bent_11, q_law_bent_12, q_law_bent_13] [q_law_bent_19]
def q_law_bent_21 : Sm := .iff (.pr .eq [(.loc 7), (.int 3)]) [q_law_bent_10] [q_law_bent_20]
def q_law_bent_22 : Sm := .iff (.pr .eq [(.loc 7), (.int 2)]) [q_law_bent_9] [q_law_bent_21]
def q_law_bent_23 : Sm := .iff (.pr .eq [(.loc 7), (.int 1)]) [q_law_bent_8] [q_law_bent_22]
def q_law_bent_24 : Sm := .iff (.pr .eq [(.loc 7), (.int 0)]) [q_law_bent_7] [q_law_bent_23]
def q_law_bent_25 : Sm := .ret (.mov 3)
/-! _law_bent -/
def N_law_bent : List Str := ["box", "bill", "people", "rows", "at", "far", "place", "kind", "one", "row", "spot", "k"]
def F_law_bent : List Str := ["_law_draw", "_law_pick"]
def b_law_bent : List Sm := [q_law_bent_1, q_law_bent_2, q_law_bent_3, q_law_bent_4, q_law_bent_5, q_law_bent_6, q_law_bent_24, q_law_bent_25]
def T_law_bent : Tab := lk [("_law_draw", 2, 1, H.f_law_draw), ("_law_pick", 2, 1, H.f_law_pick)]
def f_law_bent : Fn := evF T_law_bent N_law_bent.length 1 b_law_bent

@[simp] theorem T_law_bent_law_draw : T_law_bent "_law_draw" = some (2, 1, H.f_law_draw) := by kernel_rfl
@[simp] theorem T_law_bent_law_pick : T_law_bent "_law_pick" = some (2, 1, H.f_law_pick) := by kernel_rfl
def q_law_1 : Sm := .asg (.n 1) (.lst [(.call "_law_digits" [(.loc 0), (.int 0), (.int 18)]), (.int 0)])
def q_law_2 : Sm := .asg (.n 3) (.cio "_law_people" [1] [(.pr .add [(.int 1), (.cio "_law_draw" [1] [(.int 6)])])])
def q_law_3 : Sm := .asg (.n 4) (.lst [])
def q_law_4 : Sm := .ex (.mut 4 [] .insert [(.cio "_law_draw" [1] [(.pr .add [(.pr .len [(.loc 4)]), (.int 1)])]), (.lst [(.auto 5)])])
def q_law_5 : Sm := .asg (.n 17) (.cio "_law_draw" [1] [(.pr .len [(.loc 4)])])
def q_law_6 : Sm := .ex (.mut 4 [(.auto 17)] .insert [(.cio "_law_draw" [1] [(.pr .add [(.pr .len [(.idx (.loc 4) (.loc 17))]), (.int 1)])]), (.auto 5)])
def q_law_7 : Sm := .iff (.or_ [(.pr .eq [(.loc 4), (.lst [])]), (.pr .eq [(.cio "_law_draw" [1] [(.int 2)]), (.int 0)])]) [q_law_4] [q_law_5, q_law_6]
def lb_law_1 : List Sm := [q_law_7]
def q_law_8 : Sm := .for_ (.n 5) .val [(.auto 3)] lb_law_1
def q_law_9 : Sm := .asg (.n 6) (.lst [])
def ei_law_1 : E := (.comp (.n 12) .val [(.auto 3)] [(.pr .ne [(.loc 12), (.loc 5)])] (.tup [(.auto 5), (.auto 12)]) [12])
@[simp] theorem p_ei_law_1 : pur ei_law_1 = false := rfl
@[simp] theorem r_ei_law_1 : root ei_law_1 = none := rfl
def q_law_10 : Sm := .asg (.n 6) (.pr .add [(.auto 6), ei_law_1])
def lb_law_2 : List Sm := [q_law_10]
def q_law_11 : Sm := .for_ (.n 5) .val [(.auto 3)] lb_law_2
def q_law_12 : Sm := .asg (.n 7) (.lst [])
def q_law_13 : Sm := .asg (.n 16) (.tup [(.auto 5), (.loc 13), (.auto 12)])
def q_law_14 : Sm := .asg (.n 18) (.call "_law_keeps" [(.auto 4), (.auto 16)])
def q_law_15 : Sm := .ret (.bl false)
def q_law_16 : Sm := .iff (.not_ (.call "_law_same" [(.call "keeps_claim" [(.loc 4), (.loc 16)]), (.loc 18)])) [q_law_15] []
def q_law_17 : Sm := .ex (.mut 7 [] .append [(.auto 16)])
def q_law_18 : Sm := .iff (.and_ [(.loc 18), (.pr .eq [(.cio "_law_draw" [1] [(.int 3)]), (.int 0)])]) [q_law_17] []
def lb_law_3 : List Sm := [q_law_13, q_law_14, q_law_16, q_law_18]
def q_law_19 : Sm := .for_ (.n 13) .val [(.tup [(.str "above"), (.str "before"), (.str "level")])] lb_law_3
def lb_law_4 : List Sm := [q_law_19]
def q_law_20 : Sm := .for_ (.t [(.n 5), (.n 12)]) .val [(.auto 6)] lb_law_4
def q_law_21 : Sm := .ret (.bl false)
def q_law_22 : Sm := .iff (.not_ (.call "_law_same" [(.call "spot_of" [(.loc 4), (.loc 5)]), (.call "_law_spot" [(.loc 4), (.loc 5)])])) [q_law_21] []
def lb_law_5 : List Sm := [q_law_22]
def q_law_23 : Sm := .for_ (.n 5) .val [(.pr .add [(.loc 3), (.lst [(.str "nobody")])])] lb_law_5
def ei_law_2 : E := (.comp (.n 19) .val [(.auto 4)] [] (.pr .lst1 [(.loc 19)]) [19])
@[simp] theorem p_ei_law_2 : pur ei_law_2 = false := rfl
@[simp] theorem r_ei_law_2 : root ei_law_2 = none := rfl
def q_law_24 : Sm := .asg (.n 8) ei_law_2
def q_law_25 : Sm := .asg (.n 9) (.pr .lst1 [(.loc 3)])
def q_law_26 : Sm := .asg (.n 10) (.pr .lst1 [(.loc 7)])
def ec_law_1 : E := (.comp (.n 20) .range [(.pr .len [(.loc 3)])] [] (.idx (.loc 3) (.pr .sub [(.pr .sub [(.pr .len [(.loc 3)]), (.int 1)]), (.loc 20)])) [20])
@[simp] theorem p_ec_law_1 : pur ec_law_1 = true := rfl
@[simp] theorem r_ec_law_1 : root ec_law_1 = none := rfl
def q_law_27 : Sm := .ret (.bl false)
def q_law_28 : Sm := .iff (.or_ [(.pr (.notB true) [(.call "is_bill" [(.loc 8), (.loc 9), (.loc 10)])]), (.pr (.notB true) [(.call "is_bill" [(.loc 8), ec_law_1, (.lst [])])])]) [q_law_27] []
def q_law_29 : Sm := .ret (.bl false)
def q_law_30 : Sm := .iff (.or_ [(.pr .ne [(.loc 8), (.loc 4)]), (.pr .ne [(.loc 9), (.loc 3)]), (.pr .ne [(.loc 10), (.loc 7)])]) [q_law_29] []
def q_law_31 : Sm := .asg (.n 14) (.cio "_law_bent" [1] [(.loc 4), (.loc 3)])
def q_law_32 : Sm := .asg (.n 15) (.ite (.pr .eq [(.cio "_law_draw" [1] [(.int 2)]), (.int 0)]) (.auto 7) (.lst []))
def q_law_33 : Sm := .ret (.bl false)
def q_law_34 : Sm := .iff (.not_ (.call "_law_same" [(.call "is_bill" [(.loc 14), (.loc 3), (.loc 15)]), (.call "_law_judge" [(.loc 14), (.loc 3), (.loc 15)])])) [q_law_33] []
def lb_law_6 : List Sm := [q_law_31, q_law_32, q_law_34]
def q_law_35 : Sm := .for_ (.n 11) .range [(.int 6)] lb_law_6
def q_law_36 : Sm := .asg (.t [(.n 5), (.n 12)]) (.cio "_law_pick" [1] [(.loc 6)])
def q_law_37 : Sm := .asg (.n 16) (.tup [(.auto 5), (.cio "_law_pick" [1] [(.lst [(.str "above"), (.str "before"), (.str "level")])]), (.auto 12)])
def q_law_38 : Sm := .asg (.n 17) (.cio "_law_draw" [1] [(.pr .add [(.pr .len [(.loc 7)]), (.int 1)])])
def q_law_39 : Sm := .ret (.bl false)
def q_law_40 : Sm := .iff (.not_ (.call "_law_same" [(.call "is_bill" [(.auto 4), (.auto 3), (.pr .add [(.pr .add [(.pr (.slc false true) [(.loc 7), (.loc 17)]), (.lst [(.auto 16)])]), (.pr (.slc true false) [(.loc 7), (.loc 17)])])]), (.call "_law_keeps" [(.loc 4), (.loc 16)])])) [q_law_39] []
def q_law_41 : Sm := .iff (.pr .ne [(.loc 6), (.lst [])]) [q_law_36, q_law_37, q_law_38, q_law_40] []
def q_law_42 : Sm := .ret (.bl false)
def q_law_43 : Sm := .iff (.or_ [(.pr (.notB false) [(.call "is_bill" [(.loc 4), (.pr .add [(.loc 3), (.lst [(.str "nobody")])]), (.lst [])])]), (.pr (.notB false) [(.call "is_bill" [(.loc 4), (.pr (.slc true false) [(.loc 3), (.int 1)]), (.lst [])])])]) [q_law_42] []
def lb_law_7 : List Sm := [q_law_2, q_law_3, q_law_8, q_law_9, q_law_11, q_law_12, q_law_20, q_law_23, q_law_24, q_law_25, q_law_26, q_law_28, q_law_30, q_law_35, q_law_41, q_law_43]
def q_law_44 : Sm := .for_ (.n 2) .range [(.int 3)] lb_law_7
def q_law_45 : Sm := .ret (.and_ [(.pr (.isB false) [(.call "is_bill" [(.lst [(.lst [(.str "a")]), (.lst [])]), (.lst [(.str "a")]), (.lst [])])]), (.pr (.isB false) [(.call "is_bill" [(.lst [(.lst [(.str "a"), (.str "b")])]), (.lst [(.str "a"), (.str "b")]), (.lst [(.tup [(.str "a"), (.str "above"), (.str "b")])])])])])
/-! law -/
def N_law : List Str := ["script", "box", "turn", "people", "bill", "one", "pairs", "claims", "handed", "given", "asked", "step", "far", "kind", "bent", "some", "claim", "at", "fine", "row", "k"]
def F_law : List Str := ["_law_digits", "_law_people", "_law_bent", "_law_pick", "_law_draw", "is_bill", "_law_keeps", "_law_same", "spot_of", "_law_spot", "_law_judge", "keeps_claim"]
def b_law : List Sm := [q_law_1, q_law_44, q_law_45]
def T_law : Tab := lk [("_law_digits", 3, 0, H.f_law_digits), ("_law_people", 2, 1, f_law_people), ("_law_bent", 3, 1, f_law_bent), ("_law_pick", 2, 1, H.f_law_pick), ("_law_draw", 2, 1, H.f_law_draw), ("is_bill", 3, 0, f_is_bill), ("_law_keeps", 2, 0, f_law_keeps), ("_law_same", 2, 0, H.f_law_same), ("spot_of", 2, 0, f_spot_of), ("_law_spot", 2, 0, f_law_spot), ("_law_judge", 3, 0, f_law_judge), ("keeps_claim", 2, 0, f_keeps_claim)]
def f_law : Fn := evF T_law N_law.length 0 b_law

@[simp] theorem T_law_law_digits : T_law "_law_digits" = some (3, 0, H.f_law_digits) := by kernel_rfl
@[simp] theorem T_law_law_people : T_law "_law_people" = some (2, 1, f_law_people) := by kernel_rfl
@[simp] theorem T_law_law_bent : T_law "_law_bent" = some (3, 1, f_law_bent) := by kernel_rfl
@[simp] theorem T_law_law_pick : T_law "_law_pick" = some (2, 1, H.f_law_pick) := by kernel_rfl
@[simp] theorem T_law_law_draw : T_law "_law_draw" = some (2, 1, H.f_law_draw) := by kernel_rfl
@[simp] theorem T_law_is_bill : T_law "is_bill" = some (3, 0, f_is_bill) := by kernel_rfl
@[simp] theorem T_law_law_keeps : T_law "_law_keeps" = some (2, 0, f_law_keeps) := by kernel_rfl
@[simp] theorem T_law_law_same : T_law "_law_same" = some (2, 0, H.f_law_same) := by kernel_rfl
@[simp] theorem T_law_spot_of : T_law "spot_of" = some (2, 0, f_spot_of) := by kernel_rfl
@[simp] theorem T_law_law_spot : T_law "_law_spot" = some (2, 0, f_law_spot) := by kernel_rfl
@[simp] theorem T_law_law_judge : T_law "_law_judge" = some (3, 0, f_law_judge) := by kernel_rfl
@[simp] theorem T_law_keeps_claim : T_law "keeps_claim" = some (2, 0, f_keeps_claim) := by kernel_rfl
abbrev s_spot_of : Stmt := topS 1
theorem c_spot_of : chkSs ⟨N_spot_of, F_spot_of, defScope s_spot_of, none⟩ b_spot_of (defBody s_spot_of) = true := by decide +kernel
theorem sc_spot_of : scC N_spot_of ["bill", "name"] (defScope s_spot_of) = true := by decide +kernel
abbrev s_keeps_claim : Stmt := topS 2
theorem c_keeps_claim : chkSs ⟨N_keeps_claim, F_keeps_claim, defScope s_keeps_claim, none⟩ b_keeps_claim (defBody s_keeps_claim) = true := by decide +kernel
theorem sc_keeps_claim : scC N_keeps_claim ["bill", "claim"] (defScope s_keeps_claim) = true := by decide +kernel
abbrev s_is_bill : Stmt := topS 3
theorem c_is_bill : chkSs ⟨N_is_bill, F_is_bill, defScope s_is_bill, none⟩ b_is_bill (defBody s_is_bill) = true := by decide +kernel
theorem sc_is_bill : scC N_is_bill ["bill", "names", "claims"] (defScope s_is_bill) = true := by decide +kernel
abbrev s_law_cell : Stmt := topS 5
theorem c_law_cell : chkSs ⟨H.N_law_cell, H.F_law_cell, defScope s_law_cell, none⟩ H.b_law_cell (defBody s_law_cell) = true := by decide +kernel
theorem sc_law_cell : scC H.N_law_cell ["script", "k"] (defScope s_law_cell) = true := by decide +kernel
abbrev s_law_digits : Stmt := topS 6
theorem c_law_digits : chkSs ⟨H.N_law_digits, H.F_law_digits, defScope s_law_digits, none⟩ H.b_law_digits (defBody s_law_digits) = true := by decide +kernel
theorem sc_law_digits : scC H.N_law_digits ["script", "first", "last"] (defScope s_law_digits) = true := by decide +kernel
abbrev s_law_draw : Stmt := topS 7
theorem c_law_draw : chkSs ⟨H.N_law_draw, H.F_law_draw, defScope s_law_draw, none⟩ H.b_law_draw (defBody s_law_draw) = true := by decide +kernel
theorem sc_law_draw : scC H.N_law_draw ["box", "many"] (defScope s_law_draw) = true := by decide +kernel
abbrev s_law_pick : Stmt := topS 8
theorem c_law_pick : chkSs ⟨H.N_law_pick, H.F_law_pick, defScope s_law_pick, none⟩ H.b_law_pick (defBody s_law_pick) = true := by decide +kernel
theorem sc_law_pick : scC H.N_law_pick ["box", "row"] (defScope s_law_pick) = true := by decide +kernel
abbrev s_law_same : Stmt := topS 9
theorem c_law_same : chkSs ⟨H.N_law_same, H.F_law_same, defScope s_law_same, none⟩ H.b_law_same (defBody s_law_same) = true := by decide +kernel
theorem sc_law_same : scC H.N_law_same ["told", "due"] (defScope s_law_same) = true := by decide +kernel
abbrev s_law_spot : Stmt := topS 10
theorem c_law_spot : chkSs ⟨N_law_spot, F_law_spot, defScope s_law_spot, none⟩ b_law_spot (defBody s_law_spot) = true := by decide +kernel
theorem sc_law_spot : scC N_law_spot ["bill", "name_of"] (defScope s_law_spot) = true := by decide +kernel
abbrev s_law_keeps : Stmt := topS 11
theorem c_law_keeps : chkSs ⟨N_law_keeps, F_law_keeps, defScope s_law_keeps, none⟩ b_law_keeps (defBody s_law_keeps) = true := by decide +kernel
theorem sc_law_keeps : scC N_law_keeps ["bill", "claim"] (defScope s_law_keeps) = true := by decide +kernel
abbrev s_law_people : Stmt := topS 12
theorem c_law_people : chkSs ⟨N_law_people, F_law_people, defScope s_law_people, none⟩ b_law_people (defBody s_law_people) = true := by decide +kernel
theorem sc_law_people : scC N_law_people ["box", "many"] (defScope s_law_people) = true := by decide +kernel
abbrev s_law_judge : Stmt := topS 13
theorem c_law_judge : chkSs ⟨N_law_judge, F_law_judge, defScope s_law_judge, none⟩ b_law_judge (defBody s_law_judge) = true := by decide +kernel
theorem sc_law_judge : scC N_law_judge ["bill", "people", "claims"] (defScope s_law_judge) = true := by decide +kernel
abbrev s_law_bent : Stmt := topS 14
theorem c_law_bent : chkSs ⟨N_law_bent, F_law_bent, defScope s_law_bent, none⟩ b_law_bent (defBody s_law_bent) = true := by decide +kernel
theorem sc_law_bent : scC N_law_bent ["box", "bill", "people"] (defScope s_law_bent) = true := by decide +kernel
abbrev s_law : Stmt := topS 15
theorem c_law : chkSs ⟨N_law, F_law, defScope s_law, none⟩ b_law (defBody s_law) = true := by decide +kernel
theorem sc_law : scC N_law ["script"] (defScope s_law) = true := by decide +kernel
section
variable {P : Program} {w : World} {K : PySem.W.Frag} {mg : Str → Option Value} {base : Heap}
theorem wire (hbi : ∀ f ∈ bnames, mg f = none) {a_spot_of : Addr} {fd_spot_of : FuncData} (D_spot_of : DefF K mg "spot_of" s_spot_of ["bill", "name"] a_spot_of fd_spot_of) {a_keeps_claim : Addr} {fd_keeps_claim : FuncData} (D_keeps_claim : DefF K mg "keeps_claim" s_keeps_claim ["bill", "claim"] a_keeps_claim fd_keeps_claim) {a_is_bill : Addr} {fd_is_bill : FuncData} (D_is_bill : DefF K mg "is_bill" s_is_bill ["bill", "names", "claims"] a_is_bill fd_is_bill) {a_law_cell : Addr} {fd_law_cell : FuncData} (D_law_cell : DefF K mg "_law_cell" s_law_cell ["script", "k"] a_law_cell fd_law_cell) {a_law_digits : Addr} {fd_law_digits : FuncData} (D_law_digits : DefF K mg "_law_digits" s_law_digits ["script", "first", "last"] a_law_digits fd_law_digits) {a_law_draw : Addr} {fd_law_draw : FuncData} (D_law_draw : DefF K mg "_law_draw" s_law_draw ["box", "many"] a_law_draw fd_law_draw) {a_law_pick : Addr} {fd_law_pick : FuncData} (D_law_pick : DefF K mg "_law_pick" s_law_pick ["box", "row"] a_law_pick fd_law_pick) {a_law_same : Addr} {fd_law_same : FuncData} (D_law_same : DefF K mg "_law_same" s_law_same ["told", "due"] a_law_same fd_law_same) {a_law_spot : Addr} {fd_law_spot : FuncData} (D_law_spot : DefF K mg "_law_spot" s_law_spot ["bill", "name_of"] a_law_spot fd_law_spot) {a_law_keeps : Addr} {fd_law_keeps : FuncData} (D_law_keeps : DefF K mg "_law_keeps" s_law_keeps ["bill", "claim"] a_law_keeps fd_law_keeps) {a_law_people : Addr} {fd_law_people : FuncData} (D_law_people : DefF K mg "_law_people" s_law_people ["box", "many"] a_law_people fd_law_people) {a_law_judge : Addr} {fd_law_judge : FuncData} (D_law_judge : DefF K mg "_law_judge" s_law_judge ["bill", "people", "claims"] a_law_judge fd_law_judge) {a_law_bent : Addr} {fd_law_bent : FuncData} (D_law_bent : DefF K mg "_law_bent" s_law_bent ["box", "bill", "people"] a_law_bent fd_law_bent) {a_law : Addr} {fd_law : FuncData} (D_law : DefF K mg "law" s_law ["script"] a_law fd_law) :
    FnOk P w K mg base CX0 13 a_law fd_law ["script"] (spF K 1 0 f_law) := by
  have C_spot_of : CalF P w K mg base 1 "spot_of" 2 0 f_spot_of := DefF.ok (k := 0) D_spot_of sc_spot_of c_spot_of hbi (by decide +kernel) (Rws.rows .nil (by decide +kernel))
  have C_keeps_claim : CalF P w K mg base 2 "keeps_claim" 2 0 f_keeps_claim := DefF.ok (k := 1) D_keeps_claim sc_keeps_claim c_keeps_claim hbi (by decide +kernel) (Rws.rows (.cons C_spot_of (by decide) .nil) (by decide +kernel))
  have C_is_bill : CalF P w K mg base 3 "is_bill" 3 0 f_is_bill := DefF.ok (k := 2) D_is_bill sc_is_bill c_is_bill hbi (by decide +kernel) (Rws.rows (.cons C_keeps_claim (by decide) .nil) (by decide +kernel))
  have C_law_cell : CalF P w K mg base 1 "_law_cell" 2 0 H.f_law_cell := DefF.ok (k := 0) D_law_cell sc_law_cell c_law_cell hbi (by decide +kernel) (Rws.rows .nil (by decide +kernel))
  have C_law_digits : CalF P w K mg base 2 "_law_digits" 3 0 H.f_law_digits := DefF.ok (k := 1) D_law_digits sc_law_digits c_law_digits hbi (by decide +kernel) (Rws.rows (.cons C_law_cell (by decide) .nil) (by decide +kernel))
  have C_law_draw : CalF P w K mg base 1 "_law_draw" 2 1 H.f_law_draw := DefF.ok (k := 0) D_law_draw sc_law_draw c_law_draw hbi (by decide +kernel) (Rws.rows .nil (by decide +kernel))
  have C_law_pick : CalF P w K mg base 2 "_law_pick" 2 1 H.f_law_pick := DefF.ok (k := 1) D_law_pick sc_law_pick c_law_pick hbi (by decide +kernel) (Rws.rows (.cons C_law_draw (by decide) .nil) (by decide +kernel))
  have C_law_same : CalF P w K mg base 12 "_law_same" 2 0 H.f_law_same := DefF.okR (k := 0) D_law_same sc_law_same c_law_same hbi (by decide +kernel) (fun j φ c => Rws.rows (.cons c (Nat.le_refl _) .nil) (by rfl)) (by decide +kernel) (by decide) 12
  have C_law_spot : CalF P w K mg base 1 "_law_spot" 2 0 f_law_spot := DefF.ok (k := 0) D_law_spot sc_law_spot c_law_spot hbi (by decide +kernel) (Rws.rows .nil (by decide +kernel))
  have C_law_keeps : CalF P w K mg base 2 "_law_keeps" 2 0 f_law_keeps := DefF.ok (k := 1) D_law_keeps sc_law_keeps c_law_keeps hbi (by decide +kernel) (Rws.rows (.cons C_law_spot (by decide) .nil) (by decide +kernel))
  have C_law_people : CalF P w K mg base 2 "_law_people" 2 1 f_law_people := DefF.ok (k := 1) D_law_people sc_law_people c_law_people hbi (by decide +kernel) (Rws.rows (.cons C_law_draw (by decide) .nil) (by decide +kernel))
  have C_law_judge : CalF P w K mg base 3 "_law_judge" 3 0 f_law_judge := DefF.ok (k := 2) D_law_judge sc_law_judge c_law_judge hbi (by decide +kernel) (Rws.rows (.cons C_law_keeps (by decide) .nil) (by decide +kernel))
  have C_law_bent : CalF P w K mg base 3 "_law_bent" 3 1 f_law_bent := DefF.ok (k := 2) D_law_bent sc_law_bent c_law_bent hbi (by decide +kernel) (Rws.rows (.cons C_law_draw (by decide) (.cons C_law_pick (by decide) .nil)) (by decide +kernel))
  exact DefF.okL (k := 12) D_law sc_law c_law hbi (Rws.rows (.cons C_law_digits (by decide) (.cons C_law_people (by decide) (.cons C_law_bent (by decide) (.cons C_law_pick (by decide) (.cons C_law_draw (by decide) (.cons C_is_bill (by decide) (.cons C_law_keeps (by decide) (.cons C_law_same (by decide) (.cons C_spot_of (by decide) (.cons C_law_spot (by decide) (.cons C_law_judge (by decide) (.cons C_keeps_claim (by decide) .nil)))))))))))) (by decide +kernel))
end
theorem all_mk {l : PySem.W.OpenLaw} {w : World} {K : PySem.W.Frag} {h : Heap} {mg : Str → Option Value} {fa : Addr} (X : K.In h) (G : h.Ns mainGlobals mg) (hfa : mg "law" = some (.ref fa))
    {g_spot_of : Addr} {od_spot_of an_spot_of : Option Addr} {sl_spot_of : Array (Option Value)} {oc_spot_of kV_spot_of dc_spot_of pm_spot_of cd_spot_of ct_spot_of : Value} (a_spot_of : PySem.W.nsIn K mainGlobals "spot_of" = some (some (.ref g_spot_of))) (l_spot_of : K.lookup g_spot_of = some ⟨oc_spot_of, od_spot_of, .func (PySem.W.fnOf "spot_of" "spot_of" (defArgs s_spot_of) (defBody s_spot_of) (defScope s_spot_of) .none kV_spot_of dc_spot_of pm_spot_of an_spot_of cd_spot_of ct_spot_of), sl_spot_of⟩) (c_spot_of : PySem.W.codeIn K cd_spot_of "spot_of" = true) (k_spot_of : PySem.W.keepIn K (.ref g_spot_of) = true)
    {g_keeps_claim : Addr} {od_keeps_claim an_keeps_claim : Option Addr} {sl_keeps_claim : Array (Option Value)} {oc_keeps_claim kV_keeps_claim dc_keeps_claim pm_keeps_claim cd_keeps_claim ct_keeps_claim : Value} (a_keeps_claim : PySem.W.nsIn K mainGlobals "keeps_claim" = some (some (.ref g_keeps_claim))) (l_keeps_claim : K.lookup g_keeps_claim = some ⟨oc_keeps_claim, od_keeps_claim, .func (PySem.W.fnOf "keeps_claim" "keeps_claim" (defArgs s_keeps_claim) (defBody s_keeps_claim) (defScope s_keeps_claim) .none kV_keeps_claim dc_keeps_claim pm_keeps_claim an_keeps_claim cd_keeps_claim ct_keeps_claim), sl_keeps_claim⟩) (c_keeps_claim : PySem.W.codeIn K cd_keeps_claim "keeps_claim" = true) (k_keeps_claim : PySem.W.keepIn K (.ref g_keeps_claim) = true)
    {g_is_bill : Addr} {od_is_bill an_is_bill : Option Addr} {sl_is_bill : Array (Option Value)} {oc_is_bill kV_is_bill dc_is_bill pm_is_bill cd_is_bill ct_is_bill : Value} (a_is_bill : PySem.W.nsIn K mainGlobals "is_bill" = some (some (.ref g_is_bill))) (l_is_bill : K.lookup g_is_bill = some ⟨oc_is_bill, od_is_bill, .func (PySem.W.fnOf "is_bill" "is_bill" (defArgs s_is_bill) (defBody s_is_bill) (defScope s_is_bill) .none kV_is_bill dc_is_bill pm_is_bill an_is_bill cd_is_bill ct_is_bill), sl_is_bill⟩) (c_is_bill : PySem.W.codeIn K cd_is_bill "is_bill" = true) (k_is_bill : PySem.W.keepIn K (.ref g_is_bill) = true)
    {g_law_cell : Addr} {od_law_cell an_law_cell : Option Addr} {sl_law_cell : Array (Option Value)} {oc_law_cell kV_law_cell dc_law_cell pm_law_cell cd_law_cell ct_law_cell : Value} (a_law_cell : PySem.W.nsIn K mainGlobals "_law_cell" = some (some (.ref g_law_cell))) (l_law_cell : K.lookup g_law_cell = some ⟨oc_law_cell, od_law_cell, .func (PySem.W.fnOf "_law_cell" "_law_cell" (defArgs s_law_cell) (defBody s_law_cell) (defScope s_law_cell) .none kV_law_cell dc_law_cell pm_law_cell an_law_cell cd_law_cell ct_law_cell), sl_law_cell⟩) (c_law_cell : PySem.W.codeIn K cd_law_cell "_law_cell" = true) (k_law_cell : PySem.W.keepIn K (.ref g_law_cell) = true)
    {g_law_digits : Addr} {od_law_digits an_law_digits : Option Addr} {sl_law_digits : Array (Option Value)} {oc_law_digits kV_law_digits dc_law_digits pm_law_digits cd_law_digits ct_law_digits : Value} (a_law_digits : PySem.W.nsIn K mainGlobals "_law_digits" = some (some (.ref g_law_digits))) (l_law_digits : K.lookup g_law_digits = some ⟨oc_law_digits, od_law_digits, .func (PySem.W.fnOf "_law_digits" "_law_digits" (defArgs s_law_digits) (defBody s_law_digits) (defScope s_law_digits) .none kV_law_digits dc_law_digits pm_law_digits an_law_digits cd_law_digits ct_law_digits), sl_law_digits⟩) (c_law_digits : PySem.W.codeIn K cd_law_digits "_law_digits" = true) (k_law_digits : PySem.W.keepIn K (.ref g_law_digits) = true)
    {g_law_draw : Addr} {od_law_draw an_law_draw : Option Addr} {sl_law_draw : Array (Option Value)} {oc_law_draw kV_law_draw dc_law_draw pm_law_draw cd_law_draw ct_law_draw : Value} (a_law_draw : PySem.W.nsIn K mainGlobals "_law_draw" = some (some (.ref g_law_draw))) (l_law_draw : K.lookup g_law_draw = some ⟨oc_law_draw, od_law_draw, .func (PySem.W.fnOf "_law_draw" "_law_draw" (defArgs s_law_draw) (defBody s_law_draw) (defScope s_law_draw) .none kV_law_draw dc_law_draw pm_law_draw an_law_draw cd_law_draw ct_law_draw), sl_law_draw⟩) (c_law_draw : PySem.W.codeIn K cd_law_draw "_law_draw" = true) (k_law_draw : PySem.W.keepIn K (.ref g_law_draw) = true)
    {g_law_pick : Addr} {od_law_pick an_law_pick : Option Addr} {sl_law_pick : Array (Option Value)} {oc_law_pick kV_law_pick dc_law_pick pm_law_pick cd_law_pick ct_law_pick : Value} (a_law_pick : PySem.W.nsIn K mainGlobals "_law_pick" = some (some (.ref g_law_pick))) (l_law_pick : K.lookup g_law_pick = some ⟨oc_law_pick, od_law_pick, .func (PySem.W.fnOf "_law_pick" "_law_pick" (defArgs s_law_pick) (defBody s_law_pick) (defScope s_law_pick) .none kV_law_pick dc_law_pick pm_law_pick an_law_pick cd_law_pick ct_law_pick), sl_law_pick⟩) (c_law_pick : PySem.W.codeIn K cd_law_pick "_law_pick" = true) (k_law_pick : PySem.W.keepIn K (.ref g_law_pick) = true)
    {g_law_same : Addr} {od_law_same an_law_same : Option Addr} {sl_law_same : Array (Option Value)} {oc_law_same kV_law_same dc_law_same pm_law_same cd_law_same ct_law_same : Value} (a_law_same : PySem.W.nsIn K mainGlobals "_law_same" = some (some (.ref g_law_same))) (l_law_same : K.lookup g_law_same = some ⟨oc_law_same, od_law_same, .func (PySem.W.fnOf "_law_same" "_law_same" (defArgs s_law_same) (defBody s_law_same) (defScope s_law_same) .none kV_law_same dc_law_same pm_law_same an_law_same cd_law_same ct_law_same), sl_law_same⟩) (c_law_same : PySem.W.codeIn K cd_law_same "_law_same" = true) (k_law_same : PySem.W.keepIn K (.ref g_law_same) = true)
    {g_law_spot : Addr} {od_law_spot an_law_spot : Option Addr} {sl_law_spot : Array (Option Value)} {oc_law_spot kV_law_spot dc_law_spot pm_law_spot cd_law_spot ct_law_spot : Value} (a_law_spot : PySem.W.nsIn K mainGlobals "_law_spot" = some (some (.ref g_law_spot))) (l_law_spot : K.lookup g_law_spot = some ⟨oc_law_spot, od_law_spot, .func (PySem.W.fnOf "_law_spot" "_law_spot" (defArgs s_law_spot) (defBody s_law_spot) (defScope s_law_spot) .none kV_law_spot dc_law_spot pm_law_spot an_law_spot cd_law_spot ct_law_spot), sl_law_spot⟩) (c_law_spot : PySem.W.codeIn K cd_law_spot "_law_spot" = true) (k_law_spot : PySem.W.keepIn K (.ref g_law_spot) = true)
    {g_law_keeps : Addr} {od_law_keeps an_law_keeps : Option Addr} {sl_law_keeps : Array (Option Value)} {oc_law_keeps kV_law_keeps dc_law_keeps pm_law_keeps cd_law_keeps ct_law_keeps : Value} (a_law_keeps : PySem.W.nsIn K mainGlobals "_law_keeps" = some (some (.ref g_law_keeps))) (l_law_keeps : K.lookup g_law_keeps = some ⟨oc_law_keeps, od_law_keeps, .func (PySem.W.fnOf "_law_keeps" "_law_keeps" (defArgs s_law_keeps) (defBody s_law_keeps) (defScope s_law_keeps) .none kV_law_keeps dc_law_keeps pm_law_keeps an_law_keeps cd_law_keeps ct_law_keeps), sl_law_keeps⟩) (c_law_keeps : PySem.W.codeIn K cd_law_keeps "_law_keeps" = true) (k_law_keeps : PySem.W.keepIn K (.ref g_law_keeps) = true)
    {g_law_people : Addr} {od_law_people an_law_people : Option Addr} {sl_law_people : Array (Option Value)} {oc_law_people kV_law_people dc_law_people pm_law_people cd_law_people ct_law_people : Value} (a_law_people : PySem.W.nsIn K mainGlobals "_law_people" = some (some (.ref g_law_people))) (l_law_people : K.lookup g_law_people = some ⟨oc_law_people, od_law_people, .func (PySem.W.fnOf "_law_people" "_law_people" (defArgs s_law_people) (defBody s_law_people) (defScope s_law_people) .none kV_law_people dc_law_people pm_law_people an_law_people cd_law_people ct_law_people), sl_law_people⟩) (c_law_people : PySem.W.codeIn K cd_law_people "_law_people" = true) (k_law_people : PySem.W.keepIn K (.ref g_law_people) = true)
    {g_law_judge : Addr} {od_law_judge an_law_judge : Option Addr} {sl_law_judge : Array (Option Value)} {oc_law_judge kV_law_judge dc_law_judge pm_law_judge cd_law_judge ct_law_judge : Value} (a_law_judge : PySem.W.nsIn K mainGlobals "_law_judge" = some (some (.ref g_law_judge))) (l_law_judge : K.lookup g_law_judge = some ⟨oc_law_judge, od_law_judge, .func (PySem.W.fnOf "_law_judge" "_law_judge" (defArgs s_law_judge) (defBody s_law_judge) (defScope s_law_judge) .none kV_law_judge dc_law_judge pm_law_judge an_law_judge cd_law_judge ct_law_judge), sl_law_judge⟩) (c_law_judge : PySem.W.codeIn K cd_law_judge "_law_judge" = true) (k_law_judge : PySem.W.keepIn K (.ref g_law_judge) = true)
    {g_law_bent : Addr} {od_law_bent an_law_bent : Option Addr} {sl_law_bent : Array (Option Value)} {oc_law_bent kV_law_bent dc_law_bent pm_law_bent cd_law_bent ct_law_bent : Value} (a_law_bent : PySem.W.nsIn K mainGlobals "_law_bent" = some (some (.ref g_law_bent))) (l_law_bent : K.lookup g_law_bent = some ⟨oc_law_bent, od_law_bent, .func (PySem.W.fnOf "_law_bent" "_law_bent" (defArgs s_law_bent) (defBody s_law_bent) (defScope s_law_bent) .none kV_law_bent dc_law_bent pm_law_bent an_law_bent cd_law_bent ct_law_bent), sl_law_bent⟩) (c_law_bent : PySem.W.codeIn K cd_law_bent "_law_bent" = true) (k_law_bent : PySem.W.keepIn K (.ref g_law_bent) = true)
    {g_law : Addr} {od_law an_law : Option Addr} {sl_law : Array (Option Value)} {oc_law kV_law dc_law pm_law cd_law ct_law : Value} (a_law : PySem.W.nsIn K mainGlobals "law" = some (some (.ref g_law))) (l_law : K.lookup g_law = some ⟨oc_law, od_law, .func (PySem.W.fnOf "law" "law" (defArgs s_law) (defBody s_law) (defScope s_law) .none kV_law dc_law pm_law an_law cd_law ct_law), sl_law⟩) (c_law : PySem.W.codeIn K cd_law "law" = true) (k_law : PySem.W.keepIn K (.ref g_law) = true)
    (z_len : PySem.W.nsIn K mainGlobals "len" = some none) (z_int : PySem.W.nsIn K mainGlobals "int" = some none) (z_abs : PySem.W.nsIn K mainGlobals "abs" = some none) (z_min : PySem.W.nsIn K mainGlobals "min" = some none) (z_max : PySem.W.nsIn K mainGlobals "max" = some none) (z_sum : PySem.W.nsIn K mainGlobals "sum" = some none) (z_all : PySem.W.nsIn K mainGlobals "all" = some none) (z_any : PySem.W.nsIn K mainGlobals "any" = some none) (z_list : PySem.W.nsIn K mainGlobals "list" = some none) (z_tuple : PySem.W.nsIn K mainGlobals "tuple" = some none) (z_range : PySem.W.nsIn K mainGlobals "range" = some none) (z_enumerate : PySem.W.nsIn K mainGlobals "enumerate" = some none) (z_zip : PySem.W.nsIn K mainGlobals "zip" = some none) (z_reversed : PySem.W.nsIn K mainGlobals "reversed" = some none) (z_isinstance : PySem.W.nsIn K mainGlobals "isinstance" = some none) (z_repr : PySem.W.nsIn K mainGlobals "repr" = some none) (z_sorted : PySem.W.nsIn K mainGlobals "sorted" = some none) (z_str : PySem.W.nsIn K mainGlobals "str" = some none) (z_bool : PySem.W.nsIn K mainGlobals "bool" = some none) :
    ∃ fd : FuncData, (∀ (s : Shared) (v : Value), BindsTo s fd ⟨[v], []⟩ [("script", v)]) ∧ ∀ base : Heap, K.In base → base.Ns mainGlobals mg → FnOk l.prog w K mg base CX0 13 fa fd ["script"] (spF K 1 0 f_law) := by
  have e := hfa.symm.trans (PySem.W.mg_of X G a_law)
  cases e
  have hbi : ∀ f ∈ bnames, mg f = none := by
    intro f hf
    simp only [bnames, List.mem_cons, List.not_mem_nil, or_false] at hf
    rcases hf with rfl | rfl | rfl | rfl | rfl | rfl | rfl | rfl | rfl | rfl | rfl | rfl | rfl | rfl | rfl | rfl | rfl | rfl | rfl
    · exact PySem.W.mg_none_of X G z_len
    · exact PySem.W.mg_none_of X G z_int
    · exact PySem.W.mg_none_of X G z_abs
    · exact PySem.W.mg_none_of X G z_min
    · exact PySem.W.mg_none_of X G z_max
    · exact PySem.W.mg_none_of X G z_sum
    · exact PySem.W.mg_none_of X G z_all
    · exact PySem.W.mg_none_of X G z_any
    · exact PySem.W.mg_none_of X G z_list
    · exact PySem.W.mg_none_of X G z_tuple
    · exact PySem.W.mg_none_of X G z_range
    · exact PySem.W.mg_none_of X G z_enumerate
    · exact PySem.W.mg_none_of X G z_zip
    · exact PySem.W.mg_none_of X G z_reversed
    · exact PySem.W.mg_none_of X G z_isinstance
    · exact PySem.W.mg_none_of X G z_repr
    · exact PySem.W.mg_none_of X G z_sorted
    · exact PySem.W.mg_none_of X G z_str
    · exact PySem.W.mg_none_of X G z_bool
  have F_spot_of := fun_mk (st := s_spot_of) l_spot_of c_spot_of k_spot_of
  have D_spot_of : DefF K mg "spot_of" s_spot_of ["bill", "name"] _ _ := ⟨F_spot_of, PySem.W.mg_of X G a_spot_of, F_spot_of.binds (ps := ["bill", "name"]) fun _ _ _ _ _ _ us hl => match us, hl with | [_, _], _ => rfl⟩
  have F_keeps_claim := fun_mk (st := s_keeps_claim) l_keeps_claim c_keeps_claim k_keeps_claim
  have D_keeps_claim : DefF K mg "keeps_claim" s_keeps_claim ["bill", "claim"] _ _ := ⟨F_keeps_claim, PySem.W.mg_of X G a_keeps_claim, F_keeps_claim.binds (ps := ["bill", "claim"]) fun _ _ _ _ _ _ us hl => match us, hl with | [_, _], _ => rfl⟩
  have F_is_bill := fun_mk (st := s_is_bill) l_is_bill c_is_bill k_is_bill
  have D_is_bill : DefF K mg "is_bill" s_is_bill ["bill", "names", "claims"] _ _ := ⟨F_is_bill, PySem.W.mg_of X G a_is_bill, F_is_bill.binds (ps := ["bill", "names", "claims"]) fun _ _ _ _ _ _ us hl => match us, hl with | [_, _, _], _ => rfl⟩
  have F_law_cell := fun_mk (st := s_law_cell) l_law_cell c_law_cell k_law_cell
  have D_law_cell : DefF K mg "_law_cell" s_law_cell ["script", "k"] _ _ := ⟨F_law_cell, PySem.W.mg_of X G a_law_cell, F_law_cell.binds (ps := ["script", "k"]) fun _ _ _ _ _ _ us hl => match us, hl with | [_, _], _ => rfl⟩
  have F_law_digits := fun_mk (st := s_law_digits) l_law_digits c_law_digits k_law_digits
  have D_law_digits : DefF K mg "_law_digits" s_law_digits ["script", "first", "last"] _ _ := ⟨F_law_digits, PySem.W.mg_of X G a_law_digits, F_law_digits.binds (ps := ["script", "first", "last"]) fun _ _ _ _ _ _ us hl => match us, hl with | [_, _, _], _ => rfl⟩
  have F_law_draw := fun_mk (st := s_law_draw) l_law_draw c_law_draw k_law_draw
  have D_law_draw : DefF K mg "_law_draw" s_law_draw ["box", "many"] _ _ := ⟨F_law_draw, PySem.W.mg_of X G a_law_draw, F_law_draw.binds (ps := ["box", "many"]) fun _ _ _ _ _ _ us hl => match us, hl with | [_, _], _ => rfl⟩
  have F_law_pick := fun_mk (st := s_law_pick) l_law_pick c_law_pick k_law_pick
  have D_law_pick : DefF K mg "_law_pick" s_law_pick ["box", "row"] _ _ := ⟨F_law_pick, PySem.W.mg_of X G a_law_pick, F_law_pick.binds (ps := ["box", "row"]) fun _ _ _ _ _ _ us hl => match us, hl with | [_, _], _ => rfl⟩
  have F_law_same := fun_mk (st := s_law_same) l_law_same c_law_same k_law_same
  have D_law_same : DefF K mg "_law_same" s_law_same ["told", "due"] _ _ := ⟨F_law_same, PySem.W.mg_of X G a_law_same, F_law_same.binds (ps := ["told", "due"]) fun _ _ _ _ _ _ us hl => match us, hl with | [_, _], _ => rfl⟩
  have F_law_spot := fun_mk (st := s_law_spot) l_law_spot c_law_spot k_law_spot
  have D_law_spot : DefF K mg "_law_spot" s_law_spot ["bill", "name_of"] _ _ := ⟨F_law_spot, PySem.W.mg_of X G a_law_spot, F_law_spot.binds (ps := ["bill", "name_of"]) fun _ _ _ _ _ _ us hl => match us, hl with | [_, _], _ => rfl⟩
  have F_law_keeps := fun_mk (st := s_law_keeps) l_law_keeps c_law_keeps k_law_keeps
  have D_law_keeps : DefF K mg "_law_keeps" s_law_keeps ["bill", "claim"] _ _ := ⟨F_law_keeps, PySem.W.mg_of X G a_law_keeps, F_law_keeps.binds (ps := ["bill", "claim"]) fun _ _ _ _ _ _ us hl => match us, hl with | [_, _], _ => rfl⟩
  have F_law_people := fun_mk (st := s_law_people) l_law_people c_law_people k_law_people
  have D_law_people : DefF K mg "_law_people" s_law_people ["box", "many"] _ _ := ⟨F_law_people, PySem.W.mg_of X G a_law_people, F_law_people.binds (ps := ["box", "many"]) fun _ _ _ _ _ _ us hl => match us, hl with | [_, _], _ => rfl⟩
  have F_law_judge := fun_mk (st := s_law_judge) l_law_judge c_law_judge k_law_judge
  have D_law_judge : DefF K mg "_law_judge" s_law_judge ["bill", "people", "claims"] _ _ := ⟨F_law_judge, PySem.W.mg_of X G a_law_judge, F_law_judge.binds (ps := ["bill", "people", "claims"]) fun _ _ _ _ _ _ us hl => match us, hl with | [_, _, _], _ => rfl⟩
  have F_law_bent := fun_mk (st := s_law_bent) l_law_bent c_law_bent k_law_bent
  have D_law_bent : DefF K mg "_law_bent" s_law_bent ["box", "bill", "people"] _ _ := ⟨F_law_bent, PySem.W.mg_of X G a_law_bent, F_law_bent.binds (ps := ["box", "bill", "people"]) fun _ _ _ _ _ _ us hl => match us, hl with | [_, _, _], _ => rfl⟩
  have F_law := fun_mk (st := s_law) l_law c_law k_law
  have D_law : DefF K mg "law" s_law ["script"] _ _ := ⟨F_law, PySem.W.mg_of X G a_law, F_law.binds (ps := ["script"]) fun _ _ _ _ _ _ us hl => match us, hl with | [_], _ => rfl⟩
  exact ⟨_, fun s v => .of_eq rfl, fun base _ _ => wire hbi D_spot_of D_keeps_claim D_is_bill D_law_cell D_law_digits D_law_draw D_law_pick D_law_same D_law_spot D_law_keeps D_law_people D_law_judge D_law_bent D_law⟩
set_option hygiene false in
local macro_rules | `(tactic| decreasing_trivial) => `(tactic| repeat (first
  | (show znx _ _ _; first | refine znx_nx (h := ?_) | refine znx_rt (h := ?_) | refine znx_bk (h := ?_) | refine znx_ct (h := ?_))
  | (show ztu _ _ _; first | refine ztu_nx (h := ?_) | refine ztu_ct (h := ?_) | refine ztu_bk (h := ?_) | refine ztu_rt (h := ?_))
  | (show zset _ _ _ _; first | refine zset_i (h := ?_))
  | (show zfin _ _ _; first | refine zfin_v (h := ?_) | refine zfin_o (h := ?_) | refine zfin_t (h := ?_))
  | (show zif _ _ _; first | refine zif_t (h := ?_) | refine zif_f (h := ?_))
  | (show zb _ _; first | refine zb_i (h := ?_))
  | (show zg _ _ _; first | refine zg_i (h := ?_))
  | (show zwipe _ _ _; first | refine zwipe_i (h := ?_))
  | (show zss _ _ _ _; first | refine zss_cons (h := ?_) | refine zss_nil (h := ?_))
  | (show zs _ _ _ _; first | refine zs_asg (h := ?_) | refine zs_iff (h := ?_) | refine zs_ret (h := ?_) | refine zs_ex (h := ?_) | (show zs _ (.ext _ _) _ _; refine zs_ext (h := ?_)) | refine zs_for (h := ?_) | refine zs_par (h := ?_) | refine zs_par3 (h := ?_) | refine zs_retN (h := ?_) | refine zs_brk (h := ?_) | refine zs_cont (h := ?_) | refine zs_pass (h := ?_) | (show zs _ (.aug _ _ _) _ _; refine zs_aug (h := ?_)) | (show zs _ (.set _ [] _ _) _ _; refine zs_set0 (h := ?_)) | (show zs _ (.set _ [_] _ _) _ _; refine zs_set1 (h := ?_)) | (show zs _ (.augset _ [] _ _ _) _ _; refine zs_augset (h := ?_)))
  | (show zasg _ _ _ _; first | refine zasg_t (h := ?_) | (show zasg (.n _) _ _ _; refine zasg_n (h := ?_)))
  | (show zasgs _ _ _ _; first | refine zasgs_nil (h := ?_) | refine zasgs_cons (h := ?_))
  | (show ze _ _ _ _ _; first | refine ze_int (h := ?_) | refine ze_pr (h := ?_) | (show ze _ (.loc _) .val _ _; refine ze_loc_v (h := ?_)) | (show ze _ (.loc _) .opd _ _; refine ze_loc_o (h := ?_)) | (show ze _ (.loc _) .tst _ _; refine ze_loc_t (h := ?_)) | (show ze _ (.auto _) _ _ _; refine ze_auto (h := ?_)) | (show ze _ (.mov _) _ _ _; refine ze_mov (h := ?_)) | refine ze_tup (h := ?_) | refine ze_lst (h := ?_) | (show ze _ (.idx _ _) .val _ _; refine ze_idx_v (h := ?_)) | (show ze _ (.idx _ _) _ _ _; refine ze_idx_o (h := ?_)) | refine ze_call (h := ?_) | (show ze _ (.cio (Str.ofString "_law_pick") [_] [.loc _]) _ _ _; refine ze_pickO (h := ?_)) | (show ze _ (.cio _ [_] _) _ _ _; refine zbox_e (h := ?_)) | refine ze_comp (h := ?_) | refine ze_bl (h := ?_) | refine ze_non (h := ?_) | refine ze_str (h := ?_) | refine ze_not (h := ?_) | refine ze_andT (h := ?_) | refine ze_orT (h := ?_) | (show ze _ (.and_ _) _ _ _; refine ze_andV (h := ?_)) | (show ze _ (.or_ _) _ _ _; refine ze_orV (h := ?_)) | refine ze_ite (h := ?_) | (show ze _ (.chain _ _ _ _ _) _ _ _; refine ze_chain (h := ?_)) | (show ze _ (.mut _ [] _ _) _ _ _; refine ze_mut0 (h := ?_)))
  | (show zEs _ _ _ _; first | refine zEs_cons (h := ?_) | refine zEs_nil (h := ?_))
  | (show zOs _ _ _ _; first | (show zOs _ (_ :: _) _ _; refine zOs_cons (h := ?_)) | refine zOs_nil (h := ?_))
  | (show zt _ _ _ _; first | refine zt_not (h := ?_) | refine zt_and (h := ?_) | refine zt_or (h := ?_) | refine zt_of (h := ?_))
  | (show zAnd _ _ _ _; first | refine zAnd_cons (h := ?_) | refine zAnd_one (h := ?_))
  | (show zOr _ _ _ _; first | refine zOr_cons (h := ?_) | refine zOr_one (h := ?_))
  | (show zAndV _ _ _ _; first | refine zAndV_cons (h := ?_) | refine zAndV_one (h := ?_))
  | (show zOrV _ _ _ _; first | refine zOrV_cons (h := ?_) | refine zOrV_one (h := ?_))
  | (show ztA _ _ _ _; first | refine ztA_not (h := ?_) | refine ztA_and (h := ?_) | refine ztA_or (h := ?_) | (show ztA _ (.chain _ _ _ _ _) _ _; refine ztA_chain (h := ?_)) | refine ztA_of (h := ?_))
  | (show zAndA _ _ _ _; first | refine zAndA_cons (h := ?_) | refine zAndA_one (h := ?_))
  | (show zOrA _ _ _ _; first | refine zOrA_cons (h := ?_) | refine zOrA_one (h := ?_))
  | (show ztr _ _; first | refine ztr_bl (h := ?_) | refine ztr_int (h := ?_) | refine ztr_lst (h := ?_) | refine ztr_tup (h := ?_) | refine ztr_non (h := ?_))
  | (show zr _ _; first | refine zr_i (h := ?_))
  | (show zfz _ _; first | refine zfz_u (h := ?_) | (show zfz (.lst _ _) _; refine zfz_l (h := ?_)) | refine zfz_i (h := ?_))
  | (show zfzs _ _; first | refine zfzs_u (h := ?_) | refine zfzs_i (h := ?_))
  | (show zupd _ _ _ _; first | (show zupd (mmF .append [_]) [] (.lst true _) _; refine zupd_app (h := ?_)) | (show zupd (mmF .insert [.int _, _]) [] (.lst true _) _; refine zupd_ins (h := ?_)))
  | (show zst _ _ _ _ _ _ _ _; first | refine zst_n (h := ?_) | refine zst_i (h := ?_))
  | (show zx _ _ _; first | refine zx_rfl (h := ?_) | (show zx (.str _) (.int ((_ : Nat) : Int)) _; refine zx_str (h := ?_)) | (show zx (.lst _ (List.map D.int _)) (.int ((_ : Nat) : Int)) _; refine zx_natI (h := ?_)) | (show zx (.tup (List.map D.int _)) (.int ((_ : Nat) : Int)) _; refine zx_natTI (h := ?_)) | (show zx (.lst _ (List.map D.int _)) (.int _) _; refine zx_intI (h := ?_)) | (show zx (.tup (List.map D.int _)) (.int _) _; refine zx_intTI (h := ?_)) | (show zx (.lst _ (List.map _ _)) (.int ((_ : Nat) : Int)) _; refine zx_nat (h := ?_)) | (show zx (.tup (List.map _ _)) (.int ((_ : Nat) : Int)) _; refine zx_natT (h := ?_)) | (show zx (.lst _ (List.map _ _)) (.int (-1)) _; refine zx_last (h := ?_)) | (show zx (.lst _ (List.map _ _)) (.int _) _; refine zx_int (h := ?_)) | (show zx (.tup (List.map _ _)) (.int _) _; refine zx_intT (h := ?_)))
  | (show zit _ _ _; first | (show zit .range [.int ((_ : Nat) : Int)] _; refine zit_nat (h := ?_)) | (show zit .range [.int (((_ : Nat) : Int) + 1)] _; refine zit_natS (h := ?_)) | (show zit .range [.int _] _; refine zit_r1 (h := ?_)) | (show zit .range [.int 1, .int (((_ : Nat) : Int) + 1)] _; refine zit_from1 (h := ?_)) | (show zit .range [.int _, .int _] _; refine zit_r2 (h := ?_)) | (show zit .enum [.str _] _; refine zit_enumS (h := ?_)) | (show zit .enum [.tup (List.map _ _)] _; refine zit_enumT (h := ?_)) | (show zit .enum [.lst _ (List.map _ _)] _; refine zit_enum (h := ?_)) | (show zit .zip [.lst _ (List.map _ _), .lst _ (List.map _ _), .lst _ (List.map _ _)] _; refine zit_zip3 (h := ?_)) | (show zit .val [.str _] _; refine zit_str (h := ?_)) | (show zit .zip [.lst _ (List.map _ _), .lst _ (List.map _ _)] _; refine zit_zip (h := ?_)) | (show zit .zip [.tup (List.map _ _), .tup (List.map _ _)] _; refine zit_zipT (h := ?_)) | (show zit .zip [.lst _ (List.map _ _), .tup (List.map _ _)] _; refine zit_zipLT (h := ?_)) | (show zit .zip [.tup (List.map _ _), .lst _ (List.map _ _)] _; refine zit_zipTL (h := ?_)) | (show zit .rev [.lst _ _] _; refine zit_rev (h := ?_)) | (show zit .val [.lst _ _] _; refine zit_lst (h := ?_)) | (show zit .val [.tup _] _; refine zit_tup (h := ?_)))
  | (show zp _ _ _; first | (show zp (.slc false false) [.lst _ _] _; refine zp_slcFF (h := ?_)) | (show zp .rev [.tup _] _; refine zp_revT (h := ?_)) | refine zp_add (h := ?_) | refine zp_sub (h := ?_) | refine zp_neg (h := ?_) | (show zp .mul [.int _, .int _] _; refine zp_mul (h := ?_)) | (show zp .fdiv _ _; refine zp_fdiv (h := ?_)) | (show zp .mod _ _; refine zp_mod (h := ?_)) | (show zp .pow _ _; refine zp_powL (h := ?_)) | refine zp_lt (h := ?_) | refine zp_gt (h := ?_) | refine zp_le (h := ?_) | refine zp_ge (h := ?_) | refine zp_eqI (h := ?_) | refine zp_neI (h := ?_) | (show zp .eq [sgn _, sgn _] _; refine zp_eqSgn (h := ?_)) | (show zp .ne [sgn _, sgn _] _; refine zp_neSgn (h := ?_)) | (show zp .eq [_, _] _; refine zp_eqS (h := ?_)) | (show zp .ne [_, _] _; refine zp_neS (h := ?_)) | refine zp_eqInts (h := ?_) | refine zp_neInts (h := ?_) | refine zp_isN (h := ?_) | refine zp_notN (h := ?_) | refine zp_isB (h := ?_) | refine zp_notB (h := ?_) | refine zp_isa (h := ?_) | (show zp .id1 _ _; refine zp_id1 (h := ?_)) | (show zp .str1 [.int _] _; refine zp_str1 (h := ?_)) | (show zp .fs1 [.int _] _; refine zp_fs1 (h := ?_)) | (show zp (.fj _) [.int _, .int _] _; refine zp_fj (h := ?_)) | refine zp_sort1 (h := ?_) | refine zp_lenM (h := ?_) | refine zp_lenMT (h := ?_) | (show zp .len [.str _] _; refine zp_lenS (h := ?_)) | (show zp .rev [.str _] _; refine zp_revS (h := ?_)) | refine zp_lenL (h := ?_) | refine zp_lenT (h := ?_) | refine zp_int (h := ?_) | refine zp_intB (h := ?_) | refine zp_abs (h := ?_) | refine zp_min2 (h := ?_) | refine zp_max2 (h := ?_) | refine zp_sumM (h := ?_) | (show zp .sum [.lst _ _] _; refine zp_sumL (h := ?_)) | (show zp .sum [.tup (List.map D.int _)] _; refine zp_sumTI (h := ?_)) | refine zp_allM (h := ?_) | refine zp_anyM (h := ?_) | (show zp .lst1 [.lst _ _] _; refine zp_lst1L (h := ?_)) | (show zp .lst1 [.tup _] _; refine zp_lst1T (h := ?_)) | (show zp .tup1 [.lst _ _] _; refine zp_tup1L (h := ?_)) | (show zp .tup1 [.tup _] _; refine zp_tup1T (h := ?_)) | (show zp .rev [.lst _ _] _; refine zp_revL (h := ?_)) | (show zp .range1 [.int ((_ : Nat) : Int)] _; refine zp_range1 (h := ?_)) | (show zp .trange1 [.int ((_ : Nat) : Int)] _; refine zp_trange1 (h := ?_)) | (show zp .range2 [.int _, .int _] _; refine zp_range2 (h := ?_)) | (show zp (.slc true true) [.lst _ (List.map _ _), .int _, .int _] _; refine zp_slcLL (h := ?_)) | (show zp (.slc true false) [.lst _ (List.map _ _), .int _] _; refine zp_slcLT (h := ?_)) | (show zp (.slc false true) [.lst _ (List.map _ _), .int _] _; refine zp_slcLF (h := ?_)) | (show zp (.slc true true) [.tup (List.map _ _), .int _, .int _] _; refine zp_slcTL (h := ?_)) | (show zp (.slc true false) [.tup (List.map _ _), .int _] _; refine zp_slcTT (h := ?_)) | (show zp (.slc false true) [.tup (List.map _ _), .int _] _; refine zp_slcTF (h := ?_)) | (show zp .add [.lst _ _, .lst _ _] _; refine zp_addL (h := ?_)) | (show zp .add [.tup _, .tup _] _; refine zp_addT (h := ?_)))))
-- HOIST
/-! rows of names: texts as lists of signs -/
theorem eqv_tx (a b : List Nat) : PyData.eqv (py (tX a)) (py (tX b)) = decide (a = b) := by
  show PyData.eqv (.str ⟨a.toArray⟩) (.str ⟨b.toArray⟩) = _
  by_cases h : a = b
  · subst h
    rw [H.eqv_str, decide_eq_true rfl]
  · rw [decide_eq_false h]
    have : ¬ ((⟨a.toArray⟩ : PySem.Str) = ⟨b.toArray⟩) := fun e => h (by
      have := congrArg (fun s : PySem.Str => s.cps.toList) e
      simpa using this)
    simpa [PyData.eqv] using this
/-- a name -/
structure Nm (c : List Nat) : Prop where
  ok : okC c
  l : c.length ≤ 20
theorem Nm.dep {c : List Nat} (h : Nm c) (n : Nat) : dep n (tX c) = true := dep_tx h.ok n
def Nms (l : List (List Nat)) : Prop := ∀ c ∈ l, Nm c
theorem Nms.dep {l : List (List Nat)} (h : Nms l) (n : Nat) : depL n (l.map tX) = true := depL_mem fun d hd => by
  obtain ⟨c, hc, rfl⟩ := List.mem_map.mp hd
  exact (h c hc).dep n
theorem unT (l : List (List Nat)) : unL (l.map tX) = true := unL_mapU (fun _ => rfl) l
theorem frT (l : List (List Nat)) : frzL (l.map tX) = l.map tX := frzL_mapU (fun _ => rfl) l
theorem alT (l : List (List Nat)) : alL (l.map tX) = true := alL_mapU (f := tX) (fun _ => rfl) l
theorem anyEq_tx (a : List Nat) : ∀ l : List (List Nat), anyEq (tX a) (l.map tX) = decide (a ∈ l)
  | [] => rfl
  | b :: l => by
    have ih := anyEq_tx a l
    unfold anyEq at ih ⊢
    rw [List.map_cons, List.any_cons, ih, eqv_tx]
    by_cases h : b = a
    · subst h; simp
    · rw [decide_eq_false h, Bool.false_or, decide_eq_decide, List.mem_cons]
      exact ⟨.inr, fun z => z.resolve_left fun q => h q.symm⟩
theorem inF_tx {a : List Nat} {l : List (List Nat)} (ha : Nm a) (hl : Nms l) (o : Bool) : inF (tX a) (.lst o (l.map tX)) = some (decide (a ∈ l)) := by
  show (if _ then _ else _) = _
  rw [ha.dep, hl.dep]
  simp only [Bool.and_self, if_true, anyEq_tx]
theorem pyL_tx : ∀ l : List (List Nat), pyL (l.map tX) = l.map fun c => PyData.str ⟨c.toArray⟩
  | [] => rfl
  | c :: l => by rw [List.map_cons, List.map_cons, pyL, pyL_tx l]; rfl
theorem findE_tx {a : List Nat} {l : List (List Nat)} (h : a ∈ l) : findE (tX a) (l.map tX) = some (l.idxOf a) := by
  unfold findE PySem.SeqAt.dataPlace
  rw [pyL_tx, List.findIdx?_map]
  have e : ((fun y => PyData.eqv y (py (tX a))) ∘ fun c : List Nat => PyData.str ⟨c.toArray⟩) = fun y : List Nat => y == a := by
    funext y
    show PyData.eqv (py (tX y)) (py (tX a)) = _
    rw [eqv_tx]
    by_cases q : y = a
    · subst q; simp
    · rw [decide_eq_false q]; simp [q]
  rw [e, List.findIdx?_eq_some_iff_findIdx_eq]
  exact ⟨List.idxOf_lt_length_iff.mpr h, rfl⟩
theorem zp_indexX {a : List Nat} {l : List (List Nat)} {o : Bool} {Q : D → Prop} (ha : Nm a) (hl : Nms l) (m : a ∈ l) (h : Q (.int (l.idxOf a : Nat))) : zp .index [.lst o (l.map tX), tX a] Q := zp_of (by
  have e : (Sk.dep 60 (tX a) && depL 60 (l.map tX)) = true := by rw [hl.dep, ha.dep]; rfl
  simp only [prF, e, if_true, findE_tx m, Option.map_some]) h
theorem cntE_tx (a : List Nat) (l : List (List Nat)) : cntE (tX a) (l.map tX) = l.count a := by
  unfold cntE
  rw [pyL_tx, List.countP_map, List.count_eq_countP]
  refine List.countP_congr fun c _ => ?_
  show PyData.eqv (py (tX c)) (py (tX a)) = true ↔ _
  rw [eqv_tx]; simp
theorem zp_countX {a : List Nat} {l : List (List Nat)} {o : Bool} {Q : D → Prop} (ha : Nm a) (hl : Nms l) (h : Q (.int (l.count a : Nat))) : zp .count [.lst o (l.map tX), tX a] Q := zp_of (by
  have e : (Sk.dep 60 (tX a) && depL 60 (l.map tX)) = true := by rw [hl.dep, ha.dep]; rfl
  simp only [prF, e, if_true, cntE_tx]) h
/-- sorted -/
def srt (l : List (List Nat)) : List (List Nat) := l.mergeSort fun a b => decide (a ≤ b)
theorem sortD_tx (l : List (List Nat)) : sortD (l.map tX) = (srt l).map tX := by
  unfold sortD srt
  refine (PySem.W.sort_maps (r := fun a b : List Nat => decide (a ≤ b)) (s := PySem.W.dataLe false py) tX (fun a _ b _ => ?_)).symm
  have h := congrFun (congrFun (PySem.W.dataLe_str (fun c : List Nat => (⟨c.toArray⟩ : PySem.Str))) a) b
  exact h.symm
theorem srt_perm (l : List (List Nat)) : (srt l).Perm l := List.mergeSort_perm _ _
theorem srt_eq {a b : List (List Nat)} : srt a = srt b ↔ a.Perm b := by
  constructor
  · intro e
    exact (srt_perm a).symm.trans (e ▸ srt_perm b)
  · intro h
    have p := (srt_perm a).trans (h.trans (srt_perm b).symm)
    have pw : ∀ l : List (List Nat), (srt l).Pairwise fun a b => a ≤ b := fun l => by
      have := List.pairwise_mergeSort (le := fun a b : List Nat => decide (a ≤ b)) (fun a b c h1 h2 => by
        simp only [decide_eq_true_iff] at *
        exact List.le_trans h1 h2) (fun a b => by
        simp only [Bool.or_eq_true, decide_eq_true_iff]
        exact List.le_total a b) l
      exact this.imp fun h => by simpa using h
    exact List.Perm.eq_of_pairwise (le := fun a b => a ≤ b) (fun a b _ _ h1 h2 => List.le_antisymm h1 h2) (pw a) (pw b) p
theorem zp_sortTX {l : List (List Nat)} {o : Bool} {Q : D → Prop} (hl : l.length ≤ 1000) (h : Nms l) (hQ : Q (.lst true ((srt l).map tX))) : zp .sorted1 [.lst o (l.map tX)] Q := by
  cases l with
  | nil => exact zp_of (r := .lst true []) (by simp [prF, dInts]) (by simpa [srt] using hQ)
  | cons p l =>
    refine zp_of (r := .lst true ((srt (p :: l)).map tX)) ?_ hQ
    have e1 : dInts ((p :: l).map tX) = none := rfl
    have e2 : srtOk ((p :: l).map tX) = true := by
      unfold srtOk
      have h2 : cmpAll ((p :: l).map tX) = true := by
        unfold cmpAll
        rw [List.all_eq_true]
        intro x hx
        obtain ⟨p, hp, rfl⟩ := List.mem_map.mp hx
        simp only [Bool.and_eq_true, Bool.not_eq_true', List.all_eq_true]
        refine ⟨⟨(h p hp).dep _, rfl⟩, fun y hy => ?_⟩
        obtain ⟨q, _, rfl⟩ := List.mem_map.mp hy
        rfl
      have h3 : ((p :: l).map tX).all notTup = true := by
        rw [List.all_eq_true]
        intro x hx
        obtain ⟨p, _, rfl⟩ := List.mem_map.mp hx
        rfl
      rw [unT, h2, h3, decide_eq_true (by rw [List.length_map]; exact sz_le (by omega))]
      simp
    simp only [prF, e1, e2, if_true, sortD_tx]
theorem eqL_tx : ∀ a b : List (List Nat), PyData.eqvAll (pyL (a.map tX)) (pyL (b.map tX)) = decide (a = b)
  | [], [] => rfl
  | [], _ :: _ => rfl
  | _ :: _, [] => rfl
  | x :: a, y :: b => by
    rw [List.map_cons, List.map_cons, pyL, pyL, PyData.eqvAll, eqv_tx, eqL_tx a b]
    rw [Bool.eq_iff_iff]
    simp
theorem eqF_nms {a b : List (List Nat)} (ha : Nms a) (hb : Nms b) (o p : Bool) : eqF (.lst o (a.map tX)) (.lst p (b.map tX)) = some (decide (a = b)) := by
  unfold eqF eqOk
  rw [dep_lst (ha.dep 59), dep_lst (hb.dep 59)]
  simp only [Bool.and_self, if_true]
  congr 1
  exact eqL_tx a b
abbrev rF (r : List (List Nat)) : D := .lst false (r.map tX)
abbrev rO (r : List (List Nat)) : D := .lst true (r.map tX)
abbrev bF (b : List (List (List Nat))) : D := .lst false (b.map rF)
abbrev bO (b : List (List (List Nat))) : D := .lst true (b.map rO)
theorem un_rF (r : List (List Nat)) : un (rF r) = true := unT r
theorem unB (b : List (List (List Nat))) : unL (b.map rF) = true := unL_mapU un_rF b
theorem frB (b : List (List (List Nat))) : frzL (b.map rO) = b.map rF := frzL_mapF (fun r => by
  show D.lst false (frzL (r.map tX)) = _
  rw [frT]) b
theorem frF (b : List (List (List Nat))) : frzL (b.map rF) = b.map rF := frzL_mapU un_rF b
/-- bills -/
structure Bl (b : List (List (List Nat))) : Prop where
  n : ∀ r ∈ b, Nms r
  l : b.length ≤ 20
  r : ∀ r ∈ b, r.length ≤ 20
def sD : Option (Nat × Nat) → D
  | none => .non
  | some p => .tup [.int (p.1 : Int), .int (p.2 : Int)]
/-- where a name stands -/
def spot (b : List (List (List Nat))) (a : List Nat) : Option (Nat × Nat) := (b.findIdx? fun r => decide (a ∈ r)).map fun k => (k, (b.getD k []).idxOf a)
theorem spot_at {b : List (List (List Nat))} {a : List Nat} {n : Nat} (hn : n < b.length) (h : ∀ j (hj : j < n), a ∉ b[j]'(by omega)) (hm : a ∈ b[n]) : spot b a = some (n, b[n].idxOf a) := by
  unfold spot
  rw [List.findIdx?_eq_some_iff_getElem.mpr ⟨hn, by simpa using hm, fun j hj => by simpa using h j hj⟩]
  show some (n, (b.getD n []).idxOf a) = _
  rw [List.getD_eq_getElem?_getD, List.getElem?_eq_getElem hn]; rfl
theorem spot_no {b : List (List (List Nat))} {a : List Nat} (h : ∀ j (hj : j < b.length), a ∉ b[j]) : spot b a = none := by
  unfold spot
  rw [List.findIdx?_eq_none_iff.mpr fun r hr => by
    obtain ⟨j, hj, rfl⟩ := List.mem_iff_getElem.mp hr
    simpa using h j hj]
  rfl
theorem spot_bd {b : List (List (List Nat))} (hb : Bl b) {a : List Nat} {p : Nat × Nat} (h : spot b a = some p) : p.1 ≤ 20 ∧ p.2 ≤ 20 := by
  unfold spot at h
  obtain ⟨k, hk, rfl⟩ := Option.map_eq_some_iff.mp h
  obtain ⟨h1, h2, _⟩ := List.findIdx?_eq_some_iff_getElem.mp hk
  have h2 : a ∈ b[k] := by simpa using h2
  have := hb.l
  have e : b.getD k [] = b[k] := by rw [List.getD_eq_getElem?_getD, List.getElem?_eq_getElem h1]; rfl
  refine ⟨by show k ≤ 20; omega, ?_⟩
  show (b.getD k []).idxOf a ≤ 20
  rw [e]
  have := List.idxOf_lt_length_of_mem h2
  have := hb.r _ (List.getElem_mem h1)
  omega
theorem spot_eq {b : List (List (List Nat))} (hb : Bl b) {a : List Nat} (ha : Nm a) : f_spot_of [bF b, tX a] = some (sD (spot b a), []) := by
  have uB := unB b
  refine fn_p (N := N_spot_of) (by simp [N_spot_of]) (by simp only [N_spot_of, pad]; rfl) ?_
  decreasing_trivial
  refine zfor_mod [2, 3] (fun n vs => ∃ (x2 x3 : Option D), (∀ j (hj : j < b.length), j < n → a ∉ b[j]) ∧ vs = [x2, x3]) ⟨[_, _], rfl, _, _, (fun j hj h => by omega), rfl⟩ ?_ ?_
  · rintro n hn _ ⟨x2, x3, hno, rfl⟩
    simp only [updM, List.set_cons_succ, List.set_cons_zero]
    rw [List.length_zipIdx] at hn
    have eg : (b.zipIdx 0)[n]'(by rw [List.length_zipIdx]; exact hn) = (b[n], n) := by rw [List.getElem_zipIdx]; simp
    rw [eg]
    have hr := hb.n _ (List.getElem_mem hn)
    decreasing_trivial
    refine zp_inE (inF_tx ha hr false) ?_
    decreasing_trivial
    refine zif_d (fun g => ?_) (fun g => ?_)
    · have e := spot_at hn (fun j hj => hno j (by omega) hj) g
      decreasing_trivial
      refine zp_indexX ha hr g ?_
      decreasing_trivial
      exact Rt.e (by rw [e]; rfl)
    · decreasing_trivial
      refine ⟨[_, _], rfl, _, _, (fun j hj h => (by rcases Nat.lt_or_ge j n with z | z; exact hno j hj z; have e : j = n := (by omega); subst e; exact g)), rfl⟩
  · rintro _ ⟨x2, x3, hno, rfl⟩
    simp only [updM, List.set_cons_succ, List.set_cons_zero]
    have e := spot_no fun j hj => hno j hj (by rw [List.length_zipIdx]; exact hj)
    decreasing_trivial
    exact Rt.e (by rw [e]; rfl)
theorem lspot_eq {b : List (List (List Nat))} (hb : Bl b) {a : List Nat} (ha : Nm a) : f_law_spot [bF b, tX a] = some (sD (spot b a), []) := by
  have uB := unB b
  have hbl := hb.l
  refine fn_p (N := N_law_spot) (by simp [N_law_spot]) (by simp only [N_law_spot, pad]; rfl) ?_
  decreasing_trivial
  refine zfor_mod [2, 3] (fun n vs => ∃ (x2 x3 : Option D), (∀ j (hj : j < b.length), j < n → a ∉ b[j]) ∧ vs = [x2, x3]) ⟨[_, _], rfl, _, _, (fun j hj h => by omega), rfl⟩ ?_ ?_
  · rintro n hn _ ⟨x2, x3, hno, rfl⟩
    simp only [updM, List.set_cons_succ, List.set_cons_zero]
    rw [List.length_range] at hn
    rw [List.getElem_range]
    have hr := hb.n _ (List.getElem_mem hn)
    have hrl := hb.r _ (List.getElem_mem hn)
    decreasing_trivial
    refine zfor_mod [3] (fun m vs => ∃ (x3 : Option D), (∀ i (hi : i < b[n].length), i < m → b[n][i] ≠ a) ∧ vs = [x3]) ⟨[_], rfl, _, (fun i hi h => by omega), rfl⟩ ?_ ?_
    · rintro m hm _ ⟨x3, hn2, rfl⟩
      simp only [updM, List.set_cons_succ, List.set_cons_zero]
      rw [List.length_range] at hm
      rw [List.getElem_range]
      have hc := hr _ (List.getElem_mem hm)
      decreasing_trivial
      refine zp_eqE (eqF_tx hc.ok ha.ok) ?_
      decreasing_trivial
      refine zif_d (fun g => ?_) (fun g => ?_)
      · have hmem : a ∈ b[n] := g ▸ List.getElem_mem hm
        have e := spot_at hn (fun j hj => hno j (by omega) hj) hmem
        have ei : b[n].idxOf a = m := by
          have h1 : b[n].idxOf a < b[n].length := List.idxOf_lt_length_of_mem hmem
          have h2 : b[n][b[n].idxOf a] = a := List.getElem_idxOf h1
          rcases Nat.lt_trichotomy (b[n].idxOf a) m with z | z | z
          · exact absurd h2 (hn2 _ h1 z)
          · exact z
          · exact absurd g (by
              have := List.not_of_lt_findIdx (p := fun x => x == a) (xs := b[n]) (i := m) z
              simpa using this)
        decreasing_trivial
        exact Rt.e (by rw [e, ei]; rfl)
      · decreasing_trivial
        refine ⟨[_], rfl, _, (fun i hi h => (by rcases Nat.lt_or_ge i m with z | z; exact hn2 i hi z; have e : i = m := (by omega); subst e; exact g)), rfl⟩
    · rintro _ ⟨x3, hn2, rfl⟩
      simp only [updM, List.set_cons_succ, List.set_cons_zero]
      decreasing_trivial
      refine ⟨[_, _], rfl, _, _, (fun j hj h => (by rcases Nat.lt_or_ge j n with z | z; exact hno j hj z; have e : j = n := (by omega); subst e; intro hmem; obtain ⟨i, hi, q⟩ := List.mem_iff_getElem.mp hmem; exact hn2 i hi (by rw [List.length_range]; exact hi) q)), rfl⟩
  · rintro _ ⟨x2, x3, hno, rfl⟩
    simp only [updM, List.set_cons_succ, List.set_cons_zero]
    have e := spot_no fun j hj => hno j hj (by rw [List.length_range]; exact hj)
    decreasing_trivial
    exact Rt.e (by rw [e]; rfl)
/-- kinds of claims -/
def kD : Fin 3 → D
  | 0 => .str "above"
  | 1 => .str "before"
  | 2 => .str "level"
theorem kA (k : Fin 3) : eqF (kD k) (.str "above") = some (decide (k = 0)) := by
  match k with
  | 0 => kernel_rfl
  | 1 => kernel_rfl
  | 2 => kernel_rfl
theorem kB (k : Fin 3) : eqF (kD k) (.str "before") = some (decide (k = 1)) := by
  match k with
  | 0 => kernel_rfl
  | 1 => kernel_rfl
  | 2 => kernel_rfl
theorem kL (k : Fin 3) : eqF (kD k) (.str "level") = some (decide (k = 2)) := by
  match k with
  | 0 => kernel_rfl
  | 1 => kernel_rfl
  | 2 => kernel_rfl
abbrev Cl := List Nat × Fin 3 × List Nat
abbrev cD (c : Cl) : D := .tup [tX c.1, kD c.2.1, tX c.2.2]
theorem un_kD (k : Fin 3) : un (kD k) = true := by
  match k with
  | 0 => rfl
  | 1 => rfl
  | 2 => rfl
theorem un_cD (c : Cl) : un (cD c) = true := by
  obtain ⟨x, k, y⟩ := c
  match k with
  | 0 => rfl
  | 1 => rfl
  | 2 => rfl
def keep (b : List (List (List Nat))) (c : Cl) : Bool := match spot b c.1, spot b c.2.2 with
  | some p, some q => (match c.2.1 with
    | 0 => decide (p.1 < q.1)
    | 1 => decide (p.1 < q.1 ∨ (p.1 = q.1 ∧ p.2 < q.2))
    | 2 => decide (p.1 = q.1))
  | _, _ => false
theorem zp_ltP {a b c d : Nat} {Q : D → Prop} (h : Q (.bl (decide (a < c ∨ (a = c ∧ b < d))))) : zp .lt [.tup [.int (a : Int), .int (b : Int)], .tup [.int (c : Int), .int (d : Int)]] Q := by
  refine zp_of (r := .bl (HT.lexLt [(a : Int), (b : Int)] [(c : Int), (d : Int)])) rfl ?_
  have e : HT.lexLt [(a : Int), (b : Int)] [(c : Int), (d : Int)] = decide (a < c ∨ (a = c ∧ b < d)) := by
    rw [HT.lexLt_cons, HT.lexLt_cons, HT.lexLt_nil_nil]
    by_cases h1 : a = c
    · subst h1
      rw [if_pos rfl]
      by_cases h2 : b = d
      · subst h2; simp
      · rw [if_neg (by omega), decide_eq_decide]; omega
    · rw [if_neg (by omega), decide_eq_decide]; omega
  rw [e]
  exact h
theorem keep_eq {b : List (List (List Nat))} (hb : Bl b) {c : Cl} (h1 : Nm c.1) (h2 : Nm c.2.2) : f_keeps_claim [bF b, cD c] = some (.bl (keep b c), []) := by
  obtain ⟨x, k, y⟩ := c
  have f1 := spot_eq hb h1
  have f2 := spot_eq hb h2
  dsimp only at f1 f2
  have uB := unB b
  unfold keep
  dsimp only
  have uc := un_cD (x, k, y)
  have uk := un_kD k
  have fB := frF b
  have us : ∀ o, un (sD o) = true := fun o => by cases o <;> rfl
  have ux := us (spot b x)
  have uy := us (spot b y)
  refine fn_p (N := N_keeps_claim) (by simp [N_keeps_claim]) (by simp only [N_keeps_claim, pad]; rfl) ?_
  have H_spot_of := T_keeps_claim_spot_of
  decreasing_trivial
  refine zc (hf := H_spot_of) (hφ := f1) (h := ?_)
  decreasing_trivial
  refine zc (hf := H_spot_of) (hφ := f2) (h := ?_)
  decreasing_trivial
  cases hx : spot b x with
  | none =>
    decreasing_trivial
    exact Rt.i
  | some p =>
    cases hy : spot b y with
    | none =>
      decreasing_trivial
      exact Rt.i
    | some q =>
      decreasing_trivial
      refine zp_eqE (kA k) ?_
      decreasing_trivial
      match k with
      | 0 =>
        refine zif_tt (by decide) ?_
        decreasing_trivial
        exact Rt.e (congrArg D.bl (by show decide (p.1 < q.1) = _; rw [decide_eq_decide]; omega))
      | 1 =>
        refine zif_ff (by decide) ?_
        decreasing_trivial
        refine zp_eqE (kL 1) ?_
        decreasing_trivial
        refine zp_ltP ?_
        decreasing_trivial
        exact Rt.i
      | 2 =>
        refine zif_ff (by decide) ?_
        decreasing_trivial
        refine zp_eqE (kL 2) ?_
        decreasing_trivial
        exact Rt.e (congrArg D.bl (by show decide (p.1 = q.1) = _; rw [decide_eq_decide]; omega))
theorem lkeep_eq {b : List (List (List Nat))} (hb : Bl b) {c : Cl} (h1 : Nm c.1) (h2 : Nm c.2.2) : f_law_keeps [bF b, cD c] = some (.bl (keep b c), []) := by
  obtain ⟨x, k, y⟩ := c
  have f1 := lspot_eq hb h1
  have f2 := lspot_eq hb h2
  dsimp only at f1 f2
  have uB := unB b
  unfold keep
  dsimp only
  have uc := un_cD (x, k, y)
  have uk := un_kD k
  have fB := frF b
  have us : ∀ o, un (sD o) = true := fun o => by cases o <;> rfl
  have ux := us (spot b x)
  have uy := us (spot b y)
  refine fn_p (N := N_law_keeps) (by simp [N_law_keeps]) (by simp only [N_law_keeps, pad]; rfl) ?_
  have H_law_spot := T_law_keeps_law_spot
  decreasing_trivial
  refine zc (hf := H_law_spot) (hφ := f1) (h := ?_)
  decreasing_trivial
  refine zc (hf := H_law_spot) (hφ := f2) (h := ?_)
  decreasing_trivial
  cases hx : spot b x with
  | none =>
    decreasing_trivial
    exact Rt.i
  | some p =>
    cases hy : spot b y with
    | none =>
      decreasing_trivial
      exact Rt.i
    | some q =>
      decreasing_trivial
      refine zif_d (fun g => ?_) (fun g => ?_)
      · decreasing_trivial
        refine zp_eqE (kL k) ?_
        decreasing_trivial
        match k with
        | 0 =>
          refine zif_ff (by decide) ?_
          decreasing_trivial
          refine zp_eqE (kB 0) ?_
          decreasing_trivial
          exact Rt.e (congrArg D.bl (by show decide (p.1 < q.1) = false; exact decide_eq_false (by omega)))
        | 1 =>
          refine zif_ff (by decide) ?_
          decreasing_trivial
          refine zp_eqE (kB 1) ?_
          decreasing_trivial
          exact Rt.e (congrArg D.bl (by show decide (p.1 < q.1 ∨ (p.1 = q.1 ∧ p.2 < q.2)) = _; rw [decide_eq_decide]; omega))
        | 2 =>
          refine zif_tt (by decide) ?_
          decreasing_trivial
          exact Rt.e (congrArg D.bl (by show decide (p.1 = q.1) = true; exact decide_eq_true (by omega)))
      · decreasing_trivial
        refine zp_neE (kL k) ?_
        decreasing_trivial
        match k with
        | 0 =>
          refine zif_tt (by decide) ?_
          decreasing_trivial
          exact Rt.e (congrArg D.bl (by show decide (p.1 < q.1) = _; rw [decide_eq_decide]; omega))
        | 1 =>
          refine zif_tt (by decide) ?_
          decreasing_trivial
          exact Rt.e (congrArg D.bl (by show decide (p.1 < q.1 ∨ (p.1 = q.1 ∧ p.2 < q.2)) = _; rw [decide_eq_decide]; omega))
        | 2 =>
          refine zif_ff (by decide) ?_
          decreasing_trivial
          exact Rt.e (congrArg D.bl (by show decide (p.1 = q.1) = false; exact decide_eq_false (by omega)))
/-! bills judged -/
def Cls (cl : List Cl) : Prop := ∀ c ∈ cl, Nm c.1 ∧ Nm c.2.2
def isb (b : List (List (List Nat))) (pl : List (List Nat)) (cl : List Cl) : Bool := (decide (srt b.flatten = srt pl) && b.all fun r => decide (0 < ((r.length : Nat) : Int))) && cl.all (keep b)
theorem unC (cl : List Cl) : unL (cl.map cD) = true := unL_mapU un_cD cl
theorem frC (cl : List Cl) : frzL (cl.map cD) = cl.map cD := frzL_mapU un_cD cl
theorem fl_len {b : List (List (List Nat))} (hb : Bl b) : b.flatten.length ≤ 400 := by
  have key : ∀ l : List (List (List Nat)), (∀ r ∈ l, r.length ≤ 20) → l.flatten.length ≤ 20 * l.length := by
    intro l
    induction l with
    | nil => intro _; simp
    | cons r l ih =>
      intro h
      have := ih fun x hx => h x (List.mem_cons_of_mem _ hx)
      have := h r List.mem_cons_self
      rw [List.flatten_cons, List.length_append, List.length_cons]
      omega
  have := key b hb.r
  have := hb.l
  omega
theorem fl_nm {b : List (List (List Nat))} (hb : Bl b) : Nms b.flatten := fun c hc => by
  obtain ⟨r, hr, hc⟩ := List.mem_flatten.mp hc
  exact hb.n r hr c hc
theorem srt_nm {l : List (List Nat)} (h : Nms l) : Nms (srt l) := fun c hc => h c ((srt_perm l).mem_iff.mp hc)
theorem flat_tx (b : List (List (List Nat))) : (b.flatMap fun r => r.flatMap fun c => [tX c]) = b.flatten.map tX := by
  induction b with
  | nil => rfl
  | cons r b ih => rw [List.flatMap_cons, ih, List.flatten_cons, List.map_append, flat_one]
theorem isb_eq {b : List (List (List Nat))} (hb : Bl b) {pl : List (List Nat)} (hp : Nms pl) (hpl : pl.length ≤ 100) {cl : List Cl} (hc : Cls cl) (hcl : cl.length ≤ 1000) : f_is_bill [bF b, .lst false (pl.map tX), .lst false (cl.map cD)] = some (.bl (isb b pl cl), []) := by
  have uB := unB b
  have uC := unC cl
  have uP := unT pl
  have hbl := hb.l
  have hfl := fl_len hb
  have hfn := fl_nm hb
  unfold isb
  refine fn_p (N := N_is_bill) (by simp [N_is_bill]) (by simp only [N_is_bill, pad]; rfl) ?_
  have H_keeps_claim := T_is_bill_keeps_claim
  decreasing_trivial
  refine ze_comp2 (xs := b) (enc := rF) (fun r => r) (fun _ c => tX c) (fun _ c => [tX c]) (hsrc := ?_) (hl := ?_) (hs := fun r hr => ?_) (h := ?_)
  · decreasing_trivial
    rfl
  · have e := flat_tx b
    have e2 := congrArg List.length e
    rw [List.length_map] at e2
    show (b.flatMap fun r => r.flatMap fun c => [tX c]).length ≤ 100000
    omega
  · simp only [wipeG, List.set_cons_succ, List.set_cons_zero]
    decreasing_trivial
    refine zr_i (show (un (rF r) && (true && true)) = true from by rw [un_rF]; rfl) ?_
    refine zr_i ((Bool.or_eq_true _ _).mpr (.inr rfl)) ?_
    refine zit_lst (u := unT r) (h := ?_)
    simp only [List.set_cons_succ, List.set_cons_zero]
    refine ⟨trivial, trivial, fun c hc => zst2_n (h := ?_)⟩
    decreasing_trivial
    refine zr_i (show (un (rF r) && (true && true)) = true from by rw [un_rF]; rfl) ?_
    decreasing_trivial
    exact ⟨rfl, rfl⟩
  rw [show (b.flatMap fun r => (fun r => r) r |>.flatMap ((fun _ c => [tX c]) r)) = b.flatten.map tX from flat_tx b]
  decreasing_trivial
  refine zp_sortTX (by omega) hfn ?_
  decreasing_trivial
  refine zp_sortTX (by omega) hp ?_
  decreasing_trivial
  refine zp_neE (eqF_nms (srt_nm hfn) (srt_nm hp) false false) ?_
  decreasing_trivial
  refine zif_nd (fun g1 => ?_) (fun g1 => ?_)
  · decreasing_trivial
    exact Rt.e (by rw [decide_eq_false g1]; rfl)
  · decreasing_trivial
    refine zcomp_map (xs := b) (enc := rF) (r := fun r => D.bl (decide (0 < ((r.length : Nat) : Int)))) (hh := by rfl) (hit := by refine zit_lst (u := uB) (h := rfl)) (hl := by omega) (hs := fun r hr => ?_) (h := ?_)
    · simp only [wipeG, List.set_cons_succ, List.set_cons_zero]
      decreasing_trivial
      refine zr_i (hideV rfl (un_rF r)) ?_
      decreasing_trivial
      exact ⟨rfl, rfl⟩
    decreasing_trivial
    refine zif_i (fun g2 => ?_) (fun g2 => ?_)
    · rw [Bool.not_eq_true'] at g2
      decreasing_trivial
      exact Rt.e (by rw [g2]; simp)
    · rw [Bool.not_eq_false'] at g2
      decreasing_trivial
      refine zcomp_map (xs := cl) (enc := cD) (r := fun c => D.bl (keep b c)) (hh := by rfl) (hit := by refine zit_lst (u := uC) (h := rfl)) (hl := by omega) (hs := fun c hcm => ?_) (h := ?_)
      · have f1 := keep_eq hb (hc c hcm).1 (hc c hcm).2
        have fB := frF b
        have uc := un_cD c
        have fk : frz (kD c.2.1) = kD c.2.1 := frz_un _ (un_kD _)
        have fc : frz (cD c) = cD c := frz_un _ uc
        simp only [wipeG, List.set_cons_succ, List.set_cons_zero]
        decreasing_trivial
        refine zc (hf := H_keeps_claim) (hφ := f1) (h := ?_)
        decreasing_trivial
        refine zr_i (hideV rfl uc) ?_
        decreasing_trivial
        exact ⟨rfl, rfl⟩
      decreasing_trivial
      exact Rt.e (by rw [g2, decide_eq_true g1]; rfl)
/-- as the law judges -/
def judge (b : List (List (List Nat))) (pl : List (List Nat)) (cl : List Cl) : Bool := (((b.all fun r => decide (r ≠ [])) && b.flatten.all fun c => decide (c ∈ pl)) && pl.all fun c => decide (b.flatten.count c = 1)) && cl.all (keep b)
theorem judge_isb {b : List (List (List Nat))} {pl : List (List Nat)} (hnd : pl.Nodup) (cl : List Cl) : isb b pl cl = judge b pl cl := by
  unfold isb judge
  have e1 : (b.all fun r => decide (0 < ((r.length : Nat) : Int))) = b.all fun r => decide (r ≠ []) := by
    congr 1
    funext r
    rw [decide_eq_decide]
    cases r <;> simp
  rw [e1]
  have e2 : decide (srt b.flatten = srt pl) = ((b.flatten.all fun c => decide (c ∈ pl)) && pl.all fun c => decide (b.flatten.count c = 1)) := by
    rw [Bool.eq_iff_iff, decide_eq_true_iff, srt_eq, Bool.and_eq_true, List.all_eq_true, List.all_eq_true]
    constructor
    · intro p
      refine ⟨fun c hc => decide_eq_true (p.mem_iff.mp hc), fun c hc => decide_eq_true ?_⟩
      rw [p.count_eq]
      have h1 := List.nodup_iff_count.mp hnd c
      have h2 := List.count_pos_iff.mpr hc
      omega
    · rintro ⟨h1, h2⟩
      have nd : b.flatten.Nodup := by
        rw [List.nodup_iff_count]
        intro c
        by_cases hc : c ∈ b.flatten
        · have := of_decide_eq_true (h2 c (of_decide_eq_true (h1 c hc)))
          omega
        · rw [List.count_eq_zero_of_not_mem hc]; omega
      refine (List.perm_ext_iff_of_nodup nd hnd).mpr fun c => ⟨fun hc => of_decide_eq_true (h1 c hc), fun hc => ?_⟩
      have := of_decide_eq_true (h2 c hc)
      exact List.count_pos_iff.mp (by omega)
  rw [e2]
  cases (b.all fun r => decide (r ≠ [])) <;> cases (b.flatten.all fun c => decide (c ∈ pl)) <;> simp
/-! names that differ -/
def key (c : List Nat) : List Nat := c.filter fun x => decide (103 ≤ x) && decide (x ≤ 112)
theorem key_app (a b : List Nat) : key (a ++ b) = key a ++ key b := List.filter_append _ _
theorem key_one {x : Nat} (h : 103 ≤ x ∧ x ≤ 112) : key [x] = [x] := by
  unfold key
  rw [List.filter_cons_of_pos (by simp; exact h)]; rfl
theorem key_low {s : List Nat} (h : ∀ c ∈ s, c < 103) : key s = [] := by
  unfold key
  rw [List.filter_eq_nil_iff]
  intro c hc
  have := h c hc
  simp; omega
theorem erase_perm {α : Type} {l : List α} {m : Nat} (hm : m < l.length) : (l[m] :: (l.take m ++ l.drop (m + 1))).Perm l := by
  have e : l = l.take m ++ l[m] :: l.drop (m + 1) := by
    rw [List.getElem_cons_drop, List.take_append_drop]
  conv => rhs; rw [e]
  exact List.perm_middle.symm
theorem nms_app {l : List (List Nat)} {c : List Nat} (h : Nms l) (hc : Nm c) : Nms (l ++ [c]) := fun x hx => by
  rcases List.mem_append.mp hx with z | z
  · exact h x z
  · rw [List.mem_singleton] at z
    exact z ▸ hc
theorem app_tx (l : List (List Nat)) (c : List Nat) : l.map tX ++ [tX c] = (l ++ [c]).map tX := by rw [List.map_append]; rfl
/-- people so far -/
structure Pp (found : List (List Nat)) (left : List Nat) : Prop where
  n : Nms found
  k : ∀ c ∈ found, ∃ x, key c = [x] ∧ x ∉ left
  d : (found.map key).Nodup
  r : ∀ c ∈ left, 103 ≤ c ∧ c ≤ 112
  dl : left.Nodup
theorem Pp.add {found : List (List Nat)} {left : List Nat} (h : Pp found left) {m : Nat} (hm : m < left.length) {c : List Nat} (hc : Nm c) (hk : key c = [left[m]]) : Pp (found ++ [c]) (left.take m ++ left.drop (m + 1)) := by
  have p := erase_perm hm
  have nd := p.nodup_iff.mpr h.dl
  rw [List.nodup_cons] at nd
  have sub : ∀ x, x ∈ left.take m ++ left.drop (m + 1) → x ∈ left := fun x hx => p.mem_iff.mp (List.mem_cons_of_mem _ hx)
  refine ⟨nms_app h.n hc, fun a ha => ?_, ?_, fun x hx => h.r x (sub x hx), nd.2⟩
  · rcases List.mem_append.mp ha with z | z
    · obtain ⟨x, h1, h2⟩ := h.k a z
      exact ⟨x, h1, fun q => h2 (sub x q)⟩
    · rw [List.mem_singleton] at z
      subst z
      exact ⟨_, hk, nd.1⟩
  · rw [List.map_append]
    refine List.nodup_append.mpr ⟨h.d, by simp, fun a ha b hb e => ?_⟩
    obtain ⟨y, hy, rfl⟩ := List.mem_map.mp ha
    obtain ⟨x, h1, h2⟩ := h.k y hy
    simp only [List.map_cons, List.map_nil, List.mem_singleton] at hb
    rw [hb, hk, h1] at e
    injection e with e _
    exact h2 (e ▸ List.getElem_mem hm)
theorem Pp.nd {found : List (List Nat)} {left : List Nat} (h : Pp found left) : found.Nodup := by
  have := h.d
  rw [List.Nodup, List.pairwise_map] at this
  exact this.imp fun h e => h (by rw [e])
theorem ppl_eq {bx : D} (hb : Bx bx) {n : Nat} (h1 : 1 ≤ n) (h6 : n ≤ 6) : ∃ d x, f_law_people [bx, .int (n : Int)] = some (d, [x]) ∧ ∃ pl, d = .lst true (pl.map tX) ∧ Nms pl ∧ pl.Nodup ∧ pl.length = n ∧ Bx x := by
  refine fn_p1 (N := N_law_people) (by simp [N_law_people]) (by simp only [N_law_people, pad]; rfl) ?_
  have hd := T_law_people_law_draw
  have hD := draws_H
  decreasing_trivial
  refine zbox_draw (h := fun v v0 v1 bx hb => ?_)
  decreasing_trivial
  obtain ⟨w, rfl⟩ := Int.eq_ofNat_of_zero_le v0
  rw [show (D.str "Abcdef") = tX [65, 98, 99, 100, 101, 102] from rfl]
  refine zp_slcTXH (by simp) ?_
  rw [cutL_Nnat (by simp; omega)]
  obtain ⟨sh, hsh⟩ : ∃ sh, sh = List.take w [65, 98, 99, 100, 101, 102] := ⟨_, rfl⟩
  have hs1 : ∀ c ∈ sh, c < 103 := fun c hc => by
    rw [hsh] at hc
    have := List.mem_of_mem_take hc
    simp at this
    omega
  have hs2 : sh.length ≤ 6 := by rw [hsh]; simp; omega
  rw [← hsh]
  clear hsh
  decreasing_trivial
  rw [show some (D.str "ghijklmnop") = some (tX [103, 104, 105, 106, 107, 108, 109, 110, 111, 112]) from rfl]
  refine zfor_mod [0, 3, 4, 5, 6] (fun k vs => ∃ (found : List (List Nat)) (left : List Nat) (bx : D) (x5 x6 : Option D), (Bx bx) ∧ (left.length = 10 - k) ∧ (found.length = k) ∧ (Pp found left) ∧ vs = [some bx, some (.lst true (found.map tX)), some (tX left), x5, x6]) ⟨[_, _, _, _, _], rfl, [], [103, 104, 105, 106, 107, 108, 109, 110, 111, 112], _, _, _, (by assumption), rfl, rfl, ⟨fun _ h => (nomatch h), fun _ h => (nomatch h), List.nodup_nil, (by decide), (by decide)⟩, rfl⟩ ?_ ?_
  · rintro k hk _ ⟨found, left, bx, x5, x6, hb, hl, hf, hP, rfl⟩
    simp only [updM, List.set_cons_succ, List.set_cons_zero]
    rw [List.length_range] at hk
    rw [List.getElem_range]
    have hz : (found.map tX).length < sizeLine := lt_sz (by rw [List.length_map]; omega)
    decreasing_trivial
    refine zp_lenS (by rw [tx_len]; omega) ?_
    rw [tx_len]
    decreasing_trivial
    refine zbox_draw (h := fun a a0 a1 bx hb => ?_)
    decreasing_trivial
    obtain ⟨m, rfl⟩ := Int.eq_ofNat_of_zero_le a0
    have hm : m < left.length := by omega
    have hc := hP.r _ (List.getElem_mem hm)
    have eg : left.getD m 0 = left[m] := by rw [List.getD_eq_getElem?_getD, List.getElem?_eq_getElem hm]; rfl
    have n1 : Nm (sh ++ [left[m]]) := ⟨fun x hx => by
      rcases List.mem_append.mp hx with z | z
      · have := hs1 x z; omega
      · rw [List.mem_singleton] at z; omega, by simp; omega⟩
    have n2 : Nm (([left[m]] ++ sh) ++ [115]) := ⟨fun x hx => by
      simp only [List.mem_append, List.mem_singleton] at hx
      rcases hx with (z | z) | z
      · omega
      · have := hs1 x z; omega
      · omega, by simp; omega⟩
    have k1 : key (sh ++ [left[m]]) = [left[m]] := by rw [key_app, key_low hs1, key_one hc]; rfl
    have k2 : key (([left[m]] ++ sh) ++ [115]) = [left[m]] := by rw [key_app, key_app, key_low hs1, key_one hc]; rfl
    refine zbox_draw (h := fun b b0 b1 bx hb => ?_)
    decreasing_trivial
    refine zif_d (fun g => ?_) (fun g => ?_)
    · decreasing_trivial
      refine zx_tx (by omega) hm ?_
      rw [eg, show sgn left[m] = tX [left[m]] from rfl]
      decreasing_trivial
      refine zp_addTX (by omega) (by simp) ?_
      decreasing_trivial
      rw [app_tx]
      decreasing_trivial
      refine zp_slcTXH (by omega) ?_
      rw [cutL_Nnat (by omega)]
      decreasing_trivial
      rw [show ((m : Int) + 1) = ((m + 1 : Nat) : Int) by omega]
      refine zp_slcTXL (by omega) ?_
      rw [cutL_natN (by omega)]
      decreasing_trivial
      refine zp_addTX (by simp; omega) (by simp; omega) ?_
      decreasing_trivial
      refine ⟨[_, _, _, _, _], rfl, found ++ [sh ++ [left[m]]], left.take m ++ left.drop (m + 1), _, _, _, (by assumption), (by simp; omega), (by simp [hf]), hP.add hm n1 k1, rfl⟩
    · decreasing_trivial
      refine zx_tx (by omega) hm ?_
      rw [eg, show sgn left[m] = tX [left[m]] from rfl]
      decreasing_trivial
      refine zp_addTX (by simp) (by omega) ?_
      decreasing_trivial
      rw [show (D.str "s") = tX [115] from rfl]
      refine zp_addTX (by simp; omega) (by simp) ?_
      decreasing_trivial
      rw [app_tx]
      decreasing_trivial
      refine zp_slcTXH (by omega) ?_
      rw [cutL_Nnat (by omega)]
      decreasing_trivial
      rw [show ((m : Int) + 1) = ((m + 1 : Nat) : Int) by omega]
      refine zp_slcTXL (by omega) ?_
      rw [cutL_natN (by omega)]
      decreasing_trivial
      refine zp_addTX (by simp; omega) (by simp; omega) ?_
      decreasing_trivial
      refine ⟨[_, _, _, _, _], rfl, found ++ [([left[m]] ++ sh) ++ [115]], left.take m ++ left.drop (m + 1), _, _, _, (by assumption), (by simp; omega), (by simp [hf]), hP.add hm n2 k2, rfl⟩
  · rintro _ ⟨found, left, bx, x5, x6, hb, hl, hf, hP, rfl⟩
    simp only [updM, List.set_cons_succ, List.set_cons_zero]
    rw [List.length_range] at *
    decreasing_trivial
    exact ⟨_, _, _, rfl, _, rfl, hP.n, hP.nd, hf, by assumption⟩
theorem ljudge_eq {b : List (List (List Nat))} (hb : Bl b) {pl : List (List Nat)} (hp : Nms pl) (hpl : pl.length ≤ 100) {cl : List Cl} (hc : Cls cl) (hcl : cl.length ≤ 1000) : f_law_judge [bF b, .lst false (pl.map tX), .lst false (cl.map cD)] = some (.bl (judge b pl cl), []) := by
  have uB := unB b
  have uC := unC cl
  have uP := unT pl
  have fB := frF b
  have hbl := hb.l
  have hfl := fl_len hb
  have hfn := fl_nm hb
  unfold judge
  refine fn_p (N := N_law_judge) (by simp [N_law_judge]) (by simp only [N_law_judge, pad]; rfl) ?_
  have H_law_keeps := T_law_judge_law_keeps
  decreasing_trivial
  refine zfor_mod [3, 4] (fun n vs => ∃ (x4 : Option D), (∀ j (hj : j < b.length), j < n → b[j] ≠ []) ∧ vs = [some (.lst true ((b.take n).flatten.map tX)), x4]) ⟨[_, _], rfl, _, (fun j hj h => by omega), rfl⟩ ?_ ?_
  · rintro n hn _ ⟨x4, h1, rfl⟩
    simp only [updM, List.set_cons_succ, List.set_cons_zero]
    have hr := hb.n _ (List.getElem_mem hn)
    have hrl := hb.r _ (List.getElem_mem hn)
    have ur := un_rF b[n]
    have uR := unT b[n]
    have uT := unT (b.take n).flatten
    have htl : (b.take n).flatten.length ≤ 400 := by
      have e : b.flatten = (b.take n).flatten ++ (b.drop n).flatten := by rw [← List.flatten_append, List.take_append_drop]
      have := congrArg List.length e
      rw [List.length_append] at this
      omega
    decreasing_trivial
    refine zp_eqNil (hd := hr.dep 59) (h := ?_)
    decreasing_trivial
    refine zif_d (fun g => ?_) (fun g => ?_)
    · decreasing_trivial
      exact Rt.e (by
        have : (b.all fun r => decide (r ≠ [])) = false := by
          rw [List.all_eq_false]
          exact ⟨b[n], List.getElem_mem hn, by simp [g]⟩
        rw [this]; rfl)
    · decreasing_trivial
      refine zp_addL (z := by rw [List.length_map, List.length_map]; omega) (h := ?_)
      rw [show (b.take n).flatten.map tX ++ b[n].map tX = (b.take (n + 1)).flatten.map tX from by
        rw [← List.map_append, List.take_succ, List.getElem?_eq_getElem hn, List.flatten_append]; simp]
      decreasing_trivial
      refine ⟨[_, _], rfl, _, (fun j hj h => (by rcases Nat.lt_or_ge j n with z | z; exact h1 j hj z; have e : j = n := (by omega); subst e; exact g)), rfl⟩
  · rintro _ ⟨x4, h1, rfl⟩
    simp only [updM, List.set_cons_succ, List.set_cons_zero]
    rw [List.take_length]
    have e1 : (b.all fun r => decide (r ≠ [])) = true := by
      rw [List.all_eq_true]
      intro r hr
      obtain ⟨j, hj, rfl⟩ := List.mem_iff_getElem.mp hr
      exact decide_eq_true (h1 j hj hj)
    rw [e1, Bool.true_and]
    have uT := unT b.flatten
    decreasing_trivial
    refine zr_i (show (un (rF b.flatten) && true) = true from by rw [un_rF]; rfl) ?_
    decreasing_trivial
    refine zfor_mod [5] (fun n vs => ∃ (x5 : Option D), (∀ j (hj : j < b.flatten.length), j < n → b.flatten[j] ∈ pl) ∧ vs = [x5]) ⟨[_], rfl, _, (fun j hj h => by omega), rfl⟩ ?_ ?_
    · rintro n hn _ ⟨x5, h2, rfl⟩
      simp only [updM, List.set_cons_succ, List.set_cons_zero]
      have hcn := hfn _ (List.getElem_mem hn)
      decreasing_trivial
      refine zp_ninE (inF_tx hcn hp false) ?_
      decreasing_trivial
      refine zif_nd (fun g => ?_) (fun g => ?_)
      · decreasing_trivial
        exact Rt.e (by
          have : (b.flatten.all fun c => decide (c ∈ pl)) = false := by
            rw [List.all_eq_false]
            exact ⟨b.flatten[n], List.getElem_mem hn, by simpa using g⟩
          rw [this]; rfl)
      · decreasing_trivial
        refine ⟨[_], rfl, _, (fun j hj h => (by rcases Nat.lt_or_ge j n with z | z; exact h2 j hj z; have e : j = n := (by omega); subst e; exact g)), rfl⟩
    · rintro _ ⟨x5, h2, rfl⟩
      simp only [updM, List.set_cons_succ, List.set_cons_zero]
      have e2 : (b.flatten.all fun c => decide (c ∈ pl)) = true := by
        rw [List.all_eq_true]
        intro c hc
        obtain ⟨j, hj, rfl⟩ := List.mem_iff_getElem.mp hc
        exact decide_eq_true (h2 j hj hj)
      rw [e2, Bool.true_and]
      decreasing_trivial
      refine zfor_mod [5] (fun n vs => ∃ (x5 : Option D), (∀ j (hj : j < pl.length), j < n → b.flatten.count pl[j] = 1) ∧ vs = [x5]) ⟨[_], rfl, _, (fun j hj h => by omega), rfl⟩ ?_ ?_
      · rintro n hn _ ⟨x5, h3, rfl⟩
        simp only [updM, List.set_cons_succ, List.set_cons_zero]
        have hcn := hp _ (List.getElem_mem hn)
        decreasing_trivial
        refine zp_countX hcn hfn ?_
        decreasing_trivial
        refine zif_nd (fun g => ?_) (fun g => ?_)
        · decreasing_trivial
          exact Rt.e (by
            have : (pl.all fun c => decide (b.flatten.count c = 1)) = false := by
              rw [List.all_eq_false]
              exact ⟨pl[n], List.getElem_mem hn, by simpa using (by omega : ¬ b.flatten.count pl[n] = 1)⟩
            rw [this]; rfl)
        · decreasing_trivial
          refine ⟨[_], rfl, _, (fun j hj h => (by rcases Nat.lt_or_ge j n with z | z; exact h3 j hj z; have e : j = n := (by omega); subst e; omega)), rfl⟩
      · rintro _ ⟨x5, h3, rfl⟩
        simp only [updM, List.set_cons_succ, List.set_cons_zero]
        have e3 : (pl.all fun c => decide (b.flatten.count c = 1)) = true := by
          rw [List.all_eq_true]
          intro c hc
          obtain ⟨j, hj, rfl⟩ := List.mem_iff_getElem.mp hc
          exact decide_eq_true (h3 j hj hj)
        rw [e3, Bool.true_and]
        decreasing_trivial
        refine zfor_mod [6] (fun n vs => ∃ (x6 : Option D), (∀ j (hj : j < cl.length), j < n → keep b cl[j] = true) ∧ vs = [x6]) ⟨[_], rfl, _, (fun j hj h => by omega), rfl⟩ ?_ ?_
        · rintro n hn _ ⟨x6, h4, rfl⟩
          simp only [updM, List.set_cons_succ, List.set_cons_zero]
          have hcm := hc _ (List.getElem_mem hn)
          have f1 := lkeep_eq hb hcm.1 hcm.2
          have uc := un_cD cl[n]
          have fk : frz (kD cl[n].2.1) = kD cl[n].2.1 := frz_un _ (un_kD _)
          have fc : frz (cD cl[n]) = cD cl[n] := frz_un _ uc
          decreasing_trivial
          refine zc (hf := H_law_keeps) (hφ := f1) (h := ?_)
          decreasing_trivial
          refine zif_i (fun g => ?_) (fun g => ?_)
          · rw [Bool.not_eq_true'] at g
            decreasing_trivial
            exact Rt.e (by
              have : cl.all (keep b) = false := by
                rw [List.all_eq_false]
                exact ⟨cl[n], List.getElem_mem hn, by simp [g]⟩
              rw [this])
          · rw [Bool.not_eq_false'] at g
            decreasing_trivial
            refine ⟨[_], rfl, _, (fun j hj h => (by rcases Nat.lt_or_ge j n with z | z; exact h4 j hj z; have e : j = n := (by omega); subst e; exact g)), rfl⟩
        · rintro _ ⟨x6, h4, rfl⟩
          simp only [updM, List.set_cons_succ, List.set_cons_zero]
          have e4 : cl.all (keep b) = true := by
            rw [List.all_eq_true]
            intro c hc
            obtain ⟨j, hj, rfl⟩ := List.mem_iff_getElem.mp hc
            exact h4 j hj hj
          decreasing_trivial
          exact Rt.e (by rw [e4])
/-! a bill that is bent -/
theorem zupdL_g {f : D → Option (D × D)} {ds l l' : List D} {j : Nat} {z : Int} {r : D} {Q : D → D → Prop} (e : ixD ds.length z = some j) (hj : ds[j]? = some (.lst true l)) (hf : f (.lst true l) = some (r, .lst true l')) (h : Q r (.lst true (ds.set j (.lst true l')))) : zupdQ f [.int z] (.lst true ds) Q := by
  unfold zupdQ
  exact ⟨_, _, by simp [updQ, updP, e, hj, hf], h⟩
abbrev rsO (b : List (List (List Nat))) : List D := b.map rO
theorem at_rO {b : List (List (List Nat))} {j : Nat} (hj : j < b.length) : (rsO b)[j]? = some (.lst true (b[j].map tX)) := by
  rw [List.getElem?_map, List.getElem?_eq_getElem hj]; rfl
theorem ix_rO {b : List (List (List Nat))} {j : Nat} (hj : j < b.length) : ixD (rsO b).length (j : Int) = some j := ixD_nat (by rw [List.length_map]; exact hj)
theorem set_rO (b : List (List (List Nat))) (j : Nat) (r : List (List Nat)) : (rsO b).set j (.lst true (r.map tX)) = rsO (b.set j r) := by
  unfold rsO
  rw [List.map_set]
theorem isL_rO {b : List (List (List Nat))} {j : Nat} (hj : j < b.length) : isLAtQ [.int (j : Int)] (.lst true (rsO b)) = true := isLAt_of (ix_rO hj) (at_rO hj)
theorem isL_rO1 {b : List (List (List Nat))} {j : Nat} (hj : j < b.length) : isLAt [.int (j : Int)] (.lst true (rsO b)) = true := isLAt_of (ix_rO hj) (at_rO hj)
theorem Bl.set {b : List (List (List Nat))} (h : Bl b) {j : Nat} {r : List (List Nat)} (hn : Nms r) (hl : r.length ≤ 20) : Bl (b.set j r) := ⟨fun x hx => by
  rcases List.mem_or_eq_of_mem_set hx with z | z
  · exact h.n x z
  · exact z ▸ hn, by rw [List.length_set]; exact h.l, fun x hx => by
  rcases List.mem_or_eq_of_mem_set hx with z | z
  · exact h.r x z
  · exact z ▸ hl⟩
theorem Bl.at {b : List (List (List Nat))} (h : Bl b) {j : Nat} (hj : j < b.length) : Nms b[j] ∧ b[j].length ≤ 20 := ⟨h.n _ (List.getElem_mem hj), h.r _ (List.getElem_mem hj)⟩
theorem nms_ins {l : List (List Nat)} {c : List Nat} (h : Nms l) (hc : Nm c) (k : Nat) : Nms (l.take k ++ [c] ++ l.drop k) := fun x hx => by
  rcases List.mem_append.mp hx with z | z
  · rcases List.mem_append.mp z with y | y
    · exact h x (List.mem_of_mem_take y)
    · rw [List.mem_singleton] at y
      exact y ▸ hc
  · exact h x (List.mem_of_mem_drop z)
theorem nms_set {l : List (List Nat)} {c : List Nat} (h : Nms l) (hc : Nm c) (k : Nat) : Nms (l.set k c) := fun x hx => by
  rcases List.mem_or_eq_of_mem_set hx with z | z
  · exact h x z
  · exact z ▸ hc
theorem ins_tx (l : List (List Nat)) (c : List Nat) (k : Nat) : (l.map tX).take k ++ [tX c] ++ (l.map tX).drop k = (l.take k ++ [c] ++ l.drop k).map tX := by
  rw [List.map_append, List.map_append, List.map_take, List.map_drop]; rfl
theorem mm_ins {l : List (List Nat)} {c : List Nat} {k : Nat} (hl : l.length ≤ 1000) (hk : k ≤ 1000) : mmF .insert [.int (k : Int), tX c] (.lst true (l.map tX)) = some (.non, .lst true ((l.take k ++ [c] ++ l.drop k).map tX)) := by
  have h1 : (l.map tX).length < sizeLine := lt_sz (by rw [List.length_map]; omega)
  simp only [mmF, decide_eq_true h1, decide_eq_true (show 0 ≤ (k : Int) ∧ (k : Int) < 2 ^ 63 by omega), Bool.and_self, if_true, Int.toNat_natCast, ins_tx]
theorem mm_pop {l : List (List Nat)} {k : Nat} (hk : k < l.length) (hl : l.length ≤ 1000) : mmF .popAt [.int (k : Int)] (.lst true (l.map tX)) = some (tX l[k], .lst true ((l.eraseIdx k).map tX)) := by
  have e : ixD (l.map tX).length (k : Int) = some k := ixD_nat (by rw [List.length_map]; exact hk)
  have e2 : (l.map tX)[k]? = some (tX l[k]) := by rw [List.getElem?_map, List.getElem?_eq_getElem hk]; rfl
  simp only [mmF, decide_eq_true (show -(2 ^ 63 : Int) ≤ (k : Int) ∧ (k : Int) < 2 ^ 63 by omega), if_true, e, Option.bind_some, e2, Option.map_some]
  rw [List.eraseIdx_eq_take_drop_succ, List.eraseIdx_eq_take_drop_succ, List.map_append, List.map_take, List.map_drop]
theorem mm_app {l : List (List Nat)} {c : List Nat} (hl : l.length ≤ 1000) : mmF .append [tX c] (.lst true (l.map tX)) = some (.non, .lst true ((l ++ [c]).map tX)) := by
  have h1 : (l.map tX).length < sizeLine := lt_sz (by rw [List.length_map]; omega)
  simp only [mmF, if_pos h1, app_tx]
theorem nms_era {l : List (List Nat)} (h : Nms l) (k : Nat) : Nms (l.eraseIdx k) := fun x hx => h x (List.mem_of_mem_eraseIdx hx)
theorem nm_nobody : Nm [110, 111, 98, 111, 100, 121] := ⟨fun x hx => by simp at hx; omega, by simp⟩
theorem bent_eq {bx : D} (hbx : Bx bx) {b : List (List (List Nat))} (hB : Bl b) (hb1 : 1 ≤ b.length) (hb2 : b.length ≤ 6) (hr : ∀ r ∈ b, 1 ≤ r.length ∧ r.length ≤ 6) {pl : List (List Nat)} (hPl : Nms pl) (hp1 : 1 ≤ pl.length) (hp2 : pl.length ≤ 10) : ∃ d x, f_law_bent [bx, bF b, .lst false (pl.map tX)] = some (d, [x]) ∧ ∃ b', d = bO b' ∧ Bl b' ∧ Bx x := by
  have uB := unB b
  have uP := unT pl
  have fB := frF b
  refine fn_p1 (N := N_law_bent) (by simp [N_law_bent]) (by simp only [N_law_bent, pad]; rfl) ?_
  have hd := T_law_bent_law_draw
  have hD := draws_H
  have hp := T_law_bent_law_pick
  have hP := picks_H
  decreasing_trivial
  refine zcomp_map (xs := b) (enc := rF) (r := rO) (hh := by rfl) (hit := by refine zit_lst (u := uB) (h := rfl)) (hl := by omega) (hs := fun r hr => ?_) (h := ?_)
  · have ur := un_rF r
    have uR := unT r
    simp only [wipeG, List.set_cons_succ, List.set_cons_zero]
    decreasing_trivial
    decreasing_trivial
    exact ⟨rfl, rfl⟩
  decreasing_trivial
  refine zbox_draw (h := fun a0 a00 a01 bx hb => ?_)
  decreasing_trivial
  refine zbox_draw (h := fun f0 f00 f01 bx hb => ?_)
  decreasing_trivial
  obtain ⟨a, rfl⟩ := Int.eq_ofNat_of_zero_le a00
  obtain ⟨f, rfl⟩ := Int.eq_ofNat_of_zero_le f00
  have ha : a < b.length := by omega
  have hf : f < b.length := by omega
  obtain ⟨hna, hla⟩ := hB.at ha
  obtain ⟨hnf, hlf⟩ := hB.at hf
  have hra := hr _ (List.getElem_mem ha)
  have hrf := hr _ (List.getElem_mem hf)
  have eA : b[((a : Nat) : Int).toNat]'(by rw [Int.toNat_natCast]; exact ha) = b[a] := rfl
  rw [eA]
  refine zbox_draw (h := fun p0 p00 p01 bx hb => ?_)
  decreasing_trivial
  obtain ⟨p, rfl⟩ := Int.eq_ofNat_of_zero_le p00
  have hp : p < b[a].length := by omega
  decreasing_trivial
  refine zbox_draw (h := fun kd kd0 kd1 bx hb => ?_)
  decreasing_trivial
  have hne : pl.map tX ≠ [] := fun z => by have := congrArg List.length z; rw [List.length_map, List.length_nil] at this; omega
  have hzb : (rsO b).length < sizeLine := lt_sz (by rw [List.length_map]; omega)
  have hone : Nm b[a][p] := hna _ (List.getElem_mem hp)
  have eF : b[((f : Nat) : Int).toNat]'(by rw [Int.toNat_natCast]; exact hf) = b[f] := rfl
  refine zif_d (fun g => ?_) (fun g => ?_)
  · decreasing_trivial
    refine ze_mut1F (h := ?_)
    decreasing_trivial
    refine zr_i (isL_rO ha) ?_
    decreasing_trivial
    refine zbox_pick (hm := hne) (hu := uP) (h := fun d hd bx hb => ?_)
    obtain ⟨c, hc, rfl⟩ := List.mem_map.mp hd
    decreasing_trivial
    refine zupdL_g (ix_rO ha) (at_rO ha) (mm_ins (by omega) (by omega)) ?_
    rw [set_rO]
    decreasing_trivial
    exact ⟨_, _, _, rfl, _, rfl, hB.set (nms_ins hna (hPl _ hc) p) (by simp; omega), hb⟩
  · decreasing_trivial
    refine zif_d (fun g => ?_) (fun g => ?_)
    · decreasing_trivial
      refine ze_mut1F (h := ?_)
      decreasing_trivial
      refine zr_i (isL_rO ha) ?_
      decreasing_trivial
      refine zupdL_g (ix_rO ha) (at_rO ha) (mm_pop hp (by omega)) ?_
      rw [set_rO]
      decreasing_trivial
      exact ⟨_, _, _, rfl, _, rfl, hB.set (nms_era hna p) (by rw [List.length_eraseIdx]; split <;> omega), by assumption⟩
    · decreasing_trivial
      refine zif_d (fun g => ?_) (fun g => ?_)
      · decreasing_trivial
        rw [show (rsO b).take ((a : Int)).toNat ++ [D.lst true []] ++ (rsO b).drop ((a : Int)).toNat = rsO (b.take a ++ [[]] ++ b.drop a) from by
          rw [Int.toNat_natCast]; unfold rsO; rw [List.map_append, List.map_append, List.map_take, List.map_drop]; rfl]
        decreasing_trivial
        refine ⟨_, _, _, rfl, _, rfl, ⟨fun r hr => ?_, by simp; omega, fun r hr => ?_⟩, by assumption⟩
        · rcases List.mem_append.mp hr with z | z
          · rcases List.mem_append.mp z with y | y
            · exact hB.n r (List.mem_of_mem_take y)
            · rw [List.mem_singleton] at y
              subst y
              exact fun c hc => nomatch hc
          · exact hB.n r (List.mem_of_mem_drop z)
        · rcases List.mem_append.mp hr with z | z
          · rcases List.mem_append.mp z with y | y
            · exact hB.r r (List.mem_of_mem_take y)
            · rw [List.mem_singleton] at y
              subst y
              simp
          · exact hB.r r (List.mem_of_mem_drop z)
      · decreasing_trivial
        refine zif_d (fun g => ?_) (fun g => ?_)
        · decreasing_trivial
          refine ze_mut1 (h := ?_)
          decreasing_trivial
          refine zr_i (isL_rO ha) ?_
          decreasing_trivial
          rw [show (D.str "nobody") = tX [110, 111, 98, 111, 100, 121] from rfl]
          refine zupdL_g (ix_rO ha) (at_rO ha) (mm_app (by omega)) ?_
          rw [set_rO]
          decreasing_trivial
          exact ⟨_, _, _, rfl, _, rfl, hB.set (nms_app hna nm_nobody) (by simp; omega), by assumption⟩
        · decreasing_trivial
          refine zif_d (fun g => ?_) (fun g => ?_)
          · decreasing_trivial
            refine zbox_draw (h := fun s0 s00 s01 bx hb => ?_)
            decreasing_trivial
            obtain ⟨sp, rfl⟩ := Int.eq_ofNat_of_zero_le s00
            have hsp : sp < b[f].length := by omega
            have hcs : Nm b[f][sp] := hnf _ (List.getElem_mem hsp)
            refine zr_i (isL_rO1 ha) ?_
            decreasing_trivial
            refine zupd_set1 (ix_rO ha) (at_rO ha) (ixD_nat (by rw [List.length_map]; exact hp)) ?_
            have eS : b[f][((sp : Nat) : Int).toNat]'(by rw [Int.toNat_natCast]; exact hsp) = b[f][sp] := rfl
            rw [eS, ← List.map_set, set_rO]
            have hB2 := hB.set (j := a) (nms_set hna hcs p) (show (b[a].set p b[f][sp]).length ≤ 20 by rw [List.length_set]; omega)
            have hf2 : f < (b.set a (b[a].set p b[f][sp])).length := by rw [List.length_set]; exact hf
            have hr2 : (b.set a (b[a].set p b[f][sp]))[f].length = b[f].length := by
              rw [List.getElem_set]
              split
              · rename_i e
                subst e
                rw [List.length_set]
              · rfl
            have hat := hB2.at hf2
            generalize b.set a (b[a].set p b[f][sp]) = b2 at *
            decreasing_trivial
            refine zr_i (isL_rO1 hf2) ?_
            decreasing_trivial
            refine zupd_set1 (ix_rO hf2) (at_rO hf2) (ixD_nat (by rw [List.length_map, hr2]; exact hsp)) ?_
            rw [← List.map_set, set_rO]
            decreasing_trivial
            exact ⟨_, _, _, rfl, _, rfl, hB2.set (nms_set hat.1 hone sp) (by rw [List.length_set]; omega), by assumption⟩
          · decreasing_trivial
            refine zif_d (fun g => ?_) (fun g => ?_)
            · decreasing_trivial
              refine ze_mut1F (h := ?_)
              decreasing_trivial
              refine zr_i (isL_rO ha) ?_
              decreasing_trivial
              refine zupdL_g (ix_rO ha) (at_rO ha) (mm_pop hp (by omega)) ?_
              rw [set_rO]
              have hB2 := hB.set (j := a) (nms_era hna p) (show (b[a].eraseIdx p).length ≤ 20 by rw [List.length_eraseIdx]; split <;> omega)
              have hf2 : f < (b.set a (b[a].eraseIdx p)).length := by rw [List.length_set]; exact hf
              have hr2 : (b.set a (b[a].eraseIdx p))[f].length ≤ 6 := by
                rw [List.getElem_set]
                split
                · rw [List.length_eraseIdx]; split <;> omega
                · omega
              have hat := hB2.at hf2
              generalize b.set a (b[a].eraseIdx p) = b2 at *
              decreasing_trivial
              refine ze_mut1F (h := ?_)
              decreasing_trivial
              refine zr_i (isL_rO hf2) ?_
              decreasing_trivial
              refine zupdL_g (ix_rO hf2) (at_rO hf2) (mm_app (by omega)) ?_
              rw [set_rO]
              decreasing_trivial
              exact ⟨_, _, _, rfl, _, rfl, hB2.set (nms_app hat.1 hone) (by simp; omega), by assumption⟩
            · decreasing_trivial
              refine zif_d (fun g => ?_) (fun g => ?_)
              · decreasing_trivial
                rw [show (D.str "nobody") = tX [110, 111, 98, 111, 100, 121] from rfl, app_tx]
                refine zbox_pick (hm := fun z => by have := congrArg List.length z; rw [List.length_map, List.length_nil] at this; simp at this) (hu := unT _) (h := fun d hd bx hb => ?_)
                obtain ⟨c, hc, rfl⟩ := List.mem_map.mp hd
                have hcn : Nm c := nms_app hPl nm_nobody c hc
                decreasing_trivial
                refine zr_i (isL_rO1 ha) ?_
                decreasing_trivial
                refine zupd_set1 (ix_rO ha) (at_rO ha) (ixD_nat (by rw [List.length_map]; exact hp)) ?_
                rw [← List.map_set, set_rO]
                decreasing_trivial
                exact ⟨_, _, _, rfl, _, rfl, hB.set (nms_set hna hcn p) (by rw [List.length_set]; omega), by assumption⟩
              · decreasing_trivial
                refine zcomp_map (xs := List.range b[a].length) (enc := fun k : Nat => D.int (k : Int)) (r := fun k => tX (b[a].getD (b[a].length - 1 - k) [])) (hh := by rfl) (hit := by decreasing_trivial; rfl) (hl := by simp; omega) (hs := fun k hk => ?_) (h := ?_)
                · have hk := List.mem_range.mp hk
                  have e : ((b[a].length : Int) - 1 - (k : Int)).toNat = b[a].length - 1 - k := by omega
                  have hlt : b[a].length - 1 - k < b[a].length := by omega
                  simp only [wipeG, List.set_cons_succ, List.set_cons_zero]
                  decreasing_trivial
                  refine ⟨?_, rfl⟩
                  simp only [e, List.getD_eq_getElem?_getD, List.getElem?_eq_getElem hlt, Option.getD_some]
                rw [show ((List.range b[a].length).map fun k => tX (b[a].getD (b[a].length - 1 - k) [])) = ((List.range b[a].length).map fun k => b[a].getD (b[a].length - 1 - k) []).map tX from by rw [List.map_map]; rfl]
                have hrn : Nms ((List.range b[a].length).map fun k => b[a].getD (b[a].length - 1 - k) []) := fun c hc => by
                  obtain ⟨k, hk, rfl⟩ := List.mem_map.mp hc
                  have hk := List.mem_range.mp hk
                  rw [List.getD_eq_getElem?_getD, List.getElem?_eq_getElem (by omega)]
                  exact hna _ (List.getElem_mem _)
                have hrl : ((List.range b[a].length).map fun k => b[a].getD (b[a].length - 1 - k) []).length ≤ 20 := by simp; omega
                generalize ((List.range b[a].length).map fun k => b[a].getD (b[a].length - 1 - k) []) = rv at *
                decreasing_trivial
                refine zupd_set (ix_rO ha) ?_
                rw [set_rO]
                decreasing_trivial
                exact ⟨_, _, _, rfl, _, rfl, hB.set hrn hrl, by assumption⟩
/-! the law's bills -/
mutual
theorem eqD_refl : ∀ d : D, eqD d d = true
  | .non => rfl
  | .bl b => by rw [eqD]; simp
  | .int i => by rw [eqD]; simp
  | .str s => by rw [eqD]; simp
  | .scr ns => by rw [eqD]; simp
  | .tup ds => by rw [eqD]; exact eqDL_refl ds
  | .lst o ds => by rw [eqD, eqDL_refl ds]; simp
theorem eqDL_refl : ∀ ds : List D, eqDL ds ds = true
  | [] => rfl
  | d :: ds => by rw [eqDL, eqD_refl d, eqDL_refl ds]; rfl
end
/-- holds on to nothing that is lent -/
def AU (x : Option D) : Prop := ∀ d, x = some d → al d = true ∨ un d = true
theorem AU.ok {x : Option D} (h : AU x) : okO x x = true := by
  cases x with
  | none => rfl
  | some d =>
    show (al d || (un d && eqD d d)) = true
    rw [eqD_refl, Bool.and_true, Bool.or_eq_true]
    exact h d rfl
theorem AU.a {d : D} (h : al d = true) : AU (some d) := fun e he => by cases he; exact .inl h
theorem AU.u {d : D} (h : un d = true) : AU (some d) := fun e he => by cases he; exact .inr h
theorem AU.n : AU none := fun d h => nomatch h
theorem AU.o {o : Option Int} : AU (optI o) := fun d h => by
  cases o with
  | none => cases h
  | some i => cases h; exact .inl rfl
theorem row_le {b : List (List (List Nat))} {r : List (List Nat)} (h : r ∈ b) : r.length ≤ b.flatten.length := by
  induction b with
  | nil => cases h
  | cons x b ih =>
    rw [List.flatten_cons, List.length_append]
    rcases List.mem_cons.mp h with rfl | h
    · omega
    · have := ih h; omega
theorem len_le {b : List (List (List Nat))} (h : ∀ r ∈ b, r ≠ []) : b.length ≤ b.flatten.length := by
  induction b with
  | nil => simp
  | cons x b ih =>
    have := ih fun r hr => h r (List.mem_cons_of_mem _ hr)
    have := List.length_pos_iff.mpr (h x List.mem_cons_self)
    rw [List.flatten_cons, List.length_append, List.length_cons]
    omega
/-- a bill of these names -/
structure Of (b : List (List (List Nat))) (l : List (List Nat)) : Prop where
  p : b.flatten.Perm l
  e : ∀ r ∈ b, r ≠ []
theorem Of.bl {b : List (List (List Nat))} {l : List (List Nat)} (h : Of b l) (hn : Nms l) (hl : l.length ≤ 10) : Bl b := by
  have h1 := h.p.length_eq
  refine ⟨fun r hr c hc => hn c (h.p.mem_iff.mp (List.mem_flatten.mpr ⟨r, hr, hc⟩)), ?_, fun r hr => ?_⟩
  · have := len_le h.e; omega
  · have := row_le hr; omega
theorem Of.ins {b : List (List (List Nat))} {l : List (List Nat)} (h : Of b l) (k : Nat) (c : List Nat) : Of (b.take k ++ [[c]] ++ b.drop k) (l ++ [c]) := by
  refine ⟨?_, fun r hr => ?_⟩
  · have e : (b.take k ++ [[c]] ++ b.drop k).flatten = (b.take k).flatten ++ c :: (b.drop k).flatten := by simp
    rw [e]
    refine (List.perm_middle).trans (List.Perm.trans (List.Perm.cons c ?_) (List.perm_append_singleton c l).symm)
    rw [← List.flatten_append, List.take_append_drop]
    exact h.p
  · rcases List.mem_append.mp hr with z | z
    · rcases List.mem_append.mp z with y | y
      · exact h.e r (List.mem_of_mem_take y)
      · rw [List.mem_singleton] at y
        rw [y]; simp
    · exact h.e r (List.mem_of_mem_drop z)
theorem Of.put {b : List (List (List Nat))} {l : List (List Nat)} (h : Of b l) {j : Nat} (hj : j < b.length) (k : Nat) (c : List Nat) : Of (b.set j (b[j].take k ++ [c] ++ b[j].drop k)) (l ++ [c]) := by
  refine ⟨?_, fun r hr => ?_⟩
  · have e1 : b.set j (b[j].take k ++ [c] ++ b[j].drop k) = b.take j ++ (b[j].take k ++ [c] ++ b[j].drop k) :: b.drop (j + 1) := by
      rw [List.set_eq_take_append_cons_drop, if_pos hj]
    have e2 : b = b.take j ++ b[j] :: b.drop (j + 1) := by rw [List.getElem_cons_drop, List.take_append_drop]
    have e3 : b.flatten = (b.take j).flatten ++ (b[j].take k ++ b[j].drop k) ++ (b.drop (j + 1)).flatten := by
      conv => lhs; rw [e2]
      rw [List.take_append_drop, List.flatten_append, List.flatten_cons, List.append_assoc]
    rw [e1, List.flatten_append, List.flatten_cons]
    have hp := h.p
    rw [e3] at hp
    have e4 : (b.take j).flatten ++ (b[j].take k ++ [c] ++ b[j].drop k ++ (b.drop (j + 1)).flatten) = ((b.take j).flatten ++ b[j].take k) ++ c :: (b[j].drop k ++ (b.drop (j + 1)).flatten) := by simp
    rw [e4]
    refine (List.perm_middle).trans (List.Perm.trans (List.Perm.cons c ?_) (List.perm_append_singleton c l).symm)
    have e5 : ((b.take j).flatten ++ b[j].take k) ++ (b[j].drop k ++ (b.drop (j + 1)).flatten) = (b.take j).flatten ++ (b[j].take k ++ b[j].drop k) ++ (b.drop (j + 1)).flatten := by simp only [List.append_assoc]
    rw [e5]
    exact hp
  · rcases List.mem_or_eq_of_mem_set hr with z | z
    · exact h.e r z
    · rw [z]; simp
theorem stB {Φ : Tab} {φd : Fn} (hd : Φ "_law_draw" = some (2, 1, φd)) (hD : Draws φd) (s : List Int) (bx : D) (hb : Bx bx) {pl : List (List Nat)} (hpl : Nms pl) (hl : pl.length ≤ 6) (t : Int) (x4 x5 x6 x7 x8 x9 x10 x11 x12 x13 x14 x15 x16 x17 x18 x19 x20 : Option D) (h6 : AU x6) (h7 : AU x7) (h8 : AU x8) (h9 : AU x9) (h10 : AU x10) (h11 : AU x11) (h12 : AU x12) (h13 : AU x13) (h14 : AU x14) (h15 : AU x15) (h16 : AU x16) (h18 : AU x18) (h19 : AU x19) (h20 : AU x20) (o3 : Bool) (Q : R → Prop)
    (hQ : ∀ bx b x5 x17, Bx bx → Of b pl → Q (.nx [some (.scr s), some bx, some (.int t), some (.lst false (pl.map tX)), some (bO b), x5, x6, x7, x8, x9, x10, x11, x12, x13, x14, x15, x16, x17, x18, x19, x20])) :
    zss Φ [q_law_3, q_law_8] [some (.scr s), some bx, some (.int t), some (.lst o3 (pl.map tX)), x4, x5, x6, x7, x8, x9, x10, x11, x12, x13, x14, x15, x16, x17, x18, x19, x20] Q := by
  have uP := unT pl
  decreasing_trivial
  refine zfor_mod [1, 4, 5, 17] (fun n vs => ∃ (b : List (List (List Nat))) (bx : D) (x5 x17 : Option D), (Bx bx) ∧ (Of b (pl.take n)) ∧ vs = [some bx, some (bO b), x5, x17]) ⟨[_, _, _, _], rfl, [], bx, _, _, hb, ⟨List.Perm.refl _, fun r hr => nomatch hr⟩, rfl⟩ ?_ ?_
  · rintro n hn _ ⟨b, bx, x5, x17, hb, hO, rfl⟩
    simp only [updM, List.set_cons_succ, List.set_cons_zero]
    have hc := hpl _ (List.getElem_mem hn)
    have hB := hO.bl (fun c hc => hpl c (List.mem_of_mem_take hc)) (by simp; omega)
    have hO2 : ∀ k, Of (b.take k ++ [[pl[n]]] ++ b.drop k) (pl.take (n + 1)) := fun k => by
      rw [List.take_succ, List.getElem?_eq_getElem hn]
      exact hO.ins k _
    have hO3 : ∀ j (hj : j < b.length) k, Of (b.set j (b[j].take k ++ [pl[n]] ++ b[j].drop k)) (pl.take (n + 1)) := fun j hj k => by
      rw [List.take_succ, List.getElem?_eq_getElem hn]
      exact hO.put hj k _
    have hbl := hB.l
    have hzb : (rsO b).length < sizeLine := lt_sz (by rw [List.length_map]; omega)
    have dO : depL 59 (b.map rO) = true := depL_mem fun d hd => by
      obtain ⟨r, hr, rfl⟩ := List.mem_map.mp hd
      exact dep_lst ((hB.n r hr).dep 58)
    generalize pl[n] = c at *
    have q4 : ∀ bx, Bx bx → ∀ Q : R → Prop, (∀ bx k, Bx bx → Q (.nx [some (.scr s), some bx, some (.int t), some (.lst false (pl.map tX)), some (bO (b.take k ++ [[c]] ++ b.drop k)), some (tX c), x6, x7, x8, x9, x10, x11, x12, x13, x14, x15, x16, x17, x18, x19, x20])) → zss Φ [q_law_4] [some (.scr s), some bx, some (.int t), some (.lst false (pl.map tX)), some (bO b), some (tX c), x6, x7, x8, x9, x10, x11, x12, x13, x14, x15, x16, x17, x18, x19, x20] Q := fun bx hb Q hQ => by
      decreasing_trivial
      refine zbox_draw (h := fun v v0 v1 bx hb => ?_)
      decreasing_trivial
      obtain ⟨k, rfl⟩ := Int.eq_ofNat_of_zero_le v0
      rw [show (rsO b).take ((k : Int)).toNat ++ [D.lst true [tX c]] ++ (rsO b).drop ((k : Int)).toNat = rsO (b.take k ++ [[c]] ++ b.drop k) from by
        rw [Int.toNat_natCast]; unfold rsO; rw [List.map_append, List.map_append, List.map_take, List.map_drop]; rfl]
      decreasing_trivial
      exact hQ _ _ (by assumption)
    decreasing_trivial
    refine zp_eqNil (hd := dO) (h := ?_)
    decreasing_trivial
    refine zif_d (fun g => ?_) (fun g => ?_)
    · refine zif_t (h := ?_)
      refine q4 _ (by assumption) _ fun bx k hb => ?_
      decreasing_trivial
      refine ⟨[_, _, _, _], rfl, _, bx, _, _, hb, hO2 k, rfl⟩
    · decreasing_trivial
      refine zbox_draw (h := fun w w0 w1 bx hb => ?_)
      decreasing_trivial
      refine zif_d (fun g2 => ?_) (fun g2 => ?_)
      · refine q4 _ (by assumption) _ fun bx k hb => ?_
        decreasing_trivial
        refine ⟨[_, _, _, _], rfl, _, bx, _, _, hb, hO2 k, rfl⟩
      · decreasing_trivial
        have hbpos := List.length_pos_iff.mpr g
        refine zbox_draw (h := fun a0 a00 a01 bx hb => ?_)
        decreasing_trivial
        obtain ⟨a, rfl⟩ := Int.eq_ofNat_of_zero_le a00
        have ha : a < b.length := by omega
        have hat := hB.at ha
        have uF : frz (bO b) = bF b := by
          show D.lst false (frzL (b.map rO)) = _
          rw [frB]
        refine ze_mut1V (h := ?_)
        decreasing_trivial
        refine zr_i (isL_rO ha) ?_
        refine zfz_i uF ?_
        decreasing_trivial
        refine zbox_draw (h := fun i0 i00 i01 bx hb => ?_)
        decreasing_trivial
        obtain ⟨i, rfl⟩ := Int.eq_ofNat_of_zero_le i00
        rename_i hbx
        have ob : ∀ (d e : D), Bx e → okO (some d) (some e) = true := fun d e h => by
          show (al e || _) = true
          rw [h.al, Bool.true_or]
        have g0 : okO (some (D.scr s)) (some (D.scr s)) = true := AU.ok (AU.u rfl)
        have gt : okO (some (D.int t)) (some (D.int t)) = true := AU.ok (AU.a rfl)
        have g3 : okO (some (D.lst false (pl.map tX))) (some (D.lst false (pl.map tX))) = true := AU.ok (AU.u uP)
        have g5 : okO (some (tX c)) (some (tX c)) = true := AU.ok (AU.a rfl)
        have g17 : okO (some (D.int (a : Int))) (some (D.int (a : Int))) = true := AU.ok (AU.a rfl)
        refine zr_i (by simp only [okB, okBs, g0, gt, g3, g5, g17, ob _ _ (by assumption), h6.ok, h7.ok, h8.ok, h9.ok, h10.ok, h11.ok, h12.ok, h13.ok, h14.ok, h15.ok, h16.ok, h18.ok, h19.ok, h20.ok, Bool.and_self]) ?_
        refine zupdL_g (ix_rO ha) (at_rO ha) (mm_ins (by omega) (by omega)) ?_
        rw [set_rO]
        decreasing_trivial
        refine ⟨[_, _, _, _], rfl, _, _, _, _, (by assumption), hO3 a ha i, rfl⟩
  · rintro _ ⟨b, bx, x5, x17, hb, hO, rfl⟩
    simp only [updM, List.set_cons_succ, List.set_cons_zero]
    rw [List.take_length] at hO
    decreasing_trivial
    exact hQ _ _ _ _ (by assumption) hO
abbrev P2 := List Nat × List Nat
abbrev p2D (q : P2) : D := .tup [tX q.1, tX q.2]
theorem unP2 (pr : List P2) : unL (pr.map p2D) = true := unL_mapU (fun _ => rfl) pr
theorem stC {Φ : Tab} {pl : List (List Nat)} (hpl : Nms pl) (hl : pl.length ≤ 6) (x0 x1 x2 x4 x5 x6 x7 x8 x9 x10 x11 x12 x13 x14 x15 x16 x17 x18 x19 x20 : Option D) (h12 : U x12) (Q : R → Prop)
    (hQ : ∀ (pr : List P2) x5, (∀ q ∈ pr, q.1 ∈ pl ∧ q.2 ∈ pl) → pr.length ≤ 36 → Q (.nx [x0, x1, x2, some (.lst false (pl.map tX)), x4, x5, some (.lst true (pr.map p2D)), x7, x8, x9, x10, x11, x12, x13, x14, x15, x16, x17, x18, x19, x20])) :
    zss Φ [q_law_9, q_law_11] [x0, x1, x2, some (.lst false (pl.map tX)), x4, x5, x6, x7, x8, x9, x10, x11, x12, x13, x14, x15, x16, x17, x18, x19, x20] Q := by
  have uP := unT pl
  decreasing_trivial
  refine zfor_mod [5, 6] (fun n vs => ∃ (pr : List P2) (x5 : Option D), (∀ q ∈ pr, q.1 ∈ pl ∧ q.2 ∈ pl) ∧ (pr.length ≤ 6 * n) ∧ vs = [x5, some (.lst true (pr.map p2D))]) ⟨[_, _], rfl, [], _, (fun q hq => nomatch hq), (by simp), rfl⟩ ?_ ?_
  · rintro n hn _ ⟨pr, x5, hm, hln, rfl⟩
    simp only [updM, List.set_cons_succ, List.set_cons_zero]
    have hcn := hpl _ (List.getElem_mem hn)
    have hmn := List.getElem_mem hn
    have up := unP2 pr
    generalize pl[n] = c at *
    decreasing_trivial
    refine zcomp_flt (fun far => !decide (far = c)) (xs := pl) (enc := tX) (r := fun far => p2D (c, far)) (hh := hideX rfl h12) (hit := by refine zit_lst (u := uP) (h := rfl)) (hl := by omega) (hs := fun far hfar => ?_) (h := ?_)
    · simp only [wipeG, List.set_cons_succ, List.set_cons_zero]
      refine zst_c (h := ?_)
      decreasing_trivial
      refine zp_neE (eqF_tx (hpl far hfar).ok hcn.ok) ?_
      decreasing_trivial
      exact ⟨rfl, rfl⟩
    have hfl := List.length_filter_le (fun far => !decide (far = c)) pl
    decreasing_trivial
    rw [show pr.map p2D ++ (pl.filter fun far => !decide (far = c)).map (fun far => p2D (c, far)) = (pr ++ (pl.filter fun far => !decide (far = c)).map fun far => (c, far)).map p2D from by
      rw [List.map_append, List.map_map]; rfl]
    refine ⟨[_, _], rfl, pr ++ (pl.filter fun far => !decide (far = c)).map fun far => (c, far), _, (fun q hq => ?_), (by simp; omega), rfl⟩
    rcases List.mem_append.mp hq with z | z
    · exact hm q z
    · obtain ⟨far, hf, rfl⟩ := List.mem_map.mp z
      exact ⟨hmn, (List.mem_filter.mp hf).1⟩
  · rintro _ ⟨pr, x5, hm, hln, rfl⟩
    simp only [updM, List.set_cons_succ, List.set_cons_zero]
    decreasing_trivial
    exact hQ _ _ hm (by omega)
def Gd (b : List (List (List Nat))) (pl : List (List Nat)) (cl : List Cl) : Prop := ∀ c ∈ cl, (c.1 ∈ pl ∧ c.2.2 ∈ pl) ∧ keep b c = true
theorem stD {Φ : Tab} (H_law_keeps : Φ "_law_keeps" = some (2, 0, f_law_keeps)) (H_keeps_claim : Φ "keeps_claim" = some (2, 0, f_keeps_claim)) {φs : Fn} (hs : Φ "_law_same" = some (2, 0, φs)) (hS : Sames φs) {φd : Fn} (hd : Φ "_law_draw" = some (2, 1, φd)) (hD : Draws φd) (bx : D) (hb : Bx bx) {b : List (List (List Nat))} (hB : Bl b) {pl : List (List Nat)} (hpl : Nms pl) {pr : List P2} (hpr : ∀ q ∈ pr, q.1 ∈ pl ∧ q.2 ∈ pl) (hprl : pr.length ≤ 36) (d4 : D) (hd4 : frz d4 = bF b) (x0 x2 x3 x5 x7 x8 x9 x10 x11 x12 x13 x14 x15 x16 x17 x18 x19 x20 : Option D) (h12 : U x12) (h13 : AU x13) (h16 : AU x16) (h18 : AU x18) (Q : R → Prop)
    (hQ : ∀ bx d4 cl x5 x12 x13 x16 x18, U x12 → AU x13 → AU x16 → AU x18 → Bx bx → frz d4 = bF b → Gd b pl cl → cl.length ≤ 200 → Q (.nx [x0, some bx, x2, x3, some d4, x5, some (.lst false (pr.map p2D)), some (.lst true (cl.map cD)), x8, x9, x10, x11, x12, x13, x14, x15, x16, x17, x18, x19, x20])) :
    zss Φ [q_law_12, q_law_20] [x0, some bx, x2, x3, some d4, x5, some (.lst true (pr.map p2D)), x7, x8, x9, x10, x11, x12, x13, x14, x15, x16, x17, x18, x19, x20] Q := by
  have up := unP2 pr
  decreasing_trivial
  refine zfor_mod [1, 4, 5, 7, 12, 13, 16, 18] (fun n vs => ∃ (bx : D) (d4 : D) (cl : List Cl) (y12 : Option D) (y13 : Option D) (y16 : Option D) (y18 : Option D) (x5 : Option D), (U y12) ∧ (AU y13) ∧ (AU y16) ∧ (AU y18) ∧ (Bx bx) ∧ (frz d4 = bF b) ∧ (Gd b pl cl) ∧ (cl.length ≤ 3 * n) ∧ vs = [some bx, some d4, x5, some (.lst true (cl.map cD)), y12, y13, y16, y18]) ⟨[_, _, _, _, _, _, _, _], rfl, bx, d4, [], x12, x13, x16, x18, _, h12, h13, h16, h18, hb, hd4, (fun c hc => nomatch hc), (by simp), rfl⟩ ?_ ?_
  · rintro n hn _ ⟨bx, d4, cl, y12, y13, y16, y18, x5, h12, h13, h16, h18, hb, hd4, hG, hcl, rfl⟩
    simp only [updM, List.set_cons_succ, List.set_cons_zero]
    have hq := hpr _ (List.getElem_mem hn)
    generalize pr[n] = q at *
    obtain ⟨x, y⟩ := q
    have hx := hpl x hq.1
    have hy := hpl y hq.2
    decreasing_trivial
    rw [show [D.str "above", D.str "before", D.str "level"] = ([0, 1, 2] : List (Fin 3)).map kD from rfl]
    decreasing_trivial
    refine zfor_mod [1, 4, 7, 13, 16, 18] (fun m vs => ∃ (bx : D) (d4 : D) (cl : List Cl) (y13 : Option D) (y16 : Option D) (y18 : Option D), (AU y13) ∧ (AU y16) ∧ (AU y18) ∧ (Bx bx) ∧ (frz d4 = bF b) ∧ (Gd b pl cl) ∧ (cl.length ≤ 3 * n + m) ∧ vs = [some bx, some d4, some (.lst true (cl.map cD)), y13, y16, y18]) ⟨[_, _, _, _, _, _], rfl, bx, d4, cl, y13, y16, y18, h13, h16, h18, hb, hd4, hG, hcl, rfl⟩ ?_ ?_
    · rintro m hm _ ⟨bx, d4, cl, y13, y16, y18, h13, h16, h18, hb, hd4, hG, hcl, rfl⟩
      simp only [updM, List.set_cons_succ, List.set_cons_zero]
      have hm3 : m < 3 := hm
      generalize ([0, 1, 2] : List (Fin 3))[m] = k
      have uc := un_cD (x, k, y)
      have uk := un_kD k
      have fk : frz (kD k) = kD k := frz_un _ uk
      have fc : frz (cD (x, k, y)) = cD (x, k, y) := frz_un _ uc
      have fB := frF b
      have f1 := lkeep_eq hB (c := (x, k, y)) hx hy
      have f2 := keep_eq hB (c := (x, k, y)) hx hy
      have z1 : (cl.map cD).length < sizeLine := lt_sz (by rw [List.length_map]; omega)
      decreasing_trivial
      rw [hd4]
      decreasing_trivial
      refine zc (hf := H_law_keeps) (hφ := f1) (h := ?_)
      decreasing_trivial
      refine zc (hf := H_keeps_claim) (hφ := f2) (h := ?_)
      decreasing_trivial
      refine zcall_same hs hS  (h := ?_)
      decreasing_trivial
      refine zif_i (fun g => ?_) (fun g => ?_)
      · decreasing_trivial
        refine zbox_draw (h := fun v v0 v1 bx hb => ?_)
        decreasing_trivial
        refine zif_d (fun g2 => ?_) (fun g2 => ?_)
        · decreasing_trivial
          rw [show cl.map cD ++ [cD (x, k, y)] = (cl ++ [(x, k, y)]).map cD from by rw [List.map_append]; rfl]
          refine ⟨[_, _, _, _, _, _], rfl, _, _, cl ++ [(x, k, y)], _, _, _, (AU.u uk), (AU.u uc), (AU.a rfl), (by assumption), frz_un _ (unB b), (fun c hc => ?_), (by simp; omega), rfl⟩
          rcases List.mem_append.mp hc with z | z
          · exact hG c z
          · rw [List.mem_singleton] at z
            subst z
            exact ⟨⟨hq.1, hq.2⟩, g⟩
        · decreasing_trivial
          refine ⟨[_, _, _, _, _, _], rfl, _, _, cl, _, _, _, (AU.u uk), (AU.u uc), (AU.a rfl), (by assumption), frz_un _ (unB b), hG, (by omega), rfl⟩
      · decreasing_trivial
        refine ⟨[_, _, _, _, _, _], rfl, _, _, cl, _, _, _, (AU.u uk), (AU.u uc), (AU.a rfl), (by assumption), frz_un _ (unB b), hG, (by omega), rfl⟩
    · rintro _ ⟨bx, d4, cl, y13, y16, y18, h13, h16, h18, hb, hd4, hG, hcl, rfl⟩
      simp only [updM, List.set_cons_succ, List.set_cons_zero]
      rw [show ([0, 1, 2] : List (Fin 3)).length = 3 from rfl] at hcl
      decreasing_trivial
      refine ⟨[_, _, _, _, _, _, _, _], rfl, bx, d4, cl, _, _, _, _, _, (U.s rfl), h13, h16, h18, hb, hd4, hG, (by omega), rfl⟩
  · rintro _ ⟨bx, d4, cl, y12, y13, y16, y18, x5, h12, h13, h16, h18, hb, hd4, hG, hcl, rfl⟩
    simp only [updM, List.set_cons_succ, List.set_cons_zero]
    decreasing_trivial
    exact hQ _ _ _ _ _ _ _ _ h12 h13 h16 h18 hb hd4 hG (by omega)
theorem al_sD (o : Option (Nat × Nat)) : al (sD o) = true := by cases o <;> rfl
theorem ok_sD {b : List (List (List Nat))} (hB : Bl b) (a : List Nat) : H.okD 11 (sD (spot b a)) = true := by
  cases h : spot b a with
  | none => rfl
  | some p =>
    have := spot_bd hB h
    exact H.ok_pair 10 _ _ (by omega) (by omega)
theorem stE {Φ : Tab} (H_spot_of : Φ "spot_of" = some (2, 0, f_spot_of)) (H_law_spot : Φ "_law_spot" = some (2, 0, f_law_spot)) {φs : Fn} (hs : Φ "_law_same" = some (2, 0, φs)) (hS : Sames φs) {b : List (List (List Nat))} (hB : Bl b) {pl : List (List Nat)} (hpl : Nms pl) (hl : pl.length ≤ 6) (d4 : D) (hd4 : frz d4 = bF b) (x0 x1 x2 x5 x6 x7 x8 x9 x10 x11 x12 x13 x14 x15 x16 x17 x18 x19 x20 : Option D) (Q : R → Prop)
    (hQ : ∀ x5, Q (.nx [x0, x1, x2, some (.lst false (pl.map tX)), some d4, x5, x6, x7, x8, x9, x10, x11, x12, x13, x14, x15, x16, x17, x18, x19, x20])) :
    zss Φ [q_law_23] [x0, x1, x2, some (.lst false (pl.map tX)), some d4, x5, x6, x7, x8, x9, x10, x11, x12, x13, x14, x15, x16, x17, x18, x19, x20] Q := by
  have uP := unT pl
  decreasing_trivial
  rw [show (D.str "nobody") = tX [110, 111, 98, 111, 100, 121] from rfl]
  rw [app_tx]
  have hn2 := nms_app hpl nm_nobody
  have u2 := unT (pl ++ [[110, 111, 98, 111, 100, 121]])
  generalize pl ++ [[110, 111, 98, 111, 100, 121]] = ql at *
  decreasing_trivial
  refine zfor_mod [5] (fun n vs => ∃ (x5 : Option D), vs = [x5]) ⟨[_], rfl, _, rfl⟩ ?_ ?_
  · rintro n hn _ ⟨x5, rfl⟩
    simp only [updM, List.set_cons_succ, List.set_cons_zero]
    have hc := hn2 _ (List.getElem_mem hn)
    generalize ql[n] = c at *
    have f1 := spot_eq hB hc
    have f2 := lspot_eq hB hc
    have ok := ok_sD hB c
    have us : un (sD (spot b c)) = true := by cases spot b c <;> rfl
    have fs : frz (sD (spot b c)) = sD (spot b c) := frz_un _ us
    have as := al_sD (spot b c)
    decreasing_trivial
    refine zc (hf := H_spot_of) (hz := (show [frz d4, frz (tX c)] = [bF b, tX c] by rw [hd4]; rfl)) (hφ := f1) (hu := (by rw [as, Bool.or_true])) (h := ?_)
    decreasing_trivial
    refine zc (hf := H_law_spot) (hz := (show [frz d4, frz (tX c)] = [bF b, tX c] by rw [hd4]; rfl)) (hφ := f2) (hu := (by rw [as, Bool.or_true])) (h := ?_)
    decreasing_trivial
    refine zcall_same hs hS (d := sD (spot b c)) (ok := ok) (h := ?_)
    decreasing_trivial
    refine ⟨[_], rfl, _, rfl⟩
  · rintro _ ⟨x5, rfl⟩
    simp only [updM, List.set_cons_succ, List.set_cons_zero]
    decreasing_trivial
    exact hQ _
theorem pyB : ∀ b : List (List (List Nat)), pyL (b.map rO) = pyL (b.map rF)
  | [] => rfl
  | r :: b => by rw [List.map_cons, List.map_cons, pyL, pyL, pyB b]; rfl
theorem depB {b : List (List (List Nat))} (hB : Bl b) : dep 60 (bO b) = true ∧ dep 60 (bF b) = true := by
  constructor
  · refine dep_lst (depL_mem fun d hd => ?_)
    obtain ⟨r, hr, rfl⟩ := List.mem_map.mp hd
    exact dep_lst ((hB.n r hr).dep 58)
  · refine dep_lst (depL_mem fun d hd => ?_)
    obtain ⟨r, hr, rfl⟩ := List.mem_map.mp hd
    exact dep_lst ((hB.n r hr).dep 58)
theorem dep_kD (k : Fin 3) (n : Nat) : dep n (kD k) = true := by
  match k with
  | 0 => cases n <;> kernel_rfl
  | 1 => cases n <;> kernel_rfl
  | 2 => cases n <;> kernel_rfl
theorem depC {cl : List Cl} (h : Cls cl) (o : Bool) : dep 60 (.lst o (cl.map cD)) = true := by
  refine dep_lst (depL_mem fun d hd => ?_)
  obtain ⟨⟨x, k, y⟩, hc, rfl⟩ := List.mem_map.mp hd
  have := h _ hc
  refine dep_tup ?_
  show (dep 58 (tX x) && (dep 58 (kD k) && (dep 58 (tX y) && true))) = true
  rw [this.1.dep, this.2.dep, dep_kD]; rfl
theorem Gd.cls {b : List (List (List Nat))} {pl : List (List Nat)} {cl : List Cl} (h : Gd b pl cl) (hpl : Nms pl) : Cls cl := fun c hc => ⟨hpl _ (h c hc).1.1, hpl _ (h c hc).1.2⟩
theorem isb_of {b : List (List (List Nat))} {pl ql : List (List Nat)} (hO : Of b pl) (hq : ql.Perm pl) {cl : List Cl} (h : ∀ c ∈ cl, keep b c = true) : isb b ql cl = true := by
  unfold isb
  rw [decide_eq_true (srt_eq.mpr (hO.p.trans hq.symm)), List.all_eq_true.mpr h, Bool.true_and, Bool.and_true, List.all_eq_true]
  intro r hr
  have := List.length_pos_iff.mpr (hO.e r hr)
  exact decide_eq_true (by omega)
theorem rev_eq (pl : List (List Nat)) : ((List.range pl.length).map fun k => pl.getD (pl.length - 1 - k) []) = pl.reverse := by
  refine List.ext_getElem (by simp) fun i h1 h2 => ?_
  simp only [List.length_map, List.length_range] at h1
  simp only [List.getElem_map, List.getElem_range, List.getElem_reverse]
  rw [List.getD_eq_getElem?_getD, List.getElem?_eq_getElem (by omega)]; rfl
theorem stF {Φ : Tab} (H_is_bill : Φ "is_bill" = some (3, 0, f_is_bill)) {b : List (List (List Nat))} (hB : Bl b) {pl : List (List Nat)} (hO : Of b pl) (hpl : Nms pl) (hl : pl.length ≤ 6) {cl : List Cl} (hG : Gd b pl cl) (hcl : cl.length ≤ 200) (d4 : D) (hd4 : frz d4 = bF b) (x0 x1 x2 x5 x6 x8 x9 x10 x11 x12 x13 x14 x15 x16 x17 x18 x19 x20 : Option D) (h19 : U x19) (h20 : U x20) (Q : R → Prop)
    (hQ : Q (.nx [x0, x1, x2, some (.lst false (pl.map tX)), some (bF b), x5, x6, some (.lst true (cl.map cD)), some (bO b), some (.lst true (pl.map tX)), some (.lst true (cl.map cD)), x11, x12, x13, x14, x15, x16, x17, x18, x19, x20])) :
    zss Φ [q_law_24, q_law_25, q_law_26, q_law_28, q_law_30] [x0, x1, x2, some (.lst false (pl.map tX)), some d4, x5, x6, some (.lst true (cl.map cD)), x8, x9, x10, x11, x12, x13, x14, x15, x16, x17, x18, x19, x20] Q := by
  have uP := unT pl
  have uB := unB b
  have uC := unC cl
  have fC := frC cl
  have fT := frT pl
  have fO := frB b
  have fB := frF b
  have hcs := hG.cls hpl
  have hbl := hB.l
  have f1 := isb_eq hB hpl (show pl.length ≤ 100 by omega) hcs (show cl.length ≤ 1000 by omega)
  rw [isb_of hO (List.Perm.refl _) fun c hc => (hG c hc).2] at f1
  have hrn : Nms pl.reverse := fun c hc => hpl c (List.mem_reverse.mp hc)
  have f2 := isb_eq hB hrn (show pl.reverse.length ≤ 100 by rw [List.length_reverse]; omega) (cl := []) (fun c hc => nomatch hc) (by simp)
  rw [isb_of hO (List.reverse_perm pl) (cl := []) (fun c hc => absurd hc (by simp))] at f2
  have fR := frT pl.reverse
  have uR := unT pl.reverse
  generalize hq : pl.reverse = ql at *
  decreasing_trivial
  rw [hd4]
  decreasing_trivial
  refine zcomp_map (xs := b) (enc := rF) (r := rO) (hh := hideX rfl h19) (hit := by refine zit_lst (u := uB) (h := rfl)) (hl := by omega) (hs := fun r hr => ?_) (h := ?_)
  · have ur := un_rF r
    have uR := unT r
    simp only [wipeG, List.set_cons_succ, List.set_cons_zero]
    decreasing_trivial
    exact ⟨rfl, rfl⟩
  decreasing_trivial
  refine zc (hf := H_is_bill) (hφ := f1) (h := ?_)
  decreasing_trivial
  decreasing_trivial
  refine zcomp_map (xs := List.range pl.length) (enc := fun k : Nat => D.int (k : Int)) (r := fun k => tX (pl.getD (pl.length - 1 - k) [])) (hh := hideX rfl h20) (hit := by decreasing_trivial; rfl) (hl := by simp; omega) (hs := fun k hk => ?_) (h := ?_)
  · have hk := List.mem_range.mp hk
    have e : ((pl.length : Int) - 1 - (k : Int)).toNat = pl.length - 1 - k := by omega
    have hlt : pl.length - 1 - k < pl.length := by omega
    simp only [wipeG, List.set_cons_succ, List.set_cons_zero]
    decreasing_trivial
    refine ⟨?_, rfl⟩
    simp only [e, List.getD_eq_getElem?_getD, List.getElem?_eq_getElem hlt, Option.getD_some]
  rw [show ((List.range pl.length).map fun k => tX (pl.getD (pl.length - 1 - k) [])) = ql.map tX from by rw [← hq, ← rev_eq, List.map_map]; rfl]
  decreasing_trivial
  refine zc (hf := H_is_bill) (hφ := f2) (h := ?_)
  decreasing_trivial
  decreasing_trivial
  refine zp_neS (show PyData.list _ = PyData.list _ by rw [pyB]) (depB hB).1 (depB hB).2 ?_
  decreasing_trivial
  refine zp_neS rfl (dep_lst (hpl.dep 59)) (dep_lst (hpl.dep 59)) ?_
  decreasing_trivial
  refine zp_neS rfl (depC hcs _) (depC hcs _) ?_
  decreasing_trivial
  exact hQ
theorem alB (b : List (List (List Nat))) : al (bO b) = true := by
  show alL (b.map rO) = true
  exact alL_mapU (f := rO) (fun r => alT r) b
theorem stG {Φ : Tab} {φd : Fn} (hd : Φ "_law_draw" = some (2, 1, φd)) (hD : Draws φd) (H_law_bent : Φ "_law_bent" = some (3, 1, f_law_bent)) {φs : Fn} (hs : Φ "_law_same" = some (2, 0, φs)) (hS : Sames φs) (H_is_bill : Φ "is_bill" = some (3, 0, f_is_bill)) (H_law_judge : Φ "_law_judge" = some (3, 0, f_law_judge)) (bx : D) (hb : Bx bx) {b : List (List (List Nat))} (hB : Bl b) (hb1 : 1 ≤ b.length) (hb2 : b.length ≤ 6) (hr : ∀ r ∈ b, 1 ≤ r.length ∧ r.length ≤ 6) {pl : List (List Nat)} (hpl : Nms pl) (hnd : pl.Nodup) (hp1 : 1 ≤ pl.length) (hl : pl.length ≤ 6) {cl : List Cl} (hcs : Cls cl) (hcl : cl.length ≤ 200) (x0 x2 x5 x6 x8 x9 x10 x11 x12 x13 x14 x15 x16 x17 x18 x19 x20 : Option D) (Q : R → Prop)
    (hQ : ∀ bx o7 x11 x14 x15, Bx bx → AU x14 → AU x15 → AU x11 → Q (.nx [x0, some bx, x2, some (.lst false (pl.map tX)), some (bF b), x5, x6, some (.lst o7 (cl.map cD)), x8, x9, x10, x11, x12, x13, x14, x15, x16, x17, x18, x19, x20])) (h11 : AU x11) (h14 : AU x14) (h15 : AU x15) :
    zss Φ [q_law_35] [x0, some bx, x2, some (.lst false (pl.map tX)), some (bF b), x5, x6, some (.lst true (cl.map cD)), x8, x9, x10, x11, x12, x13, x14, x15, x16, x17, x18, x19, x20] Q := by
  have uP := unT pl
  have uB := unB b
  have uC := unC cl
  have fC := frC cl
  have fT := frT pl
  decreasing_trivial
  refine zfor_mod [1, 7, 11, 14, 15] (fun n vs => ∃ (bx : D) (o7 : Bool) (y11 : Option D) (y14 : Option D) (y15 : Option D), (Bx bx) ∧ (AU y11) ∧ (AU y14) ∧ (AU y15) ∧ vs = [some bx, some (.lst o7 (cl.map cD)), y11, y14, y15]) ⟨[_, _, _, _, _], rfl, bx, true, x11, x14, x15, hb, h11, h14, h15, rfl⟩ ?_ ?_
  · rintro n hn _ ⟨bx, o7, y11, y14, y15, hb, h11, h14, h15, rfl⟩
    simp only [updM, List.set_cons_succ, List.set_cons_zero]
    decreasing_trivial
    refine zbox_of H_law_bent rfl (show unL [bF b, .lst false (pl.map tX)] = true by show (un (bF b) && (un _ && true)) = true; exact (by rw [show un (bF b) = true from uB, show un (.lst false (pl.map tX)) = true from uP]; rfl)) (bent_eq hb hB hb1 hb2 hr hpl hp1 (by omega)) fun d x hd2 => ?_
    obtain ⟨b', rfl, hB', hx⟩ := hd2
    decreasing_trivial
    have aB := alB b'
    have uB' := unB b'
    have fB' := frB b'
    have hN : ∀ dl : List Cl, Cls dl → dl.length ≤ 200 → f_is_bill [bF b', .lst false (pl.map tX), .lst false (dl.map cD)] = some (.bl (judge b' pl dl), []) := fun dl h1 h2 => by
      rw [isb_eq hB' hpl (by omega) h1 (by omega), judge_isb hnd]
    have hM : ∀ dl : List Cl, Cls dl → dl.length ≤ 200 → f_law_judge [bF b', .lst false (pl.map tX), .lst false (dl.map cD)] = some (.bl (judge b' pl dl), []) := fun dl h1 h2 => ljudge_eq hB' hpl (by omega) h1 (by omega)
    have n1 := hN cl hcs hcl
    have m1 := hM cl hcs hcl
    have n2 := hN [] (fun c hc => absurd hc (by simp)) (by simp)
    have m2 := hM [] (fun c hc => absurd hc (by simp)) (by simp)
    refine zbox_draw (h := fun v v0 v1 bx hb => ?_)
    decreasing_trivial
    refine zif_d (fun g2 => ?_) (fun g2 => ?_)
    · decreasing_trivial
      refine zc (hf := H_is_bill) (hφ := n1) (h := ?_)
      decreasing_trivial
      refine zc (hf := H_law_judge) (hφ := m1) (h := ?_)
      decreasing_trivial
      refine zcall_same hs hS  (h := ?_)
      decreasing_trivial
      refine ⟨[_, _, _, _, _], rfl, _, _, _, _, _, (by assumption), (AU.a rfl), (AU.a aB), (AU.u (show un (.lst false (cl.map cD)) = true from uC)), rfl⟩
    · decreasing_trivial
      refine zc (hf := H_is_bill) (hφ := n2) (h := ?_)
      decreasing_trivial
      refine zc (hf := H_law_judge) (hφ := m2) (h := ?_)
      decreasing_trivial
      refine zcall_same hs hS  (h := ?_)
      decreasing_trivial
      refine ⟨[_, _, _, _, _], rfl, _, _, _, _, _, (by assumption), (AU.a rfl), (AU.a aB), (AU.a rfl), rfl⟩
  · rintro _ ⟨bx, o7, y11, y14, y15, hb, h11, h14, h15, rfl⟩
    simp only [updM, List.set_cons_succ, List.set_cons_zero]
    decreasing_trivial
    exact hQ _ _ _ _ _ hb h14 h15 h11
theorem eqv_nil : ∀ ds : List D, PyData.eqvAll (pyL ds) [] = decide (ds = [])
  | [] => rfl
  | d :: ds => by rw [pyL]; rfl
theorem ne_p2 {pl : List (List Nat)} (hpl : Nms pl) {pr : List P2} (hpr : ∀ q ∈ pr, q.1 ∈ pl ∧ q.2 ∈ pl) (o p : Bool) : eqF (.lst o (pr.map p2D)) (.lst p []) = some (decide (pr = [])) := by
  have h1 : dep 60 (.lst o (pr.map p2D)) = true := by
    refine dep_lst (depL_mem fun d hd => ?_)
    obtain ⟨⟨x, y⟩, hc, rfl⟩ := List.mem_map.mp hd
    have := hpr _ hc
    refine dep_tup ?_
    show (dep 58 (tX x) && (dep 58 (tX y) && true)) = true
    rw [(hpl _ this.1).dep, (hpl _ this.2).dep]; rfl
  unfold eqF eqOk
  rw [h1, show dep 60 (.lst p []) = true from by cases p <;> rfl]
  simp only [Bool.and_self, if_true]
  congr 1
  show PyData.eqvAll (pyL (pr.map p2D)) [] = _
  rw [eqv_nil]
  cases pr <;> simp
theorem isb_len {b : List (List (List Nat))} {pl ql : List (List Nat)} (hO : Of b pl) (h : ql.length ≠ pl.length) (cl : List Cl) : isb b ql cl = false := by
  unfold isb
  rw [decide_eq_false (fun e => h ((srt_eq.mp e).symm.trans hO.p).length_eq)]
  rfl
theorem isb_put {b : List (List (List Nat))} {pl : List (List Nat)} (hO : Of b pl) {cl : List Cl} (hG : Gd b pl cl) (k : Nat) (c : Cl) : isb b pl (cl.take k ++ [c] ++ cl.drop k) = keep b c := by
  unfold isb
  rw [decide_eq_true (srt_eq.mpr hO.p)]
  have h1 : (b.all fun r => decide (0 < ((r.length : Nat) : Int))) = true := by
    rw [List.all_eq_true]
    intro r hr
    have := List.length_pos_iff.mpr (hO.e r hr)
    exact decide_eq_true (by omega)
  rw [h1, List.all_append, List.all_append]
  rw [List.all_eq_true.mpr fun c hc => (hG c (List.mem_of_mem_take hc)).2, List.all_eq_true.mpr fun c hc => (hG c (List.mem_of_mem_drop hc)).2]
  simp
theorem alC (cl : List Cl) : alL (cl.map cD) = true := alL_mapU (f := cD) (fun c => by
  obtain ⟨x, k, y⟩ := c
  match k with
  | 0 => rfl
  | 1 => rfl
  | 2 => rfl) cl
theorem stH {Φ : Tab} {φp : Fn} (hp : Φ "_law_pick" = some (2, 1, φp)) (hP : Picks φp) {φd : Fn} (hd : Φ "_law_draw" = some (2, 1, φd)) (hD : Draws φd) (H_is_bill : Φ "is_bill" = some (3, 0, f_is_bill)) {φs : Fn} (hs : Φ "_law_same" = some (2, 0, φs)) (hS : Sames φs) (H_law_keeps : Φ "_law_keeps" = some (2, 0, f_law_keeps)) (bx : D) (hb : Bx bx) {b : List (List (List Nat))} (hB : Bl b) {pl : List (List Nat)} (hO : Of b pl) (hpl : Nms pl) (hp1 : 1 ≤ pl.length) (hl : pl.length ≤ 6) {pr : List P2} (hpr : ∀ q ∈ pr, q.1 ∈ pl ∧ q.2 ∈ pl) (hprl : pr.length ≤ 36) {cl : List Cl} (hG : Gd b pl cl) (hcl : cl.length ≤ 200) (o7 : Bool) (x0 x2 x5 x8 x9 x10 x11 x12 x13 x14 x15 x16 x17 x18 x19 x20 : Option D) (Q : R → Prop) (h12 : U x12) (h16 : AU x16)
    (hQ : ∀ bx x5 x6 x7 x12 x16 x17, Bx bx → AU x6 → AU x7 → U x12 → AU x16 → Q (.nx [x0, some bx, x2, some (.lst false (pl.map tX)), some (bF b), x5, x6, x7, x8, x9, x10, x11, x12, x13, x14, x15, x16, x17, x18, x19, x20])) :
    zss Φ [q_law_41, q_law_43] [x0, some bx, x2, some (.lst false (pl.map tX)), some (bF b), x5, some (.lst false (pr.map p2D)), some (.lst o7 (cl.map cD)), x8, x9, x10, x11, x12, x13, x14, x15, x16, x17, x18, x19, x20] Q := by
  have uP := unT pl
  have uB := unB b
  have uC := unC cl
  have uq := unP2 pr
  have fC := frC cl
  have fT := frT pl
  have hcs := hG.cls hpl
  have e1 : List.map tX pl ++ [D.str "nobody"] = (pl ++ [[110, 111, 98, 111, 100, 121]]).map tX := app_tx pl _
  have e2 : (List.map tX pl).drop 1 = (pl.drop 1).map tX := (List.map_drop).symm
  have n1 : f_is_bill [bF b, .lst false ((pl ++ [[110, 111, 98, 111, 100, 121]]).map tX), .lst false (([] : List Cl).map cD)] = some (.bl false, []) := by
    rw [isb_eq hB (nms_app hpl nm_nobody) (by simp; omega) (fun c hc => absurd hc (by simp)) (by simp), isb_len hO (by simp)]
  have n2 : f_is_bill [bF b, .lst false ((pl.drop 1).map tX), .lst false (([] : List Cl).map cD)] = some (.bl false, []) := by
    rw [isb_eq hB (fun c hc => hpl c (List.mem_of_mem_drop hc)) (by simp; omega) (fun c hc => absurd hc (by simp)) (by simp), isb_len hO (by simp; omega)]
  have u1 := unT (pl ++ [[110, 111, 98, 111, 100, 121]])
  have u2 := unT (pl.drop 1)
  have e3 : cutL pl (some 1) none = pl.drop 1 := cutL_natN (a := 1) hp1
  generalize pl ++ [[110, 111, 98, 111, 100, 121]] = q1 at *
  generalize pl.drop 1 = q2 at *
  have fB := frF b
  have ft1 := frT q1
  have ft2 := frT q2
  decreasing_trivial
  refine zp_neE (ne_p2 hpl hpr _ _) ?_
  have rest : ∀ bx x5 x7 x12 x16 x17, Bx bx → AU x7 → U x12 → AU x16 → zss Φ [q_law_43] [x0, some bx, x2, some (.lst false (pl.map tX)), some (bF b), x5, some (.lst false (pr.map p2D)), x7, x8, x9, x10, x11, x12, x13, x14, x15, x16, x17, x18, x19, x20] Q := fun bx x5 x7 x12 x16 x17 hb h7 h12 h16 => by
    decreasing_trivial
    rw [e1]
    decreasing_trivial
    refine zc (hf := H_is_bill) (hφ := n1) (h := ?_)
    decreasing_trivial
    decreasing_trivial
    rw [e3]
    decreasing_trivial
    refine zc (hf := H_is_bill) (hφ := n2) (h := ?_)
    decreasing_trivial
    decreasing_trivial
    exact hQ _ _ _ _ _ _ _ hb (AU.u (show un (.lst false (pr.map p2D)) = true from uq)) h7 h12 h16
  have h7 : AU (some (.lst o7 (cl.map cD))) := by
    cases o7
    · exact AU.u (show un (.lst false (cl.map cD)) = true from uC)
    · exact AU.a (show al (.lst true (cl.map cD)) = true from alC cl)
  generalize hh43 : [q_law_43] = l43 at rest ⊢
  decreasing_trivial
  refine zif_i (fun g => ?_) (fun g => ?_)
  · have hne : pr ≠ [] := by simpa using g
    have hne2 : pr.map p2D ≠ [] := by simpa using hne
    decreasing_trivial
    refine zbox_pick (h := fun d hd2 bx hb => ?_)
    obtain ⟨⟨x, y⟩, hq, rfl⟩ := List.mem_map.mp hd2
    have hx := hpl x (hpr _ hq).1
    have hy := hpl y (hpr _ hq).2
    decreasing_trivial
    rw [show [D.str "above", D.str "before", D.str "level"] = ([0, 1, 2] : List (Fin 3)).map kD from rfl]
    refine zbox_pick (h := fun d hd2 bx hb => ?_)
    obtain ⟨k, hk, rfl⟩ := List.mem_map.mp hd2
    decreasing_trivial
    have ucd := un_cD (x, k, y)
    have fk := frz_un _ (un_kD k)
    have fcd := frz_un _ ucd
    have n3 : ∀ m : Nat, f_is_bill [bF b, .lst false (pl.map tX), .lst false ((cl.take m ++ [(x, k, y)] ++ cl.drop m).map cD)] = some (.bl (keep b (x, k, y)), []) := fun m => by
      rw [isb_eq hB hpl (by omega) (fun c hc => ?_) (by simp; omega), isb_put hO hG]
      rcases List.mem_append.mp hc with z | z
      · rcases List.mem_append.mp z with z | z
        · exact hcs c (List.mem_of_mem_take z)
        · rw [List.mem_singleton] at z
          subst z
          exact ⟨hx, hy⟩
      · exact hcs c (List.mem_of_mem_drop z)
    have n4 := lkeep_eq hB (c := (x, k, y)) hx hy
    refine zbox_draw (h := fun v v0 v1 bx hb => ?_)
    decreasing_trivial
    obtain ⟨m, rfl⟩ := Int.eq_ofNat_of_zero_le v0
    rw [frC, cutL_Nnat (by omega), fk]
    show zp Pr.add [.lst false ((cl.take m).map cD), .lst false ([(x, k, y)].map cD)] _
    refine zp_addL (u := unC _) (v := unC _) (z := by simp; omega) (h := ?_)
    rw [← List.map_append]
    decreasing_trivial
    rw [frC, frC, cutL_natN (by omega)]
    refine zp_addL (u := unC _) (v := unC _) (z := by simp; omega) (h := ?_)
    rw [← List.map_append]
    have n5 := n3 m
    have fa := frC (cl.take m ++ [(x, k, y)] ++ cl.drop m)
    generalize cl.take m ++ [(x, k, y)] ++ cl.drop m = dl at *
    decreasing_trivial
    refine zc (hf := H_is_bill) (hφ := n5) (h := ?_)
    decreasing_trivial
    refine zc (hf := H_law_keeps) (hφ := n4) (h := ?_)
    decreasing_trivial
    refine zcall_same hs hS  (h := ?_)
    decreasing_trivial
    exact rest _ _ _ _ _ _ hb h7 (fun d hd3 => by cases hd3; rfl) (AU.u ucd)
  · decreasing_trivial
    exact rest _ _ _ _ _ _ hb h7 h12 h16
theorem stA {Φ : Tab} {φd : Fn} (hd : Φ "_law_draw" = some (2, 1, φd)) (hD : Draws φd) (H_law_people : Φ "_law_people" = some (2, 1, f_law_people)) (bx : D) (hb : Bx bx) (x0 x2 x3 x4 x5 x6 x7 x8 x9 x10 x11 x12 x13 x14 x15 x16 x17 x18 x19 x20 : Option D) (Q : R → Prop)
    (hQ : ∀ bx pl, Bx bx → Nms pl → pl.Nodup → 1 ≤ pl.length → pl.length ≤ 6 → Q (.nx [x0, some bx, x2, some (.lst true (pl.map tX)), x4, x5, x6, x7, x8, x9, x10, x11, x12, x13, x14, x15, x16, x17, x18, x19, x20])) :
    zss Φ [q_law_2] [x0, some bx, x2, x3, x4, x5, x6, x7, x8, x9, x10, x11, x12, x13, x14, x15, x16, x17, x18, x19, x20] Q := by
  decreasing_trivial
  refine zbox_draw (h := fun v v0 v1 bx hb => ?_)
  decreasing_trivial
  obtain ⟨m, rfl⟩ := Int.eq_ofNat_of_zero_le v0
  rw [show (1 : Int) + (m : Int) = ((1 + m : Nat) : Int) by omega]
  refine zbox_of H_law_people rfl rfl (ppl_eq hb (by omega) (by omega)) fun d x hd2 => ?_
  obtain ⟨pl, rfl, hn, hnd, hl, hx⟩ := hd2
  decreasing_trivial
  exact hQ _ _ hx hn hnd (by omega) (by omega)
theorem Of.b {b : List (List (List Nat))} {pl : List (List Nat)} (hO : Of b pl) (hp1 : 1 ≤ pl.length) (hl : pl.length ≤ 6) : 1 ≤ b.length ∧ b.length ≤ 6 ∧ ∀ r ∈ b, 1 ≤ r.length ∧ r.length ≤ 6 := by
  have e := hO.p.length_eq
  refine ⟨?_, ?_, fun r hr => ⟨List.length_pos_iff.mpr (hO.e r hr), ?_⟩⟩
  · cases b with
    | nil => simp at e; omega
    | cons r b => simp
  · have := len_le hO.e; omega
  · have := row_le hr; omega
theorem U.au {x : Option D} (h : U x) : AU x := fun d hd => .inr (h d hd)
theorem turnB {Φ : Tab} {φd : Fn} (hd : Φ "_law_draw" = some (2, 1, φd)) (hD : Draws φd) (H_law_people : Φ "_law_people" = some (2, 1, f_law_people)) (H_law_keeps : Φ "_law_keeps" = some (2, 0, f_law_keeps)) (H_keeps_claim : Φ "keeps_claim" = some (2, 0, f_keeps_claim)) {φs : Fn} (hs : Φ "_law_same" = some (2, 0, φs)) (hS : Sames φs) (H_spot_of : Φ "spot_of" = some (2, 0, f_spot_of)) (H_law_spot : Φ "_law_spot" = some (2, 0, f_law_spot)) (H_is_bill : Φ "is_bill" = some (3, 0, f_is_bill)) (H_law_bent : Φ "_law_bent" = some (3, 1, f_law_bent)) (H_law_judge : Φ "_law_judge" = some (3, 0, f_law_judge)) {φp : Fn} (hp : Φ "_law_pick" = some (2, 1, φp)) (hP : Picks φp) (s : List Int) (t : Int) (bx : D) (hb : Bx bx) (x3 x4 x5 x6 x7 x8 x9 x10 x11 x12 x13 x14 x15 x16 x17 x18 x19 x20 : Option D) (h6 : AU x6) (h7 : AU x7) (h8 : AU x8) (h9 : AU x9) (h10 : AU x10) (h11 : AU x11) (h12 : U x12) (h13 : AU x13) (h14 : AU x14) (h15 : AU x15) (h16 : AU x16) (h18 : AU x18) (h19 : U x19) (h20 : U x20) (Q : R → Prop)
    (hQ : ∀ bx x3 x4 x5 x6 x7 x8 x9 x10 x11 x12 x13 x14 x15 x16 x17 x18 x19 x20, Bx bx → AU x6 → AU x7 → AU x8 → AU x9 → AU x10 → AU x11 → U x12 → AU x13 → AU x14 → AU x15 → AU x16 → AU x18 → U x19 → U x20 → Q (.nx [some (.scr s), some bx, some (.int t), x3, x4, x5, x6, x7, x8, x9, x10, x11, x12, x13, x14, x15, x16, x17, x18, x19, x20])) :
    zss Φ lb_law_7 [some (.scr s), some bx, some (.int t), x3, x4, x5, x6, x7, x8, x9, x10, x11, x12, x13, x14, x15, x16, x17, x18, x19, x20] Q := by
  rw [show lb_law_7 = [q_law_2] ++ ([q_law_3, q_law_8] ++ ([q_law_9, q_law_11] ++ ([q_law_12, q_law_20] ++ ([q_law_23] ++ ([q_law_24, q_law_25, q_law_26, q_law_28, q_law_30] ++ ([q_law_35] ++ [q_law_41, q_law_43])))))) from rfl]
  refine zss_app ?_
  refine stA hd hD H_law_people bx hb _ _ _ _ _ _ _ _ _ _ _ _ _ _ _ _ _ _ _ _ _ fun bx pl hb hpl hnd hp1 hl => ?_
  refine znx_nx (h := ?_)
  refine zss_app ?_
  refine stB hd hD s bx hb hpl hl _ _ _ _ _ _ _ _ _ _ _ _ _ _ _ _ _ _ h6 h7 h8 h9 h10 h11 (U.au h12) h13 h14 h15 h16 h18 (U.au h19) (U.au h20) _ _ fun bx b x5 x17 hb hO => ?_
  have hB := hO.bl hpl (by omega)
  have hbb := hO.b hp1 hl
  refine znx_nx (h := ?_)
  refine zss_app ?_
  refine stC hpl hl _ _ _ _ _ _ _ _ _ _ _ _ _ _ _ _ _ _ _ _ h12 _ fun pr x5 hpr hprl => ?_
  refine znx_nx (h := ?_)
  refine zss_app ?_
  refine stD H_law_keeps H_keeps_claim hs hS hd hD bx hb hB hpl hpr hprl _ (show frz (bO b) = bF b by show D.lst false _ = _; rw [frB]) _ _ _ _ _ _ _ _ _ _ _ _ _ _ _ _ _ _ h12 h13 h16 h18 _ fun bx d4 cl x5 x12 x13 x16 x18 h12 h13 h16 h18 hb hd4 hG hcl => ?_
  refine znx_nx (h := ?_)
  refine zss_app ?_
  refine stE H_spot_of H_law_spot hs hS hB hpl hl d4 hd4 _ _ _ _ _ _ _ _ _ _ _ _ _ _ _ _ _ _ _ _ fun x5 => ?_
  refine znx_nx (h := ?_)
  refine zss_app ?_
  refine stF H_is_bill hB hO hpl hl hG hcl d4 hd4 _ _ _ _ _ _ _ _ _ _ _ _ _ _ _ _ _ _ h19 h20 _ ?_
  refine znx_nx (h := ?_)
  refine zss_app ?_
  refine stG hd hD H_law_bent hs hS H_is_bill H_law_judge bx hb hB hbb.1 hbb.2.1 hbb.2.2 hpl hnd hp1 hl (hG.cls hpl) hcl _ _ _ _ _ _ _ _ _ _ _ _ _ _ _ _ _ _ (fun bx o7 x11 x14 x15 hb h14 h15 h11 => ?_) h11 h14 h15
  refine znx_nx (h := ?_)
  refine stH hp hP hd hD H_is_bill hs hS H_law_keeps bx hb hB hO hpl hp1 hl hpr hprl hG hcl o7 _ _ _ _ _ _ _ _ _ _ _ _ _ _ _ _ _ h12 h16 fun bx x5 x6 x7 x12 x16 x17 hb h6 h7 h12 h16 => ?_
  exact hQ _ _ _ _ _ _ _ _ _ _ _ _ _ _ _ _ _ _ _ hb h6 h7 (AU.a (alB b)) (AU.a (show al (.lst true (pl.map tX)) = true from alT pl)) (AU.a (show al (.lst true (cl.map cD)) = true from alC cl)) h11 h12 h13 h14 h15 h16 h18 h19 h20
def b1 : List (List (List Nat)) := [[[97]], []]
def b2 : List (List (List Nat)) := [[[97], [98]]]
theorem bn1 : ∀ r ∈ b1, Nms r := fun r hr c hc => by
  simp only [b1, List.mem_cons, List.not_mem_nil, or_false] at hr
  rcases hr with rfl | rfl
  · rw [List.mem_singleton] at hc; subst hc; exact ⟨fun x hx => by simp at hx; omega, by simp⟩
  · cases hc
theorem bl1 : Bl b1 := ⟨bn1, by decide, by decide⟩
theorem bn2 : ∀ r ∈ b2, Nms r := fun r hr c hc => by
  simp only [b2, List.mem_cons, List.not_mem_nil, or_false] at hr
  subst hr
  simp only [List.mem_cons, List.not_mem_nil, or_false] at hc
  rcases hc with rfl | rfl
  · exact ⟨fun x hx => by simp at hx; omega, by simp⟩
  · exact ⟨fun x hx => by simp at hx; omega, by simp⟩
theorem bl2 : Bl b2 := ⟨bn2, by decide, by decide⟩
theorem nmA : Nm [97] := ⟨fun x hx => by simp at hx; omega, by simp⟩
theorem nmB : Nm [98] := ⟨fun x hx => by simp at hx; omega, by simp⟩
theorem con1 : f_is_bill [.lst false [.lst false [.str "a"], .lst false []], .lst false [.str "a"], .lst false []] = some (.bl false, []) :=
  (isb_eq bl1 (pl := [[97]]) (fun c hc => by rw [List.mem_singleton] at hc; subst hc; exact nmA) (by decide) (cl := []) (fun c hc => absurd hc (by simp)) (by simp)).trans (by
    unfold isb
    rw [show (b1.all fun r => decide (0 < ((r.length : Nat) : Int))) = false from rfl, Bool.and_false, Bool.false_and])
theorem con2 : f_is_bill [.lst false [.lst false [.str "a", .str "b"]], .lst false [.str "a", .str "b"], .lst false [.tup [.str "a", .str "above", .str "b"]]] = some (.bl false, []) :=
  (isb_eq bl2 (pl := [[97], [98]]) (fun c hc => by
    simp only [List.mem_cons, List.not_mem_nil, or_false] at hc
    rcases hc with rfl | rfl
    · exact nmA
    · exact nmB) (by decide) (cl := [([97], 0, [98])]) (fun c hc => by rw [List.mem_singleton] at hc; subst hc; exact ⟨nmA, nmB⟩) (by decide)).trans (by
    unfold isb
    rw [show List.all [(([97], 0, [98]) : Cl)] (keep b2) = false from by decide +kernel, Bool.and_false])
theorem law_true : ∀ ns : List Int, ns.length ≤ 63 → ∃ xs, f_law [.scr ns] = some (.bl true, xs) := fun ns _ => by
  refine law_z (N := N_law) (by simp [N_law]) (by simp only [N_law, pad]; rfl) ?_
  have hs := T_law_law_same
  have hS := sames_H
  have pT := fun t bx hb => turnB T_law_law_draw draws_H T_law_law_people T_law_law_keeps T_law_keeps_claim T_law_law_same sames_H T_law_spot_of T_law_law_spot T_law_is_bill T_law_law_bent T_law_law_judge T_law_law_pick picks_H ns t bx hb
  decreasing_trivial
  refine digits_z T_law_law_digits (a := 0) (b := 18) (h := fun is hsm => ?_)
  have hb0 := Bx.mk hsm
  generalize hb7 : lb_law_7 = b7 at pT
  decreasing_trivial
  generalize D.lst true [D.lst true (is.map .int), D.int 0] = bx at *
  rw [hb7]
  refine zfor_inv (fun _ Γ => ∃ (bx : D) (y2 : Option D) (y3 y4 y5 y6 y7 y8 y9 y10 y11 y12 y13 y14 y15 y16 y17 y18 y19 y20 : Option D), Γ = [some (.scr ns), some bx, y2, y3, y4, y5, y6, y7, y8, y9, y10, y11, y12, y13, y14, y15, y16, y17, y18, y19, y20] ∧ Bx bx ∧ AU y6 ∧ AU y7 ∧ AU y8 ∧ AU y9 ∧ AU y10 ∧ AU y11 ∧ U y12 ∧ AU y13 ∧ AU y14 ∧ AU y15 ∧ AU y16 ∧ AU y18 ∧ U y19 ∧ U y20) ⟨bx, none, none, none, none, none, none, none, none, none, none, none, none, none, none, none, none, none, none, none, rfl, hb0, AU.n, AU.n, AU.n, AU.n, AU.n, AU.n, U.n, AU.n, AU.n, AU.n, AU.n, AU.n, U.n, U.n⟩ ?_ ?_
  · rintro n hn _ ⟨bx, y2, y3, y4, y5, y6, y7, y8, y9, y10, y11, y12, y13, y14, y15, y16, y17, y18, y19, y20, rfl, hb, h6, h7, h8, h9, h10, h11, h12, h13, h14, h15, h16, h18, h19, h20⟩
    decreasing_trivial
    refine pT _ _ hb _ _ _ _ _ _ _ _ _ _ _ _ _ _ _ _ _ _ h6 h7 h8 h9 h10 h11 h12 h13 h14 h15 h16 h18 h19 h20 _ fun bx x3 x4 x5 x6 x7 x8 x9 x10 x11 x12 x13 x14 x15 x16 x17 x18 x19 x20 hb h6 h7 h8 h9 h10 h11 h12 h13 h14 h15 h16 h18 h19 h20 => ?_
    decreasing_trivial
    exact ⟨_, _, _, _, _, _, _, _, _, _, _, _, _, _, _, _, _, _, _, _, rfl, hb, h6, h7, h8, h9, h10, h11, h12, h13, h14, h15, h16, h18, h19, h20⟩
  · rintro _ ⟨bx, y2, y3, y4, y5, y6, y7, y8, y9, y10, y11, y12, y13, y14, y15, y16, y17, y18, y19, y20, rfl, hb, h6, h7, h8, h9, h10, h11, h12, h13, h14, h15, h16, h18, h19, h20⟩
    decreasing_trivial
    refine zcall_i T_law_is_bill (r := .bl false) (x := []) (hz := rfl) con1 (h := ?_)
    decreasing_trivial
    refine zcall_i T_law_is_bill (r := .bl false) (x := []) (hz := rfl) con2 (h := ?_)
    decreasing_trivial
    exact Rt.i

end K86
open PySem PySem.W PyProof.Rows
set_option maxHeartbeats 0 in
theorem PySem.Challenge.cw_stagelands_k86_whole_bills_judged_holds : PySem.Challenge.rw_stagelands_k86_whole_bills_judged.Holds := by
  w_on; o_law; k_head; (case hw => w_witness2)
  k_fill
  refine L2.walk_of (l := PySem.Challenge.rw_stagelands_k86_whole_bills_judged) (n := 63) (k := 13) (x := "script") (CX := fun _ => L2.CX0) (sp := fun w => Sk.spF _ 1 0 K86.f_law) rfl (by decide) rfl ⟨rfl, by decide, by decide⟩ (fun w h Y => PySem.W.kIn_of Y) ?F (fun _ H a ns hl _ hS => Sk.sp_end K86.law_true H a ns hl hS _) (fun _ _ _ _ _ h => h)
  case F =>
    intro w mg fa h KX G hmg
    refine' K86.all_mk KX G hmg ?a_spot_of ?l_spot_of ?c_spot_of ?k_spot_of ?a_keeps_claim ?l_keeps_claim ?c_keeps_claim ?k_keeps_claim ?a_is_bill ?l_is_bill ?c_is_bill ?k_is_bill ?a_law_cell ?l_law_cell ?c_law_cell ?k_law_cell ?a_law_digits ?l_law_digits ?c_law_digits ?k_law_digits ?a_law_draw ?l_law_draw ?c_law_draw ?k_law_draw ?a_law_pick ?l_law_pick ?c_law_pick ?k_law_pick ?a_law_same ?l_law_same ?c_law_same ?k_law_same ?a_law_spot ?l_law_spot ?c_law_spot ?k_law_spot ?a_law_keeps ?l_law_keeps ?c_law_keeps ?k_law_keeps ?a_law_people ?l_law_people ?c_law_people ?k_law_people ?a_law_judge ?l_law_judge ?c_law_judge ?k_law_judge ?a_law_bent ?l_law_bent ?c_law_bent ?k_law_bent ?a_law ?l_law ?c_law ?k_law ?z_len ?z_int ?z_abs ?z_min ?z_max ?z_sum ?z_all ?z_any ?z_list ?z_tuple ?z_range ?z_enumerate ?z_zip ?z_reversed ?z_isinstance ?z_repr ?z_sorted ?z_str ?z_bool
    (case a_spot_of => k_is); (case l_spot_of => k_is); (case c_spot_of => k_is); (case k_spot_of => k_is); (case a_keeps_claim => k_is); (case l_keeps_claim => k_is); (case c_keeps_claim => k_is); (case k_keeps_claim => k_is); (case a_is_bill => k_is); (case l_is_bill => k_is); (case c_is_bill => k_is); (case k_is_bill => k_is); (case a_law_cell => k_is); (case l_law_cell => k_is); (case c_law_cell => k_is); (case k_law_cell => k_is); (case a_law_digits => k_is); (case l_law_digits => k_is); (case c_law_digits => k_is); (case k_law_digits => k_is); (case a_law_draw => k_is); (case l_law_draw => k_is); (case c_law_draw => k_is); (case k_law_draw => k_is); (case a_law_pick => k_is); (case l_law_pick => k_is); (case c_law_pick => k_is); (case k_law_pick => k_is); (case a_law_same => k_is); (case l_law_same => k_is); (case c_law_same => k_is); (case k_law_same => k_is); (case a_law_spot => k_is); (case l_law_spot => k_is); (case c_law_spot => k_is); (case k_law_spot => k_is); (case a_law_keeps => k_is); (case l_law_keeps => k_is); (case c_law_keeps => k_is); (case k_law_keeps => k_is); (case a_law_people => k_is); (case l_law_people => k_is); (case c_law_people => k_is); (case k_law_people => k_is); (case a_law_judge => k_is); (case l_law_judge => k_is); (case c_law_judge => k_is); (case k_law_judge => k_is); (case a_law_bent => k_is); (case l_law_bent => k_is); (case c_law_bent => k_is); (case k_law_bent => k_is); (case a_law => k_is); (case l_law => k_is); (case c_law => k_is); (case k_law => k_is); (case z_len => k_is); (case z_int => k_is); (case z_abs => k_is); (case z_min => k_is); (case z_max => k_is); (case z_sum => k_is); (case z_all => k_is); (case z_any => k_is); (case z_list => k_is); (case z_tuple => k_is); (case z_range => k_is); (case z_enumerate => k_is); (case z_zip => k_is); (case z_reversed => k_is); (case z_isinstance => k_is); (case z_repr => k_is); (case z_sorted => k_is); (case z_str => k_is); (case z_bool => k_is)
