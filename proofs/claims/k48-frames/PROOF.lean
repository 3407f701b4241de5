import PyProof.Rows.All
import Wide.All
import OpenK.AllK
import Wide.FinOn
import HandS.ForMost
import HandS.ForExc
import HandS.IsInst
import HandS.Wide
import HandS.WideBits
import HandS.TupAny
import HandS.CallSlots
import HandS.EndBits
import HandS.Deep
import PySem.Challenge.RW_herefrom_k48_frames_hold_payloads
set_option Elab.async false
set_option linter.all false
set_option maxRecDepth 100000
set_option maxHeartbeats 4000000
namespace DL
open PySem PySem.Spec PyProof.Rows L2

abbrev Dt := PyData
/-- what a name or a place holds: data that never change, or the k-th cell of the store -/
inductive Im where
  | d (x : Dt)
  | p (k : Nat)
inductive Cel where
  | dead
  | lst (xs : List Im)
  | dT (kvs : List (List Key × Im))
  | dK (kvs : List (Key × Im))
  | ins (C : Addr) (fs : List (Str × Im))
abbrev Ec := List (Option Im)
abbrev Sto := List Cel

abbrev ALe (A A' : List Addr) : Prop := ∀ (k : Nat) (a : Addr), A[k]? = some a → A'[k]? = some a
abbrev ALn (n : Nat) (A A' : List Addr) : Prop := ∀ (k : Nat) (a : Addr), k < n → A[k]? = some a → A'[k]? = some a
theorem ALe.refl (A : List Addr) : ALe A A := fun _ _ h => h
theorem ALe.trans {A B C : List Addr} (h : ALe A B) (h' : ALe B C) : ALe A C := fun k a e => h' k a (h k a e)
theorem ALe.app (A B : List Addr) : ALe A (A ++ B) := fun k a e => by
  rw [List.getElem?_append_left (by have := List.getElem?_eq_some_iff.mp e; exact this.1)]; exact e
theorem ALe.n {A A' : List Addr} (h : ALe A A') (n : Nat) : ALn n A A' := fun k a _ e => h k a e
theorem ALn.refl (n : Nat) (A : List Addr) : ALn n A A := fun _ _ _ h => h
theorem ALn.trans {n : Nat} {A B C : List Addr} (h : ALn n A B) (h' : ALn n B C) : ALn n A C := fun k a hk e => h' k a hk (h k a hk e)

theorem Same.seqT {K : PySem.W.Frag} {H H' : Hp} {a : Addr} {xs : List V} (e : Same H H') (h : SqT K H a xs) : SqT K H' a xs := by
  rcases h with (h | ⟨o, h⟩) | h
  · exact .inl (.inl (e _ _ h))
  · exact .inl (.inr ⟨o, e _ _ h⟩)
  · exact .inr h
mutual
theorem Dp.mono {K : PySem.W.Frag} {H H' : Hp} (e : Same H H') : ∀ (d : PyData) (v : V), Dp K H v d → Dp K H' v d
  | .none, _, .non => .non
  | .bool b, _, .bl _ => .bl b
  | .int i, _, .int _ => .int i
  | .str x, _, .str _ => .str x
  | .list ds, _, .lst h ha => .lst (Same.seq e h) (DpAll.mono e ds _ ha)
  | .tuple ds, _, .tup h ha => .tup (Same.seqT e h) (DpAll.mono e ds _ ha)
theorem DpAll.mono {K : PySem.W.Frag} {H H' : Hp} (e : Same H H') : ∀ (ds : List PyData) (vs : List V), DpAll K H vs ds → DpAll K H' vs ds
  | [], _, .nil => .nil
  | d :: ds, _, .cons h ha => .cons (Dp.mono e d _ h) (DpAll.mono e ds _ ha)
end

section
variable (K : PySem.W.Frag)
def ImR (A : List Addr) (F : Hp) : Im → V → Prop
  | .d x, v => Dp K F v x
  | .p k, v => ∃ a, A[k]? = some a ∧ v = .ref a
abbrev ImsR (A : List Addr) (F : Hp) : List Im → List V → Prop := Paired (ImR K A F)
def CelR (A : List Addr) (F H : Hp) (a : Addr) : Cel → Prop
  | .dead => True
  | .lst xs => F a = none ∧ ∃ vs, H a = some (.lst vs) ∧ ImsR K A F xs vs
  | .dT kvs => F a = none ∧ ∃ ws, H a = some (.dT ws) ∧ Paired (fun (p : List Key × Im) (q : List Key × V) => p.1 = q.1 ∧ ImR K A F p.2 q.2) kvs ws
  | .dK kvs => F a = none ∧ ∃ ws, H a = some (.dK ws) ∧ Paired (fun (p : Key × Im) (q : Key × V) => p.1 = q.1 ∧ ImR K A F p.2 q.2) kvs ws
  | .ins C fs => F a = none ∧ ∃ dx ws, H a = some (.ins C dx ws) ∧ Paired (fun (p : Str × Im) (q : Str × V) => p.1 = q.1 ∧ ImR K A F p.2 q.2) fs ws
structure StO (A : List Addr) (M : Sto) (F H : Hp) : Prop where
  sub : Same F H
  len : A.length = M.length
  nd : A.Nodup
  there : ∀ a ∈ A, H a ≠ none
  cel : ∀ (k : Nat) (a : Addr) (c : Cel), A[k]? = some a → M[k]? = some c → CelR K A F H a c
def Sl (A : List Addr) (F : Hp) (Γ : Ec) (σ : L2.St) : Prop := σ.length = Γ.length ∧ ∀ (i : Nat) (r : Im), Γ[i]? = some (some r) → ∃ v, σ[i]? = some (some v) ∧ ImR K A F r v
end

section
variable {K : PySem.W.Frag} {A A' : List Addr} {F F' H H' : Hp}
theorem ImR.mono (ha : ALe A A') (hf : Same F F') : ∀ {r : Im} {v : V}, ImR K A F r v → ImR K A' F' r v
  | .d x, v, h => Dp.mono hf x v h
  | .p k, v, ⟨a, e, h⟩ => ⟨a, ha k a e, h⟩
theorem Paired.imp {α β : Type} {R S : α → β → Prop} : ∀ {l₁ : List α} {l₂ : List β}, Paired R l₁ l₂ → (∀ a b, R a b → S a b) → Paired S l₁ l₂
  | _, _, .nil, _ => .nil
  | _, _, .cons r t, f => .cons (f _ _ r) (Paired.imp t f)
theorem ImsR.mono (ha : ALe A A') (hf : Same F F') {rs : List Im} {vs : List V} (h : ImsR K A F rs vs) : ImsR K A' F' rs vs := Paired.imp h fun _ _ => ImR.mono ha hf
theorem CelR.mono (ha : ALe A A') (hf : Same F F') {a : Addr} {c : Cel} (hn : c ≠ .dead → F a = none → F' a = none) (hH : ∀ o, H a = some o → H' a = some o) (h : CelR K A F H a c) : CelR K A' F' H' a c := by
  cases c with
  | dead => trivial
  | lst xs => obtain ⟨z, vs, e, r⟩ := h; exact ⟨hn (by simp) z, vs, hH _ e, ImsR.mono ha hf r⟩
  | dT xs => obtain ⟨z, vs, e, r⟩ := h; exact ⟨hn (by simp) z, vs, hH _ e, Paired.imp r fun _ _ q => ⟨q.1, ImR.mono ha hf q.2⟩⟩
  | dK xs => obtain ⟨z, vs, e, r⟩ := h; exact ⟨hn (by simp) z, vs, hH _ e, Paired.imp r fun _ _ q => ⟨q.1, ImR.mono ha hf q.2⟩⟩
  | ins C xs => obtain ⟨z, dx, vs, e, r⟩ := h; exact ⟨hn (by simp) z, dx, vs, hH _ e, Paired.imp r fun _ _ q => ⟨q.1, ImR.mono ha hf q.2⟩⟩
theorem Sl.mono (ha : ALe A A') (hf : Same F F') {Γ : Ec} {σ : L2.St} (h : Sl K A F Γ σ) : Sl K A' F' Γ σ := ⟨h.1, fun i r e => by
  obtain ⟨v, h1, h2⟩ := h.2 i r e
  exact ⟨v, h1, ImR.mono ha hf h2⟩⟩
theorem Sl.set {Γ : Ec} {σ : L2.St} (h : Sl K A F Γ σ) {r : Im} {v : V} (hr : ImR K A F r v) (i : Nat) : Sl K A F (Γ.set i (some r)) (σ.set i (some v)) := by
  refine ⟨by simp [h.1], fun j q e => ?_⟩
  by_cases hj : i = j
  · subst hj
    have hi : i < Γ.length := by
      have := (List.getElem?_eq_some_iff.mp e).1
      simpa using this
    rw [List.getElem?_set_self hi] at e
    cases e
    exact ⟨v, by rw [List.getElem?_set_self (by rw [h.1]; exact hi)], hr⟩
  · rw [List.getElem?_set_ne hj] at e
    obtain ⟨v, h1, h2⟩ := h.2 j q e
    exact ⟨v, by rw [List.getElem?_set_ne hj]; exact h1, h2⟩
/-- new data laid at a fresh address -/
theorem same_updF {p : Addr} {o : HO} (hp : H p = none) : Same H (upd H p o) := fun b x e => by
  rw [upd_ne (ne_of_none e hp)]; exact e
theorem StO.freshF {M : Sto} (S : StO K A M F H) {p : Addr} (hp : H p = none) : F p = none := by
  cases e : F p with
  | none => rfl
  | some o => have := S.sub p o e; rw [hp] at this; cases this
theorem StO.notA {M : Sto} (S : StO K A M F H) {p : Addr} (hp : H p = none) : p ∉ A := fun h => S.there p h hp
/-- a fresh object taken as data -/
theorem StO.data {M : Sto} (S : StO K A M F H) {p : Addr} {o : HO} (hp : H p = none) : StO K A M (upd F p o) (upd H p o) := by
  have hF := S.freshF hp
  have hA := S.notA hp
  refine ⟨fun b x e => ?_, S.len, S.nd, fun a ha => ?_, fun k a c e1 e2 => ?_⟩
  · unfold upd at e ⊢
    split at e
    · rw [if_pos (by assumption)]; exact e
    · rw [if_neg (by assumption)]; exact S.sub b x e
  · have : a ≠ p := fun z => hA (z ▸ ha)
    rw [upd_ne this]; exact S.there a ha
  · have ha : a ∈ A := List.mem_of_getElem? e1
    have hne : a ≠ p := fun z => hA (z ▸ ha)
    exact CelR.mono (ALe.refl _) (same_updF hF) (fun _ z => by rw [upd_ne hne]; exact z) (fun o z => by rw [upd_ne hne]; exact z) (S.cel k a c e1 e2)
/-- a fresh object that is neither data nor a cell -/
theorem StO.junk {M : Sto} (S : StO K A M F H) {p : Addr} {o : HO} (hp : H p = none) : StO K A M F (upd H p o) := by
  have hA := S.notA hp
  refine ⟨fun b x e => ?_, S.len, S.nd, fun a ha => ?_, fun k a c e1 e2 => ?_⟩
  · exact same_updF hp b x (S.sub b x e)
  · have : a ≠ p := fun z => hA (z ▸ ha)
    rw [upd_ne this]; exact S.there a ha
  · have ha : a ∈ A := List.mem_of_getElem? e1
    have hne : a ≠ p := fun z => hA (z ▸ ha)
    exact CelR.mono (ALe.refl _) (fun _ _ z => z) (fun _ z => z) (fun o z => by rw [upd_ne hne]; exact z) (S.cel k a c e1 e2)
/-- a fresh cell -/
theorem StO.cell {M : Sto} (S : StO K A M F H) {p : Addr} {o : HO} {c : Cel} (hp : H p = none) (hc : CelR K (A ++ [p]) F (upd H p o) p c) : StO K (A ++ [p]) (M ++ [c]) F (upd H p o) := by
  have hA := S.notA hp
  refine ⟨fun b x e => same_updF hp b x (S.sub b x e), by simp [S.len], ?_, fun a ha => ?_, fun k a c' e1 e2 => ?_⟩
  · rw [List.nodup_append]
    exact ⟨S.nd, by simp, fun a ha b hb => by simp at hb; subst hb; exact fun z => hA (z ▸ ha)⟩
  · rcases List.mem_append.mp ha with ha | ha
    · have : a ≠ p := fun z => hA (z ▸ ha)
      rw [upd_ne this]; exact S.there a ha
    · simp at ha; subst ha; rw [upd_same]; simp
  · by_cases hk : k < A.length
    · rw [List.getElem?_append_left hk] at e1
      rw [List.getElem?_append_left (by rw [← S.len]; exact hk)] at e2
      have ha : a ∈ A := List.mem_of_getElem? e1
      have hne : a ≠ p := fun z => hA (z ▸ ha)
      exact CelR.mono (ALe.app _ _) (fun _ _ z => z) (fun _ z => z) (fun o z => by rw [upd_ne hne]; exact z) (S.cel k a c' e1 e2)
    · have hk2 : k < (A ++ [p]).length := (List.getElem?_eq_some_iff.mp e1).1
      have ek : k = A.length := by simp at hk2; omega
      subst ek
      simp at e1; subst e1
      rw [S.len] at e2
      simp at e2; subst e2
      exact hc
/-- a cell rewritten -/
theorem StO.write {M : Sto} (S : StO K A M F H) {k : Nat} {a : Addr} {c : Cel} {o : HO} (hk : A[k]? = some a) (hF : F a = none) (hc : CelR K A F (upd H a o) a c) : StO K A (M.set k c) F (upd H a o) := by
  have uniq : ∀ j, A[j]? = some a → j = k := fun j e => nd_ix S.nd e hk
  refine ⟨fun b x e => ?_, by simp [S.len], S.nd, fun b hb => ?_, fun j b c' e1 e2 => ?_⟩
  · have : b ≠ a := fun z => by rw [z, hF] at e; cases e
    rw [upd_ne this]; exact S.sub b x e
  · by_cases z : b = a
    · subst z; rw [upd_same]; simp
    · rw [upd_ne z]; exact S.there b hb
  · by_cases hj : k = j
    · subst hj
      rw [hk] at e1; cases e1
      have hl : k < M.length := by rw [← S.len]; exact (List.getElem?_eq_some_iff.mp hk).1
      rw [List.getElem?_set_self hl] at e2; cases e2
      exact hc
    · rw [List.getElem?_set_ne hj] at e2
      have hne : b ≠ a := fun z => by subst z; exact hj (uniq j e1).symm
      exact CelR.mono (ALe.refl _) (fun _ _ z => z) (fun _ z => z) (fun o z => by rw [upd_ne hne]; exact z) (S.cel j b c' e1 e2)
/-- a cell of data becomes data -/
theorem StO.freeze {M : Sto} (S : StO K A M F H) {k : Nat} {a : Addr} {vs : List V} (hk : A[k]? = some a) (hF : F a = none) (hH : H a = some (.lst vs)) : StO K A (M.set k .dead) (upd F a (.lst vs)) H := by
  have uniq : ∀ j, A[j]? = some a → j = k := fun j e => nd_ix S.nd e hk
  refine ⟨fun b x e => ?_, by simp [S.len], S.nd, S.there, fun j b c' e1 e2 => ?_⟩
  · by_cases z : b = a
    · subst z; rw [upd_same] at e; cases e; exact hH
    · rw [upd_ne z] at e; exact S.sub b x e
  · by_cases hj : k = j
    · subst hj
      have hl : k < M.length := by rw [← S.len]; exact (List.getElem?_eq_some_iff.mp hk).1
      rw [List.getElem?_set_self hl] at e2; cases e2
      trivial
    · rw [List.getElem?_set_ne hj] at e2
      have hne : b ≠ a := fun z => by subst z; exact hj (uniq j e1).symm
      exact CelR.mono (ALe.refl _) (same_updF hF) (fun _ z => by rw [upd_ne hne]; exact z) (fun o z => z) (S.cel j b c' e1 e2)
end

/-- r is a list of the items xs that can be read -/
inductive AsL (M : Sto) : Im → List Im → Prop
  | d (ds : List Dt) : AsL M (.d (.list ds)) (ds.map .d)
  | p {k : Nat} {xs : List Im} (h : M[k]? = some (.lst xs)) : AsL M (.p k) xs
/-- r can be read as data, deep -/
inductive AsD (M : Sto) : Im → Dt → Prop
  | d (x : Dt) : AsD M (.d x) x
  | p {k : Nat} {ds : List Dt} (h : M[k]? = some (.lst (ds.map .d))) : AsD M (.p k) (.list ds)
section
variable {K : PySem.W.Frag} {A : List Addr} {F H : Hp} {M : Sto}
theorem dpAll_of : ∀ {ds : List Dt} {vs : List V}, ImsR K A F (ds.map .d) vs → DpAll K F vs ds
  | [], _, h => by cases h; exact .nil
  | d :: ds, _, h => by
    cases h with
    | cons h1 h2 => exact .cons h1 (dpAll_of h2)
theorem of_dpAll : ∀ {ds : List Dt} {vs : List V}, DpAll K F vs ds → ImsR K A F (ds.map .d) vs
  | [], _, .nil => .nil
  | d :: ds, _, .cons h1 h2 => .cons h1 (of_dpAll h2)
theorem AsL.sq {r : Im} {xs : List Im} (h : AsL M r xs) (S : StO K A M F H) {v : V} (hv : ImR K A F r v) : ∃ a vs, v = .ref a ∧ SqL K H a vs ∧ ImsR K A F xs vs := by
  cases h with
  | d ds =>
    cases hv with
    | lst hs ha => exact ⟨_, _, rfl, Same.seq S.sub hs, of_dpAll ha⟩
  | p h =>
    obtain ⟨a, e, rfl⟩ := hv
    obtain ⟨_, vs, e2, r2⟩ := S.cel _ _ _ e h
    exact ⟨a, vs, rfl, SqL.of e2, r2⟩
theorem AsD.dp {r : Im} {x : Dt} (h : AsD M r x) (S : StO K A M F H) {v : V} (hv : ImR K A F r v) : Dp K H v x := by
  cases h with
  | d x => exact Dp.mono S.sub _ _ hv
  | p h =>
    obtain ⟨a, e, rfl⟩ := hv
    obtain ⟨_, vs, e2, r2⟩ := S.cel _ _ _ e h
    exact .lst (SqL.of e2) (DpAll.mono S.sub _ _ (dpAll_of r2))
end
end DL

namespace DL
open PySem PySem.Spec PyProof.Rows L2

def ImB (n : Nat) : Im → Prop
  | .d _ => True
  | .p k => k < n
def CelB (n : Nat) : Cel → Prop
  | .dead => True
  | .lst xs => ∀ x ∈ xs, ImB n x
  | .dT kvs => ∀ p ∈ kvs, ImB n p.2
  | .dK kvs => ∀ p ∈ kvs, ImB n p.2
  | .ins _ fs => ∀ p ∈ fs, ImB n p.2
def StoB (n : Nat) (M : Sto) : Prop := ∀ c ∈ M, CelB n c
def EcB (n : Nat) (Γ : Ec) : Prop := ∀ r, some r ∈ Γ → ImB n r
section
variable {K : PySem.W.Frag} {A : List Addr} {F H : Hp} {M L : Sto}
theorem ImR.bd {r : Im} {v : V} (h : ImR K A F r v) : ImB A.length r := by
  cases r with
  | d x => trivial
  | p k => obtain ⟨a, e, _⟩ := h; exact (List.getElem?_eq_some_iff.mp e).1
theorem paired_left {α β : Type} {R : α → β → Prop} : ∀ {l₁ : List α} {l₂ : List β}, Paired R l₁ l₂ → ∀ a ∈ l₁, ∃ b, R a b
  | _, _, .cons r t, a, h => by
    rcases List.mem_cons.mp h with rfl | h
    · exact ⟨_, r⟩
    · exact paired_left t a h
theorem StO.bd (S : StO K A M F H) : StoB M.length M := fun c hc => by
  obtain ⟨k, hk⟩ := List.getElem?_of_mem hc
  have hl : k < A.length := by rw [S.len]; exact (List.getElem?_eq_some_iff.mp hk).1
  have h := S.cel k _ c (List.getElem?_eq_getElem hl) hk
  rw [← S.len]
  cases c with
  | dead => trivial
  | lst xs => obtain ⟨_, vs, _, r⟩ := h; exact fun x hx => (paired_left r x hx).elim fun _ q => q.bd
  | dT xs => obtain ⟨_, vs, _, r⟩ := h; exact fun x hx => (paired_left r x hx).elim fun _ q => q.2.bd
  | dK xs => obtain ⟨_, vs, _, r⟩ := h; exact fun x hx => (paired_left r x hx).elim fun _ q => q.2.bd
  | ins C xs => obtain ⟨_, dx, vs, _, r⟩ := h; exact fun x hx => (paired_left r x hx).elim fun _ q => q.2.bd
theorem ImR.cut {n : Nat} {r : Im} {v : V} (hb : ImB n r) (h : ImR K A F r v) : ImR K (A.take n) F r v := by
  cases r with
  | d x => exact h
  | p k =>
    obtain ⟨a, e, q⟩ := h
    exact ⟨a, by rw [List.getElem?_take, if_pos (show k < n from hb)]; exact e, q⟩
theorem paired_cut {α β : Type} {R S : α → β → Prop} : ∀ {l₁ : List α} {l₂ : List β}, Paired R l₁ l₂ → (∀ a ∈ l₁, ∀ b, R a b → S a b) → Paired S l₁ l₂
  | _, _, .nil, _ => .nil
  | _, _, .cons r t, f => .cons (f _ List.mem_cons_self _ r) (paired_cut t fun a h b => f a (List.mem_cons_of_mem _ h) b)
theorem StO.trim (S : StO K A (M ++ L) F H) (hb : StoB M.length M) : StO K (A.take M.length) M F H := by
  have hl : M.length ≤ A.length := by rw [S.len]; simp
  refine ⟨S.sub, by simp [hl], S.nd.sublist (List.take_sublist _ _), fun a ha => S.there a (List.mem_of_mem_take ha), fun k a c e1 e2 => ?_⟩
  have hk : k < M.length := (List.getElem?_eq_some_iff.mp e2).1
  rw [List.getElem?_take, if_pos hk] at e1
  have h := S.cel k a c e1 (by rw [List.getElem?_append_left hk]; exact e2)
  have hc := hb c (List.mem_of_getElem? e2)
  cases c with
  | dead => trivial
  | lst xs => obtain ⟨z, vs, e, r⟩ := h; exact ⟨z, vs, e, paired_cut r fun x hx v q => ImR.cut (hc x hx) q⟩
  | dT xs => obtain ⟨z, vs, e, r⟩ := h; exact ⟨z, vs, e, paired_cut r fun x hx v q => ⟨q.1, ImR.cut (hc x hx) q.2⟩⟩
  | dK xs => obtain ⟨z, vs, e, r⟩ := h; exact ⟨z, vs, e, paired_cut r fun x hx v q => ⟨q.1, ImR.cut (hc x hx) q.2⟩⟩
  | ins C xs => obtain ⟨z, dx, vs, e, r⟩ := h; exact ⟨z, dx, vs, e, paired_cut r fun x hx v q => ⟨q.1, ImR.cut (hc x hx) q.2⟩⟩
end
theorem StoB.set {n : Nat} {M : Sto} {k : Nat} {c : Cel} (h : StoB n M) (hc : CelB n c) : StoB n (M.set k c) := fun c' h' => by
  rcases List.mem_or_eq_of_mem_set h' with z | z
  · exact h c' z
  · rw [z]; exact hc
theorem StoB.app {n : Nat} {M : Sto} {c : Cel} (h : StoB n M) (hc : CelB n c) : StoB n (M ++ [c]) := fun c' h' => by
  rcases List.mem_append.mp h' with z | z
  · exact h c' z
  · simp at z; rw [z]; exact hc
theorem ImB.mono {n m : Nat} (h : n ≤ m) : ∀ {r : Im}, ImB n r → ImB m r
  | .d _, _ => trivial
  | .p k, q => Nat.lt_of_lt_of_le q h
theorem CelB.mono {n m : Nat} (h : n ≤ m) : ∀ {r : Cel}, CelB n r → CelB m r
  | .dead, _ => trivial
  | .lst _, q => fun x hx => ImB.mono h (q x hx)
  | .dT _, q => fun x hx => ImB.mono h (q x hx)
  | .dK _, q => fun x hx => ImB.mono h (q x hx)
  | .ins _ _, q => fun x hx => ImB.mono h (q x hx)
theorem StoB.mono {n m : Nat} (h : n ≤ m) {M : Sto} (q : StoB n M) : StoB m M := fun c hc => CelB.mono h (q c hc)

structure Sx where
  P : Program
  w : World
  K : PySem.W.Frag
  mg : Str → Option Value
  base : Heap
  N : List Str
  sc : Scope
  k : Nat
  W : WX
  fn : Str → Bool
  n : Nat
  top : Bool
structure Sx.Has (G : Sx) (X : Cx) : Prop where
  prog : X.prog = G.P
  w : X.w = G.w
  K : X.K = G.K
  mg : X.mg = G.mg
  base : X.base = G.base
  N : X.N = G.N
  sc : X.env.scope = G.sc
  nd : X.N.Nodup
  room : Room G.k X.A
  calm : X.calm = true
  po : PassesOwn (model X.prog X.w) X.A X.env X.xe
  tk : Takes X G.W
  fn : X.fn = G.fn
  top : G.top = true → X.stack = X.env :: X.outer ∧ X.env.frame = some X.env.locals

section
variable (G : Sx)
def tS (e : Expr) : TE := fun σ H Q => ∀ X, G.Has X → ∀ pins s, Inv X pins σ H s → wpAny (model X.prog X.w) X.A (eval e X.env) (EP X pins σ Q) X.xe s
def tSA (es : List Expr) : TA := fun σ H Q => ∀ X, G.Has X → ∀ pos pins s, Inv X pins σ H s → wpAny (model X.prog X.w) X.A (spliced (backTo pos (starEach es X.env))) (AP X pins σ Q) X.xe s
def tST (e : Expr) : TT := fun σ H Q => ∀ X, G.Has X → ∀ pins s, Inv X pins σ H s → wpAny (model X.prog X.w) X.A (isTrue e X.env (eval e X.env)) (TP X pins σ Q) X.xe s
def tSW (e : Expr) : TT := fun σ H Q => ∀ X, G.Has X → ∀ (whole : Sem Value) pins s, Inv X pins σ H s → wpAny (model X.prog X.w) X.A (isTrue e X.env whole) (TP X pins σ Q) X.xe s
def sS (st : Stmt) : TS := fun D σ H => ∀ X, G.Has X → ∀ pins s, Inv X pins σ H s → wpAny (model X.prog X.w) X.A (exec st X.env) (SP X pins D) X.xe s
def sSs (st : List Stmt) : TS := fun D σ H => ∀ X, G.Has X → ∀ pins s, Inv X pins σ H s → wpAny (model X.prog X.w) X.A (execs st X.env) (SP X pins D) X.xe s
def iS (tg iter : Expr) : TI := fun σ H R => ∀ X, G.Has X → ∀ pins s, Inv X pins σ H s →
    wpAny (model X.prog X.w) X.A (eval iter X.env) (fun v s1 => wpAny (model X.prog X.w) X.A (pyIter v) (PIE X pins σ tg R) X.xe s1) X.xe s
def gS (tg : Expr) : TG := fun v σ H Q => ∀ X, G.Has X → ∀ pins s u, Inv X pins σ H s → RelV v u →
    wpAny (model X.prog X.w) X.A (assign tg X.env u) (fun _ s' => ∃ σ' H', Inv X pins σ' H' s' ∧ Q σ' H') X.xe s
def gSs (ts : List Expr) : TGs := fun vs σ H Q => ∀ X, G.Has X → ∀ pins s us, Inv X pins σ H s → Vals vs us →
    wpAny (model X.prog X.w) X.A (assignInOrder ((assignEach ts X.env).map (·.2)) us) (fun _ s' => ∃ σ' H', Inv X pins σ' H' s' ∧ Q σ' H') X.xe s
def tSTs (ifs : List Expr) : TT := fun σ H Q => ∀ X, G.Has X → ∀ t, PTs X ifs t → t σ H Q → t σ H Q
end
section
variable {G : Sx} {X : Cx}
theorem pe_S (hX : G.Has X) (e : Expr) : PE X e (tS G e) := ⟨fun pins s σ H Q I h => h X hX pins s I⟩
theorem pa_S (hX : G.Has X) (es : List Expr) : PA X es (tSA G es) := ⟨fun pos pins s σ H Q I h => h X hX pos pins s I⟩
theorem pt_S (hX : G.Has X) (e : Expr) : PT X e (tST G e) := ⟨fun pins s σ H Q I h => h X hX pins s I⟩
theorem pw_S (hX : G.Has X) (e : Expr) : PW X e (tSW G e) := ⟨fun wh pins s σ H Q I h => h X hX wh pins s I⟩
theorem ps_S (hX : G.Has X) (e : Stmt) : PS X e (sS G e) := ⟨fun pins s σ H Q I h => h X hX pins s I⟩
theorem pss_S (hX : G.Has X) (e : List Stmt) : PSs X e (sSs G e) := ⟨fun pins s σ H Q I h => h X hX pins s I⟩
theorem pi_S (hX : G.Has X) (tg e : Expr) : PI X tg e (iS G tg e) := ⟨fun pins s σ H Q I h => h X hX pins s I⟩
theorem pg_S (hX : G.Has X) (e : Expr) : PG X e (gS G e) := ⟨fun pins s σ H v u Q I r h => h X hX pins s u I r⟩
theorem pgs_S (hX : G.Has X) (e : List Expr) : PGs X e (gSs G e) := ⟨fun pins s σ H v u Q I r h => h X hX pins s u I r⟩
theorem tS_of {e : Expr} {t : TE} (h : ∀ X, G.Has X → PE X e t) {σ : L2.St} {H : Hp} {Q : VK} (q : t σ H Q) : tS G e σ H Q := fun X hX pins s I => (h X hX).run pins s σ H Q I q
theorem tSA_of {e : List Expr} {t : TA} (h : ∀ X, G.Has X → PA X e t) {σ : L2.St} {H : Hp} {Q : List V → Hp → Prop} (q : t σ H Q) : tSA G e σ H Q := fun X hX pos pins s I => (h X hX).run pos pins s σ H Q I q
theorem tST_of {e : Expr} {t : TT} (h : ∀ X, G.Has X → PT X e t) {σ : L2.St} {H : Hp} {Q : Bool → Hp → Prop} (q : t σ H Q) : tST G e σ H Q := fun X hX pins s I => (h X hX).run pins s σ H Q I q
theorem tSW_of {e : Expr} {t : TT} (h : ∀ X, G.Has X → PW X e t) {σ : L2.St} {H : Hp} {Q : Bool → Hp → Prop} (q : t σ H Q) : tSW G e σ H Q := fun X hX wh pins s I => (h X hX).run wh pins s σ H Q I q
theorem sS_of {e : Stmt} {t : TS} (h : ∀ X, G.Has X → PS X e t) {σ : L2.St} {H : Hp} {D : Ends} (q : t D σ H) : sS G e D σ H := fun X hX pins s I => (h X hX).run pins s σ H D I q
theorem sSs_of {e : List Stmt} {t : TS} (h : ∀ X, G.Has X → PSs X e t) {σ : L2.St} {H : Hp} {D : Ends} (q : t D σ H) : sSs G e D σ H := fun X hX pins s I => (h X hX).run pins s σ H D I q
theorem iS_of {tg e : Expr} {t : TI} (h : ∀ X, G.Has X → PI X tg e t) {σ : L2.St} {H : Hp} {R : L2.It → Hp → Prop} (q : t σ H R) : iS G tg e σ H R := fun X hX pins s I => (h X hX).run pins s σ H R I q
theorem gS_of {e : Expr} {t : TG} (h : ∀ X, G.Has X → PG X e t) {v : V} {σ : L2.St} {H : Hp} {Q : L2.St → Hp → Prop} (q : t v σ H Q) : gS G e v σ H Q := fun X hX pins s u I r => (h X hX).run pins s σ H v u Q I r q
theorem gSs_of {e : List Expr} {t : TGs} (h : ∀ X, G.Has X → PGs X e t) {v : List V} {σ : L2.St} {H : Hp} {Q : L2.St → Hp → Prop} (q : t v σ H Q) : gSs G e v σ H Q := fun X hX pins s u I r => (h X hX).run pins s σ H v u Q I r q
end

abbrev QE := Im → Sto → Prop
abbrev QR := Addr → Sto → Prop
section
variable (G : Sx)
/-- what a value's end asks -/
def Goes (A : List Addr) (F : Hp) (Q : QE) (Qv : VK) : Prop := ∀ r M' A' F' H' v, Q r M' → StO G.K A' M' F' H' → ALe A A' → Same F F' → ImR G.K A' F' r v → Qv v H'
def Flies (A : List Addr) (F : Hp) (R : QR) (σ : L2.St) : Prop := ∀ C M' A' F' H', R C M' → StO G.K A' M' F' H' → ALe A A' → Same F F' → G.W (.ref C) none σ H'
def EvX (e : Expr) (Γ : Ec) (M : Sto) (Q : QE) (R : QR) : Prop :=
  ∀ A F σ H Qv, StO G.K A M F H → Sl G.K A F Γ σ → Goes G A F Q Qv → Flies G A F R σ → tS G e σ H Qv
def EvA (es : List Expr) (Γ : Ec) (M : Sto) (Q : List Im → Sto → Prop) (R : QR) : Prop :=
  ∀ A F σ H (Qv : List V → Hp → Prop), StO G.K A M F H → Sl G.K A F Γ σ →
    (∀ rs M' A' F' H' vs, Q rs M' → StO G.K A' M' F' H' → ALe A A' → Same F F' → ImsR G.K A' F' rs vs → Qv vs H') → Flies G A F R σ → tSA G es σ H Qv
def EvT (e : Expr) (Γ : Ec) (M : Sto) (Q : Bool → Sto → Prop) (R : QR) : Prop :=
  ∀ A F σ H (Qv : Bool → Hp → Prop), StO G.K A M F H → Sl G.K A F Γ σ →
    (∀ b M' A' F' H', Q b M' → StO G.K A' M' F' H' → ALe A A' → Same F F' → Qv b H') → Flies G A F R σ → tST G e σ H Qv
def EvW (e : Expr) (Γ : Ec) (M : Sto) (Q : Bool → Sto → Prop) (R : QR) : Prop :=
  ∀ A F σ H (Qv : Bool → Hp → Prop), StO G.K A M F H → Sl G.K A F Γ σ →
    (∀ b M' A' F' H', Q b M' → StO G.K A' M' F' H' → ALe A A' → Same F F' → Qv b H') → Flies G A F R σ → tSW G e σ H Qv
/-- a target takes r -/
def EvG (tg : Expr) (r : Im) (Γ : Ec) (M : Sto) (Q : Ec → Sto → Prop) : Prop :=
  ∀ A F σ H v (Qv : L2.St → Hp → Prop), StO G.K A M F H → Sl G.K A F Γ σ → ImR G.K A F r v →
    (∀ Γ' M' A' F' σ' H', Q Γ' M' → StO G.K A' M' F' H' → Sl G.K A' F' Γ' σ' → ALe A A' → Same F F' → Qv σ' H') → gS G tg v σ H Qv
structure Pst where
  nx : Ec → Sto → Prop
  rt : Im → Sto → Prop
  bk : Ec → Sto → Prop := fun _ _ => False
  ct : Ec → Sto → Prop := fun _ _ => False
  ex : Addr → Ec → Sto → Prop := fun _ _ _ => False
structure Lands (A : List Addr) (F : Hp) (P : Pst) (D : Ends) : Prop where
  nx : ∀ Γ' M' A' F' σ' H', P.nx Γ' M' → StO G.K A' M' F' H' → Sl G.K A' F' Γ' σ' → ALn G.n A A' → Same F F' → D.nx σ' H'
  rt : ∀ r M' A' F' H' v, P.rt r M' → StO G.K A' M' F' H' → ImR G.K A' F' r v → ALn G.n A A' → Same F F' → D.rt v H'
  bk : ∀ Γ' M' A' F' σ' H', P.bk Γ' M' → StO G.K A' M' F' H' → Sl G.K A' F' Γ' σ' → ALn G.n A A' → Same F F' → D.bk σ' H'
  ct : ∀ Γ' M' A' F' σ' H', P.ct Γ' M' → StO G.K A' M' F' H' → Sl G.K A' F' Γ' σ' → ALn G.n A A' → Same F F' → D.ct σ' H'
  ex : ∀ C Γ' M' A' F' σ' H', P.ex C Γ' M' → StO G.K A' M' F' H' → Sl G.K A' F' Γ' σ' → ALn G.n A A' → Same F F' → G.W (.ref C) none σ' H'
def ExX (st : Stmt) (Γ : Ec) (M : Sto) (P : Pst) : Prop :=
  ∀ A F σ H D, StO G.K A M F H → Sl G.K A F Γ σ → G.n ≤ M.length → Lands G A F P D → sS G st D σ H
def ExS (sts : List Stmt) (Γ : Ec) (M : Sto) (P : Pst) : Prop :=
  ∀ A F σ H D, StO G.K A M F H → Sl G.K A F Γ σ → G.n ≤ M.length → Lands G A F P D → sSs G sts D σ H
/-- an iterator: its items, and when it still holds -/
def JOk (J : L2.It) (xs : List Im) (ok : Sto → Prop) (A : List Addr) (F : Hp) : Prop :=
  ∀ (i : Nat) M' A' F' H', StO G.K A' M' F' H' → ALe A A' → Same F F' → ok M' →
    (∀ x, xs[i]? = some x → J.go i H' ∧ ∀ v H'', J.yld i H' v H'' → ∃ F'', StO G.K A' M' F'' H'' ∧ Same F' F'' ∧ ImR G.K A' F'' x v) ∧ (xs.length ≤ i → J.stop i H')
def EvI (tg iter : Expr) (Γ : Ec) (M : Sto) (Q : List Im → (Sto → Prop) → Sto → Prop) (R : QR) : Prop :=
  ∀ A F σ H (Rk : L2.It → Hp → Prop), StO G.K A M F H → Sl G.K A F Γ σ →
    (∀ J xs ok M' A' F' H', Q xs ok M' → StO G.K A' M' F' H' → ALe A A' → Same F F' → JOk G J xs ok A' F' → Rk J H') → Flies G A F R σ → iS G tg iter σ H Rk
end

section
variable {G : Sx} {A A' B : List Addr} {F F' : Hp} {Q : QE} {R : QR} {σ : L2.St} {P : Pst} {D : Ends}
theorem Flies.mono (h : Flies G A F R σ) (ha : ALe A A') (hf : Same F F') : Flies G A' F' R σ := fun C M' A2 F2 H2 q S a f => h C M' A2 F2 H2 q S (ha.trans a) (hf.trans f)
theorem Lands.mono (h : Lands G A F P D) (ha : ALn G.n A A') (hf : Same F F') : Lands G A' F' P D where
  nx := fun Γ M A2 F2 σ2 H2 q S L a f => h.nx Γ M A2 F2 σ2 H2 q S L (ha.trans a) (hf.trans f)
  rt := fun r M A2 F2 H2 v q S L a f => h.rt r M A2 F2 H2 v q S L (ha.trans a) (hf.trans f)
  bk := fun Γ M A2 F2 σ2 H2 q S L a f => h.bk Γ M A2 F2 σ2 H2 q S L (ha.trans a) (hf.trans f)
  ct := fun Γ M A2 F2 σ2 H2 q S L a f => h.ct Γ M A2 F2 σ2 H2 q S L (ha.trans a) (hf.trans f)
  ex := fun C Γ M A2 F2 σ2 H2 q S L a f => h.ex C Γ M A2 F2 σ2 H2 q S L (ha.trans a) (hf.trans f)
theorem ALn.len {n : Nat} {A A' : List Addr} (h : ALn n A A') (hn : n ≤ A.length) : n ≤ A'.length := by
  cases n with
  | zero => exact Nat.zero_le _
  | succ k =>
    have hk : k < A.length := hn
    exact (List.getElem?_eq_some_iff.mp (h k A[k] (Nat.lt_succ_self k) (List.getElem?_eq_getElem hk))).1
theorem ALe.len {A A' : List Addr} (h : ALe A A') : A.length ≤ A'.length := (h.n A.length).len (Nat.le_refl _)
end

section
variable {G : Sx} {Γ : Ec} {M : Sto} {Q : QE} {R : QR} {pos : Pos}
theorem ev_name {i : Nat} {x : Str} {r : Im} (hq : Q r M) (hΓ : Γ[i]? = some (some r)) (hN : G.N[i]? = some x) (hv : Vis G.sc x)
    (hd : (x == ("__debug__" : Str)) = false := by decide) (hcd : (x == ("__classdict__" : Str)) = false := by decide) : EvX G (.Name x pos) Γ M Q R := by
  intro A F σ H Qv S L hQ hR
  obtain ⟨v, e, r⟩ := L.2 i _ hΓ
  exact tS_of (fun X hX => pe_var (i := i) (by rw [hX.N]; exact hN) (by rw [hX.sc]; exact hv) hd hcd) ⟨v, e, hQ _ M A F H v hq S (ALe.refl _) (Same.refl _) r⟩
theorem ev_int {i : Int} {j : Nat} (hq : Q (.d (.int i)) M) : EvX G (.Constant (.int i) j pos) Γ M Q R := fun A F σ H Qv S L hQ hR =>
  tS_of (fun X hX => pe_int) (hQ _ M A F H _ hq S (ALe.refl _) (Same.refl _) (Dp.int i))
theorem ev_bool {b : Bool} {j : Nat} (hq : Q (.d (.bool b)) M) : EvX G (.Constant (.bool b) j pos) Γ M Q R := fun A F σ H Qv S L hQ hR =>
  tS_of (fun X hX => pe_bl) (hQ _ M A F H _ hq S (ALe.refl _) (Same.refl _) (Dp.bl b))
theorem ev_none {j : Nat} (hq : Q (.d .none) M) : EvX G (.Constant .none j pos) Γ M Q R := fun A F σ H Qv S L hQ hR =>
  tS_of (fun X hX => pe_non) (hQ _ M A F H _ hq S (ALe.refl _) (Same.refl _) Dp.non)
theorem ev_str {x : Str} {j : Nat} (hq : Q (.d (.str x)) M) : EvX G (.Constant (.str x) j pos) Γ M Q R := fun A F σ H Qv S L hQ hR =>
  tS_of (fun X hX => pe_str) (hQ _ M A F H _ hq S (ALe.refl _) (Same.refl _) (Dp.str x))
theorem gl_of {X : Cx} (hX : G.Has X) {x : Str} (hg : G.sc.names.lookup x = some .globalImplicit) : Gl X x := by
  show X.env.scope.names.lookup x = some .globalImplicit
  rw [hX.sc]; exact hg
/-- a module's constant -/
theorem ev_globI {x : Str} {i : Int} {t : Tok} (hq : Q (.d (.int i)) M) (hm : G.mg x = some (.int i t)) (hg : G.sc.names.lookup x = some .globalImplicit) (hd : (x == ("__debug__" : Str)) = false := by decide) : EvX G (.Name x pos) Γ M Q R := fun A F σ H Qv S L hQ hR =>
  tS_of (fun X hX => pe_glob (v := .int i) (gl_of hX hg) (by rw [hX.mg]; exact hm) ⟨t, rfl⟩ hd) (hQ _ M A F H _ hq S (ALe.refl _) (Same.refl _) (Dp.int i))
theorem ev_globS {x y : Str} {t : Tok} (hq : Q (.d (.str y)) M) (hm : G.mg x = some (.str y t)) (hg : G.sc.names.lookup x = some .globalImplicit) (hd : (x == ("__debug__" : Str)) = false := by decide) : EvX G (.Name x pos) Γ M Q R := fun A F σ H Qv S L hQ hR =>
  tS_of (fun X hX => pe_glob (v := .str y) (gl_of hX hg) (by rw [hX.mg]; exact hm) ⟨t, rfl⟩ hd) (hQ _ M A F H _ hq S (ALe.refl _) (Same.refl _) (Dp.str y))
end

/-- an operator's reading over data -/
def BopR (G : Sx) (r : R2) (ra rb : Im) (M : Sto) (Q : QE) : Prop :=
  ∀ A F H va vb Qv, StO G.K A M F H → ImR G.K A F ra va → ImR G.K A F rb vb → Goes G A F Q Qv → r va vb H Qv
section
variable {G : Sx} {Γ : Ec} {M : Sto} {Q : QE} {R : QR} {pos : Pos} {a b : Expr}
theorem Goes.mono {A A' : List Addr} {F F' : Hp} {Qv : VK} (h : Goes G A F Q Qv) (ha : ALe A A') (hf : Same F F') : Goes G A' F' Q Qv := fun r M A2 F2 H2 v q S a f => h r M A2 F2 H2 v q S (ha.trans a) (hf.trans f)
theorem two_ev {r : R2} (h : EvX G a Γ M (fun ra Ma => EvX G b Γ Ma (fun rb Mb => BopR G r ra rb Mb Q) R) R) {A : List Addr} {F : Hp} {σ : L2.St} {H : Hp} {Qv : VK} (S : StO G.K A M F H) (L : Sl G.K A F Γ σ) (hQ : Goes G A F Q Qv) (hR : Flies G A F R σ) :
    tOp r (tS G a) (tS G b) σ H Qv := by
  refine h A F σ H _ S L (fun ra Ma A1 F1 H1 va hb S1 a1 f1 r1 => ?_) hR
  refine hb A1 F1 σ H1 _ S1 (L.mono a1 f1) (fun rb Mb A2 F2 H2 vb hr S2 a2 f2 r2 => ?_) (hR.mono a1 f1)
  exact hr A2 F2 H2 va vb Qv S2 (r1.mono a2 f2) r2 (hQ.mono (a1.trans a2) (f1.trans f2))
theorem ev_op {op : Operator} {r : R2} (ho : ∀ X, G.Has X → OpR X (binaryOp op) r) (h : EvX G a Γ M (fun ra Ma => EvX G b Γ Ma (fun rb Mb => BopR G r ra rb Mb Q) R) R) : EvX G (.BinOp a op b pos) Γ M Q R :=
  fun A F σ H Qv S L hQ hR => tS_of (fun X hX => pe_op (ho X hX) (pe_S hX a) (pe_S hX b)) (two_ev h S L hQ hR)
theorem ev_cmp {op : CmpOp} {r : R2} (ho : ∀ X, G.Has X → OpR X (compareOp op) r) (h : EvX G a Γ M (fun ra Ma => EvX G b Γ Ma (fun rb Mb => BopR G r ra rb Mb Q) R) R) (hm : behindInMarks op b = false) : EvX G (.Compare a [op] [b] pos) Γ M Q R :=
  fun A F σ H Qv S L hQ hR => tS_of (fun X hX => pe_cmpR (ho X hX) (pe_S hX a) (pe_S hX b) hm) (two_ev h S L hQ hR)
theorem evt_cmp {op : CmpOp} {r : R2} {Q : Bool → Sto → Prop} (ho : ∀ X, G.Has X → OpR X (compareOp op) r)
    (h : EvX G a Γ M (fun ra Ma => EvX G b Γ Ma (fun rb Mb => BopR G r ra rb Mb (fun rc Mc => ∃ c, rc = .d (.bool c) ∧ Q c Mc)) R) R) (hm : behindInMarks op b = false) : EvT G (.Compare a [op] [b] pos) Γ M Q R := by
  intro A F σ H Qv S L hQ hR
  refine tST_of (fun X hX => pt_cmpR (ho X hX) (pe_S hX a) (pe_S hX b) hm) (two_ev h S L (fun r M' A' F' H' v q S' a' f' rv => ?_) hR)
  obtain ⟨c, rfl, q⟩ := q
  cases rv
  exact ⟨c, rfl, hQ _ _ _ _ _ q S' a' f'⟩
theorem bop_int {r : R2} {i j : Int} {g : Im} (hq : Q g M) (hr : ∀ H Qv, (∀ v, ImR G.K [] (fun _ => none) g v → Qv v H) → r (.int i) (.int j) H Qv) (hg : ∃ x, g = .d x ∧ ∀ A F v, ImR G.K [] (fun _ => none) g v → ImR G.K A F g v) : BopR G r (.d (.int i)) (.d (.int j)) M Q := by
  intro A F H va vb Qv S ra rb hQ
  cases ra
  cases rb
  obtain ⟨x, rfl, hm⟩ := hg
  exact hr H Qv fun v hv => hQ _ M A F H v hq S (ALe.refl _) (Same.refl _) (hm A F v hv)
theorem imr_int {i : Int} : ImR G.K [] (fun _ => none) (.d (.int i)) (.int i) := Dp.int i
theorem bop_addI {i j : Int} (hq : Q (.d (.int (i + j))) M) : BopR G (rI0 fun i j => .int (i + j)) (.d (.int i)) (.d (.int j)) M Q := fun A F H va vb Qv S ra rb hQ => by
  cases ra; cases rb
  exact ⟨i, j, rfl, rfl, hQ _ M A F H _ hq S (ALe.refl _) (Same.refl _) (Dp.int _)⟩
theorem bop_I {C : Int → Int → Prop} {g : Int → Int → Int} {i j : Int} (hc : C i j) (hq : Q (.d (.int (g i j))) M) : BopR G (rI C fun i j => .int (g i j)) (.d (.int i)) (.d (.int j)) M Q := fun A F H va vb Qv S ra rb hQ => by
  cases ra; cases rb
  exact ⟨i, j, rfl, rfl, hc, hQ _ M A F H _ hq S (ALe.refl _) (Same.refl _) (Dp.int _)⟩
theorem bop_I0 {g : Int → Int → Int} {i j : Int} (hq : Q (.d (.int (g i j))) M) : BopR G (rI0 fun i j => .int (g i j)) (.d (.int i)) (.d (.int j)) M Q := fun A F H va vb Qv S ra rb hQ => by
  cases ra; cases rb
  exact ⟨i, j, rfl, rfl, hQ _ M A F H _ hq S (ALe.refl _) (Same.refl _) (Dp.int _)⟩
theorem bop_B0 {g : Int → Int → Bool} {i j : Int} (hq : Q (.d (.bool (g i j))) M) : BopR G (rI0 fun i j => .bl (g i j)) (.d (.int i)) (.d (.int j)) M Q := fun A F H va vb Qv S ra rb hQ => by
  cases ra; cases rb
  exact ⟨i, j, rfl, rfl, hQ _ M A F H _ hq S (ALe.refl _) (Same.refl _) (Dp.bl _)⟩
end
end DL

namespace DL
open PySem PySem.Spec PyProof.Rows L2

section
variable {X : Cx}
def rCatG (K : PySem.W.Frag) : R2 := fun x y H Q => ∃ l b xs zs, x = .ref l ∧ y = .ref b ∧ SqL K H l xs ∧ SqL K H b zs ∧ xs.length + zs.length ≤ sizeLine ∧ ∀ p, H p = none → Q (.ref p) (upd H p (.lst (xs ++ zs)))
theorem op_catG : OpR X (binaryOp .Add) (rCatG X.K) := by
  intro pins s σ H x y v u Q I rx ry h
  obtain ⟨l, b, xs, zs, rfl, rfl, hH, hB, hz, q⟩ := h
  cases rx
  cases ry
  obtain ⟨its, r, pl, hl⟩ := I.list hH
  obtain ⟨its2, r2, pl2, hl2⟩ := I.list hB
  have e1 := r.length
  have e2 := r2.length
  obtain ⟨⟨cls, dd, data, sl⟩, ho, hc, n, hd⟩ := pl.isList
  obtain ⟨⟨cls2, dd2, data2, sl2⟩, ho2, hc2, n2, hd2⟩ := pl2.isList
  simp only at hc hd hc2 hd2
  subst hc hd hc2 hd2
  have e : its.toArray ++ its2.toArray = (its ++ its2).toArray := by simp
  refine concat_meets ⟨_, ho, rfl⟩ ⟨_, ho2, rfl⟩ noFill_list_add seq_list_add PySem.F.slot_list_add PySem.F.entry_list_add (PySem.F.args_list_add_2 _ _) (list_addW l b its.toArray its2.toArray n n2 dd dd2 sl sl2 (by simp only [List.size_toArray]; omega)) ⟨ho, ho2, ?_⟩
  rw [e]
  exact ⟨.ref _, _, I.lnew (t' := s.toks) (r.append r2) (by rw [List.length_append]; omega), rfl, q _ I.fresh⟩
def rStrAdd : R2 := fun x y H Q => ∃ i j, x = .str i ∧ y = .str j ∧ i.length + j.length ≤ sizeLine ∧ Q (.str (i ++ j)) H
def rAdd4 (K : PySem.W.Frag) : R2 := fun x y H Q => rI0 (fun i j => .int (i + j)) x y H Q ∨ (rCatG K x y H Q ∨ (rCatA K x y H Q ∨ rStrAdd x y H Q))
theorem op_add4 : OpR X (binaryOp .Add) (rAdd4 X.K) := op_add.or (op_catG.or (op_catA.or op_add_str))
end

section
variable {K : PySem.W.Frag} {A : List Addr} {F H : Hp} {M : Sto} {G : Sx} {Q : QE} {Qv : VK}
theorem dp_lst {p : Addr} {vs : List V} {ds : List Dt} (h : DpAll K F vs ds) (hF : F p = none) : Dp K (upd F p (.lst vs)) (.ref p) (.list ds) :=
  .lst (SqL.of upd_same) (DpAll.mono (same_updF hF) _ _ h)
theorem dp_tup {p : Addr} {vs : List V} {ds : List Dt} (h : DpAll K F vs ds) (hF : F p = none) : Dp K (upd F p (.tup vs)) (.ref p) (.tuple ds) :=
  .tup (SqT.of upd_same) (DpAll.mono (same_updF hF) _ _ h)
/-- a fresh list taken as data -/
theorem goes_lst (S : StO G.K A M F H) (hQ : Goes G A F Q Qv) {p : Addr} (hp : H p = none) {vs : List V} {ds : List Dt} (h : ImsR G.K A F (ds.map .d) vs) (q : Q (.d (.list ds)) M) : Qv (.ref p) (upd H p (.lst vs)) :=
  hQ _ M A _ _ _ q (S.data hp) (ALe.refl _) (same_updF (S.freshF hp)) (dp_lst (dpAll_of h) (S.freshF hp))
theorem goes_tup (S : StO G.K A M F H) (hQ : Goes G A F Q Qv) {p : Addr} (hp : H p = none) {vs : List V} {ds : List Dt} (h : ImsR G.K A F (ds.map .d) vs) (q : Q (.d (.tuple ds)) M) : Qv (.ref p) (upd H p (.tup vs)) :=
  hQ _ M A _ _ _ q (S.data hp) (ALe.refl _) (same_updF (S.freshF hp)) (dp_tup (dpAll_of h) (S.freshF hp))
theorem cell_lst (S : StO K A M F H) {p : Addr} (hp : H p = none) {vs : List V} {xs : List Im} (h : ImsR K A F xs vs) : StO K (A ++ [p]) (M ++ [.lst xs]) F (upd H p (.lst vs)) :=
  S.cell hp ⟨S.freshF hp, vs, upd_same, ImsR.mono (ALe.app _ _) (Same.refl _) h⟩
/-- a fresh list taken as a cell -/
theorem goes_lstP (S : StO G.K A M F H) (hQ : Goes G A F Q Qv) {p : Addr} (hp : H p = none) {vs : List V} {xs : List Im} (h : ImsR G.K A F xs vs) (q : Q (.p M.length) (M ++ [.lst xs])) : Qv (.ref p) (upd H p (.lst vs)) :=
  hQ _ _ (A ++ [p]) F _ _ q (cell_lst S hp h) (ALe.app _ _) (Same.refl _) ⟨p, by rw [← S.len]; simp, rfl⟩
theorem ImsR.len {rs : List Im} {vs : List V} (h : ImsR K A F rs vs) : rs.length = vs.length := Paired.length h
theorem ImsR.app {rs rs' : List Im} {vs vs' : List V} (h : ImsR K A F rs vs) (h' : ImsR K A F rs' vs') : ImsR K A F (rs ++ rs') (vs ++ vs') := by
  induction h with
  | nil => exact h'
  | cons r _ ih => exact .cons r ih
theorem ImsR.get {rs : List Im} {vs : List V} (h : ImsR K A F rs vs) : ∀ {i : Nat} {r : Im}, rs[i]? = some r → ∃ v, vs[i]? = some v ∧ ImR K A F r v := by
  induction h with
  | nil => intro i r e; simp at e
  | cons r t ih =>
    intro i x e
    cases i with
    | zero => simp at e; subst e; exact ⟨_, rfl, r⟩
    | succ i => obtain ⟨v, e1, e2⟩ := ih (i := i) (r := x) (by simpa using e); exact ⟨v, by simpa using e1, e2⟩
theorem ImsR.take {rs : List Im} {vs : List V} (h : ImsR K A F rs vs) : ∀ n : Nat, ImsR K A F (rs.take n) (vs.take n) := by
  induction h with
  | nil => intro n; simp; exact .nil
  | cons r t ih =>
    intro n
    cases n with
    | zero => exact .nil
    | succ n => exact .cons r (ih n)
theorem ImsR.drop {rs : List Im} {vs : List V} (h : ImsR K A F rs vs) : ∀ n : Nat, ImsR K A F (rs.drop n) (vs.drop n) := by
  induction h with
  | nil => intro n; simp; exact .nil
  | cons r t ih =>
    intro n
    cases n with
    | zero => exact .cons r t
    | succ n => exact ih n
theorem ImsR.set {rs : List Im} {vs : List V} (h : ImsR K A F rs vs) {r : Im} {v : V} (hr : ImR K A F r v) : ∀ n : Nat, ImsR K A F (rs.set n r) (vs.set n v) := by
  induction h with
  | nil => intro n; simp; exact .nil
  | cons q t ih =>
    intro n
    cases n with
    | zero => exact .cons hr t
    | succ n => exact .cons q (ih n)
end

section
variable {G : Sx} {Γ : Ec} {M : Sto} {Q : QE} {R : QR} {pos : Pos} {a b : Expr}
theorem ev_add (h : EvX G a Γ M (fun ra Ma => EvX G b Γ Ma (fun rb Mb => BopR G (rAdd4 G.K) ra rb Mb Q) R) R) : EvX G (.BinOp a .Add b pos) Γ M Q R :=
  ev_op (fun X hX => by rw [← hX.K]; exact op_add4) h
theorem add_int {i j : Int} (hq : Q (.d (.int (i + j))) M) : BopR G (rAdd4 G.K) (.d (.int i)) (.d (.int j)) M Q := fun A F H va vb Qv S ra rb hQ => .inl (bop_I0 (g := fun i j => i + j) hq A F H va vb Qv S ra rb hQ)
theorem add_lst {ra rb : Im} {ds es : List Dt} (ha : AsL M ra (ds.map .d)) (hb : AsL M rb (es.map .d)) (hz : ds.length + es.length ≤ sizeLine) (hq : Q (.d (.list (ds ++ es))) M) : BopR G (rAdd4 G.K) ra rb M Q := fun A F H va vb Qv S ra rb hQ => by
  obtain ⟨x, vs, rfl, h1, r1⟩ := ha.sq S ra
  obtain ⟨y, ws, rfl, h2, r2⟩ := hb.sq S rb
  have l1 := r1.len
  have l2 := r2.len
  simp at l1 l2
  refine .inr (.inl ⟨x, y, vs, ws, rfl, rfl, h1, h2, by omega, fun p hp => goes_lst S hQ hp ?_ hq⟩)
  rw [List.map_append]
  exact r1.app r2
theorem add_lstP {ra rb : Im} {xs ys : List Im} (ha : AsL M ra xs) (hb : AsL M rb ys) (hz : xs.length + ys.length ≤ sizeLine) (hq : Q (.p M.length) (M ++ [.lst (xs ++ ys)])) : BopR G (rAdd4 G.K) ra rb M Q := fun A F H va vb Qv S ra rb hQ => by
  obtain ⟨x, vs, rfl, h1, r1⟩ := ha.sq S ra
  obtain ⟨y, ws, rfl, h2, r2⟩ := hb.sq S rb
  have l1 := r1.len
  have l2 := r2.len
  exact .inr (.inl ⟨x, y, vs, ws, rfl, rfl, h1, h2, by omega, fun p hp => goes_lstP S hQ hp (r1.app r2) hq⟩)
theorem add_tup {ds es : List Dt} (hz : ds.length + es.length ≤ sizeLine) (hq : Q (.d (.tuple (ds ++ es))) M) : BopR G (rAdd4 G.K) (.d (.tuple ds)) (.d (.tuple es)) M Q := fun A F H va vb Qv S ra rb hQ => by
  cases ra with
  | tup h1 r1 =>
    cases rb with
    | tup h2 r2 =>
      have l1 := (of_dpAll (A := A) r1).len
      have l2 := (of_dpAll (A := A) r2).len
      simp at l1 l2
      refine .inr (.inr (.inl ⟨_, _, _, _, rfl, rfl, Same.seqT S.sub h1, Same.seqT S.sub h2, by omega, fun e => ?_, fun e1 e2 => ?_, fun e1 e2 p hp => goes_tup S hQ hp ?_ hq⟩))
      · subst e
        cases r1
        exact hQ _ M A F H _ hq S (ALe.refl _) (Same.refl _) (Dp.tup h2 r2)
      · subst e2
        cases r2
        exact hQ _ M A F H _ hq S (ALe.refl _) (Same.refl _) (by rw [List.append_nil]; exact Dp.tup h1 r1)
      · rw [List.map_append]
        exact (of_dpAll r1).app (of_dpAll r2)
theorem add_str {i j : Str} (hz : i.length + j.length ≤ sizeLine) (hq : Q (.d (.str (i ++ j))) M) : BopR G (rAdd4 G.K) (.d (.str i)) (.d (.str j)) M Q := fun A F H va vb Qv S ra rb hQ => by
  cases ra; cases rb
  exact .inr (.inr (.inr ⟨i, j, rfl, rfl, hz, hQ _ M A F H _ hq S (ALe.refl _) (Same.refl _) (Dp.str _)⟩))
theorem ev_sub (h : EvX G a Γ M (fun ra Ma => EvX G b Γ Ma (fun rb Mb => ∃ i j, ra = .d (.int i) ∧ rb = .d (.int j) ∧ Q (.d (.int (i - j))) Mb) R) R) : EvX G (.BinOp a .Sub b pos) Γ M Q R :=
  ev_op (fun X hX => op_sub) fun A F σ H Qv S L hQ hR => h A F σ H Qv S L (fun r M1 A1 F1 H1 v hb S1 a1 f1 r1 => hQ r M1 A1 F1 H1 v (fun A F σ H Qv S L hQ hR => hb A F σ H Qv S L (fun r' M1 A1 F1 H1 v hb S1 a1 f1 r1 => by
    obtain ⟨i, j, rfl, rfl, q⟩ := hb
    exact hQ _ M1 A1 F1 H1 v (bop_I0 (g := fun i j => i - j) q) S1 a1 f1 r1) hR) S1 a1 f1 r1) hR
end
/-- weaken what is wanted -/
theorem EvX.imp {G : Sx} {e : Expr} {Γ : Ec} {M : Sto} {Q Q' : QE} {R : QR} (h : EvX G e Γ M Q R) (hq : ∀ r M', Q r M' → Q' r M') : EvX G e Γ M Q' R :=
  fun A F σ H Qv S L hQ hR => h A F σ H Qv S L (fun r M1 A1 F1 H1 v q => hQ r M1 A1 F1 H1 v (hq r M1 q)) hR
section
variable {G : Sx} {Γ : Ec} {M : Sto} {Q : QE} {R : QR} {pos : Pos} {a b : Expr}
theorem ev_opI {op : Operator} {C : Int → Int → Prop} {g : Int → Int → Int} (ho : ∀ X, G.Has X → OpR X (binaryOp op) (rI C fun i j => .int (g i j)))
    (h : EvX G a Γ M (fun ra Ma => EvX G b Γ Ma (fun rb Mb => ∃ i j, ra = .d (.int i) ∧ rb = .d (.int j) ∧ C i j ∧ Q (.d (.int (g i j))) Mb) R) R) : EvX G (.BinOp a op b pos) Γ M Q R :=
  ev_op ho (h.imp fun ra Ma h => h.imp fun rb Mb ⟨i, j, e1, e2, c, q⟩ => by subst e1 e2; exact bop_I c q)
theorem ev_mul (h : EvX G a Γ M (fun ra Ma => EvX G b Γ Ma (fun rb Mb => ∃ i j, ra = .d (.int i) ∧ rb = .d (.int j) ∧ CMulX i j ∧ Q (.d (.int (i * j))) Mb) R) R) : EvX G (.BinOp a .Mult b pos) Γ M Q R := ev_opI (g := fun i j => i * j) (fun X hX => op_mulX) h
theorem ev_mod (h : EvX G a Γ M (fun ra Ma => EvX G b Γ Ma (fun rb Mb => ∃ i j, ra = .d (.int i) ∧ rb = .d (.int j) ∧ 0 < j ∧ Q (.d (.int (i % j))) Mb) R) R) : EvX G (.BinOp a .Mod b pos) Γ M Q R := ev_opI (C := fun _ j => 0 < j) (g := fun i j => i % j) (fun X hX => op_mod) h
theorem ev_fdiv (h : EvX G a Γ M (fun ra Ma => EvX G b Γ Ma (fun rb Mb => ∃ i j, ra = .d (.int i) ∧ rb = .d (.int j) ∧ CDivW i j ∧ Q (.d (.int (i / j))) Mb) R) R) : EvX G (.BinOp a .FloorDiv b pos) Γ M Q R := ev_opI (g := fun i j => i / j) (fun X hX => op_fdivW) h
theorem ev_pow (h : EvX G a Γ M (fun ra Ma => EvX G b Γ Ma (fun rb Mb => ∃ i j, ra = .d (.int i) ∧ rb = .d (.int j) ∧ CPow i j ∧ Q (.d (.int (i ^ j.toNat))) Mb) R) R) : EvX G (.BinOp a .Pow b pos) Γ M Q R := ev_opI (g := fun i j => i ^ j.toNat) (fun X hX => op_pow) h
theorem ev_neg (h : EvX G a Γ M (fun ra Ma => ∃ i, ra = .d (.int i) ∧ Q (.d (.int (-i))) Ma) R) : EvX G (.UnaryOp .USub a pos) Γ M Q R := fun A F σ H Qv S L hQ hR =>
  tS_of (fun X hX => pe_un un_neg (pe_S hX a)) (h A F σ H _ S L (fun r M1 A1 F1 H1 v ⟨i, e, q⟩ S1 a1 f1 r1 => by
    subst e; cases r1
    exact ⟨i, rfl, hQ _ M1 A1 F1 H1 _ q S1 a1 f1 (Dp.int _)⟩) hR)
def rCmpB (p : Int → Int → Bool) : R2 := rI0 fun i j => .bl (p i j)
theorem ev_cmpI {op : CmpOp} {p : Int → Int → Bool} (ho : ∀ X, G.Has X → OpR X (compareOp op) (rI0 fun i j => .bl (p i j))) (hm : behindInMarks op b = false)
    (h : EvX G a Γ M (fun ra Ma => EvX G b Γ Ma (fun rb Mb => ∃ i j, ra = .d (.int i) ∧ rb = .d (.int j) ∧ Q (.d (.bool (p i j))) Mb) R) R) : EvX G (.Compare a [op] [b] pos) Γ M Q R :=
  ev_cmp ho (h.imp fun ra Ma h => h.imp fun rb Mb ⟨i, j, e1, e2, q⟩ => by subst e1 e2; exact bop_B0 q) hm
theorem evt_cmpI {op : CmpOp} {p : Int → Int → Bool} {Q : Bool → Sto → Prop} (ho : ∀ X, G.Has X → OpR X (compareOp op) (rI0 fun i j => .bl (p i j))) (hm : behindInMarks op b = false)
    (h : EvX G a Γ M (fun ra Ma => EvX G b Γ Ma (fun rb Mb => ∃ i j, ra = .d (.int i) ∧ rb = .d (.int j) ∧ Q (p i j) Mb) R) R) : EvT G (.Compare a [op] [b] pos) Γ M Q R :=
  evt_cmp ho (h.imp fun ra Ma h => h.imp fun rb Mb ⟨i, j, e1, e2, q⟩ => by subst e1 e2; exact bop_B0 ⟨_, rfl, q⟩) hm
theorem ev_lt (h : EvX G a Γ M (fun ra Ma => EvX G b Γ Ma (fun rb Mb => ∃ i j, ra = .d (.int i) ∧ rb = .d (.int j) ∧ Q (.d (.bool (decide (i < j)))) Mb) R) R) : EvX G (.Compare a [.Lt] [b] pos) Γ M Q R := ev_cmpI (fun X hX => op_lt) (nomark _) h
theorem ev_le (h : EvX G a Γ M (fun ra Ma => EvX G b Γ Ma (fun rb Mb => ∃ i j, ra = .d (.int i) ∧ rb = .d (.int j) ∧ Q (.d (.bool (decide (i ≤ j)))) Mb) R) R) : EvX G (.Compare a [.LtE] [b] pos) Γ M Q R := ev_cmpI (fun X hX => op_le) (nomark _) h
theorem ev_gt (h : EvX G a Γ M (fun ra Ma => EvX G b Γ Ma (fun rb Mb => ∃ i j, ra = .d (.int i) ∧ rb = .d (.int j) ∧ Q (.d (.bool (decide (j < i)))) Mb) R) R) : EvX G (.Compare a [.Gt] [b] pos) Γ M Q R := ev_cmpI (fun X hX => op_gt) (nomark _) h
theorem ev_ge (h : EvX G a Γ M (fun ra Ma => EvX G b Γ Ma (fun rb Mb => ∃ i j, ra = .d (.int i) ∧ rb = .d (.int j) ∧ Q (.d (.bool (decide (j ≤ i)))) Mb) R) R) : EvX G (.Compare a [.GtE] [b] pos) Γ M Q R := ev_cmpI (fun X hX => op_ge) (nomark _) h
theorem evt_lt {Q : Bool → Sto → Prop} (h : EvX G a Γ M (fun ra Ma => EvX G b Γ Ma (fun rb Mb => ∃ i j, ra = .d (.int i) ∧ rb = .d (.int j) ∧ Q (decide (i < j)) Mb) R) R) : EvT G (.Compare a [.Lt] [b] pos) Γ M Q R := evt_cmpI (fun X hX => op_lt) (nomark _) h
theorem evt_le {Q : Bool → Sto → Prop} (h : EvX G a Γ M (fun ra Ma => EvX G b Γ Ma (fun rb Mb => ∃ i j, ra = .d (.int i) ∧ rb = .d (.int j) ∧ Q (decide (i ≤ j)) Mb) R) R) : EvT G (.Compare a [.LtE] [b] pos) Γ M Q R := evt_cmpI (fun X hX => op_le) (nomark _) h
theorem evt_gt {Q : Bool → Sto → Prop} (h : EvX G a Γ M (fun ra Ma => EvX G b Γ Ma (fun rb Mb => ∃ i j, ra = .d (.int i) ∧ rb = .d (.int j) ∧ Q (decide (j < i)) Mb) R) R) : EvT G (.Compare a [.Gt] [b] pos) Γ M Q R := evt_cmpI (fun X hX => op_gt) (nomark _) h
theorem evt_ge {Q : Bool → Sto → Prop} (h : EvX G a Γ M (fun ra Ma => EvX G b Γ Ma (fun rb Mb => ∃ i j, ra = .d (.int i) ∧ rb = .d (.int j) ∧ Q (decide (j ≤ i)) Mb) R) R) : EvT G (.Compare a [.GtE] [b] pos) Γ M Q R := evt_cmpI (fun X hX => op_ge) (nomark _) h
theorem bop_eqD {neg : Bool} {ra rb : Im} {x y : Dt} (ha : AsD M ra x) (hb : AsD M rb y) (sx : SeqAt.shaped x = true) (sy : SeqAt.shaped y = true) (hq : Q (.d (.bool (if neg then !PyData.eqv x y else PyData.eqv x y))) M) : BopR G (if neg then rNeD G.K else rEqD G.K) ra rb M Q := fun A F H va vb Qv S ra rb hQ => by
  cases neg with
  | true => exact ⟨x, y, ha.dp S ra, hb.dp S rb, sx, sy, hQ _ M A F H _ hq S (ALe.refl _) (Same.refl _) (Dp.bl _)⟩
  | false => exact ⟨x, y, ha.dp S ra, hb.dp S rb, sx, sy, hQ _ M A F H _ hq S (ALe.refl _) (Same.refl _) (Dp.bl _)⟩
theorem ev_eq (h : EvX G a Γ M (fun ra Ma => EvX G b Γ Ma (fun rb Mb => ∃ x y, AsD Mb ra x ∧ AsD Mb rb y ∧ SeqAt.shaped x = true ∧ SeqAt.shaped y = true ∧ Q (.d (.bool (PyData.eqv x y))) Mb) R) R) : EvX G (.Compare a [.Eq] [b] pos) Γ M Q R :=
  ev_cmp (fun X hX => by rw [← hX.K]; exact op_eqD hX.room.units) (h.imp fun ra Ma h => h.imp fun rb Mb ⟨x, y, h1, h2, s1, s2, q⟩ => bop_eqD (neg := false) h1 h2 s1 s2 q) (nomark _)
theorem ev_ne (h : EvX G a Γ M (fun ra Ma => EvX G b Γ Ma (fun rb Mb => ∃ x y, AsD Mb ra x ∧ AsD Mb rb y ∧ SeqAt.shaped x = true ∧ SeqAt.shaped y = true ∧ Q (.d (.bool (!PyData.eqv x y))) Mb) R) R) : EvX G (.Compare a [.NotEq] [b] pos) Γ M Q R :=
  ev_cmp (fun X hX => by rw [← hX.K]; exact op_neD hX.room.units) (h.imp fun ra Ma h => h.imp fun rb Mb ⟨x, y, h1, h2, s1, s2, q⟩ => bop_eqD (neg := true) h1 h2 s1 s2 q) (nomark _)
theorem evt_eq {Q : Bool → Sto → Prop} (h : EvX G a Γ M (fun ra Ma => EvX G b Γ Ma (fun rb Mb => ∃ x y, AsD Mb ra x ∧ AsD Mb rb y ∧ SeqAt.shaped x = true ∧ SeqAt.shaped y = true ∧ Q (PyData.eqv x y) Mb) R) R) : EvT G (.Compare a [.Eq] [b] pos) Γ M Q R :=
  evt_cmp (fun X hX => by rw [← hX.K]; exact op_eqD hX.room.units) (h.imp fun ra Ma h => h.imp fun rb Mb ⟨x, y, h1, h2, s1, s2, q⟩ => bop_eqD (neg := false) h1 h2 s1 s2 ⟨_, rfl, q⟩) (nomark _)
theorem evt_ne {Q : Bool → Sto → Prop} (h : EvX G a Γ M (fun ra Ma => EvX G b Γ Ma (fun rb Mb => ∃ x y, AsD Mb ra x ∧ AsD Mb rb y ∧ SeqAt.shaped x = true ∧ SeqAt.shaped y = true ∧ Q (!PyData.eqv x y) Mb) R) R) : EvT G (.Compare a [.NotEq] [b] pos) Γ M Q R :=
  evt_cmp (fun X hX => by rw [← hX.K]; exact op_neD hX.room.units) (h.imp fun ra Ma h => h.imp fun rb Mb ⟨x, y, h1, h2, s1, s2, q⟩ => bop_eqD (neg := true) h1 h2 s1 s2 ⟨_, rfl, q⟩) (nomark _)
theorem evt_in {Q : Bool → Sto → Prop} (hm : behindInMarks .In b = false) (h : EvX G a Γ M (fun ra Ma => EvX G b Γ Ma (fun rb Mb => ∃ x ds, AsD Mb ra x ∧ AsD Mb rb (.list ds) ∧ SeqAt.shaped x = true ∧ SeqAt.shaped (.list ds) = true ∧ Q (ds.any fun y => PyData.eqv y x) Mb) R) R) : EvT G (.Compare a [.In] [b] pos) Γ M Q R := by
  refine evt_cmp (r := rInD G.K) (fun X hX => by rw [← hX.K]; exact op_inD (by have := hX.room.un; omega)) (h.imp fun ra Ma h => h.imp fun rb Mb ⟨x, ds, h1, h2, s1, s2, q⟩ => ?_) hm
  intro A F H va vb Qv S r1 r2 hQ
  exact ⟨x, ds, h1.dp S r1, h2.dp S r2, s1, s2, hQ _ Mb A F H _ ⟨_, rfl, q⟩ S (ALe.refl _) (Same.refl _) (Dp.bl _)⟩
theorem evt_notin {Q : Bool → Sto → Prop} (hm : behindInMarks .NotIn b = false) (h : EvX G a Γ M (fun ra Ma => EvX G b Γ Ma (fun rb Mb => ∃ x ds, AsD Mb ra x ∧ AsD Mb rb (.list ds) ∧ SeqAt.shaped x = true ∧ SeqAt.shaped (.list ds) = true ∧ Q (!ds.any fun y => PyData.eqv y x) Mb) R) R) : EvT G (.Compare a [.NotIn] [b] pos) Γ M Q R := by
  refine evt_cmp (r := rNotInD G.K) (fun X hX => by rw [← hX.K]; exact op_notInD (by have := hX.room.un; omega)) (h.imp fun ra Ma h => h.imp fun rb Mb ⟨x, ds, h1, h2, s1, s2, q⟩ => ?_) hm
  intro A F H va vb Qv S r1 r2 hQ
  exact ⟨x, ds, h1.dp S r1, h2.dp S r2, s1, s2, hQ _ Mb A F H _ ⟨_, rfl, q⟩ S (ALe.refl _) (Same.refl _) (Dp.bl _)⟩
end
end DL

namespace DL
open PySem PySem.Spec PyProof.Rows L2

section
variable {G : Sx} {Γ : Ec} {M : Sto} {Q : Bool → Sto → Prop} {R : QR} {pos : Pos} {a b c : Expr} {rest : List Expr}
theorem EvT.imp {e : Expr} {Q' : Bool → Sto → Prop} (h : EvT G e Γ M Q R) (hq : ∀ r M', Q r M' → Q' r M') : EvT G e Γ M Q' R :=
  fun A F σ H Qv S L hQ hR => h A F σ H Qv S L (fun r M1 A1 F1 H1 q => hQ r M1 A1 F1 H1 (hq r M1 q)) hR
theorem evt_w {e : Expr} (h : EvW G e Γ M Q R) : EvT G e Γ M Q R := fun A F σ H Qv S L hQ hR =>
  tST_of (fun X hX => (pw_S hX e).pt) (h A F σ H Qv S L hQ hR)
theorem evw_and1 (h : EvT G a Γ M Q R) : EvW G (.BoolOp .And [a] pos) Γ M Q R := fun A F σ H Qv S L hQ hR =>
  tSW_of (fun X hX => pw_and1 (pt_S hX a)) (h A F σ H Qv S L hQ hR)
theorem evw_or1 (h : EvT G a Γ M Q R) : EvW G (.BoolOp .Or [a] pos) Γ M Q R := fun A F σ H Qv S L hQ hR =>
  tSW_of (fun X hX => pw_or1 (pt_S hX a)) (h A F σ H Qv S L hQ hR)
theorem evw_and (h : EvT G a Γ M (fun c M1 => (c = true → EvW G (.BoolOp .And (b :: rest) pos) Γ M1 Q R) ∧ (c = false → Q false M1)) R) : EvW G (.BoolOp .And (a :: b :: rest) pos) Γ M Q R := fun A F σ H Qv S L hQ hR =>
  tSW_of (fun X hX => pw_and (pt_S hX a) (pw_S hX _)) (h A F σ H _ S L (fun c M1 A1 F1 H1 q S1 a1 f1 => by
    cases c with
    | true => exact iteT (q.1 rfl A1 F1 σ H1 Qv S1 (L.mono a1 f1) (fun r M2 A2 F2 H2 q2 S2 a2 f2 => hQ r M2 A2 F2 H2 q2 S2 (a1.trans a2) (f1.trans f2)) (hR.mono a1 f1))
    | false => exact iteF (hQ false M1 A1 F1 H1 (q.2 rfl) S1 a1 f1)) hR)
theorem evw_or (h : EvT G a Γ M (fun c M1 => (c = false → EvW G (.BoolOp .Or (b :: rest) pos) Γ M1 Q R) ∧ (c = true → Q true M1)) R) : EvW G (.BoolOp .Or (a :: b :: rest) pos) Γ M Q R := fun A F σ H Qv S L hQ hR =>
  tSW_of (fun X hX => pw_or (pt_S hX a) (pw_S hX _)) (h A F σ H _ S L (fun c M1 A1 F1 H1 q S1 a1 f1 => by
    cases c with
    | false => exact iteF (q.1 rfl A1 F1 σ H1 Qv S1 (L.mono a1 f1) (fun r M2 A2 F2 H2 q2 S2 a2 f2 => hQ r M2 A2 F2 H2 q2 S2 (a1.trans a2) (f1.trans f2)) (hR.mono a1 f1))
    | true => exact iteT (hQ true M1 A1 F1 H1 (q.2 rfl) S1 a1 f1)) hR)
theorem evt_not (h : EvT G a Γ M (fun c M1 => Q (!c) M1) R) : EvT G (.UnaryOp .Not a pos) Γ M Q R := fun A F σ H Qv S L hQ hR =>
  tST_of (fun X hX => pt_not (pt_S hX a)) (h A F σ H _ S L (fun c M1 A1 F1 H1 q S1 a1 f1 => hQ _ M1 A1 F1 H1 q S1 a1 f1) hR)
abbrev PlainT (e : Expr) : Prop := ∀ env whole, isTrue e env whole = (do let v ← whole; standAt e.pos; holding [v] (truthy v))
theorem evt_val {e : Expr} (he : PlainT e) (h : EvX G e Γ M (fun r M1 => ∃ c, r = .d (.bool c) ∧ Q c M1) R) : EvT G e Γ M Q R := fun A F σ H Qv S L hQ hR =>
  tST_of (fun X hX => pt_val (pe_S hX e) (he _)) (h A F σ H _ S L (fun r M1 A1 F1 H1 v ⟨c, e, q⟩ S1 a1 f1 r1 => by
    subst e; cases r1
    exact ⟨c, rfl, hQ _ M1 A1 F1 H1 q S1 a1 f1⟩) hR)
inductive Tru (M : Sto) : Im → Bool → Prop
  | non : Tru M (.d .none) false
  | bl (b : Bool) : Tru M (.d (.bool b)) b
  | int (i : Int) : Tru M (.d (.int i)) (i != 0)
  | str (y : Str) (h : y.length ≤ sizeLine) : Tru M (.d (.str y)) ((y.length : Int) != 0)
  | lst {r : Im} {xs : List Im} (h : AsL M r xs) : Tru M r (!xs.isEmpty)
  | tup (ds : List Dt) : Tru M (.d (.tuple ds)) (!ds.isEmpty)
theorem isEmpty_len {α β : Type} {xs : List α} {ys : List β} (h : xs.length = ys.length) : xs.isEmpty = ys.isEmpty := by
  cases xs <;> cases ys <;> simp at h ⊢
theorem evt_truth {e : Expr} (he : PlainT e) (h : EvX G e Γ M (fun r M1 => ∃ c, Tru M1 r c ∧ Q c M1) R) : EvT G e Γ M Q R := fun A F σ H Qv S L hQ hR =>
  tST_of (t := fun σ H Q => tS G e σ H fun x H' => ∃ k, TruV G.K x H' k ∧ Q k H') (fun X hX => by rw [← hX.K]; exact pt_truth (pe_S hX e) (he _)) (h A F σ H _ S L (fun r M1 A1 F1 H1 v ⟨c, t, q⟩ S1 a1 f1 r1 => by
    have fin := hQ _ M1 A1 F1 H1 q S1 a1 f1
    cases t with
    | non => cases r1; exact ⟨_, rfl, fin⟩
    | bl b => cases r1; exact ⟨_, rfl, fin⟩
    | int i => cases r1; exact ⟨_, rfl, fin⟩
    | str y h => cases r1; exact ⟨_, ⟨h, rfl⟩, fin⟩
    | lst h =>
      obtain ⟨a, vs, rfl, hs, rs⟩ := h.sq S1 r1
      exact ⟨_, .inl ⟨vs, hs, by rw [isEmpty_len rs.len]⟩, fin⟩
    | tup ds =>
      cases r1 with
      | tup hs ha =>
        have := (of_dpAll (A := A1) ha).len
        simp at this
        exact ⟨_, .inr (.inl ⟨_, Same.seqT S1.sub hs, by rw [isEmpty_len this]⟩), fin⟩) hR)
def imNone : Im → Bool
  | .d .none => true
  | _ => false
theorem imr_none {K : PySem.W.Frag} {A : List Addr} {F : Hp} {r : Im} {v : V} (h : ImR K A F r v) : decide (v = V.non) = imNone r := by
  cases r with
  | p k => obtain ⟨a, _, rfl⟩ := h; rfl
  | d x => cases x <;> cases h <;> rfl
theorem evt_isN {j : Nat} {p2 : Pos} (h : EvX G a Γ M (fun r M1 => Q (imNone r) M1) R) : EvT G (.Compare a [.Is] [.Constant .none j p2] pos) Γ M Q R := fun A F σ H Qv S L hQ hR =>
  tST_of (fun X hX => pt_cmp (pc_isN (pe_S hX a))) (h A F σ H _ S L (fun r M1 A1 F1 H1 v q S1 a1 f1 r1 => ⟨_, rfl, by rw [imr_none r1]; exact hQ _ M1 A1 F1 H1 q S1 a1 f1⟩) hR)
theorem evt_notN {j : Nat} {p2 : Pos} (h : EvX G a Γ M (fun r M1 => Q (!imNone r) M1) R) : EvT G (.Compare a [.IsNot] [.Constant .none j p2] pos) Γ M Q R := fun A F σ H Qv S L hQ hR =>
  tST_of (fun X hX => pt_cmp (pc_notN (pe_S hX a))) (h A F σ H _ S L (fun r M1 A1 F1 H1 v q S1 a1 f1 r1 => ⟨_, rfl, by rw [imr_none r1]; exact hQ _ M1 A1 F1 H1 q S1 a1 f1⟩) hR)
end
section
variable {G : Sx} {Γ : Ec} {M : Sto} {Q : QE} {R : QR} {pos : Pos} {a b c : Expr} {rest : List Expr}
theorem ev_isN {j : Nat} {p2 : Pos} (h : EvX G a Γ M (fun r M1 => Q (.d (.bool (imNone r))) M1) R) : EvX G (.Compare a [.Is] [.Constant .none j p2] pos) Γ M Q R := fun A F σ H Qv S L hQ hR =>
  tS_of (fun X hX => pe_cmp (pc_isN (pe_S hX a))) (h A F σ H _ S L (fun r M1 A1 F1 H1 v q S1 a1 f1 r1 => by show Qv (.bl (decide (v = V.non))) H1; rw [imr_none r1]; exact hQ _ M1 A1 F1 H1 _ q S1 a1 f1 (Dp.bl _)) hR)
theorem ev_one {op : BoolOp} (h : EvX G a Γ M Q R) : EvX G (.BoolOp op [a] pos) Γ M Q R := fun A F σ H Qv S L hQ hR =>
  tS_of (fun X hX => pe_one (pe_S hX a)) (h A F σ H Qv S L hQ hR)
theorem ev_and (h : EvX G a Γ M (fun r M1 => ∃ c, r = .d (.bool c) ∧ (c = true → EvX G (.BoolOp .And (b :: rest) pos) Γ M1 Q R) ∧ (c = false → Q (.d (.bool false)) M1)) R) : EvX G (.BoolOp .And (a :: b :: rest) pos) Γ M Q R := fun A F σ H Qv S L hQ hR =>
  tS_of (fun X hX => pe_and (pe_S hX a) (pe_S hX _)) (h A F σ H _ S L (fun r M1 A1 F1 H1 v ⟨c, e, q⟩ S1 a1 f1 r1 => by
    subst e; cases r1
    refine ⟨c, rfl, ?_⟩
    cases c with
    | true => exact iteT (q.1 rfl A1 F1 σ H1 Qv S1 (L.mono a1 f1) (hQ.mono a1 f1) (hR.mono a1 f1))
    | false => exact iteF (hQ _ M1 A1 F1 H1 _ (q.2 rfl) S1 a1 f1 (Dp.bl _))) hR)
theorem ev_or (h : EvX G a Γ M (fun r M1 => ∃ c, r = .d (.bool c) ∧ (c = false → EvX G (.BoolOp .Or (b :: rest) pos) Γ M1 Q R) ∧ (c = true → Q (.d (.bool true)) M1)) R) : EvX G (.BoolOp .Or (a :: b :: rest) pos) Γ M Q R := fun A F σ H Qv S L hQ hR =>
  tS_of (fun X hX => pe_or (pe_S hX a) (pe_S hX _)) (h A F σ H _ S L (fun r M1 A1 F1 H1 v ⟨c, e, q⟩ S1 a1 f1 r1 => by
    subst e; cases r1
    refine ⟨c, rfl, ?_⟩
    cases c with
    | false => exact iteF (q.1 rfl A1 F1 σ H1 Qv S1 (L.mono a1 f1) (hQ.mono a1 f1) (hR.mono a1 f1))
    | true => exact iteT (hQ _ M1 A1 F1 H1 _ (q.2 rfl) S1 a1 f1 (Dp.bl _))) hR)
theorem ev_not (h : EvX G a Γ M (fun r M1 => ∃ c, r = .d (.bool c) ∧ Q (.d (.bool (!c))) M1) R) : EvX G (.UnaryOp .Not a pos) Γ M Q R := fun A F σ H Qv S L hQ hR =>
  tS_of (fun X hX => pe_not (pe_S hX a)) (h A F σ H _ S L (fun r M1 A1 F1 H1 v ⟨c, e, q⟩ S1 a1 f1 r1 => by
    subst e; cases r1
    exact ⟨c, rfl, hQ _ M1 A1 F1 H1 _ q S1 a1 f1 (Dp.bl _)⟩) hR)
theorem ev_ifx (h : EvT G c Γ M (fun k M1 => (k = true → EvX G a Γ M1 Q R) ∧ (k = false → EvX G b Γ M1 Q R)) R) : EvX G (.IfExp c a b pos) Γ M Q R := fun A F σ H Qv S L hQ hR =>
  tS_of (fun X hX => pe_ifExp (pt_S hX c) (pe_S hX a) (pe_S hX b)) (h A F σ H _ S L (fun k M1 A1 F1 H1 q S1 a1 f1 => by
    cases k with
    | true => exact iteT (q.1 rfl A1 F1 σ H1 Qv S1 (L.mono a1 f1) (hQ.mono a1 f1) (hR.mono a1 f1))
    | false => exact iteF (q.2 rfl A1 F1 σ H1 Qv S1 (L.mono a1 f1) (hQ.mono a1 f1) (hR.mono a1 f1))) hR)
/-- a test as a value: a comparison -/
theorem ev_chain {op op' : CmpOp} {p p' : Int → Int → Bool} (ho : ∀ X, G.Has X → OpR X (compareOp op) (rI0 fun i j => .bl (p i j))) (ho' : ∀ X, G.Has X → OpR X (compareOp op') (rI0 fun i j => .bl (p' i j)))
    (hpe : ∀ X, G.Has X → PE X (.Compare a [op, op'] [b, c] pos) (tChain (rI0 fun i j => .bl (p i j)) (rI0 fun i j => .bl (p' i j)) (tS G a) (tS G b) (tS G c)))
    (h : EvX G a Γ M (fun ra Ma => EvX G b Γ Ma (fun rb Mb => ∃ i j, ra = .d (.int i) ∧ rb = .d (.int j) ∧ (p i j = true → EvX G c Γ Mb (fun rc Mc => ∃ k, rc = .d (.int k) ∧ Q (.d (.bool (p' j k))) Mc) R) ∧ (p i j = false → Q (.d (.bool false)) Mb)) R) R) :
    EvX G (.Compare a [op, op'] [b, c] pos) Γ M Q R := by
  intro A F σ H Qv S L hQ hR
  refine tS_of hpe (h A F σ H _ S L (fun ra Ma A1 F1 H1 va hb S1 a1 f1 r1 => ?_) hR)
  refine hb A1 F1 σ H1 _ S1 (L.mono a1 f1) (fun rb Mb A2 F2 H2 vb hr S2 a2 f2 r2 => ?_) (hR.mono a1 f1)
  obtain ⟨i, j, rfl, rfl, h1, h2⟩ := hr
  cases r1; cases r2
  refine ⟨i, j, rfl, rfl, p i j, rfl, ?_⟩
  cases e : p i j with
  | true =>
    refine iteT (h1 e A2 F2 σ H2 _ S2 (L.mono (a1.trans a2) (f1.trans f2)) (fun rc Mc A3 F3 H3 vc q S3 a3 f3 r3 => ?_) (hR.mono (a1.trans a2) (f1.trans f2)))
    obtain ⟨k, rfl, q⟩ := q
    cases r3
    exact ⟨j, k, rfl, rfl, hQ _ Mc A3 F3 H3 _ q S3 ((a1.trans a2).trans a3) ((f1.trans f2).trans f3) (Dp.bl _)⟩
  | false => exact iteF (hQ _ Mb A2 F2 H2 _ (h2 e) S2 (a1.trans a2) (f1.trans f2) (Dp.bl _))

theorem ev_ix (hs : PlainIx b) (h : EvX G a Γ M (fun ra Ma => EvX G b Γ Ma (fun rb Mb => BopR G (rIx G.K) ra rb Mb Q) R) R) : EvX G (.Subscript a b pos) Γ M Q R := fun A F σ H Qv S L hQ hR =>
  tS_of (fun X hX => by rw [← hX.K]; exact pe_ix ix_seq (pe_S hX a) (pe_S hX b) hs) (two_ev h S L hQ hR)
theorem paired_get {α β : Type} {R : α → β → Prop} : ∀ {xs : List α} {ys : List β}, Paired R xs ys → ∀ {j : Nat} {x : α}, xs[j]? = some x → ∃ y, ys[j]? = some y ∧ R x y
  | _, _, .nil, _, _, e => by simp at e
  | _, _, .cons r t, 0, x, e => by simp at e; subst e; exact ⟨_, rfl, r⟩
  | _, _, .cons r t, j + 1, x, e => by
    obtain ⟨v, e1, e2⟩ := paired_get t (j := j) (x := x) (by simpa using e)
    exact ⟨v, by simpa using e1, e2⟩
theorem ix_at {α β : Type} {R : α → β → Prop} {xs : List α} {ys : List β} (h : Paired R xs ys) {i : Int} {x : α} (e : atI xs i = some x) : ∃ y, atI ys i = some y ∧ R x y := by
  unfold atI at e ⊢
  rw [← Paired.length h]
  obtain ⟨j, hj, e⟩ := Option.bind_eq_some_iff.mp e
  rw [hj]
  exact paired_get h e
theorem ix_lst {r x : Im} {xs : List Im} {i : Int} (hl : AsL M r xs) (hi : atI xs i = some x) (hq : Q x M) : BopR G (rIx G.K) r (.d (.int i)) M Q := fun A F H va vb Qv S ra rb hQ => by
  obtain ⟨p, vs, rfl, hs, rs⟩ := hl.sq S ra
  obtain ⟨v, e, rv⟩ := ix_at rs hi
  cases rb
  exact .inl ⟨p, vs, i, v, rfl, rfl, hs, e, hQ _ M A F H v hq S (ALe.refl _) (Same.refl _) rv⟩
theorem atI_map {α β : Type} (f : α → β) (xs : List α) (i : Int) : atI (xs.map f) i = (atI xs i).map f := by
  unfold atI
  rw [List.length_map]
  cases ixN xs.length i with
  | none => rfl
  | some j => simp
theorem ix_tup {x : Dt} {ds : List Dt} {i : Int} (hi : atI ds i = some x) (hq : Q (.d x) M) : BopR G (rIx G.K) (.d (.tuple ds)) (.d (.int i)) M Q := fun A F H va vb Qv S ra rb hQ => by
  cases ra with
  | tup h1 r1 =>
    obtain ⟨v, e, rv⟩ := ix_at (of_dpAll (A := A) r1) (i := i) (x := .d x) (by rw [atI_map, hi]; rfl)
    cases rb
    exact .inr (.inl ⟨_, _, i, v, rfl, rfl, Same.seqT S.sub h1, e, hQ _ M A F H v hq S (ALe.refl _) (Same.refl _) rv⟩)
theorem ix_strI {z : Str} {i : Int} {c : Nat} (hz : z.length ≤ sizeLine) (hi : atI z.cps.toList i = some c) (hq : Q (.d (.str ⟨#[c]⟩)) M) : BopR G (rIx G.K) (.d (.str z)) (.d (.int i)) M Q := fun A F H va vb Qv S ra rb hQ => by
  cases ra; cases rb
  exact .inr (.inr ⟨z, i, c, rfl, rfl, hz, hi, hQ _ M A F H _ hq S (ALe.refl _) (Same.refl _) (Dp.str _)⟩)
def cutL {α : Type} (xs : List α) (lo hi : Option Int) : List α := (xs.drop (HT.sIx xs.length 0 lo)).take (HT.sIx xs.length xs.length hi - HT.sIx xs.length 0 lo)
theorem cutL_map {α β : Type} (f : α → β) (xs : List α) (lo hi : Option Int) : cutL (xs.map f) lo hi = (cutL xs lo hi).map f := by
  unfold cutL
  rw [List.length_map, List.map_take, List.map_drop]
theorem imsR_cut {K : PySem.W.Frag} {A : List Addr} {F : Hp} {rs : List Im} {vs : List V} (h : ImsR K A F rs vs) (lo hi : Option Int) : ImsR K A F (cutL rs lo hi) (cutV vs lo hi) := by
  unfold cutL cutV
  rw [h.len]
  exact (h.drop _).take _
end
section
variable (G : Sx)
def tSO (e : Option Expr) : TO := fun σ H Q => ∀ X, G.Has X → ∀ pins s, Inv X pins σ H s → wpAny (model X.prog X.w) X.A (evalPart e X.env) (fun u s' => ∃ o H', Inv X pins σ H' s' ∧ IsPart u o ∧ Q o H') X.xe s
def EvO (e : Option Expr) (Γ : Ec) (M : Sto) (Q : Option Int → Sto → Prop) (R : QR) : Prop :=
  ∀ A F σ H (Qv : Option Int → Hp → Prop), StO G.K A M F H → Sl G.K A F Γ σ →
    (∀ o M' A' F' H', Q o M' → StO G.K A' M' F' H' → ALe A A' → Same F F' → Qv o H') → Flies G A F R σ → tSO G e σ H Qv
end
section
variable {G : Sx} {Γ : Ec} {M : Sto} {Q : QE} {R : QR} {pos p2 : Pos} {a b c : Expr} {lo hi : Option Expr}
theorem po_S {X : Cx} (hX : G.Has X) (e : Option Expr) : PO X e (tSO G e) := ⟨fun pins s σ H Q I h => h X hX pins s I⟩
theorem evo_none {Q : Option Int → Sto → Prop} (hq : Q none M) : EvO G none Γ M Q R := fun A F σ H Qv S L hQ hR X hX pins s I =>
  po_none.run pins s σ H Qv I (hQ none M A F H hq S (ALe.refl _) (Same.refl _))
theorem evo_some {Q : Option Int → Sto → Prop} (h : EvX G a Γ M (fun r M1 => ∃ i, r = .d (.int i) ∧ Q (some i) M1) R) : EvO G (some a) Γ M Q R := fun A F σ H Qv S L hQ hR X hX pins s I =>
  (po_some (pe_S hX a)).run pins s σ H Qv I (h A F σ H _ S L (fun r M1 A1 F1 H1 v ⟨i, e, q⟩ S1 a1 f1 r1 => by
    subst e; cases r1
    exact ⟨i, rfl, hQ _ M1 A1 F1 H1 q S1 a1 f1⟩) hR)
def SlcR (G : Sx) (r : Im) (lo hi : Option Int) (M : Sto) (Q : QE) : Prop :=
  ∀ A F H v Qv, StO G.K A M F H → ImR G.K A F r v → Goes G A F Q Qv → (rSlL G.K v lo hi H Qv ∨ (rSlA G.K v lo hi H Qv ∨ rSlS v lo hi H Qv))
theorem ev_slice (h : EvX G a Γ M (fun r M1 => EvO G lo Γ M1 (fun l M2 => EvO G hi Γ M2 (fun u M3 => SlcR G r l u M3 Q) R) R) R) : EvX G (.Subscript a (.Slice lo hi none p2) pos) Γ M Q R := by
  intro A F σ H Qv S L hQ hR
  refine tS_of (t := tSl (fun x l u H Q => rSlL G.K x l u H Q ∨ (rSlA G.K x l u H Q ∨ rSlS x l u H Q)) (tS G a) (tSO G lo) (tSO G hi)) (fun X hX => by rw [← hX.K]; exact pe_slice (sl_list.or (sl_tupA.or sl_str)) (pe_S hX a) (po_S hX lo) (po_S hX hi)) ?_
  refine h A F σ H _ S L (fun r M1 A1 F1 H1 v h1 S1 a1 f1 r1 => ?_) hR
  refine h1 A1 F1 σ H1 _ S1 (L.mono a1 f1) (fun l M2 A2 F2 H2 h2 S2 a2 f2 => ?_) (hR.mono a1 f1)
  refine h2 A2 F2 σ H2 _ S2 (L.mono (a1.trans a2) (f1.trans f2)) (fun u M3 A3 F3 H3 h3 S3 a3 f3 => ?_) (hR.mono (a1.trans a2) (f1.trans f2))
  exact h3 A3 F3 H3 v Qv S3 (r1.mono (a2.trans a3) (f2.trans f3)) (hQ.mono ((a1.trans a2).trans a3) ((f1.trans f2).trans f3))
theorem slc_lst {r : Im} {ds : List Dt} {l u : Option Int} (hl : AsL M r (ds.map .d)) (hq : Q (.d (.list (cutL ds l u))) M) : SlcR G r l u M Q := fun A F H v Qv S rv hQ => by
  obtain ⟨p, vs, rfl, hs, rs⟩ := hl.sq S rv
  exact .inl ⟨p, vs, rfl, hs, fun q hp => goes_lst S hQ hp (by rw [← cutL_map]; exact imsR_cut rs l u) hq⟩
theorem slc_lstP {r : Im} {xs : List Im} {l u : Option Int} (hl : AsL M r xs) (hq : Q (.p M.length) (M ++ [.lst (cutL xs l u)])) : SlcR G r l u M Q := fun A F H v Qv S rv hQ => by
  obtain ⟨p, vs, rfl, hs, rs⟩ := hl.sq S rv
  exact .inl ⟨p, vs, rfl, hs, fun q hp => goes_lstP S hQ hp (imsR_cut rs l u) hq⟩
theorem slc_str {z : Str} {l u : Option Int} (hz : z.length ≤ sizeLine) (hq : Q (.d (.str (cutS z l u))) M) : SlcR G (.d (.str z)) l u M Q := fun A F H v Qv S rv hQ => by
  cases rv
  exact .inr (.inr ⟨z, rfl, hz, hQ _ M A F H _ hq S (ALe.refl _) (Same.refl _) (Dp.str _)⟩)
abbrev PlainA (e : Expr) (es : List Expr) : Prop := ∀ env, starEach (e :: es) env = (false, eval e env) :: starEach es env
theorem eva_nil {Q : List Im → Sto → Prop} (hq : Q [] M) : EvA G [] Γ M Q R := fun A F σ H Qv S L hQ hR =>
  tSA_of (fun X hX => pa_nil) (hQ [] M A F H [] hq S (ALe.refl _) (Same.refl _) .nil)
theorem eva_cons {es : List Expr} {Q : List Im → Sto → Prop} (hs : PlainA a es) (h : EvX G a Γ M (fun r M1 => EvA G es Γ M1 (fun rs M2 => Q (r :: rs) M2) R) R) : EvA G (a :: es) Γ M Q R := fun A F σ H Qv S L hQ hR =>
  tSA_of (fun X hX => pa_cons (pe_S hX a) (pa_S hX es) (hs _)) (h A F σ H _ S L (fun r M1 A1 F1 H1 v h1 S1 a1 f1 r1 =>
    h1 A1 F1 σ H1 _ S1 (L.mono a1 f1) (fun rs M2 A2 F2 H2 vs q S2 a2 f2 r2 => hQ _ M2 A2 F2 H2 _ q S2 (a1.trans a2) (f1.trans f2) (.cons (r1.mono a2 f2) r2)) (hR.mono a1 f1)) hR)
theorem EvA.imp {es : List Expr} {Q Q' : List Im → Sto → Prop} (h : EvA G es Γ M Q R) (hq : ∀ r M', Q r M' → Q' r M') : EvA G es Γ M Q' R :=
  fun A F σ H Qv S L hQ hR => h A F σ H Qv S L (fun r M1 A1 F1 H1 v q => hQ r M1 A1 F1 H1 v (hq r M1 q)) hR
/-- all items are data -/
def AllD : List Im → List Dt → Prop
  | [], [] => True
  | .d x :: r, y :: s => x = y ∧ AllD r s
  | _, _ => False
theorem AllD.eq : ∀ {rs : List Im} {ds : List Dt}, AllD rs ds → rs = ds.map .d
  | [], [], _ => rfl
  | .d x :: r, y :: s, h => by obtain ⟨rfl, h⟩ := h; rw [AllD.eq h]; rfl
theorem ev_lst {es : List Expr} (h : EvA G es Γ M (fun rs M1 => rs.length ≤ sizeLine ∧ ∃ ds, AllD rs ds ∧ Q (.d (.list ds)) M1) R) : EvX G (.List es pos) Γ M Q R := fun A F σ H Qv S L hQ hR =>
  tS_of (fun X hX => pe_lst (pa_S hX es)) (h A F σ H _ S L (fun rs M1 A1 F1 H1 vs ⟨hz, ds, e, q⟩ S1 a1 f1 r1 => by
    refine ⟨by rw [← r1.len]; exact hz, fun p hp => goes_lst S1 (hQ.mono a1 f1) hp ?_ q⟩
    rw [← e.eq]; exact r1) hR)
theorem ev_lstP {es : List Expr} (h : EvA G es Γ M (fun rs M1 => rs.length ≤ sizeLine ∧ Q (.p M1.length) (M1 ++ [.lst rs])) R) : EvX G (.List es pos) Γ M Q R := fun A F σ H Qv S L hQ hR =>
  tS_of (fun X hX => pe_lst (pa_S hX es)) (h A F σ H _ S L (fun rs M1 A1 F1 H1 vs ⟨hz, q⟩ S1 a1 f1 r1 =>
    ⟨by rw [← r1.len]; exact hz, fun p hp => goes_lstP S1 (hQ.mono a1 f1) hp r1 q⟩) hR)
theorem ev_tup {es : List Expr} {k : Nat} (h : EvA G es Γ M (fun rs M1 => rs.length ≤ sizeLine ∧ ∃ ds, AllD rs ds ∧ Q (.d (.tuple ds)) M1) R) : EvX G (.Tuple es k pos) Γ M Q R := fun A F σ H Qv S L hQ hR =>
  tS_of (fun X hX => pe_tup (pa_S hX es)) (h A F σ H _ S L (fun rs M1 A1 F1 H1 vs ⟨hz, ds, e, q⟩ S1 a1 f1 r1 => by
    refine ⟨by rw [← r1.len]; exact hz, fun p hp => goes_tup S1 (hQ.mono a1 f1) hp ?_ q⟩
    rw [← e.eq]; exact r1) hR)
end

abbrev DSp := List Im → Sto → QE → QR → Prop
/-- a promise over data -/
def spOf (K : PySem.W.Frag) (S : DSp) : Sp := fun vs H Q E => ∃ A M F rs Qd Rd, StO K A M F H ∧ ImsR K A F rs vs ∧ S rs M Qd Rd ∧
  (∀ r M' A' F' H' v, Qd r M' → StO K A' M' F' H' → ALe A A' → Same F F' → ImR K A' F' r v → Q v H') ∧
  (∀ C M' A' F' H', Rd C M' → StO K A' M' F' H' → ALe A A' → Same F F' → E (.ref C) none H')
/-- the def x stands in the module and keeps the promise S -/
structure DefAt (P : Program) (w : World) (K : PySem.W.Frag) (mg : Str → Option Value) (base : Heap) (k : Nat) (x : Str) (ps : List Str) (S : DSp) : Prop where
  ex : ∃ f fd, FnOk P w K mg base (L2.CX P w) k f fd ps (spOf K S) ∧ mg x = some (.ref f) ∧ PySem.W.keepIn K (.ref f) = true ∧ Binds K fd ps []
section
variable {X : Cx} {CX : CXT} {k : Nat} {f : Addr} {fd : FuncData} {ps : List Str} {sp : Sp} {dvs : List V} {ds : List Value} {E : L2.St → XK} {x : Str} {p pos : Pos}
theorem pe_call0S (F : FnOk X.prog X.w X.K X.mg X.base CX k f fd ps sp) (hr : Room k X.A) (hg : Gl X x) (hm : X.mg x = some (.ref f)) (hk : PySem.W.keepIn X.K (.ref f) = true) (hb : Binds X.K fd ps ds) (hd : Vals dvs ds) (hx : ∀ σ, PassesAt CX X σ (E σ))
    (hdb : (x == ("__debug__" : Str)) = false := by decide) : PE X (.Call (.Name x p) [] [] pos) (tCallSD sp dvs E tNil) := by
  refine ⟨fun pins s σ H Q I h => ?_⟩
  refine wpAny_Call_Name_kw (ld_glob I hg hm ?_ hdb)
  exact PySem.W.callWith_K0 I.kIn hk (run_fnSD (us := []) F hr hb hd (hx σ) I .nil h)
end
section
variable {G : Sx} {Γ : Ec} {M : Sto} {Q : QE} {R : QR} {pos p2 : Pos} {a : Expr} {es : List Expr} {k : Nat} {x : Str} {ps : List Str} {S : DSp}
abbrev PlainAs (es : List Expr) : Prop := ∀ env pos, (backTo pos (starEach es env)).any (·.1) = false
theorem ev_call (D : DefAt G.P G.w G.K G.mg G.base k x ps S) (hk : k ≤ G.k) (hg : G.sc.names.lookup x = some .globalImplicit) (hs : PlainA a es) (hpl : PlainAs es)
    (h : EvA G (a :: es) Γ M (fun rs M1 => S rs M1 Q R) R) (hdb : (x == ("__debug__" : Str)) = false := by decide) : EvX G (.Call (.Name x p2) (a :: es) [] pos) Γ M Q R := by
  intro A F σ H Qv S0 L hQ hR
  obtain ⟨f, fd, hF, hm, hkp, hb⟩ := D.ex
  refine tS_of (t := tCallSD (spOf G.K S) [] (WE G.W) (tSA G (a :: es))) (fun X hX => ?_) ?_
  · have tk := hX.tk
    refine pe_callSD (CX := L2.CX X.prog X.w) (k := k) (f := f) (fd := fd) (ps := ps) (ds := []) (by rw [hX.prog, hX.w, hX.K, hX.mg, hX.base]; exact hF) (hX.room.mono hk) (gl_of hX hg) (by rw [hX.mg]; exact hm) (by rw [hX.K]; exact hkp) (by rw [hX.K]; exact hb) .nil (fun σ => passAt tk σ) (pa_S hX _) hdb (hs _) (hpl _ _)
  · refine h A F σ H _ S0 L (fun rs M1 A1 F1 H1 vs q S1 a1 f1 r1 => ?_) hR
    rw [List.append_nil]
    exact ⟨A1, M1, F1, rs, Q, R, S1, r1, q, (hQ.mono a1 f1), fun C M' A' F' H' q S' a' f' => hR C M' A' F' H' q S' (a1.trans a') (f1.trans f')⟩
theorem ev_call0 (D : DefAt G.P G.w G.K G.mg G.base k x ps S) (hk : k ≤ G.k) (hg : G.sc.names.lookup x = some .globalImplicit) (h : S [] M Q R) (hdb : (x == ("__debug__" : Str)) = false := by decide) : EvX G (.Call (.Name x p2) [] [] pos) Γ M Q R := by
  intro A F σ H Qv S0 L hQ hR
  obtain ⟨f, fd, hF, hm, hkp, hb⟩ := D.ex
  refine tS_of (t := tCallSD (spOf G.K S) [] (WE G.W) tNil) (fun X hX => ?_) ?_
  · have tk := hX.tk
    exact pe_call0S (CX := L2.CX X.prog X.w) (k := k) (f := f) (fd := fd) (ps := ps) (ds := []) (by rw [hX.prog, hX.w, hX.K, hX.mg, hX.base]; exact hF) (hX.room.mono hk) (gl_of hX hg) (by rw [hX.mg]; exact hm) (by rw [hX.K]; exact hkp) (by rw [hX.K]; exact hb) .nil (fun σ => passAt tk σ) hdb
  · exact ⟨A, M, F, [], Q, R, S0, .nil, h, hQ, hR⟩
/-- a builtin's reading over data -/
def CalR (G : Sx) (r : List V → Hp → VK → Prop) (rs : List Im) (M : Sto) (Q : QE) : Prop :=
  ∀ A F H vs Qv, StO G.K A M F H → ImsR G.K A F rs vs → Goes G A F Q Qv → r vs H Qv
theorem ev_callB {id : String} {r : List V → Hp → VK → Prop} (hc : ∀ X, G.Has X → CallR X (.builtin id) r) (hv : bootBuiltins x = some (.builtin id)) (hm : G.mg x = none) (hg : G.sc.names.lookup x = some .globalImplicit) (hs : PlainA a es) (hpl : PlainAs es)
    (h : EvA G (a :: es) Γ M (fun rs M1 => CalR G r rs M1 Q) R) (hn : x ≠ "__name__" := by decide) (hdb : (x == ("__debug__" : Str)) = false := by decide) : EvX G (.Call (.Name x p2) (a :: es) [] pos) Γ M Q R := fun A F σ H Qv S L hQ hR =>
  tS_of (fun X hX => pe_callB (hc X hX) (gl_of hX hg) (by rw [hX.mg]; exact hm) hv (pa_S hX _) hn hdb (hs _) (hpl _ _)) (h A F σ H _ S L (fun rs M1 A1 F1 H1 vs q S1 a1 f1 r1 => q A1 F1 H1 vs Qv S1 r1 (hQ.mono a1 f1)) hR)
theorem ev_callTy {T : String} {r : List V → Hp → VK → Prop} (hc : ∀ X, G.Has X → CallR X (.type T) r) (hv : bootBuiltins x = some (.type T)) (hm : G.mg x = none) (hg : G.sc.names.lookup x = some .globalImplicit) (hs : PlainA a es) (hpl : PlainAs es)
    (h : EvA G (a :: es) Γ M (fun rs M1 => CalR G r rs M1 Q) R) (hn : x ≠ "__name__" := by decide) (hdb : (x == ("__debug__" : Str)) = false := by decide) : EvX G (.Call (.Name x p2) (a :: es) [] pos) Γ M Q R := fun A F σ H Qv S L hQ hR =>
  tS_of (fun X hX => pe_callTy (hc X hX) (gl_of hX hg) (by rw [hX.mg]; exact hm) hv (pa_S hX _) hn hdb (hs _) (hpl _ _)) (h A F σ H _ S L (fun rs M1 A1 F1 H1 vs q S1 a1 f1 r1 => q A1 F1 H1 vs Qv S1 r1 (hQ.mono a1 f1)) hR)
inductive LenOf (M : Sto) : Im → Nat → Prop
  | lst {r : Im} {xs : List Im} (h : AsL M r xs) : LenOf M r xs.length
  | tup (ds : List Dt) : LenOf M (.d (.tuple ds)) ds.length
  | str (z : Str) (h : z.length ≤ sizeLine) : LenOf M (.d (.str z)) z.length
theorem ev_len (hm : G.mg "len" = none) (hg : G.sc.names.lookup ("len" : Str) = some .globalImplicit) (hs : PlainA a []) (h : EvX G a Γ M (fun r M1 => ∃ n, LenOf M1 r n ∧ Q (.d (.int n)) M1) R) : EvX G (.Call (.Name "len" p2) [a] [] pos) Γ M Q R := by
  refine ev_callB (r := fun xs H Q => ∃ x n, xs = [x] ∧ LenV G.K x H n ∧ Q (.int n) H) (fun X hX => by rw [← hX.K]; exact call_len) PySem.boot_len hm hg hs (fun _ _ => rfl) (eva_cons hs (h.imp fun r M1 ⟨n, hl, q⟩ => eva_nil ?_))
  intro A F H vs Qv S rv hQ
  cases rv with
  | cons r1 t =>
    cases t
    have fin : ∀ v : V, Qv (.int n) H := fun _ => hQ _ M1 A F H _ q S (ALe.refl _) (Same.refl _) (Dp.int _)
    cases hl with
    | lst h =>
      obtain ⟨a, vs, rfl, hs, rs⟩ := h.sq S r1
      exact ⟨_, _, rfl, .inl ⟨vs, hs, rs.len⟩, fin (.int 0)⟩
    | tup ds =>
      cases r1 with
      | tup hs ha =>
        have := (of_dpAll (A := A) ha).len
        simp at this
        exact ⟨_, _, rfl, .inr ⟨_, Same.seqT S.sub hs, this⟩, fin (.int 0)⟩
    | str z h => cases r1; exact ⟨_, _, rfl, ⟨h, rfl⟩, fin (.int 0)⟩
theorem ev_intof (hm : G.mg "int" = none) (hg : G.sc.names.lookup ("int" : Str) = some .globalImplicit) (hs : PlainA a []) (hv : bootBuiltins ("int" : Str) = some (.type "int")) (h : EvX G a Γ M (fun r M1 => (∃ i, r = .d (.int i) ∧ Q (.d (.int i)) M1) ∨ ∃ b : Bool, r = .d (.bool b) ∧ Q (.d (.int (if b then 1 else 0))) M1) R) : EvX G (.Call (.Name "int" p2) [a] [] pos) Γ M Q R := by
  refine ev_callTy (fun X hX => call_int1) hv hm hg hs (fun _ _ => rfl) (eva_cons hs (h.imp fun r M1 hh => eva_nil ?_))
  intro A F H vs Qv S rv hQ
  cases rv with
  | cons r1 t =>
    cases t
    rcases hh with ⟨i, rfl, q⟩ | ⟨b, rfl, q⟩
    · cases r1; exact .inl ⟨i, rfl, hQ _ M1 A F H _ q S (ALe.refl _) (Same.refl _) (Dp.int _)⟩
    · cases r1; exact .inr ⟨b, rfl, hQ _ M1 A F H _ q S (ALe.refl _) (Same.refl _) (Dp.int _)⟩
/-- list(xs) -/
theorem ev_listof (hm : G.mg "list" = none) (hg : G.sc.names.lookup ("list" : Str) = some .globalImplicit) (hs : PlainA a []) (hv : bootBuiltins ("list" : Str) = some (.type "list"))
    (h : EvX G a Γ M (fun r M1 => (∃ ds, (AsL M1 r (ds.map .d) ∨ r = .d (.tuple ds)) ∧ Q (.d (.list ds)) M1) ∨ ∃ xs, AsL M1 r xs ∧ Q (.p M1.length) (M1 ++ [.lst xs])) R) : EvX G (.Call (.Name "list" p2) [a] [] pos) Γ M Q R := by
  refine ev_callTy (r := fun xs H Q => ∃ p ys, xs = [.ref p] ∧ (SqL G.K H p ys ∨ SqT G.K H p ys) ∧ ∀ l, H l = none → Q (.ref l) (upd H l (.lst ys))) (fun X hX => by rw [← hX.K]; exact call_list_of) hv hm hg hs (fun _ _ => rfl) (eva_cons hs (h.imp fun r M1 hh => eva_nil ?_))
  intro A F H vs Qv S rv hQ
  cases rv with
  | cons r1 t =>
    cases t
    rcases hh with ⟨ds, hl | rfl, q⟩ | ⟨xs, hl, q⟩
    · obtain ⟨a, vs, rfl, hs, rs⟩ := hl.sq S r1
      exact ⟨_, _, rfl, .inl hs, fun l hp => goes_lst S hQ hp rs q⟩
    · cases r1 with
      | tup hs ha => exact ⟨_, _, rfl, .inr (Same.seqT S.sub hs), fun l hp => goes_lst S hQ hp (of_dpAll ha) q⟩
    · obtain ⟨a, vs, rfl, hs, rs⟩ := hl.sq S r1
      exact ⟨_, _, rfl, .inl hs, fun l hp => goes_lstP S hQ hp rs q⟩
/-- tuple(xs) -/
theorem ev_tupleof (hm : G.mg "tuple" = none) (hg : G.sc.names.lookup ("tuple" : Str) = some .globalImplicit) (hs : PlainA a []) (hv : bootBuiltins ("tuple" : Str) = some (.type "tuple"))
    (h : EvX G a Γ M (fun r M1 => ∃ ds, (AsL M1 r (ds.map .d) ∨ r = .d (.tuple ds)) ∧ Q (.d (.tuple ds)) M1) R) : EvX G (.Call (.Name "tuple" p2) [a] [] pos) Γ M Q R := by
  refine ev_callTy (r := fun xs H Q => ∃ p ys, xs = [.ref p] ∧ ((SqL G.K H p ys ∧ ∀ l, H l = none → Q (.ref l) (upd H l (.tup ys))) ∨ (SqT G.K H p ys ∧ Q (.ref p) H))) (fun X hX => by rw [← hX.K]; exact call_tuple_of) hv hm hg hs (fun _ _ => rfl) (eva_cons hs (h.imp fun r M1 hh => eva_nil ?_))
  intro A F H vs Qv S rv hQ
  cases rv with
  | cons r1 t =>
    cases t
    obtain ⟨ds, hl | rfl, q⟩ := hh
    · obtain ⟨a, vs, rfl, hs, rs⟩ := hl.sq S r1
      exact ⟨_, _, rfl, .inl ⟨hs, fun l hp => goes_tup S hQ hp rs q⟩⟩
    · cases r1 with
      | tup hs ha => exact ⟨_, _, rfl, .inr ⟨Same.seqT S.sub hs, hQ _ M1 A F H _ q S (ALe.refl _) (Same.refl _) (Dp.tup hs ha)⟩⟩
end
end DL

namespace DL
open PySem PySem.Spec PyProof.Rows L2

section
variable {G : Sx} {Γ : Ec} {M : Sto} {R : QR} {pos p2 : Pos} {tg a b c : Expr} {Q : List Im → (Sto → Prop) → Sto → Prop}
theorem jok_list {A : List Addr} {F : Hp} {r : Im} {xs : List Im} {v : V} {p : Addr} (hv : ImR G.K A F r v) (e : v = .ref p) : JOk G (Itl G.K p) xs (fun M' => AsL M' r xs) A F := by
  intro i M' A' F' H' S a f hl
  obtain ⟨q, vs, e', hs, rs⟩ := hl.sq S (hv.mono a f)
  rw [e] at e'; cases e'
  refine ⟨fun x hx => ?_, fun hle => ⟨vs, hs, by rw [← rs.len]; exact hle⟩⟩
  obtain ⟨w, hw, rw'⟩ := paired_get rs hx
  refine ⟨⟨vs, w, hs, hw⟩, fun v H'' hy => ?_⟩
  obtain ⟨rfl, hy⟩ := hy
  have := hy vs hs
  rw [hw] at this; cases this
  exact ⟨F', S, Same.refl _, rw'⟩
/-- a list -/
theorem evi_list (h : EvX G a Γ M (fun r M1 => ∃ xs, AsL M1 r xs ∧ Q xs (fun M' => AsL M' r xs) M1) R) : EvI G tg a Γ M Q R := fun A F σ H Rk S L hQ hR =>
  iS_of (t := iList G.K (tS G a)) (fun X hX => by rw [← hX.K]; exact pi_list (pe_S hX a)) (h A F σ H _ S L (fun r M1 A1 F1 H1 v ⟨xs, hl, q⟩ S1 a1 f1 r1 => by
    obtain ⟨p, vs, e, hs, rs⟩ := hl.sq S1 r1
    exact ⟨p, e, ⟨vs, hs⟩, hQ _ xs _ M1 A1 F1 H1 q S1 a1 f1 (jok_list r1 e)⟩) hR)
/-- a tuple -/
theorem evi_tup (h : EvX G a Γ M (fun r M1 => ∃ ds, r = .d (.tuple ds) ∧ Q (ds.map .d) (fun _ => True) M1) R) : EvI G tg a Γ M Q R := fun A F σ H Rk S L hQ hR =>
  iS_of (t := iTup G.K (tS G a)) (fun X hX => by rw [← hX.K]; exact pi_tup (pe_S hX a)) (h A F σ H _ S L (fun r M1 A1 F1 H1 v ⟨ds, e, q⟩ S1 a1 f1 r1 => by
    subst e
    cases r1 with
    | tup hs ha =>
      refine ⟨_, rfl, ⟨_, Same.seqT S1.sub hs⟩, hQ _ _ _ M1 A1 F1 H1 q S1 a1 f1 ?_⟩
      intro i M' A' F' H' S' a' f' _
      have hs' := Same.seqT (f'.trans S'.sub) hs
      have rs := (of_dpAll (A := A') (DpAll.mono f' _ _ ha))
      refine ⟨fun x hx => ?_, fun hle => ⟨_, hs', by rw [← rs.len]; exact hle⟩⟩
      obtain ⟨w, hw, rw'⟩ := paired_get rs hx
      refine ⟨⟨_, w, hs', hw⟩, fun v H'' hy => ?_⟩
      obtain ⟨rfl, hy⟩ := hy
      have := hy _ hs'
      rw [hw] at this; cases this
      exact ⟨F', S', Same.refl _, rw'⟩) hR)
/-- the ints lo, lo + 1, .. -/
def intsL (lo : Int) (n : Nat) : List Im := (List.range n).map fun (i : Nat) => Im.d (.int (lo + (i : Int)))
theorem intsL_get {lo : Int} {n i : Nat} {x : Im} (h : (intsL lo n)[i]? = some x) : i < n ∧ x = .d (.int (lo + (i : Int))) := by
  unfold intsL at h
  rw [List.getElem?_map] at h
  cases e : (List.range n)[i]? with
  | none => rw [e] at h; cases h
  | some j =>
    rw [e] at h
    obtain ⟨h1, h2⟩ := List.getElem?_eq_some_iff.mp e
    simp at h1 h2
    subst h2
    exact ⟨h1, by simpa using h.symm⟩
theorem jok_range {A : List Addr} {F : Hp} (lo : Int) (n : Nat) : JOk G (Itr lo n) (intsL lo n) (fun _ => True) A F := by
  intro i M' A' F' H' S a f _
  refine ⟨fun x hx => ?_, fun hle => (show n ≤ i by simpa [intsL] using hle)⟩
  obtain ⟨h1, rfl⟩ := intsL_get hx
  refine ⟨h1, fun v H'' hy => ?_⟩
  obtain ⟨rfl, rfl⟩ := hy
  exact ⟨F', S, Same.refl _, Dp.int _⟩
theorem evi_range (hm : G.mg "range" = none) (hg : G.sc.names.lookup ("range" : Str) = some .globalImplicit) (hs : PlainA a [])
    (h : EvX G a Γ M (fun r M1 => ∃ j : Int, r = .d (.int j) ∧ -(2 ^ 62) ≤ j ∧ j < 2 ^ 62 ∧ Q (intsL 0 j.toNat) (fun _ => True) M1) R) : EvI G tg (.Call (.Name "range" p2) [a] [] pos) Γ M Q R := fun A F σ H Rk S L hQ hR =>
  iS_of (fun X hX => pi_range1 (gl_of hX hg) (by rw [hX.mg]; exact hm) (pa_cons (pe_S hX a) pa_nil (hs _)) (hs _)) (h A F σ H _ S L (fun r M1 A1 F1 H1 v ⟨j, e, h1, h2, q⟩ S1 a1 f1 r1 => by
    subst e; cases r1
    exact ⟨j, rfl, h1, h2, hQ _ _ _ M1 A1 F1 H1 q S1 a1 f1 (jok_range 0 _)⟩) hR)
theorem evi_range2 (hm : G.mg "range" = none) (hg : G.sc.names.lookup ("range" : Str) = some .globalImplicit) (hs : PlainA a [b]) (hs2 : PlainA b [])
    (h : EvX G a Γ M (fun r M1 => EvX G b Γ M1 (fun r2 M2 => ∃ i j : Int, r = .d (.int i) ∧ r2 = .d (.int j) ∧ (-(2 ^ 62) ≤ i ∧ i < 2 ^ 62 ∧ -(2 ^ 62) ≤ j ∧ j < 2 ^ 62) ∧ Q (intsL i (j - i).toNat) (fun _ => True) M2) R) R) : EvI G tg (.Call (.Name "range" p2) [a, b] [] pos) Γ M Q R := fun A F σ H Rk S L hQ hR =>
  iS_of (fun X hX => pi_range2 (gl_of hX hg) (by rw [hX.mg]; exact hm) (pa_cons (pe_S hX a) (pa_cons (pe_S hX b) pa_nil (hs2 _)) (hs _)) ((hs _).trans (by rw [hs2]; rfl)) (hs2 _)) (h A F σ H _ S L (fun r M1 A1 F1 H1 v h1 S1 a1 f1 r1 =>
    h1 A1 F1 σ H1 _ S1 (L.mono a1 f1) (fun r2 M2 A2 F2 H2 v2 ⟨i, j, e1, e2, hb, q⟩ S2 a2 f2 r2 => by
      subst e1 e2; cases r1; cases r2
      exact ⟨i, j, rfl, hb, hQ _ _ _ M2 A2 F2 H2 q S2 (a1.trans a2) (f1.trans f2) (jok_range i _)⟩) (hR.mono a1 f1)) hR)
/-- reversed(list) -/
theorem evi_rev (hm : G.mg "reversed" = none) (hg : G.sc.names.lookup ("reversed" : Str) = some .globalImplicit) (hs : PlainA a [])
    (h : EvX G a Γ M (fun r M1 => ∃ xs, AsL M1 r xs ∧ Q xs.reverse (fun M' => AsL M' r xs) M1) R) : EvI G tg (.Call (.Name "reversed" p2) [a] [] pos) Γ M Q R := fun A F σ H Rk S L hQ hR =>
  iS_of (t := iRev G.K (tCons (tS G a) tNil)) (fun X hX => by rw [← hX.K]; exact pi_reversed (gl_of hX hg) (by rw [hX.mg]; exact hm) (pa_cons (pe_S hX a) pa_nil (hs _)) (hs _)) (h A F σ H _ S L (fun r M1 A1 F1 H1 v ⟨xs, hl, q⟩ S1 a1 f1 r1 => by
    obtain ⟨p, vs, e, hs, rs⟩ := hl.sq S1 r1
    refine ⟨p, vs, by rw [e], hs, hQ _ _ _ M1 A1 F1 H1 q S1 a1 f1 ?_⟩
    intro i M' A' F' H' S a f hl'
    obtain ⟨q, ws, e', hs', rs'⟩ := hl'.sq S (r1.mono a f)
    rw [e] at e'; cases e'
    have hlen : vs.length = ws.length := by rw [← rs.len, rs'.len]
    refine ⟨fun x hx => ?_, fun hle => by show vs.length ≤ i; rw [← rs.len]; simpa using hle⟩
    have hi : i < xs.length := by
      have := (List.getElem?_eq_some_iff.mp hx).1
      simpa using this
    rw [List.getElem?_reverse hi] at hx
    obtain ⟨w, hw, rw'⟩ := paired_get rs' hx
    have hn : xs.length = vs.length := rs.len
    rw [hn] at hw
    refine ⟨⟨by omega, ws, w, hs', hw⟩, fun v H'' hy => ?_⟩
    obtain ⟨rfl, hy⟩ := hy
    have := hy ws hs'
    rw [hw] at this; cases this
    exact ⟨F', S, Same.refl _, rw'⟩) hR)
end

section
variable {G : Sx} {Γ : Ec} {M : Sto} {P : Pst} {pos p2 : Pos} {e : Expr} {st : Stmt} {sts : List Stmt}
/-- an exception of an expression of a statement -/
abbrev Pst.rx (P : Pst) (Γ : Ec) : QR := fun C M => P.ex C Γ M
theorem Lands.flies {A : List Addr} {F : Hp} {D : Ends} {σ : L2.St} (h : Lands G A F P D) (L : Sl G.K A F Γ σ) : Flies G A F (P.rx Γ) σ := fun C M' A' F' H' q S a f => h.ex C Γ M' A' F' σ H' q S (L.mono a f) (a.n _) f
theorem xs_nil (h : P.nx Γ M) : ExS G [] Γ M P := fun A F σ H D S L hn hD =>
  sSs_of (fun X hX => pss_nil) (hD.nx Γ M A F σ H h S L (ALn.refl _ _) (Same.refl _))
theorem Lands.seq {A : List Addr} {F : Hp} {D : Ends} {N : Ec → Sto → Prop} {nx : L2.St → Hp → Prop} (h : Lands G A F P D)
    (hn : ∀ Γ' M' A' F' σ' H', N Γ' M' → StO G.K A' M' F' H' → Sl G.K A' F' Γ' σ' → ALn G.n A A' → Same F F' → nx σ' H') : Lands G A F { P with nx := N } { D with nx := nx } := ⟨hn, h.rt, h.bk, h.ct, h.ex⟩
theorem xs_cons (h : ExX G st Γ M { P with nx := fun Γ' M' => ExS G sts Γ' M' P }) : ExS G (st :: sts) Γ M P := fun A F σ H D S L hn hD =>
  sSs_of (fun X hX => pss_cons (ps_S hX st) (pss_S hX sts)) (h A F σ H _ S L hn (hD.seq fun Γ' M' A' F' σ' H' q S' L' a f =>
    q A' F' σ' H' D S' L' (by rw [← S'.len]; exact a.len (by rw [S.len]; exact hn)) (hD.mono a f)))
theorem xs_one (h : ExX G st Γ M P) : ExS G [st] Γ M P := fun A F σ H D S L hn hD =>
  sSs_of (fun X hX => pss_one (ps_S hX st)) (h A F σ H D S L hn hD)
theorem x_pass (h : P.nx Γ M) : ExX G (.Pass pos) Γ M P := fun A F σ H D S L hn hD => sS_of (fun X hX => ps_pass) (hD.nx Γ M A F σ H h S L (ALn.refl _ _) (Same.refl _))
theorem x_break (h : P.bk Γ M) : ExX G (.Break pos) Γ M P := fun A F σ H D S L hn hD => sS_of (fun X hX => ps_break) (hD.bk Γ M A F σ H h S L (ALn.refl _ _) (Same.refl _))
theorem x_cont (h : P.ct Γ M) : ExX G (.Continue pos) Γ M P := fun A F σ H D S L hn hD => sS_of (fun X hX => ps_continue) (hD.ct Γ M A F σ H h S L (ALn.refl _ _) (Same.refl _))
theorem x_ret (h : EvX G e Γ M P.rt (P.rx Γ)) : ExX G (.Return (some e) pos) Γ M P := fun A F σ H D S L hn hD =>
  sS_of (fun X hX => ps_ret (pe_S hX e)) (h A F σ H D.rt S L (fun r M1 A1 F1 H1 v q S1 a1 f1 r1 => hD.rt r M1 A1 F1 H1 v q S1 r1 (a1.n _) f1) (hD.flies L))
theorem x_retN (h : P.rt (.d .none) M) : ExX G (.Return none pos) Γ M P := fun A F σ H D S L hn hD =>
  sS_of (fun X hX => ps_retN) (hD.rt _ M A F H .non h S Dp.non (ALn.refl _ _) (Same.refl _))
abbrev PlainS (e : Expr) (tgt : Option Expr) (l : Nat) : Prop := ∀ env, swapsWith e tgt l env = pure false
theorem x_expr (hs : PlainS e none pos.line) (h : EvX G e Γ M (fun _ M1 => P.nx Γ M1) (P.rx Γ)) : ExX G (.Expr e pos) Γ M P := fun A F σ H D S L hn hD =>
  sS_of (fun X hX => ps_expr (pe_S hX e) (hs _)) (h A F σ H _ S L (fun r M1 A1 F1 H1 v q S1 a1 f1 r1 => hD.nx Γ M1 A1 F1 σ H1 q S1 (L.mono a1 f1) (a1.n _) f1) (hD.flies L))
/-- x = e -/
theorem x_set {i : Nat} {x : Str} (hi : G.N[i]? = some x) (hx : Loc G.sc x) (hf : G.fn x = true ∨ G.sc.names.lookup x = some .local) (hs : PlainS e (some (.Name x p2)) pos.line)
    (h : EvX G e Γ M (fun r M1 => P.nx (Γ.set i (some r)) M1) (P.rx Γ)) : ExX G (.Assign [.Name x p2] e pos) Γ M P := fun A F σ H D S L hn hD =>
  sS_of (fun X hX => ps_set hX.nd (by rw [hX.N]; exact hi) (by rw [hX.sc]; exact hx) (pe_S hX e) (hs _) (by rw [hX.fn, hX.sc]; exact hf)) (h A F σ H _ S L (fun r M1 A1 F1 H1 v q S1 a1 f1 r1 =>
    hD.nx _ M1 A1 F1 _ H1 q S1 ((L.mono a1 f1).set r1 i) (a1.n _) f1) (hD.flies L))
theorem x_if {c : Expr} {t f : List Stmt} (h : EvT G c Γ M (fun k M1 => (k = true → ExS G t Γ M1 P) ∧ (k = false → ExS G f Γ M1 P)) (P.rx Γ)) : ExX G (.If c t f pos) Γ M P := fun A F σ H D S L hn hD =>
  sS_of (fun X hX => ps_if (pt_S hX c) (pss_S hX t) (pss_S hX f)) (h A F σ H _ S L (fun k M1 A1 F1 H1 q S1 a1 f1 => by
    have hn1 : G.n ≤ M1.length := by rw [← S1.len]; exact Nat.le_trans (by rw [S.len]; exact hn) a1.len
    cases k with
    | true => exact iteT (q.1 rfl A1 F1 σ H1 D S1 (L.mono a1 f1) hn1 (hD.mono (a1.n _) f1))
    | false => exact iteF (q.2 rfl A1 F1 σ H1 D S1 (L.mono a1 f1) hn1 (hD.mono (a1.n _) f1))) (hD.flies L))
/-- x += e, ints -/
theorem x_augI {op : Operator} {f : Int → Int → Int} {i : Nat} {x : Str} {k : Int} (ho : ∀ X, G.Has X → PIp X op (ipI f)) (hi : G.N[i]? = some x) (hx : Loc G.sc x) (hf : G.fn x = true ∨ G.sc.names.lookup x = some .local) (hΓ : Γ[i]? = some (some (.d (.int k))))
    (h : EvX G e Γ M (fun r M1 => ∃ j, r = .d (.int j) ∧ P.nx (Γ.set i (some (.d (.int (f k j))))) M1) (P.rx Γ)) : ExX G (.AugAssign (.Name x p2) op e pos) Γ M P := fun A F σ H D S L hn hD => by
  obtain ⟨v, ev, rv⟩ := L.2 i _ hΓ
  cases rv
  exact sS_of (fun X hX => ps_aug hX.nd (by rw [hX.N]; exact hi) (by rw [hX.sc]; exact hx) (pe_S hX e) (ho X hX) (by rw [hX.fn, hX.sc]; exact hf)) ⟨_, ev, h A F σ H _ S L (fun r M1 A1 F1 H1 v ⟨j, e, q⟩ S1 a1 f1 r1 => by
    subst e; cases r1
    exact ⟨k, j, rfl, rfl, hD.nx _ M1 A1 F1 _ H1 q S1 ((L.mono a1 f1).set (r := .d (.int (f k j))) (Dp.int _) i) (a1.n _) f1⟩) (hD.flies L)⟩

theorem evg_name {i : Nat} {x : Str} {r : Im} {Q : Ec → Sto → Prop} (hi : G.N[i]? = some x) (hx : Loc G.sc x) (hf : G.fn x = true ∨ G.sc.names.lookup x = some .local) (h : Q (Γ.set i (some r)) M) : EvG G (.Name x pos) r Γ M Q := fun A F σ H v Qv S L rv hQ =>
  gS_of (fun X hX => pg_name hX.nd (by rw [hX.N]; exact hi) (by rw [hX.sc]; exact hx) (by rw [hX.fn, hX.sc]; exact hf)) (hQ _ M A F _ H h S (L.set rv i) (ALe.refl _) (Same.refl _))
def EvGs (G : Sx) (ts : List Expr) (rs : List Im) (Γ : Ec) (M : Sto) (Q : Ec → Sto → Prop) : Prop :=
  ∀ A F σ H vs (Qv : L2.St → Hp → Prop), StO G.K A M F H → Sl G.K A F Γ σ → ImsR G.K A F rs vs →
    (∀ Γ' M' A' F' σ' H', Q Γ' M' → StO G.K A' M' F' H' → Sl G.K A' F' Γ' σ' → ALe A A' → Same F F' → Qv σ' H') → gSs G ts vs σ H Qv
theorem evgs_nil {Q : Ec → Sto → Prop} (h : Q Γ M) : EvGs G [] [] Γ M Q := fun A F σ H vs Qv S L rv hQ => by
  cases rv
  exact gSs_of (fun X hX => pgs_nil) ⟨rfl, hQ Γ M A F σ H h S L (ALe.refl _) (Same.refl _)⟩
theorem evgs_cons {t : Expr} {ts : List Expr} {r : Im} {rs : List Im} {Q : Ec → Sto → Prop} (hs : ∀ env, (assignEach (t :: ts) env).map (·.2) = assign t env :: (assignEach ts env).map (·.2)) (h : EvG G t r Γ M (fun Γ1 M1 => EvGs G ts rs Γ1 M1 Q)) : EvGs G (t :: ts) (r :: rs) Γ M Q := fun A F σ H vs Qv S L rv hQ => by
  cases rv with
  | cons r1 r2 =>
    exact gSs_of (fun X hX => pgs_cons (pg_S hX t) (pgs_S hX ts) (hs _)) ⟨_, _, rfl, h A F σ H _ _ S L r1 fun Γ1 M1 A1 F1 σ1 H1 q S1 L1 a1 f1 =>
      q A1 F1 σ1 H1 _ Qv S1 L1 (ImsR.mono a1 f1 r2) fun Γ2 M2 A2 F2 σ2 H2 q S2 L2 a2 f2 => hQ Γ2 M2 A2 F2 σ2 H2 q S2 L2 (a1.trans a2) (f1.trans f2)⟩
/-- (a, b, ..) takes a tuple of that length -/
theorem evg_tup {ts : List Expr} {k : Nat} {ds : List Dt} {n : Nat} {Q : Ec → Sto → Prop} (hn : ∀ env, (assignEach ts env).length = n) (hst : ∀ env, (assignEach ts env).findIdx? (·.1) = none) (hl : ds.length = n)
    (h : EvGs G ts (ds.map .d) Γ M Q) : EvG G (.Tuple ts k pos) (.d (.tuple ds)) Γ M Q := fun A F σ H v Qv S L rv hQ => by
  cases rv with
  | tup hs ha =>
    have rs := of_dpAll (A := A) ha
    have := rs.len
    simp at this
    exact gS_of (t := gTup G.K n (gSs G ts)) (fun X hX => by rw [← hX.K]; exact pg_tup hX.calm (pgs_S hX ts) (hn _) (hst _)) ⟨_, _, rfl, Same.seqT S.sub hs, by omega, h A F σ H _ Qv S L rs hQ⟩
/-- target = e -/
theorem x_asg {tg : Expr} (hs : ∀ env, swapsWithSole [tg] e pos.line env = pure false) (hw : ∀ env, swappedStores [tg] e env = pure none) (h1 : ∀ env, (assignEach [tg] env).map (·.2) = [assign tg env])
    (h : EvX G e Γ M (fun r M1 => EvG G tg r Γ M1 P.nx) (P.rx Γ)) : ExX G (.Assign [tg] e pos) Γ M P := fun A F σ H D S L hn hD =>
  sS_of (fun X hX => ps_asg (pe_S hX e) (pg_S hX tg) (hs _) (hw _) (h1 _)) (h A F σ H _ S L (fun r M1 A1 F1 H1 v q S1 a1 f1 r1 =>
    q A1 F1 σ H1 v _ S1 (L.mono a1 f1) r1 fun Γ2 M2 A2 F2 σ2 H2 q2 S2 L2 a2 f2 => hD.nx Γ2 M2 A2 F2 σ2 H2 q2 S2 L2 ((a1.trans a2).n _) (f1.trans f2)) (hD.flies L))

/-- Γ' knows all that Γ says -/
def Fo : Ec → Ec → Prop
  | [], [] => True
  | none :: a, _ :: b => Fo a b
  | some x :: a, y :: b => y = some x ∧ Fo a b
  | _, _ => False
theorem Fo.sl {K : PySem.W.Frag} {A : List Addr} {F : Hp} : ∀ {Γ Γ' : Ec}, Fo Γ Γ' → Γ.length = Γ'.length ∧ ∀ (i : Nat) (r : Im), Γ[i]? = some (some r) → Γ'[i]? = some (some r)
  | [], [], _ => ⟨rfl, fun i r h => h⟩
  | none :: a, y :: b, h => by
    obtain ⟨h1, h2⟩ := Fo.sl (K := K) (A := A) (F := F) (Γ := a) (Γ' := b) h
    refine ⟨by simp [h1], fun i r e => ?_⟩
    cases i with
    | zero => simp at e
    | succ i => exact h2 i r (by simpa using e)
  | some x :: a, y :: b, h => by
    obtain ⟨rfl, h⟩ := h
    obtain ⟨h1, h2⟩ := Fo.sl (K := K) (A := A) (F := F) (Γ := a) (Γ' := b) h
    refine ⟨by simp [h1], fun i r e => ?_⟩
    cases i with
    | zero => simpa using e
    | succ i => exact h2 i r (by simpa using e)
theorem Sl.weak {K : PySem.W.Frag} {A : List Addr} {F : Hp} {Γ Γ' : Ec} {σ : L2.St} (h : Fo Γ Γ') (L : Sl K A F Γ' σ) : Sl K A F Γ σ := by
  obtain ⟨h1, h2⟩ := Fo.sl (K := K) (A := A) (F := F) h
  exact ⟨by rw [L.1, h1], fun i r e => L.2 i r (h2 i r e)⟩
theorem Fo.refl : ∀ Γ : Ec, Fo Γ Γ
  | [] => trivial
  | none :: r => Fo.refl r
  | some x :: r => ⟨rfl, Fo.refl r⟩
theorem Sl.cut {K : PySem.W.Frag} {A : List Addr} {F : Hp} {Γ : Ec} {σ : L2.St} {n : Nat} (hb : EcB n Γ) (L : Sl K A F Γ σ) : Sl K (A.take n) F Γ σ := ⟨L.1, fun i r e => by
  obtain ⟨v, e1, r1⟩ := L.2 i r e
  exact ⟨v, e1, ImR.cut (hb r (List.mem_of_getElem? e)) r1⟩⟩
/-- the state (Γ, M) may be seen as (Γ', M') -/
structure Se (n : Nat) (Γ : Ec) (M : Sto) (Γ' : Ec) (M' : Sto) : Prop where
  fo : Fo Γ' Γ
  cut : ∃ L, M = M' ++ L
  sb : StoB M'.length M'
  eb : EcB M'.length Γ'
  n : n ≤ M'.length
theorem take_aln {n m : Nat} {A : List Addr} (h : n ≤ m) : ALn n A (A.take m) := fun k a hk e => by
  rw [List.getElem?_take, if_pos (by omega)]; exact e
theorem xs_see {Γ' : Ec} {M' : Sto} (hs : Se G.n Γ M Γ' M') (h : ExS G sts Γ' M' P) : ExS G sts Γ M P := fun A F σ H D S L hn hD => by
  obtain ⟨L', rfl⟩ := hs.cut
  exact h (A.take M'.length) F σ H D (S.trim hs.sb) ((L.weak hs.fo).cut hs.eb) hs.n (hD.mono (take_aln hs.n) (Same.refl _))
/-- only names are forgotten -/
theorem xs_fo {Γ' : Ec} (hs : Fo Γ' Γ) (h : ExS G sts Γ' M P) : ExS G sts Γ M P := fun A F σ H D S L hn hD => h A F σ H D S (L.weak hs) hn hD

/-- the body's context: the store's floor is at the loop's start -/
abbrev Sx.at (G : Sx) (n : Nat) : Sx := { G with n := n }
theorem Sx.Has.at {X : Cx} (h : G.Has X) (n : Nat) : (G.at n).Has X := ⟨h.prog, h.w, h.K, h.mg, h.base, h.N, h.sc, h.nd, h.room, h.calm, h.po, h.tk, h.fn, h.top⟩
theorem Sx.Has.unat {X : Cx} {n : Nat} (h : (G.at n).Has X) : G.Has X := ⟨h.prog, h.w, h.K, h.mg, h.base, h.N, h.sc, h.nd, h.room, h.calm, h.po, h.tk, h.fn, h.top⟩
theorem sSs_at {n : Nat} {D : Ends} {σ : L2.St} {H : Hp} (h : sSs (G.at n) sts D σ H) : sSs G sts D σ H := fun X hX pins s I => h X (hX.at n) pins s I
theorem gS_at {n : Nat} {tg : Expr} {v : V} {σ : L2.St} {H : Hp} {Q : L2.St → Hp → Prop} (h : gS (G.at n) tg v σ H Q) : gS G tg v σ H Q := fun X hX pins s u I r => h X (hX.at n) pins s u I r
/-- what stands at a turn's end, seen as the invariant's -/
def Turns (n : Nat) (J : Ec → Sto → Prop) : Ec → Sto → Prop := fun Γ M => (∃ Γ', Fo Γ' Γ ∧ J Γ' M) ∨ ∃ Γ' M', Se n Γ M Γ' M' ∧ J Γ' M'
theorem Turns.land {K : PySem.W.Frag} {n : Nat} {J : Ec → Sto → Prop} {A : List Addr} {F H : Hp} {σ : L2.St} (h : Turns n J Γ M) (S : StO K A M F H) (L : Sl K A F Γ σ) : ∃ Γ' M' A', J Γ' M' ∧ StO K A' M' F H ∧ Sl K A' F Γ' σ ∧ ALn n A A' := by
  rcases h with ⟨Γ', fo, j⟩ | ⟨Γ', M', se, j⟩
  · exact ⟨Γ', M, A, j, S, L.weak fo, ALn.refl _ _⟩
  · obtain ⟨X', rfl⟩ := se.cut
    exact ⟨Γ', M', _, j, S.trim se.sb, (L.weak se.fo).cut se.eb, take_aln se.n⟩
theorem ale_of_n {n : Nat} {A1 A2 A3 : List Addr} (h1 : ALe A1 A2) (h2 : ALn n A2 A3) (hl : A1.length ≤ n) : ALe A1 A3 := fun k a e => h2 k a (Nat.lt_of_lt_of_le (List.getElem?_eq_some_iff.mp e).1 hl) (h1 k a e)
theorem x_for {tg iter : Expr} {body : List Stmt} (hs : ∀ env x, foldedSetIterable iter env x = pure x)
    (h : EvI G tg iter Γ M (fun xs ok M1 => ∃ J : Nat → Ec → Sto → Prop, J 0 Γ M1 ∧
      (∀ (i : Nat) x Γ' M', xs[i]? = some x → J i Γ' M' → ok M' ∧ EvG (G.at M1.length) tg x Γ' M' (fun Γ2 M2 => ExS (G.at M1.length) body Γ2 M2 { P with nx := Turns M1.length (J (i + 1)), ct := Turns M1.length (J (i + 1)), bk := P.nx })) ∧
      (∀ Γ' M', J xs.length Γ' M' → ok M' ∧ P.nx Γ' M')) (P.rx Γ)) : ExX G (.For tg iter body [] pos) Γ M P := by
  intro A F σ H D S L hn hD
  refine sS_of (fun X hX => ps_for (tb := sSs G body) (g := gS G tg) hX.po hX.calm (pi_S hX tg iter) (pg_S hX tg) (pss_S hX body) (hs _)) ?_
  refine h A F σ H _ S L (fun K xs ok M1 A1 F1 H1 ⟨J, j0, step, fin⟩ S1 a1 f1 jk => ?_) (hD.flies L)
  refine ⟨fun i m σ' H' => m = xs.length - i ∧ i ≤ xs.length ∧ ∃ Γ' M' A' F', J i Γ' M' ∧ StO G.K A' M' F' H' ∧ Sl G.K A' F' Γ' σ' ∧ ALe A1 A' ∧ Same F1 F',
    ⟨xs.length, rfl, Nat.zero_le _, Γ, M1, A1, F1, j0, S1, L.mono a1 f1, ALe.refl _, Same.refl _⟩, ?_⟩
  rintro i m σ' H' ⟨rfl, hi, Γ', M', A', F', ji, S', L', a', f'⟩
  by_cases hlt : i < xs.length
  · have hx : xs[i]? = some xs[i] := List.getElem?_eq_getElem hlt
    obtain ⟨okM, hg⟩ := step i _ Γ' M' hx ji
    obtain ⟨go, yl⟩ := (jk i M' A' F' H' S' a' f' okM).1 _ hx
    refine .inr ⟨go, fun σ3 H3 => xs.length - (i + 1) = xs.length - (i + 1) ∧ i + 1 ≤ xs.length ∧ ∃ Γ' M' A' F', J (i + 1) Γ' M' ∧ StO G.K A' M' F' H3 ∧ Sl G.K A' F' Γ' σ3 ∧ ALe A1 A' ∧ Same F1 F', fun σ3 H3 q => ⟨xs.length - (i + 1), by omega, q⟩, fun v H'' hy => ?_⟩
    obtain ⟨F'', S'', f'', rv⟩ := yl v H'' hy
    refine gS_at (n := M1.length) (hg A' F'' σ' H'' v _ S'' (L'.mono (ALe.refl _) f'') rv fun Γ2 M2 A2 F2 σ2 H2 q S2 L2 a2 f2 => sSs_at (n := M1.length) ?_)
    have a12 : ALe A1 A2 := a'.trans a2
    have f12 : Same F1 F2 := (f'.trans f'').trans f2
    have n12 : M1.length ≤ M2.length := by rw [← S1.len, ← S2.len]; exact a12.len
    have up : ∀ {A3 : List Addr}, ALn M1.length A2 A3 → ALe A1 A3 := fun {A3} a3 => ale_of_n a12 a3 (by rw [S1.len]; exact Nat.le_refl _)
    have turn : ∀ Γ3 M3 A3 F3 σ3 H3, Turns M1.length (J (i + 1)) Γ3 M3 → StO G.K A3 M3 F3 H3 → Sl G.K A3 F3 Γ3 σ3 → ALn M1.length A2 A3 → Same F2 F3 →
        xs.length - (i + 1) = xs.length - (i + 1) ∧ i + 1 ≤ xs.length ∧ ∃ Γ' M' A' F', J (i + 1) Γ' M' ∧ StO G.K A' M' F' H3 ∧ Sl G.K A' F' Γ' σ3 ∧ ALe A1 A' ∧ Same F1 F' := by
      intro Γ3 M3 A3 F3 σ3 H3 tn S3 L3 a3 f3
      obtain ⟨Γ4, M4, A4, j4, S4, L4, a4⟩ := tn.land S3 L3
      exact ⟨rfl, hlt, Γ4, M4, A4, F3, j4, S4, L4, up (a3.trans a4), f12.trans f3⟩
    exact q A2 F2 σ2 H2 _ S2 L2 n12 ⟨turn, fun r M3 A3 F3 H3 v p S3 r3 a3 f3 => hD.rt r M3 A3 F3 H3 v p S3 r3 ((a1.trans (up a3)).n _) (f1.trans (f12.trans f3)),
      fun Γ3 M3 A3 F3 σ3 H3 p S3 L3 a3 f3 => hD.nx Γ3 M3 A3 F3 σ3 H3 p S3 L3 ((a1.trans (up a3)).n _) (f1.trans (f12.trans f3)), turn,
      fun C Γ3 M3 A3 F3 σ3 H3 p S3 L3 a3 f3 => hD.ex C Γ3 M3 A3 F3 σ3 H3 p S3 L3 ((a1.trans (up a3)).n _) (f1.trans (f12.trans f3))⟩
  · have ei : i = xs.length := by omega
    subst ei
    obtain ⟨okM, p⟩ := fin Γ' M' ji
    exact .inl ⟨(jk _ M' A' F' H' S' a' f' okM).2 (Nat.le_refl _), hD.nx Γ' M' A' F' σ' H' p S' L' ((a1.trans a').n _) (f1.trans f')⟩
theorem x_while {c : Expr} {body : List Stmt} (J : Nat → Ec → Sto → Prop) (m0 : Nat) (h0 : J m0 Γ M)
    (h : ∀ m Γ' M', J m Γ' M' → EvT G c Γ' M' (fun b M2 => (b = true → ExS (G.at M.length) body Γ' M2 { P with nx := Turns M.length (fun Γ3 M3 => ∃ m', m' < m ∧ J m' Γ3 M3), ct := Turns M.length (fun Γ3 M3 => ∃ m', m' < m ∧ J m' Γ3 M3), bk := P.nx }) ∧ (b = false → P.nx Γ' M2)) (P.rx Γ')) :
    ExX G (.While c body [] pos) Γ M P := by
  intro A F σ H D S L hn hD
  refine sS_of (fun X hX => ps_while hX.po (pt_S hX c) (pss_S hX body)) ?_
  refine ⟨fun m σ' H' => ∃ Γ' M' A' F', J m Γ' M' ∧ StO G.K A' M' F' H' ∧ Sl G.K A' F' Γ' σ' ∧ ALe A A' ∧ Same F F', ⟨m0, Γ, M, A, F, h0, S, L, ALe.refl _, Same.refl _⟩, ?_⟩
  rintro m σ' H' ⟨Γ', M', A', F', jm, S', L', a', f'⟩
  refine h m Γ' M' jm A' F' σ' H' _ S' L' (fun b M2 A2 F2 H2 q S2 a2 f2 => ?_) ((hD.mono (a'.n _) f').flies L')
  have a12 : ALe A A2 := a'.trans a2
  have f12 : Same F F2 := f'.trans f2
  cases b with
  | false => exact iteF (hD.nx Γ' M2 A2 F2 σ' H2 (q.2 rfl) S2 (L'.mono a2 f2) (a12.n _) f12)
  | true =>
    have n12 : M.length ≤ M2.length := by rw [← S.len, ← S2.len]; exact a12.len
    have up : ∀ {A3 : List Addr}, ALn M.length A2 A3 → ALe A A3 := fun {A3} a3 => ale_of_n a12 a3 (by rw [S.len]; exact Nat.le_refl _)
    have turn : ∀ Γ3 M3 A3 F3 σ3 H3, Turns M.length (fun Γ3 M3 => ∃ m', m' < m ∧ J m' Γ3 M3) Γ3 M3 → StO G.K A3 M3 F3 H3 → Sl G.K A3 F3 Γ3 σ3 → ALn M.length A2 A3 → Same F2 F3 →
        ∃ m', m' < m ∧ ∃ Γ' M' A' F', J m' Γ' M' ∧ StO G.K A' M' F' H3 ∧ Sl G.K A' F' Γ' σ3 ∧ ALe A A' ∧ Same F F' := by
      intro Γ3 M3 A3 F3 σ3 H3 tn S3 L3 a3 f3
      obtain ⟨Γ4, M4, A4, ⟨m', hm, j4⟩, S4, L4, a4⟩ := tn.land S3 L3
      exact ⟨m', hm, Γ4, M4, A4, F3, j4, S4, L4, up (a3.trans a4), f12.trans f3⟩
    refine iteT ⟨fun σ3 H3 => ∃ m', m' < m ∧ ∃ Γ' M' A' F', J m' Γ' M' ∧ StO G.K A' M' F' H3 ∧ Sl G.K A' F' Γ' σ3 ∧ ALe A A' ∧ Same F F', fun σ3 H3 q => q, sSs_at (n := M.length) ?_⟩
    exact q.1 rfl A2 F2 σ' H2 _ S2 (L'.mono a2 f2) n12 ⟨turn, fun r M3 A3 F3 H3 v p S3 r3 a3 f3 => hD.rt r M3 A3 F3 H3 v p S3 r3 ((up a3).n _) (f12.trans f3),
      fun Γ3 M3 A3 F3 σ3 H3 p S3 L3 a3 f3 => hD.nx Γ3 M3 A3 F3 σ3 H3 p S3 L3 ((up a3).n _) (f12.trans f3), turn,
      fun C Γ3 M3 A3 F3 σ3 H3 p S3 L3 a3 f3 => hD.ex C Γ3 M3 A3 F3 σ3 H3 p S3 L3 ((up a3).n _) (f12.trans f3)⟩
end

section
variable {P : Program} {w : World} {K : PySem.W.Frag} {mg : Str → Option Value} {base : Heap}
abbrev defG (P : Program) (w : World) (K : PySem.W.Frag) (mg : Str → Option Value) (base : Heap) (N : List Str) (sc : Scope) (k n : Nat) (W : WX) : Sx :=
  { P := P, w := w, K := K, mg := mg, base := base, N := N, sc := sc, k := k, W := W, fn := fun _ => true, n := n, top := true }
/-- what is handed back, seen over the store as the caller knows it -/
def Backs (n : Nat) (Q : QE) : QE := fun r M => Q r M ∨ ∃ M' L, M = M' ++ L ∧ StoB M'.length M' ∧ ImB M'.length r ∧ n ≤ M'.length ∧ Q r M'
def BacksX (n : Nat) (R : QR) : Addr → Ec → Sto → Prop := fun C _ M => R C M ∨ ∃ M' L, M = M' ++ L ∧ StoB M'.length M' ∧ n ≤ M'.length ∧ R C M'
theorem Backs.land {n : Nat} {Q : QE} {r : Im} {M : Sto} {A : List Addr} {F H : Hp} {v : V} (h : Backs n Q r M) (S : StO K A M F H) (rv : ImR K A F r v) : ∃ M' A', Q r M' ∧ StO K A' M' F H ∧ ImR K A' F r v ∧ ALn n A A' := by
  rcases h with h | ⟨M2, L, rfl, hb2, hr2, hn, q⟩
  · exact ⟨M, A, h, S, rv, ALn.refl _ _⟩
  · exact ⟨M2, _, q, S.trim hb2, ImR.cut hr2 rv, take_aln hn⟩
theorem BacksX.land {n : Nat} {R : QR} {C : Addr} {Γ : Ec} {M : Sto} {A : List Addr} {F H : Hp} (h : BacksX n R C Γ M) (S : StO K A M F H) : ∃ M' A', R C M' ∧ StO K A' M' F H ∧ ALn n A A' := by
  rcases h with h | ⟨M2, L, rfl, hb2, hn, q⟩
  · exact ⟨M, A, h, S, ALn.refl _ _⟩
  · exact ⟨M2, _, q, S.trim hb2, take_aln hn⟩
theorem def_ok {x qual : Str} {st : Stmt} {f : Addr} {fd : FuncData} {N ps : List Str} {k : Nat} {S : DSp} (Fu : Fun K x qual st f fd) (Sc : FnScope N ps (defScope st)) (len : ∀ rs M Q R, S rs M Q R → rs.length = ps.length)
    (body : ∀ (W : WX) rs M Q R, S rs M Q R → StoB M.length M → (∀ r ∈ rs, ImB M.length r) →
      ExS (defG P w K mg base N (defScope st) k M.length W) (defBody st) (rs.map some ++ List.replicate (N.length - rs.length) none) M { nx := fun _ M' => Backs M.length Q (.d .none) M', rt := Backs M.length Q, ex := BacksX M.length R }) :
    FnOk P w K mg base (L2.CX P w) (k + 1) f fd ps (spOf K S) := by
  refine Fu.okX Sc (fun vs H Q E h => ?_) (fun cdv A0 outer s H vs Q E hr h => ?_)
  · obtain ⟨A, M, F, rs, Qd, Rd, S1, r1, hs, _⟩ := h
    rw [← r1.len]
    exact len _ _ _ _ hs
  · obtain ⟨A, M, F, rs, Qd, Rd, S1, r1, hs, hQ, hE⟩ := h
    refine ⟨sSs (defG P w K mg base N (defScope st) k M.length (fun cls d _ H => E cls d H)) (defBody st), pss_S ⟨rfl, rfl, rfl, rfl, rfl, rfl, rfl, Sc.nd, hr, rfl, passes_of (K := fun e s'' => L2.CX P w outer H s E e s'') rfl, takes_of rfl rfl rfl rfl, rfl, fun _ => ⟨rfl, rfl⟩⟩ _, ?_⟩
    have hb := body (fun cls d _ H => E cls d H) rs M Qd Rd hs S1.bd (fun r hr => by obtain ⟨v, q⟩ := paired_left r1 r hr; rw [← S1.len]; exact q.bd)
    have cutA : ∀ {A' : List Addr}, ALn M.length A A' → ALe A A' := fun {A'} a k x e => a k x (by rw [← S1.len]; exact (List.getElem?_eq_some_iff.mp e).1) e
    refine hb A F (L2.start N vs) H _ S1 ?_ (Nat.le_refl _) ⟨?_, ?_, fun _ _ _ _ _ _ q => q.elim, fun _ _ _ _ _ _ q => q.elim, ?_⟩
    · refine ⟨by simp [L2.start, r1.len], fun i r e => ?_⟩
      have hi : i < rs.length := by
        by_cases h : i < rs.length
        · exact h
        · rw [List.getElem?_append_right (by simpa using h)] at e
          have := List.mem_of_getElem? e
          simp at this
      rw [List.getElem?_append_left (by simpa using hi), List.getElem?_map] at e
      obtain ⟨q, hq, e⟩ := Option.map_eq_some_iff.mp e
      cases e
      obtain ⟨v, hv, rv⟩ := paired_get r1 hq
      refine ⟨v, ?_, rv⟩
      unfold L2.start
      rw [List.getElem?_append_left (by have := r1.len; simp; omega), List.getElem?_map, hv]
      rfl
    · intro Γ' M' A' F' σ' H' q S' L' a f
      obtain ⟨M2, A2, q, S2, r2, a2⟩ := q.land S' (v := .non) Dp.non
      exact hQ _ M2 A2 F' H' .non q S2 (cutA (a.trans a2)) f r2
    · intro r M' A' F' H' v q S' rv a f
      obtain ⟨M2, A2, q, S2, r2, a2⟩ := q.land S' rv
      exact hQ r M2 A2 F' H' v q S2 (cutA (a.trans a2)) f r2
    · intro C Γ' M' A' F' σ' H' q S' L' a f
      obtain ⟨M2, A2, q, S2, a2⟩ := BacksX.land (Γ := Γ') q S'
      exact hE C M2 A2 F' H' q S2 (cutA (a.trans a2)) f
end
end DL

namespace DL
open PySem PySem.Spec PyProof.Rows L2

section
variable {G : Sx} {A : List Addr} {F H : Hp} {M : Sto} {Q : QE} {Qv : VK}
theorem goes_frz (S : StO G.K A M F H) (hQ : Goes G A F Q Qv) : Goes G A F (fun r M1 => ∃ ds : List Dt, r = .p M.length ∧ M1 = M ++ [.lst (ds.map .d)] ∧ Q (.d (.list ds)) M) Qv := by
  rintro r M1 A1 F1 H1 v ⟨ds, rfl, rfl, q⟩ S1 a1 f1 ⟨p, e, rfl⟩
  obtain ⟨hF, vs, hH, rs⟩ := S1.cel _ _ (.lst (ds.map .d)) e (by simp)
  have S2 := S1.freeze e hF hH
  rw [show (M ++ [Cel.lst (ds.map Im.d)]).set M.length .dead = M ++ [.dead] by rw [List.set_append_right _ _ (Nat.le_refl _)]; simp] at S2
  have S3 := S2.trim S.bd
  exact hQ _ M _ _ _ _ q S3 (fun k a e => by
    rw [List.getElem?_take, if_pos (by rw [← S.len]; exact (List.getElem?_eq_some_iff.mp e).1)]
    exact a1 k a e) (f1.trans (same_updF hF)) (dp_lst (dpAll_of rs) hF)
end
/-- a name's cell turned into data -/
def fzI (k : Nat) (x : Dt) : Im → Im
  | .d y => .d y
  | .p j => if j = k then .d x else .p j
theorem fzI_same (k : Nat) (x : Dt) : fzI k x (.p k) = .d x := by simp [fzI]
theorem fzI_ne {k j : Nat} (x : Dt) (h : ¬ j = k) : fzI k x (.p j) = .p j := by simp [fzI, h]
def fzE (k : Nat) (x : Dt) (Γ : Ec) : Ec := Γ.map fun o => o.map (fzI k x)
section
variable {G : Sx} {Γ : Ec} {M : Sto} {P : Pst} {sts : List Stmt} {R : QR} {Q : QE} {e : Expr}
theorem sl_fz {A : List Addr} {F H : Hp} {σ : L2.St} {k : Nat} {ds : List Dt} (S : StO G.K A M F H) (L : Sl G.K A F Γ σ) (hk : M[k]? = some (.lst (ds.map .d))) :
    ∃ a vs, A[k]? = some a ∧ F a = none ∧ H a = some (.lst vs) ∧ Sl G.K A (upd F a (.lst vs)) (fzE k (.list ds) Γ) σ := by
  have hl : k < A.length := by rw [S.len]; exact (List.getElem?_eq_some_iff.mp hk).1
  have ha : A[k]? = some A[k] := List.getElem?_eq_getElem hl
  obtain ⟨hF, vs, hH, rs⟩ := S.cel _ _ _ ha hk
  refine ⟨A[k], vs, ha, hF, hH, ⟨by simp [fzE, L.1], fun i r e => ?_⟩⟩
  unfold fzE at e
  rw [List.getElem?_map] at e
  obtain ⟨o, ho, e⟩ := Option.map_eq_some_iff.mp e
  cases o with
  | none => cases e
  | some r0 =>
    cases e
    obtain ⟨v, e1, r1⟩ := L.2 i r0 ho
    refine ⟨v, e1, ?_⟩
    cases r0 with
    | d y => exact Dp.mono (same_updF hF) y v r1
    | p j =>
      obtain ⟨b, eb, rfl⟩ := r1
      by_cases hj : j = k
      · subst hj
        rw [fzI_same]
        rw [ha] at eb; cases eb
        exact dp_lst (dpAll_of rs) hF
      · rw [fzI_ne _ hj]
        exact ⟨b, eb, rfl⟩
/-- from here on the cell k is data -/
theorem xs_fz (k : Nat) (ds : List Dt) (hk : M[k]? = some (.lst (ds.map .d))) (h : ExS G sts (fzE k (.list ds) Γ) (M.set k .dead) P) : ExS G sts Γ M P := fun A F σ H D S L hn hD => by
  obtain ⟨a, vs, ha, hF, hH, L'⟩ := sl_fz S L hk
  exact h A _ σ H D (S.freeze ha hF hH) L' (by simpa using hn) (hD.mono (ALn.refl _ _) (same_updF hF))
theorem x_fz {st : Stmt} (k : Nat) (ds : List Dt) (hk : M[k]? = some (.lst (ds.map .d))) (h : ExX G st (fzE k (.list ds) Γ) (M.set k .dead) P) : ExX G st Γ M P := fun A F σ H D S L hn hD => by
  obtain ⟨a, vs, ha, hF, hH, L'⟩ := sl_fz S L hk
  exact h A _ σ H D (S.freeze ha hF hH) L' (by simpa using hn) (hD.mono (ALn.refl _ _) (same_updF hF))
end
theorem AsL.app {M L : Sto} {r : Im} {xs : List Im} (h : AsL M r xs) : AsL (M ++ L) r xs := by
  cases h with
  | d ds => exact .d ds
  | p h => exact .p (by rw [List.getElem?_append_left (List.getElem?_eq_some_iff.mp h).1]; exact h)
theorem AsD.app {M L : Sto} {r : Im} {x : Dt} (h : AsD M r x) : AsD (M ++ L) r x := by
  cases h with
  | d ds => exact .d _
  | p h => exact .p (by rw [List.getElem?_append_left (List.getElem?_eq_some_iff.mp h).1]; exact h)
theorem map_d_inj : ∀ {ds es : List Dt}, ds.map Im.d = es.map Im.d → ds = es
  | [], [], _ => rfl
  | [], _ :: _, h => by simp at h
  | _ :: _, [], h => by simp at h
  | d :: ds, e :: es, h => by
    rw [List.map_cons, List.map_cons] at h
    injection h with h1 h2
    injection h1 with h1
    rw [h1, map_d_inj h2]
theorem AsL.asD {M : Sto} {r : Im} {ds : List Dt} (h : AsL M r (ds.map .d)) : AsD M r (.list ds) := by
  generalize e : ds.map Im.d = xs at h
  cases h with
  | d ds' =>
    have : ds = ds' := map_d_inj e
    subst this; exact .d _
  | p h => subst e; exact .p h

def wipeE (Γ : Ec) : List Nat → Ec
  | [] => Γ
  | v :: vs => (wipeE Γ vs).set v none
theorem Sl.unset {K : PySem.W.Frag} {A : List Addr} {F : Hp} {Γ : Ec} {σ : L2.St} (L : Sl K A F Γ σ) (i : Nat) : Sl K A F (Γ.set i none) (σ.set i none) := by
  refine ⟨by simp [L.1], fun j r e => ?_⟩
  by_cases hj : i = j
  · subst hj
    have := List.mem_of_getElem? e
    have hi : i < Γ.length := by
      have := (List.getElem?_eq_some_iff.mp e).1
      simpa using this
    rw [List.getElem?_set_self hi] at e
    cases e
  · rw [List.getElem?_set_ne hj] at e
    obtain ⟨v, h1, h2⟩ := L.2 j r e
    exact ⟨v, by rw [List.getElem?_set_ne hj]; exact h1, h2⟩
theorem Sl.wipe {K : PySem.W.Frag} {A : List Addr} {F : Hp} {Γ : Ec} {σ : L2.St} (L : Sl K A F Γ σ) : ∀ vs : List Nat, Sl K A F (wipeE Γ vs) (L2.wipe σ vs)
  | [] => L
  | v :: vs => (Sl.wipe L vs).unset v
theorem wipe_set {x : Option V} {i : Nat} : ∀ {vs : List Nat} {σ : L2.St}, i ∈ vs → L2.wipe (σ.set i x) vs = L2.wipe σ vs
  | v :: vs, σ, h => by
    by_cases hv : i ∈ vs
    · unfold L2.wipe; rw [wipe_set hv]
    · have e : i = v := by rcases List.mem_cons.mp h with z | z; exact z; exact absurd z hv
      subst e
      have out : ∀ vs : List Nat, i ∉ vs → L2.wipe (σ.set i x) vs = (L2.wipe σ vs).set i x := by
        intro vs
        induction vs with
        | nil => intro _; rfl
        | cons w ws ih =>
          intro hn
          have h1 : i ∉ ws := fun z => hn (List.mem_cons_of_mem _ z)
          have h2 : i ≠ w := fun z => hn (by rw [z]; exact List.mem_cons_self)
          unfold L2.wipe
          rw [ih h1, List.set_comm _ _ h2]
      unfold L2.wipe
      rw [out vs hv, List.set_set]
theorem wipe_idem (σ : L2.St) : ∀ vs : List Nat, L2.wipe (L2.wipe σ vs) vs = L2.wipe σ vs := by
  have h : ∀ vs ws : List Nat, (∀ v ∈ vs, v ∈ ws) → L2.wipe (L2.wipe σ vs) ws = L2.wipe σ ws := by
    intro vs
    induction vs with
    | nil => intro ws _; rfl
    | cons v vs ih =>
      intro ws h
      show L2.wipe ((L2.wipe σ vs).set v none) ws = _
      rw [wipe_set (h v List.mem_cons_self)]
      exact ih ws fun w hw => h w (List.mem_cons_of_mem _ hw)
  exact fun vs => h vs vs fun _ h => h
/-- a block's context -/
abbrev Sx.blk (G : Sx) (scope : Scope) : Sx := { G with sc := L2.relS scope G.sc, W := fun _ _ _ _ => False, fn := fun x => scope.names.lookup x == some .cell, top := false }
theorem Sx.Has.blk {G : Sx} {X : Cx} (h : G.Has X) (s : Shared) (H : Hp) (scope : Scope) (C : Addr) (cl : List (Str × Addr)) (fp : List Addr) : (G.blk scope).Has (X.blk s H scope (compEnvC scope cl C X.env) fp) :=
  ⟨h.prog, h.w, h.K, h.mg, h.base, h.N, by show L2.relS scope X.env.scope = L2.relS scope G.sc; rw [h.sc], h.nd, h.room, h.calm, PassesOwn.never, takes0, rfl, fun z => nomatch z⟩
/-- a target of names of a block -/
def TgOk (G : Sx) (tg : Expr) (vs : List Nat) (T : Im → Ec → (Ec → Prop) → Prop) : Prop :=
  (∀ r Γ (Qd Qd' : Ec → Prop), (∀ Γ', Qd Γ' → Qd' Γ') → T r Γ Qd → T r Γ Qd') ∧ ∃ g : TG, (∀ X, G.Has X → PG X tg g) ∧ ∀ r Γ Qd A M F σ H v (Qv : L2.St → Hp → Prop), T r Γ Qd → StO G.K A M F H → Sl G.K A F Γ σ → ImR G.K A F r v →
    (∀ Γ' σ', Qd Γ' → Sl G.K A F Γ' σ' → L2.wipe σ' vs = L2.wipe σ vs → Qv σ' H) → g v σ H Qv
theorem tg_name {G : Sx} {i : Nat} {x : Str} {pos : Pos} {vs : List Nat} (hi : G.N[i]? = some x) (hx : Loc G.sc x) (hf : G.fn x = true ∨ G.sc.names.lookup x = some .local) (hv : i ∈ vs) : TgOk G (.Name x pos) vs (fun r Γ Qd => Qd (Γ.set i (some r))) :=
  ⟨fun _ _ _ _ h q => h _ q, gName i, fun X hX => pg_name hX.nd (by rw [hX.N]; exact hi) (by rw [hX.sc]; exact hx) (by rw [hX.fn, hX.sc]; exact hf), fun r Γ Qd A M F σ H v Qv q S L rv hQ => hQ _ _ q (L.set rv i) (wipe_set hv)⟩
/-- a clause's tests -/
def EvTs (G : Sx) (tt : TT) (Γ : Ec) (M : Sto) (Q : Bool → Sto → Prop) : Prop :=
  ∀ A F σ H (Qv : Bool → Hp → Prop), StO G.K A M F H → Sl G.K A F Γ σ → (∀ b M' A' F' H', Q b M' → StO G.K A' M' F' H' → ALe A A' → Same F F' → Qv b H') → tt σ H Qv
abbrev NoX : QR := fun _ _ => False
theorem evts_nil {G : Sx} {Γ : Ec} {M : Sto} {Q : Bool → Sto → Prop} (h : Q true M) : EvTs G tYes Γ M Q := fun A F σ H Qv S L hQ => hQ true M A F H h S (ALe.refl _) (Same.refl _)
theorem evts_one {G : Sx} {c : Expr} {Γ : Ec} {M : Sto} {Q : Bool → Sto → Prop} (h : EvT G c Γ M Q NoX) : EvTs G (tST G c) Γ M Q := fun A F σ H Qv S L hQ => h A F σ H Qv S L hQ fun _ _ _ _ _ q => q.elim
def TurnsM (n : Nat) (J : Sto → Prop) : Sto → Prop := fun M => J M ∨ ∃ M' L, M = M' ++ L ∧ StoB M'.length M' ∧ n ≤ M'.length ∧ J M'
theorem TurnsM.land {K : PySem.W.Frag} {n : Nat} {J : Sto → Prop} {M : Sto} {A : List Addr} {F H : Hp} (h : TurnsM n J M) (S : StO K A M F H) : ∃ M' A', J M' ∧ StO K A' M' F H ∧ ALn n A A' := by
  rcases h with h | ⟨M2, L, rfl, hb2, hn, q⟩
  · exact ⟨M, A, h, S, ALn.refl _ _⟩
  · exact ⟨M2, _, q, S.trim hb2, take_aln hn⟩
section
variable {G : Sx} {Γ : Ec} {M : Sto} {R : QR} {Q : QE} {elt tg iter : Expr} {ifs : List Expr} {scope : Scope} {pos : Pos} {own : List (Str × Nat)} {T : Im → Ec → (Ec → Prop) → Prop} {tt : TT}
theorem lc_core {g : TG} (hgd : ∀ r Γ Qd A M F σ H v (Qv : L2.St → Hp → Prop), T r Γ Qd → StO G.K A M F H → Sl G.K A F Γ σ → ImR G.K A F r v →
      (∀ Γ' σ', Qd Γ' → Sl G.K A F Γ' σ' → L2.wipe σ' (own.map (·.2)) = L2.wipe σ (own.map (·.2)) → Qv σ' H) → g v σ H Qv)
    (h : EvI G tg iter Γ M (fun xs ok M1 => ∃ J : Nat → Sto → Prop, J 0 (M1 ++ [.lst []]) ∧
      (∀ (i : Nat) x M', xs[i]? = some x → J i M' → ok M' ∧ T x (wipeE Γ (own.map (·.2))) (fun Γ2 => EvTs (G.blk scope) tt Γ2 M' (fun b M2 =>
        (b = true → EvX (G.blk scope) elt Γ2 M2 (fun y M3 => ∃ acc, M3[M1.length]? = some (.lst acc) ∧ acc.length < sizeLine ∧ TurnsM (M1.length + 1) (J (i + 1)) (M3.set M1.length (.lst (acc ++ [y])))) NoX) ∧
        (b = false → TurnsM (M1.length + 1) (J (i + 1)) M2)))) ∧
      (∀ M', J xs.length M' → ok M' ∧ Q (.p M1.length) M')) R)
    {A : List Addr} {F : Hp} {σ : L2.St} {H : Hp} {Qv : VK} (S : StO G.K A M F H) (L : Sl G.K A F Γ σ) (hQ : Goes G A F Q Qv) (hR : Flies G A F R σ) :
    tLc (iS G tg iter) g tt (tS (G.blk scope) elt) (own.map (·.2)) σ H Qv := by
  refine h A F σ H _ S L (fun K xs ok M1 A1 F1 H1 ⟨J, j0, step, fin⟩ S1 a1 f1 jk => ?_) hR
  intro D hD
  have SD := cell_lst S1 hD (vs := []) (xs := []) .nil
  have aD : ALe A1 (A1 ++ [D]) := ALe.app _ _
  have kD : (A1 ++ [D])[M1.length]? = some D := by rw [← S1.len]; simp
  refine ⟨fun i m H' => m = xs.length - i ∧ i ≤ xs.length ∧ ∃ M' A' F', J i M' ∧ StO G.K A' M' F' H' ∧ ALe (A1 ++ [D]) A' ∧ Same F1 F',
    ⟨xs.length, rfl, Nat.zero_le _, _, _, F1, j0, SD, ALe.refl _, Same.refl _⟩, ?_⟩
  rintro i m H' ⟨rfl, hi, M', A', F', ji, S', a', f'⟩
  by_cases hlt : i < xs.length
  · have hx : xs[i]? = some xs[i] := List.getElem?_eq_getElem hlt
    obtain ⟨okM, hg⟩ := step i _ M' hx ji
    obtain ⟨go, yl⟩ := (jk i M' A' F' H' S' (aD.trans a') f' okM).1 _ hx
    refine .inr ⟨go, fun H3 => xs.length - (i + 1) = xs.length - (i + 1) ∧ i + 1 ≤ xs.length ∧ ∃ M' A' F', J (i + 1) M' ∧ StO G.K A' M' F' H3 ∧ ALe (A1 ++ [D]) A' ∧ Same F1 F', fun H3 q => ⟨xs.length - (i + 1), by omega, q⟩, fun v H'' hy => ?_⟩
    obtain ⟨F'', S'', f'', rv⟩ := yl v H'' hy
    refine hgd _ _ _ A' M' F'' _ H'' v _ hg S'' ((L.wipe _).mono ((a1.trans aD).trans a') (f1.trans (f'.trans f''))) rv fun Γ2 σ2 q L2' hw => ⟨by rw [hw, wipe_idem], ?_⟩
    have turn : ∀ {A3 : List Addr} {M3 : Sto} {F3 H3 : Hp}, TurnsM (M1.length + 1) (J (i + 1)) M3 → StO G.K A3 M3 F3 H3 → ALe (A1 ++ [D]) A3 → Same F1 F3 →
        xs.length - (i + 1) = xs.length - (i + 1) ∧ i + 1 ≤ xs.length ∧ ∃ M' A' F', J (i + 1) M' ∧ StO G.K A' M' F' H3 ∧ ALe (A1 ++ [D]) A' ∧ Same F1 F' := by
      intro A3 M3 F3 H3 tn S3 a3 f3
      obtain ⟨M4, A4, j4, S4, a4⟩ := tn.land S3
      exact ⟨rfl, hlt, M4, A4, F3, j4, S4, ale_of_n a3 a4 (by simp [S1.len]), f3⟩
    refine q A' F'' σ2 H'' _ S'' L2' fun b M2 A2 F2 H2 q2 S2 a2 f2 => ?_
    have a02 := a'.trans a2
    have f02 := (f'.trans f'').trans f2
    cases b with
    | false => exact iteF (turn (q2.2 rfl) S2 a02 f02)
    | true =>
      refine iteT (q2.1 rfl A2 F2 σ2 H2 _ S2 (L2'.mono a2 f2) (fun y M3 A3 F3 H3 yv q3 S3 a3 f3 ry => ?_) fun _ _ _ _ _ q => q.elim)
      obtain ⟨acc, hacc, hz, tn⟩ := q3
      have k3 : A3[M1.length]? = some D := (a02.trans a3) _ _ kD
      obtain ⟨hF, vs, hH, rs⟩ := S3.cel _ _ (.lst acc) k3 hacc
      refine ⟨vs, hH, by rw [← rs.len]; exact hz, turn tn (S3.write k3 hF ⟨hF, vs ++ [yv], upd_same, rs.app (.cons ry .nil)⟩) (a02.trans a3) (f02.trans f3)⟩
  · have ei : i = xs.length := by omega
    subst ei
    obtain ⟨okM, p⟩ := fin M' ji
    exact .inl ⟨(jk _ M' A' F' H' S' (aD.trans a') f' okM).2 (Nat.le_refl _), hQ _ M' A' F' H' _ p S' ((a1.trans aD).trans a') (f1.trans f') ⟨D, a' _ _ kD, rfl⟩⟩
end
end DL

namespace DL
open PySem PySem.Spec PyProof.Rows L2

section
variable {G : Sx} {Γ : Ec} {M : Sto} {R : QR} {Q : QE} {P : Pst} {elt tg iter c : Expr} {ifs : List Expr} {scope : Scope} {pos spos py : Pos} {own : List (Str × Nat)} {T : Im → Ec → (Ec → Prop) → Prop} {tt : TT}
/-- a comprehension, with a store of its own -/
abbrev LcH (G : Sx) (elt tg iter : Expr) (scope : Scope) (own : List (Str × Nat)) (T : Im → Ec → (Ec → Prop) → Prop) (tt : TT) (Γ : Ec) (M : Sto) (Q : QE) (R : QR) : Prop :=
  EvI G tg iter Γ M (fun xs ok M1 => ∃ J : Nat → Sto → Prop, J 0 (M1 ++ [.lst []]) ∧
      (∀ (i : Nat) x M', xs[i]? = some x → J i M' → ok M' ∧ T x (wipeE Γ (own.map (·.2))) (fun Γ2 => EvTs (G.blk scope) tt Γ2 M' (fun b M2 =>
        (b = true → EvX (G.blk scope) elt Γ2 M2 (fun y M3 => ∃ acc, M3[M1.length]? = some (.lst acc) ∧ acc.length < sizeLine ∧ TurnsM (M1.length + 1) (J (i + 1)) (M3.set M1.length (.lst (acc ++ [y])))) NoX) ∧
        (b = false → TurnsM (M1.length + 1) (J (i + 1)) M2)))) ∧
      (∀ M', J xs.length M' → ok M' ∧ Q (.p M1.length) M')) R
theorem ev_lc (ok : blkC G.N G.sc scope own = true) (Tg : TgOk (G.blk scope) tg (own.map (·.2)) T) (hs : ∀ env x, foldedSetIterable iter env x = pure x) (h : LcH G elt tg iter scope own T tYes Γ M Q R) :
    EvX G (.ListComp elt [⟨tg, iter, [], 0⟩] scope pos) Γ M Q R := by
  obtain ⟨_, g, hg, hgd⟩ := Tg
  intro A F σ H Qv S L hQ hR
  exact tS_of (fun X hX => pe_lc (own := own) hX.calm hX.nd (pi_S hX tg iter) (by rw [hX.N, hX.sc]; exact blkOk_by ok) (fun s H C cl fp => hg _ (hX.blk s H scope C cl fp)) (fun _ _ _ _ _ => pts_nil) (fun s H C cl fp => pe_S (hX.blk s H scope C cl fp) elt) (hs _)) (lc_core (G := G) hgd h S L hQ hR)
theorem ev_lcf (ok : blkC G.N G.sc scope own = true) (Tg : TgOk (G.blk scope) tg (own.map (·.2)) T) (hs : ∀ env x, foldedSetIterable iter env x = pure x) (h : LcH G elt tg iter scope own T (tST (G.blk scope) c) Γ M Q R) :
    EvX G (.ListComp elt [⟨tg, iter, [c], 0⟩] scope pos) Γ M Q R := by
  obtain ⟨_, g, hg, hgd⟩ := Tg
  intro A F σ H Qv S L hQ hR
  exact tS_of (fun X hX => pe_lc (own := own) hX.calm hX.nd (pi_S hX tg iter) (by rw [hX.N, hX.sc]; exact blkOk_by ok) (fun s H C cl fp => hg _ (hX.blk s H scope C cl fp)) (fun s H C cl fp => pts_one (pt_S (hX.blk s H scope C cl fp) c)) (fun s H C cl fp => pe_S (hX.blk s H scope C cl fp) elt) (hs _)) (lc_core (G := G) hgd h S L hQ hR)
/-- name = [..] -/
theorem x_lc {i : Nat} {y : Str} (hi : G.N[i]? = some y) (hyl : G.sc.names.lookup y = some .local) (hsw : ∀ env : Env, env.scope = G.sc → swapsWith (.ListComp elt [⟨tg, iter, [], 0⟩] scope pos) (some (.Name y py)) spos.line env = pure true)
    (ok : blkC G.N G.sc scope own = true) (Tg : TgOk (G.blk scope) tg (own.map (·.2)) T) (hs : ∀ env x, foldedSetIterable iter env x = pure x) (h : LcH G elt tg iter scope own T tYes Γ M (fun r M1 => P.nx (Γ.set i (some r)) M1) (P.rx Γ)) :
    ExX G (.Assign [.Name y py] (.ListComp elt [⟨tg, iter, [], 0⟩] scope pos) spos) Γ M P := by
  obtain ⟨_, g, hg, hgd⟩ := Tg
  intro A F σ H D S L hn hD
  exact sS_of (fun X hX => ps_setLc (own := own) hX.calm hX.nd (by rw [hX.N]; exact hi) (by rw [hX.sc]; exact hyl) (hsw _ hX.sc) (pi_S hX tg iter) (by rw [hX.N, hX.sc]; exact blkOk_by ok) (fun s H C cl fp => hg _ (hX.blk s H scope C cl fp)) (fun _ _ _ _ _ => pts_nil) (fun s H C cl fp => pe_S (hX.blk s H scope C cl fp) elt) (hs _))
    (lc_core (G := G) hgd h S L (fun r M1 A1 F1 H1 v q S1 a1 f1 r1 => hD.nx _ M1 A1 F1 _ H1 q S1 ((L.mono a1 f1).set r1 i) (a1.n _) f1) (hD.flies L))
theorem x_lcf {i : Nat} {y : Str} (hi : G.N[i]? = some y) (hyl : G.sc.names.lookup y = some .local) (hsw : ∀ env : Env, env.scope = G.sc → swapsWith (.ListComp elt [⟨tg, iter, [c], 0⟩] scope pos) (some (.Name y py)) spos.line env = pure true)
    (ok : blkC G.N G.sc scope own = true) (Tg : TgOk (G.blk scope) tg (own.map (·.2)) T) (hs : ∀ env x, foldedSetIterable iter env x = pure x) (h : LcH G elt tg iter scope own T (tST (G.blk scope) c) Γ M (fun r M1 => P.nx (Γ.set i (some r)) M1) (P.rx Γ)) :
    ExX G (.Assign [.Name y py] (.ListComp elt [⟨tg, iter, [c], 0⟩] scope pos) spos) Γ M P := by
  obtain ⟨_, g, hg, hgd⟩ := Tg
  intro A F σ H D S L hn hD
  exact sS_of (fun X hX => ps_setLc (own := own) hX.calm hX.nd (by rw [hX.N]; exact hi) (by rw [hX.sc]; exact hyl) (hsw _ hX.sc) (pi_S hX tg iter) (by rw [hX.N, hX.sc]; exact blkOk_by ok) (fun s H C cl fp => hg _ (hX.blk s H scope C cl fp)) (fun s H C cl fp => pts_one (pt_S (hX.blk s H scope C cl fp) c)) (fun s H C cl fp => pe_S (hX.blk s H scope C cl fp) elt) (hs _))
    (lc_core (G := G) hgd h S L (fun r M1 A1 F1 H1 v q S1 a1 f1 r1 => hD.nx _ M1 A1 F1 _ H1 q S1 ((L.mono a1 f1).set r1 i) (a1.n _) f1) (hD.flies L))
theorem sw_lc {elt : Expr} {gs : List Comprehension} {y : Str} {l : Nat} (hk : G.sc.kind = .function) (hy : G.sc.names.lookup y = some .local) (hl : (py.line == pos.line) = true) (ha : (scope.names.any fun (n, k) => n == y && (k == .local || k == .cell)) = false) :
    ∀ env : Env, env.scope = G.sc → swapsWith (.ListComp elt gs scope pos) (some (.Name y py)) l env = pure true := fun env he => sw_true (by rw [he]; exact hk) (by rw [he]; exact hy) hl ha

/-- the comprehension's list as data: each item's value is fI of it, those that pI lets -/
abbrev LcP (G : Sx) (elt tg iter : Expr) (scope : Scope) (own : List (Str × Nat)) (T : Im → Ec → (Ec → Prop) → Prop) (tt : TT) (Γ : Ec) (M : Sto) (Q : QE) (R : QR) : Prop :=
  EvI G tg iter Γ M (fun xs ok M1 => M1 = M ∧ ∃ (fI : Im → Dt) (pI : Im → Bool), xs.length ≤ sizeLine ∧
    (∀ x ∈ xs, ∀ acc, T x (wipeE Γ (own.map (·.2))) (fun Γ2 => EvTs (G.blk scope) tt Γ2 (M ++ [.lst acc]) (fun b M2 => b = pI x ∧ M2 = M ++ [.lst acc] ∧
      (b = true → EvX (G.blk scope) elt Γ2 (M ++ [.lst acc]) (fun y M3 => y = .d (fI x) ∧ M3 = M ++ [.lst acc]) NoX)))) ∧
    (∀ acc, ok (M ++ [.lst acc])) ∧ Q (.d (.list ((xs.filter pI).map fI))) M) R
theorem getLast_app {M : Sto} {c : Cel} : (M ++ [c])[M.length]? = some c := by simp
theorem setLast_app {M : Sto} {c c' : Cel} : (M ++ [c]).set M.length c' = M ++ [c'] := by
  rw [List.set_append_right _ _ (Nat.le_refl _)]; simp
theorem filter_snoc {α : Type} {xs : List α} {p : α → Bool} {i : Nat} {x : α} (h : xs[i]? = some x) : (xs.take (i + 1)).filter p = (xs.take i).filter p ++ (if p x then [x] else []) := by
  rw [List.take_add_one, h, List.filter_append]
  by_cases e : p x = true <;> simp [e]
theorem EvTs.imp {Γ : Ec} {M : Sto} {Q Q' : Bool → Sto → Prop} (h : EvTs G tt Γ M Q) (hq : ∀ b M', Q b M' → Q' b M') : EvTs G tt Γ M Q' := fun A F σ H Qv S L hQ => h A F σ H Qv S L fun b M' A' F' H' q => hQ b M' A' F' H' (hq b M' q)
theorem lc_pure (hm : ∀ r Γ (Qd Qd' : Ec → Prop), (∀ Γ', Qd Γ' → Qd' Γ') → T r Γ Qd → T r Γ Qd') {A : List Addr} {F H : Hp} (S : StO G.K A M F H) (h : LcP G elt tg iter scope own T tt Γ M Q R) :
    LcH G elt tg iter scope own T tt Γ M (fun r M1 => ∃ ds : List Dt, r = .p M.length ∧ M1 = M ++ [.lst (ds.map .d)] ∧ Q (.d (.list ds)) M) R := by
  intro A' F' σ H' Rk S' L hQ hR
  refine h A' F' σ H' Rk S' L (fun J xs ok M1 A1 F1 H1 ⟨e, fI, pI, hz, step, hok, q⟩ => ?_) hR
  subst e
  refine hQ J xs ok _ A1 F1 H1 ⟨fun i M' => M' = M1 ++ [.lst ((((xs.take i).filter pI).map fI).map .d)], by simp, ?_, ?_⟩
  · rintro i x M' hx rfl
    refine ⟨hok _, ?_⟩
    refine hm _ _ _ _ (fun Γ2 h2 => EvTs.imp h2 ?_) (step x (List.mem_of_getElem? hx) ((((xs.take i).filter pI).map fI).map .d))
    rintro b M2 ⟨rfl, rfl, h3⟩
    refine ⟨fun hb1 => (h3 hb1).imp ?_, fun hb1 => ?_⟩
    · rintro y M3 ⟨rfl, rfl⟩
      refine ⟨_, getLast_app, ?_, ?_⟩
      · have hx' := (List.getElem?_eq_some_iff.mp hx).1
        have h4 := List.length_filter_le pI (xs.take i)
        simp only [List.length_map]
        rw [List.length_take] at h4
        omega
      · rw [setLast_app]
        refine .inl ?_
        show M1 ++ _ = M1 ++ _
        rw [filter_snoc hx, hb1]
        simp
    · refine .inl ?_
      show M1 ++ _ = M1 ++ _
      rw [filter_snoc hx, hb1]
      simp
  · rintro M' rfl
    exact ⟨hok _, _, rfl, rfl, by rw [List.take_of_length_le (Nat.le_refl _)]; exact q⟩
theorem ev_lcD (ok : blkC G.N G.sc scope own = true) (Tg : TgOk (G.blk scope) tg (own.map (·.2)) T) (hs : ∀ env x, foldedSetIterable iter env x = pure x) (h : LcP G elt tg iter scope own T tYes Γ M Q R) :
    EvX G (.ListComp elt [⟨tg, iter, [], 0⟩] scope pos) Γ M Q R := fun A F σ H Qv S L hQ hR =>
  ev_lc ok Tg hs (lc_pure Tg.1 S h) A F σ H Qv S L (goes_frz S hQ) hR
theorem ev_lcfD (ok : blkC G.N G.sc scope own = true) (Tg : TgOk (G.blk scope) tg (own.map (·.2)) T) (hs : ∀ env x, foldedSetIterable iter env x = pure x) (h : LcP G elt tg iter scope own T (tST (G.blk scope) c) Γ M Q R) :
    EvX G (.ListComp elt [⟨tg, iter, [c], 0⟩] scope pos) Γ M Q R := fun A F σ H Qv S L hQ hR =>
  ev_lcf ok Tg hs (lc_pure Tg.1 S h) A F σ H Qv S L (goes_frz S hQ) hR
/-- .. of a statement: what is frozen behind it -/
theorem lands_set {A : List Addr} {F : Hp} {D : Ends} {σ : L2.St} {i : Nat} (L : Sl G.K A F Γ σ) (hD : Lands G A F P D) : Goes G A F (fun r M1 => P.nx (Γ.set i (some r)) M1) (fun x H1 => D.nx (σ.set i (some x)) H1) :=
  fun r M1 A1 F1 H1 v q S1 a1 f1 r1 => hD.nx _ M1 A1 F1 _ H1 q S1 ((L.mono a1 f1).set r1 i) (a1.n _) f1
theorem x_lcD {i : Nat} {y : Str} (hi : G.N[i]? = some y) (hyl : G.sc.names.lookup y = some .local) (hsw : ∀ env : Env, env.scope = G.sc → swapsWith (.ListComp elt [⟨tg, iter, [], 0⟩] scope pos) (some (.Name y py)) spos.line env = pure true)
    (ok : blkC G.N G.sc scope own = true) (Tg : TgOk (G.blk scope) tg (own.map (·.2)) T) (hs : ∀ env x, foldedSetIterable iter env x = pure x) (h : LcP G elt tg iter scope own T tYes Γ M (fun r M1 => P.nx (Γ.set i (some r)) M1) (P.rx Γ)) :
    ExX G (.Assign [.Name y py] (.ListComp elt [⟨tg, iter, [], 0⟩] scope pos) spos) Γ M P := by
  obtain ⟨hm, g, hg, hgd⟩ := Tg
  intro A F σ H D S L hn hD
  exact sS_of (fun X hX => ps_setLc (own := own) hX.calm hX.nd (by rw [hX.N]; exact hi) (by rw [hX.sc]; exact hyl) (hsw _ hX.sc) (pi_S hX tg iter) (by rw [hX.N, hX.sc]; exact blkOk_by ok) (fun s H C cl fp => hg _ (hX.blk s H scope C cl fp)) (fun _ _ _ _ _ => pts_nil) (fun s H C cl fp => pe_S (hX.blk s H scope C cl fp) elt) (hs _))
    (lc_core (G := G) hgd (lc_pure hm S h) S L (goes_frz S (lands_set L hD)) (hD.flies L))
theorem x_lcfD {i : Nat} {y : Str} (hi : G.N[i]? = some y) (hyl : G.sc.names.lookup y = some .local) (hsw : ∀ env : Env, env.scope = G.sc → swapsWith (.ListComp elt [⟨tg, iter, [c], 0⟩] scope pos) (some (.Name y py)) spos.line env = pure true)
    (ok : blkC G.N G.sc scope own = true) (Tg : TgOk (G.blk scope) tg (own.map (·.2)) T) (hs : ∀ env x, foldedSetIterable iter env x = pure x) (h : LcP G elt tg iter scope own T (tST (G.blk scope) c) Γ M (fun r M1 => P.nx (Γ.set i (some r)) M1) (P.rx Γ)) :
    ExX G (.Assign [.Name y py] (.ListComp elt [⟨tg, iter, [c], 0⟩] scope pos) spos) Γ M P := by
  obtain ⟨hm, g, hg, hgd⟩ := Tg
  intro A F σ H D S L hn hD
  exact sS_of (fun X hX => ps_setLc (own := own) hX.calm hX.nd (by rw [hX.N]; exact hi) (by rw [hX.sc]; exact hyl) (hsw _ hX.sc) (pi_S hX tg iter) (by rw [hX.N, hX.sc]; exact blkOk_by ok) (fun s H C cl fp => hg _ (hX.blk s H scope C cl fp)) (fun s H C cl fp => pts_one (pt_S (hX.blk s H scope C cl fp) c)) (fun s H C cl fp => pe_S (hX.blk s H scope C cl fp) elt) (hs _))
    (lc_core (G := G) hgd (lc_pure hm S h) S L (goes_frz S (lands_set L hD)) (hD.flies L))
end

section
variable {G : Sx} {Γ : Ec} {M : Sto} {R : QR} {Q : QE} {P : Pst} {o e i : Expr} {pos apos cpos : Pos}
abbrev PlainB (o : Expr) (name : Str) : Prop := ∀ env, attributeBase o name env (eval o env) = eval o env
theorem ev_append (hb : PlainB o "append") (hs : PlainA e []) (hline : (apos.endLine == cpos.line) = true)
    (h : EvX G o Γ M (fun ro M1 => ∃ k xs1, ro = .p k ∧ M1[k]? = some (.lst xs1) ∧ EvX G e Γ M1 (fun re M2 => ∃ xs, M2[k]? = some (.lst xs) ∧ xs.length < sizeLine ∧ Q (.d .none) (M2.set k (.lst (xs ++ [re])))) R) R) :
    EvX G (.Call (.Attribute o "append" apos) [e] [] cpos) Γ M Q R := by
  intro A F σ H Qv S L hQ hR
  refine tS_of (t := tBM G.K "list" rAppend (tS G o) (tCons (tS G e) tNil)) (fun X hX => by
    rw [← hX.K]
    exact pe_bm PySem.F.plainAttrs_list PySem.F.slot_list_append PySem.F.type_list_append mt_append (pe_S hX o) (pa_cons (pe_S hX e) pa_nil (hs _)) (hb _) (by rw [hs]; rfl) hline (hs _) rfl) ?_
  refine h A F σ H _ S L (fun ro M1 A1 F1 H1 v ⟨k, xs1, e1, hk, h2⟩ S1 a1 f1 r1 => ?_) hR
  subst e1
  obtain ⟨a, ea, rfl⟩ := r1
  obtain ⟨hF, vs, hH, rs⟩ := S1.cel k a _ ea hk
  refine ⟨.inl ⟨rfl, _, SqL.of hH⟩, ?_⟩
  refine h2 A1 F1 σ H1 _ S1 (L.mono a1 f1) (fun re M2 A2 F2 H2 w ⟨xs, hk2, hz, q⟩ S2 a2 f2 r2 => ?_) (hR.mono a1 f1)
  obtain ⟨hF2, vs2, hH2, rs2⟩ := S2.cel k a _ (a2 k a ea) hk2
  exact ⟨a, vs2, w, rfl, rfl, hH2, by rw [← rs2.len]; exact hz, hQ _ _ A2 F2 _ _ q (S2.write (a2 k a ea) hF2 ⟨hF2, vs2 ++ [w], upd_same, rs2.app (.cons r2 .nil)⟩) (a1.trans a2) (f1.trans f2) Dp.non⟩
theorem ev_pop (hb : PlainB o "pop") (hline : (apos.endLine == cpos.line) = true)
    (h : EvX G o Γ M (fun ro M1 => ∃ k xs x, ro = .p k ∧ M1[k]? = some (.lst (xs ++ [x])) ∧ Q x (M1.set k (.lst xs))) R) : EvX G (.Call (.Attribute o "pop" apos) [] [] cpos) Γ M Q R := by
  intro A F σ H Qv S L hQ hR
  refine tS_of (t := tBM0 G.K "list" rPop (tS G o)) (fun X hX => by
    rw [← hX.K]
    exact pe_bm0 PySem.F.plainAttrs_list PySem.F.slot_list_pop PySem.F.type_list_pop mt_pop (pe_S hX o) (hb _) hline) ?_
  refine h A F σ H _ S L (fun ro M1 A1 F1 H1 v ⟨k, xs, x, e1, hk, q⟩ S1 a1 f1 r1 => ?_) hR
  subst e1
  obtain ⟨a, ea, rfl⟩ := r1
  obtain ⟨hF, vs, hH, rs⟩ := S1.cel k a _ ea hk
  obtain ⟨y, hy, ry⟩ := paired_get rs (j := xs.length) (x := x) (by simp)
  have hl := rs.len
  simp at hl
  refine ⟨.inl ⟨rfl, _, SqL.of hH⟩, a, vs, y, rfl, rfl, hH, by rw [← hl]; simpa using hy, ?_⟩
  refine hQ _ _ A1 F1 _ _ q (S1.write ea hF ⟨hF, vs.dropLast, upd_same, ?_⟩) a1 f1 ry
  have := rs.take xs.length
  rw [List.take_left] at this
  rw [List.dropLast_eq_take, ← hl]
  simpa using this
/-- o[i] = e -/
theorem x_setItem (ha : ∀ v env, assign (.Subscript o i pos) env v = (do
      let ov ← holding [v] (eval o env)
      let iv ← holding [v, ov] (eval i env)
      standAt pos
      holding [v, ov, iv] (setItem ov iv v)
      release [v, ov, iv] [])) (hs : ∀ env, swapsWithSole [.Subscript o i pos] e cpos.line env = pure false) (hw : ∀ env, swappedStores [.Subscript o i pos] e env = pure none) (h1 : ∀ env, (assignEach [.Subscript o i pos] env).map (·.2) = [assign (.Subscript o i pos) env])
    (h : EvX G e Γ M (fun re M1 => EvX G o Γ M1 (fun ro M2 => EvX G i Γ M2 (fun ri M3 => ∃ k xs z j, ro = .p k ∧ ri = .d (.int z) ∧ M3[k]? = some (.lst xs) ∧ ixN xs.length z = some j ∧ P.nx Γ (M3.set k (.lst (xs.set j re)))) (P.rx Γ)) (P.rx Γ)) (P.rx Γ)) :
    ExX G (.Assign [.Subscript o i pos] e cpos) Γ M P := by
  intro A F σ H D S L hn hD
  refine sS_of (fun X hX => ps_asg (pe_S hX e) (pg_sub (pe_S hX o) (pe_S hX i) set_list (fun v => ha v _)) (hs _) (hw _) (h1 _)) ?_
  refine h A F σ H _ S L (fun re M1 A1 F1 H1 v h2 S1 a1 f1 r1 => ?_) (hD.flies L)
  refine h2 A1 F1 σ H1 _ S1 (L.mono a1 f1) (fun ro M2 A2 F2 H2 w h3 S2 a2 f2 r2 => ?_) ((hD.flies L).mono a1 f1)
  refine h3 A2 F2 σ H2 _ S2 (L.mono (a1.trans a2) (f1.trans f2)) (fun ri M3 A3 F3 H3 z q S3 a3 f3 r3 => ?_) ((hD.flies L).mono (a1.trans a2) (f1.trans f2))
  obtain ⟨k, xs, zi, j, rfl, rfl, hk, hj, q⟩ := q
  obtain ⟨a, ea, rfl⟩ := r2
  cases r3
  obtain ⟨hF, vs, hH, rs⟩ := S3.cel k a _ (a3 k a ea) hk
  have aa := (a1.trans a2).trans a3
  have ff := (f1.trans f2).trans f3
  exact ⟨a, vs, zi, j, rfl, rfl, hH, by rw [← rs.len]; exact hj, hD.nx _ _ A3 F3 _ _ q (S3.write (a3 k a ea) hF ⟨hF, _, upd_same, rs.set (r1.mono (a2.trans a3) (f2.trans f3)) j⟩) (L.mono aa ff) (aa.n _) ff⟩
def tyD : Dt → String
  | .none => "NoneType"
  | .bool _ => "bool"
  | .int _ => "int"
  | .str _ => "str"
  | .list _ => "list"
  | .tuple _ => "tuple"
  | .dict _ => "dict"
inductive TyI (M : Sto) : Im → String → Prop
  | d (x : Dt) : TyI M (.d x) (tyD x)
  | p {k : Nat} {xs : List Im} (h : M[k]? = some (.lst xs)) : TyI M (.p k) "list"
theorem TyI.tyX {A : List Addr} {F H : Hp} {r : Im} {v : V} {T : String} (t : TyI M r T) (S : StO G.K A M F H) (hv : ImR G.K A F r v) : TyX G.K H v (.type T) := by
  cases t with
  | p h =>
    obtain ⟨a, ea, rfl⟩ := hv
    obtain ⟨_, vs, hH, _⟩ := S.cel _ _ _ ea h
    exact .base (.lst hH)
  | d x =>
    cases x with
    | none => cases hv; exact .base .non
    | bool b => cases hv; exact .base (.bl _)
    | int b => cases hv; exact .base (.int _)
    | str b => cases hv; exact .base (.str _)
    | dict b => cases hv
    | list ds =>
      cases hv with
      | lst hs ha =>
        rcases Same.seq S.sub hs with (h | ⟨o, h⟩) | ⟨o, its, n, h, hc, _⟩
        · exact .base (.lst h)
        · exact .base (.frz h)
        · exact .kList h hc
    | tuple ds =>
      cases hv with
      | tup hs ha =>
        rcases Same.seqT S.sub hs with (h | ⟨o, h⟩) | ⟨o, its, n, h, hc, _⟩
        · exact .base (.tup h)
        · exact .fTuple h
        · exact .kTuple h hc
theorem ev_isi {a : Expr} {T : Str} {Tn : String} {p2 p3 : Pos} (hm : G.mg "isinstance" = none) (hg : G.sc.names.lookup ("isinstance" : Str) = some .globalImplicit) (hmT : G.mg T = none) (hgT : G.sc.names.lookup T = some .globalImplicit) (hvT : bootBuiltins T = some (.type Tn))
    (hv : bootBuiltins ("isinstance" : Str) = some (.builtin "isinstance")) (hs : PlainA a [.Name T p3]) (hn : T ≠ "__name__") (hd : (T == ("__debug__" : Str)) = false)
    (h : EvX G a Γ M (fun r M1 => ∃ t b, TyI M1 r t ∧ kitB t Tn = some b ∧ Q (.d (.bool b)) M1) R) : EvX G (.Call (.Name "isinstance" p2) [a, .Name T p3] [] pos) Γ M Q R := by
  intro A F σ H Qv S L hQ hR
  refine tS_of (t := tCB (rIsi G.K) (tCons (tS G a) (tCons (tC (.ty Tn)) tNil))) (fun X hX => by
    rw [← hX.K]
    exact pe_callB call_isi (gl_of hX hg) (by rw [hX.mg]; exact hm) hv (pa_cons (pe_S hX a) (pa_cons (pe_bltn (gl_of hX hgT) (by rw [hX.mg]; exact hmT) hvT rfl hn hd) pa_nil) (hs _)) (by decide) (by decide) (hs _) rfl) ?_
  refine h A F σ H _ S L (fun r M1 A1 F1 H1 v ⟨t, b, ht, hk, q⟩ S1 a1 f1 r1 => ?_) hR
  exact ⟨v, .ty Tn, .type t, .type Tn, b, rfl, .ty _, ht.tyX S1 r1, kit_ty hk, hQ _ M1 A1 F1 H1 _ q S1 a1 f1 (Dp.bl _)⟩
end
end DL

namespace DL
open PySem PySem.Spec PyProof.Rows L2
section
variable {G : Sx} {Γ : Ec} {M : Sto} {R : QR} {Q : QE} {P : Pst} {e a : Expr} {es : List Expr} {pos p2 : Pos} {x : Str}
/-- what a name asks -/
structure NmOk (G : Sx) (Γ : Ec) (i : Nat) (x : Str) (r : Im) : Prop where
  n : G.N[i]? = some x
  g : Γ[i]? = some (some r)
  v : Vis G.sc x
  d : (x == ("__debug__" : Str)) = false
  c : (x == ("__classdict__" : Str)) = false
theorem ev_nm (i : Nat) {r : Im} (s : NmOk G Γ i x r) (hq : Q r M) : EvX G (.Name x pos) Γ M Q R := ev_name hq s.g s.n s.v s.d s.c
structure SeOk (G : Sx) (i : Nat) (x : Str) : Prop where
  n : G.N[i]? = some x
  l : Loc G.sc x
  f : G.fn x = true ∨ G.sc.names.lookup x = some .local
theorem x_st (i : Nat) (s : SeOk G i x) (hs : PlainS e (some (.Name x p2)) pos.line) (h : EvX G e Γ M (fun r M1 => P.nx (Γ.set i (some r)) M1) (P.rx Γ)) : ExX G (.Assign [.Name x p2] e pos) Γ M P := x_set s.n s.l s.f hs h
theorem evg_nm (i : Nat) {r : Im} {Q : Ec → Sto → Prop} (s : SeOk G i x) (h : Q (Γ.set i (some r)) M) : EvG G (.Name x pos) r Γ M Q := evg_name s.n s.l s.f h
theorem turn_now {n : Nat} {J : Ec → Sto → Prop} (Γ' : Ec) (fo : Fo Γ' Γ) (j : J Γ' M) : Turns n J Γ M := .inl ⟨Γ', fo, j⟩
theorem turn_eq {n : Nat} {E : Ec} {P : Sto → Prop} (fo : Fo E Γ) (p : P M) : Turns n (fun Γ' M' => Γ' = E ∧ P M') Γ M := .inl ⟨E, fo, rfl, p⟩
/-- the ways of a statement meet again -/
theorem x_join {st : Stmt} (N : Ec → Sto → Prop) (h : ExX G st Γ M { P with nx := Turns G.n N }) (k : ∀ Γ' M', N Γ' M' → P.nx Γ' M') : ExX G st Γ M P := fun A F σ H D S L hn hD =>
  h A F σ H D S L hn ⟨fun Γ' M' A' F' σ' H' q S' L' a f => by
    obtain ⟨Γ4, M4, A4, j4, S4, L4, a4⟩ := Turns.land q S' L'
    exact hD.nx Γ4 M4 A4 F' σ' H' (k _ _ j4) S4 L4 (a.trans a4) f, hD.rt, hD.bk, hD.ct, hD.ex⟩
/-- a global of the module or a builtin -/
abbrev GlOk (G : Sx) (x : Str) : Prop := G.sc.names.lookup x = some .globalImplicit
theorem backs_last {n : Nat} {Q : QE} {c : Cel} {x : Dt} (hb : StoB M.length M) (hn : n = M.length) (q : Q (.d x) M) : Backs n Q (fzI M.length x (.p M.length)) ((M ++ [c]).set M.length .dead) := by
  subst hn
  rw [fzI_same]
  exact .inr ⟨M, [.dead], setLast_app, hb, trivial, Nat.le_refl _, q⟩
theorem intsL_len (lo : Int) (n : Nat) : (intsL lo n).length = n := by simp [intsL]
end
theorem stoB_nil {n : Nat} : StoB n [] := fun c h => absurd h (by simp)
theorem stoB_cons {n : Nat} {c : Cel} {M : Sto} (h : CelB n c) (h' : StoB n M) : StoB n (c :: M) := fun x hx => by
  rcases List.mem_cons.mp hx with rfl | hx
  · exact h
  · exact h' x hx
theorem celB_ds {n : Nat} (ds : List Dt) : CelB n (.lst (ds.map .d)) := fun x hx => by
  obtain ⟨d, _, rfl⟩ := List.mem_map.mp hx
  trivial
theorem celB_one {n : Nat} (x : Dt) : CelB n (.lst [.d x]) := celB_ds [x]
theorem ecB_nil {n : Nat} : EcB n [] := fun r h => absurd h (by simp)
theorem ecB_none {n : Nat} {Γ : Ec} (h : EcB n Γ) : EcB n (none :: Γ) := fun r hr => by
  rcases List.mem_cons.mp hr with e | hr
  · cases e
  · exact h r hr
theorem ecB_d {n : Nat} {x : Dt} {Γ : Ec} (h : EcB n Γ) : EcB n (some (.d x) :: Γ) := fun r hr => by
  rcases List.mem_cons.mp hr with e | hr
  · cases e; trivial
  · exact h r hr
theorem ecB_p {n k : Nat} {Γ : Ec} (hk : k < n) (h : EcB n Γ) : EcB n (some (.p k) :: Γ) := fun r hr => by
  rcases List.mem_cons.mp hr with e | hr
  · cases e; exact hk
  · exact h r hr
abbrev dI (ns : List Int) : List Dt := ns.map PyData.int
abbrev iI (ns : List Int) : List Im := (dI ns).map Im.d
theorem take_snoc {α : Type} {xs : List α} {i : Nat} {x : α} (h : xs[i]? = some x) : xs.take (i + 1) = xs.take i ++ [x] := by
  rw [List.take_add_one, h]; rfl
theorem iI_get {ns : List Int} {i : Nat} {x : Im} (h : (iI ns)[i]? = some x) : ∃ o, ns[i]? = some o ∧ x = .d (.int o) := by
  simp only [iI, dI, List.getElem?_map] at h
  cases e : ns[i]? with
  | none => rw [e] at h; cases h
  | some o => rw [e] at h; exact ⟨o, rfl, (Option.some.inj h).symm⟩
theorem iI_len (ns : List Int) : (iI ns).length = ns.length := by simp [iI, dI]
theorem dI_len (ns : List Int) : (dI ns).length = ns.length := by simp [dI]
theorem canLay_ints : ∀ ns : List Int, PyData.canLayAll0 (dI ns) = true
  | [] => rfl
  | n :: ns => by
    show (PyData.canLay0 (.int n) && PyData.canLayAll0 (dI ns)) = true
    rw [canLay_ints ns]; rfl
theorem depth_ints : ∀ ns : List Int, PyData.depthAll (dI ns) = 0
  | [] => rfl
  | n :: ns => by
    show max (PyData.depth (.int n)) (PyData.depthAll (dI ns)) = 0
    rw [depth_ints ns]; rfl
theorem shaped_ints (ns : List Int) : SeqAt.shaped (.list (dI ns)) = true := by
  unfold SeqAt.shaped
  have h1 : PyData.canLay0 (.list (dI ns)) = true := canLay_ints ns
  have h2 : PyData.depth (.list (dI ns)) = 1 := by show PyData.depthAll (dI ns) + 1 = 1; rw [depth_ints]
  rw [h1, h2]; rfl
theorem eqv_refl_sh {d : Dt} (h : SeqAt.shaped d = true) : PyData.eqv d d = true := SeqAt.eqv_refl d (SeqAt.canLay_of_shaped h)
theorem eqvAll_ints : ∀ ns ms : List Int, PyData.eqvAll (dI ns) (dI ms) = decide (ns = ms)
  | [], [] => rfl
  | [], _ :: _ => rfl
  | _ :: _, [] => rfl
  | n :: ns, m :: ms => by
    show (PyData.eqv (.int n) (.int m) && PyData.eqvAll (dI ns) (dI ms)) = _
    rw [eqvAll_ints ns ms]
    show ((n == m) && decide (ns = ms)) = _
    by_cases h : n = m
    · subst h; simp
    · simp [h]
theorem eqv_ints (ns ms : List Int) : PyData.eqv (.list (dI ns)) (.list (dI ms)) = decide (ns = ms) := eqvAll_ints ns ms
end DL

namespace DL
open PySem PySem.Spec PyProof.Rows L2
theorem dpAll_ints {K : PySem.W.Frag} {H : Hp} : ∀ ns : List Int, DpAll K H (ns.map V.int) (dI ns)
  | [] => .nil
  | n :: ns => .cons (.int n) (dpAll_ints ns)
theorem bits_lt {z : Int} {b : Nat} (h : Builtin.Int.intBits z ≤ b) : z.natAbs < 2 ^ b := by
  unfold Builtin.Int.intBits at h
  split at h
  · rename_i h0
    have : z = 0 := by simpa using h0
    subst this
    exact Nat.pow_pos (by decide)
  · exact Nat.lt_of_lt_of_le Nat.lt_log2_self (Nat.pow_le_pow_right (by decide) h)
/-- the law's promise, from data -/
theorem law_sp {K : PySem.W.Frag} {S : DSp} {H : Hp} {a : Addr} {ns : List Int} (hS : SqL K H a (ns.map V.int)) (h : S [.d (.list (dI ns))] [] (fun r _ => r = .d (.bool true)) (fun _ _ => False)) :
    spOf K S [.ref a] H (fun v _ => v = .bl true) (fun _ _ _ => False) :=
  ⟨[], [], H, [.d (.list (dI ns))], fun r _ => r = .d (.bool true), fun _ _ => False,
    ⟨Same.refl _, rfl, List.nodup_nil, fun a h => absurd h (by simp), fun k a c h => absurd h (by simp)⟩, .cons (Dp.lst hS (dpAll_ints ns)) .nil, h,
    fun r M' A' F' H' v q S a f rv => by subst q; cases rv; rfl, fun C M' A' F' H' q => q.elim⟩
theorem cx_none {P : Program} {w : World} {H : Hp} {s : Shared} {e : Value} {s' : Shared} (h : L2.CX P w [] H s (fun _ _ _ => False) e s') : False := by
  obtain ⟨_, _, _, _, _, _, _, _, _, _, _, _, z⟩ := h
  exact z
theorem defAt_mk {P : Program} {w : World} {K : PySem.W.Frag} {mg : Str → Option Value} {base : Heap} {k : Nat} {x : Str} {ps : List Str} {S : DSp} {f : Addr} {fd : FuncData} (h : FnOk P w K mg base (L2.CX P w) k f fd ps (spOf K S)) (m : mg x = some (.ref f)) (kp : PySem.W.keepIn K (.ref f) = true) (b : Binds K fd ps []) : DefAt P w K mg base k x ps S := ⟨f, fd, h, m, kp, b⟩
end DL

open PySem PySem.Spec PyProof.Rows L2 DL
local macro_rules | `(tactic| walk_at "vis") => `(tactic| first | exact Or.inl rfl | exact Or.inr (Or.inl rfl) | exact Or.inr (Or.inr rfl) | exact Or.inr rfl)
local macro_rules | `(tactic| walk_at "pl") => `(tactic| first | exact fun _ => rfl | exact fun _ _ => rfl | rfl | assumption)
local macro_rules | `(tactic| walk_at "nm") => `(tactic| first | ((with_reducible refine' ev_nm 0 ?s ?_); (case s => exact ⟨rfl, rfl, by walk_at "vis", by decide, by decide⟩)) | ((with_reducible refine' ev_nm 1 ?s ?_); (case s => exact ⟨rfl, rfl, by walk_at "vis", by decide, by decide⟩)) | ((with_reducible refine' ev_nm 2 ?s ?_); (case s => exact ⟨rfl, rfl, by walk_at "vis", by decide, by decide⟩)) | ((with_reducible refine' ev_nm 3 ?s ?_); (case s => exact ⟨rfl, rfl, by walk_at "vis", by decide, by decide⟩)) | ((with_reducible refine' ev_nm 4 ?s ?_); (case s => exact ⟨rfl, rfl, by walk_at "vis", by decide, by decide⟩)) | ((with_reducible refine' ev_nm 5 ?s ?_); (case s => exact ⟨rfl, rfl, by walk_at "vis", by decide, by decide⟩)) | ((with_reducible refine' ev_nm 6 ?s ?_); (case s => exact ⟨rfl, rfl, by walk_at "vis", by decide, by decide⟩)) | ((with_reducible refine' ev_nm 7 ?s ?_); (case s => exact ⟨rfl, rfl, by walk_at "vis", by decide, by decide⟩)) | ((with_reducible refine' ev_nm 8 ?s ?_); (case s => exact ⟨rfl, rfl, by walk_at "vis", by decide, by decide⟩)) | ((with_reducible refine' ev_nm 9 ?s ?_); (case s => exact ⟨rfl, rfl, by walk_at "vis", by decide, by decide⟩)) | ((with_reducible refine' ev_nm 10 ?s ?_); (case s => exact ⟨rfl, rfl, by walk_at "vis", by decide, by decide⟩)) | ((with_reducible refine' ev_nm 11 ?s ?_); (case s => exact ⟨rfl, rfl, by walk_at "vis", by decide, by decide⟩)) | ((with_reducible refine' ev_nm 12 ?s ?_); (case s => exact ⟨rfl, rfl, by walk_at "vis", by decide, by decide⟩)) | ((with_reducible refine' ev_nm 13 ?s ?_); (case s => exact ⟨rfl, rfl, by walk_at "vis", by decide, by decide⟩)) | ((with_reducible refine' ev_nm 14 ?s ?_); (case s => exact ⟨rfl, rfl, by walk_at "vis", by decide, by decide⟩)) | ((with_reducible refine' ev_nm 15 ?s ?_); (case s => exact ⟨rfl, rfl, by walk_at "vis", by decide, by decide⟩)) | ((with_reducible refine' ev_nm 16 ?s ?_); (case s => exact ⟨rfl, rfl, by walk_at "vis", by decide, by decide⟩)) | ((with_reducible refine' ev_nm 17 ?s ?_); (case s => exact ⟨rfl, rfl, by walk_at "vis", by decide, by decide⟩)) | ((with_reducible refine' ev_nm 18 ?s ?_); (case s => exact ⟨rfl, rfl, by walk_at "vis", by decide, by decide⟩)) | ((with_reducible refine' ev_nm 19 ?s ?_); (case s => exact ⟨rfl, rfl, by walk_at "vis", by decide, by decide⟩)) | ((with_reducible refine' ev_nm 20 ?s ?_); (case s => exact ⟨rfl, rfl, by walk_at "vis", by decide, by decide⟩)) | ((with_reducible refine' ev_nm 21 ?s ?_); (case s => exact ⟨rfl, rfl, by walk_at "vis", by decide, by decide⟩)) | ((with_reducible refine' ev_nm 22 ?s ?_); (case s => exact ⟨rfl, rfl, by walk_at "vis", by decide, by decide⟩)) | ((with_reducible refine' ev_nm 23 ?s ?_); (case s => exact ⟨rfl, rfl, by walk_at "vis", by decide, by decide⟩)) | ((with_reducible refine' ev_nm 24 ?s ?_); (case s => exact ⟨rfl, rfl, by walk_at "vis", by decide, by decide⟩)) | ((with_reducible refine' ev_nm 25 ?s ?_); (case s => exact ⟨rfl, rfl, by walk_at "vis", by decide, by decide⟩)) | ((with_reducible refine' ev_nm 26 ?s ?_); (case s => exact ⟨rfl, rfl, by walk_at "vis", by decide, by decide⟩)) | ((with_reducible refine' ev_nm 27 ?s ?_); (case s => exact ⟨rfl, rfl, by walk_at "vis", by decide, by decide⟩)))
local macro_rules | `(tactic| walk_at "st") => `(tactic| first | ((with_reducible refine x_st 0 ?s ?p ?_); (case s => exact ⟨rfl, by walk_at "vis", by walk_at "vis"⟩); (case p => exact fun _ => rfl)) | ((with_reducible refine x_st 1 ?s ?p ?_); (case s => exact ⟨rfl, by walk_at "vis", by walk_at "vis"⟩); (case p => exact fun _ => rfl)) | ((with_reducible refine x_st 2 ?s ?p ?_); (case s => exact ⟨rfl, by walk_at "vis", by walk_at "vis"⟩); (case p => exact fun _ => rfl)) | ((with_reducible refine x_st 3 ?s ?p ?_); (case s => exact ⟨rfl, by walk_at "vis", by walk_at "vis"⟩); (case p => exact fun _ => rfl)) | ((with_reducible refine x_st 4 ?s ?p ?_); (case s => exact ⟨rfl, by walk_at "vis", by walk_at "vis"⟩); (case p => exact fun _ => rfl)) | ((with_reducible refine x_st 5 ?s ?p ?_); (case s => exact ⟨rfl, by walk_at "vis", by walk_at "vis"⟩); (case p => exact fun _ => rfl)) | ((with_reducible refine x_st 6 ?s ?p ?_); (case s => exact ⟨rfl, by walk_at "vis", by walk_at "vis"⟩); (case p => exact fun _ => rfl)) | ((with_reducible refine x_st 7 ?s ?p ?_); (case s => exact ⟨rfl, by walk_at "vis", by walk_at "vis"⟩); (case p => exact fun _ => rfl)) | ((with_reducible refine x_st 8 ?s ?p ?_); (case s => exact ⟨rfl, by walk_at "vis", by walk_at "vis"⟩); (case p => exact fun _ => rfl)) | ((with_reducible refine x_st 9 ?s ?p ?_); (case s => exact ⟨rfl, by walk_at "vis", by walk_at "vis"⟩); (case p => exact fun _ => rfl)) | ((with_reducible refine x_st 10 ?s ?p ?_); (case s => exact ⟨rfl, by walk_at "vis", by walk_at "vis"⟩); (case p => exact fun _ => rfl)) | ((with_reducible refine x_st 11 ?s ?p ?_); (case s => exact ⟨rfl, by walk_at "vis", by walk_at "vis"⟩); (case p => exact fun _ => rfl)) | ((with_reducible refine x_st 12 ?s ?p ?_); (case s => exact ⟨rfl, by walk_at "vis", by walk_at "vis"⟩); (case p => exact fun _ => rfl)) | ((with_reducible refine x_st 13 ?s ?p ?_); (case s => exact ⟨rfl, by walk_at "vis", by walk_at "vis"⟩); (case p => exact fun _ => rfl)) | ((with_reducible refine x_st 14 ?s ?p ?_); (case s => exact ⟨rfl, by walk_at "vis", by walk_at "vis"⟩); (case p => exact fun _ => rfl)) | ((with_reducible refine x_st 15 ?s ?p ?_); (case s => exact ⟨rfl, by walk_at "vis", by walk_at "vis"⟩); (case p => exact fun _ => rfl)) | ((with_reducible refine x_st 16 ?s ?p ?_); (case s => exact ⟨rfl, by walk_at "vis", by walk_at "vis"⟩); (case p => exact fun _ => rfl)) | ((with_reducible refine x_st 17 ?s ?p ?_); (case s => exact ⟨rfl, by walk_at "vis", by walk_at "vis"⟩); (case p => exact fun _ => rfl)) | ((with_reducible refine x_st 18 ?s ?p ?_); (case s => exact ⟨rfl, by walk_at "vis", by walk_at "vis"⟩); (case p => exact fun _ => rfl)) | ((with_reducible refine x_st 19 ?s ?p ?_); (case s => exact ⟨rfl, by walk_at "vis", by walk_at "vis"⟩); (case p => exact fun _ => rfl)) | ((with_reducible refine x_st 20 ?s ?p ?_); (case s => exact ⟨rfl, by walk_at "vis", by walk_at "vis"⟩); (case p => exact fun _ => rfl)) | ((with_reducible refine x_st 21 ?s ?p ?_); (case s => exact ⟨rfl, by walk_at "vis", by walk_at "vis"⟩); (case p => exact fun _ => rfl)) | ((with_reducible refine x_st 22 ?s ?p ?_); (case s => exact ⟨rfl, by walk_at "vis", by walk_at "vis"⟩); (case p => exact fun _ => rfl)) | ((with_reducible refine x_st 23 ?s ?p ?_); (case s => exact ⟨rfl, by walk_at "vis", by walk_at "vis"⟩); (case p => exact fun _ => rfl)) | ((with_reducible refine x_st 24 ?s ?p ?_); (case s => exact ⟨rfl, by walk_at "vis", by walk_at "vis"⟩); (case p => exact fun _ => rfl)) | ((with_reducible refine x_st 25 ?s ?p ?_); (case s => exact ⟨rfl, by walk_at "vis", by walk_at "vis"⟩); (case p => exact fun _ => rfl)) | ((with_reducible refine x_st 26 ?s ?p ?_); (case s => exact ⟨rfl, by walk_at "vis", by walk_at "vis"⟩); (case p => exact fun _ => rfl)) | ((with_reducible refine x_st 27 ?s ?p ?_); (case s => exact ⟨rfl, by walk_at "vis", by walk_at "vis"⟩); (case p => exact fun _ => rfl)))
local macro_rules | `(tactic| walk_at "tg") => `(tactic| first | ((with_reducible refine evg_nm 0 ?s ?_); (case s => exact ⟨rfl, by walk_at "vis", by walk_at "vis"⟩)) | ((with_reducible refine evg_nm 1 ?s ?_); (case s => exact ⟨rfl, by walk_at "vis", by walk_at "vis"⟩)) | ((with_reducible refine evg_nm 2 ?s ?_); (case s => exact ⟨rfl, by walk_at "vis", by walk_at "vis"⟩)) | ((with_reducible refine evg_nm 3 ?s ?_); (case s => exact ⟨rfl, by walk_at "vis", by walk_at "vis"⟩)) | ((with_reducible refine evg_nm 4 ?s ?_); (case s => exact ⟨rfl, by walk_at "vis", by walk_at "vis"⟩)) | ((with_reducible refine evg_nm 5 ?s ?_); (case s => exact ⟨rfl, by walk_at "vis", by walk_at "vis"⟩)) | ((with_reducible refine evg_nm 6 ?s ?_); (case s => exact ⟨rfl, by walk_at "vis", by walk_at "vis"⟩)) | ((with_reducible refine evg_nm 7 ?s ?_); (case s => exact ⟨rfl, by walk_at "vis", by walk_at "vis"⟩)) | ((with_reducible refine evg_nm 8 ?s ?_); (case s => exact ⟨rfl, by walk_at "vis", by walk_at "vis"⟩)) | ((with_reducible refine evg_nm 9 ?s ?_); (case s => exact ⟨rfl, by walk_at "vis", by walk_at "vis"⟩)) | ((with_reducible refine evg_nm 10 ?s ?_); (case s => exact ⟨rfl, by walk_at "vis", by walk_at "vis"⟩)) | ((with_reducible refine evg_nm 11 ?s ?_); (case s => exact ⟨rfl, by walk_at "vis", by walk_at "vis"⟩)) | ((with_reducible refine evg_nm 12 ?s ?_); (case s => exact ⟨rfl, by walk_at "vis", by walk_at "vis"⟩)) | ((with_reducible refine evg_nm 13 ?s ?_); (case s => exact ⟨rfl, by walk_at "vis", by walk_at "vis"⟩)) | ((with_reducible refine evg_nm 14 ?s ?_); (case s => exact ⟨rfl, by walk_at "vis", by walk_at "vis"⟩)) | ((with_reducible refine evg_nm 15 ?s ?_); (case s => exact ⟨rfl, by walk_at "vis", by walk_at "vis"⟩)) | ((with_reducible refine evg_nm 16 ?s ?_); (case s => exact ⟨rfl, by walk_at "vis", by walk_at "vis"⟩)) | ((with_reducible refine evg_nm 17 ?s ?_); (case s => exact ⟨rfl, by walk_at "vis", by walk_at "vis"⟩)) | ((with_reducible refine evg_nm 18 ?s ?_); (case s => exact ⟨rfl, by walk_at "vis", by walk_at "vis"⟩)) | ((with_reducible refine evg_nm 19 ?s ?_); (case s => exact ⟨rfl, by walk_at "vis", by walk_at "vis"⟩)) | ((with_reducible refine evg_nm 20 ?s ?_); (case s => exact ⟨rfl, by walk_at "vis", by walk_at "vis"⟩)) | ((with_reducible refine evg_nm 21 ?s ?_); (case s => exact ⟨rfl, by walk_at "vis", by walk_at "vis"⟩)) | ((with_reducible refine evg_nm 22 ?s ?_); (case s => exact ⟨rfl, by walk_at "vis", by walk_at "vis"⟩)) | ((with_reducible refine evg_nm 23 ?s ?_); (case s => exact ⟨rfl, by walk_at "vis", by walk_at "vis"⟩)) | ((with_reducible refine evg_nm 24 ?s ?_); (case s => exact ⟨rfl, by walk_at "vis", by walk_at "vis"⟩)) | ((with_reducible refine evg_nm 25 ?s ?_); (case s => exact ⟨rfl, by walk_at "vis", by walk_at "vis"⟩)) | ((with_reducible refine evg_nm 26 ?s ?_); (case s => exact ⟨rfl, by walk_at "vis", by walk_at "vis"⟩)) | ((with_reducible refine evg_nm 27 ?s ?_); (case s => exact ⟨rfl, by walk_at "vis", by walk_at "vis"⟩)))
local macro_rules | `(tactic| walk_at "e") => `(tactic| first | with_reducible refine x_ret ?_ | with_reducible refine x_retN ?_ | with_reducible refine x_if ?_ | with_reducible refine x_pass ?_ | with_reducible refine x_break ?_ | with_reducible refine x_cont ?_ | with_reducible refine ev_int ?_ | with_reducible refine ev_none ?_ | with_reducible refine ev_bool ?_ | with_reducible refine ev_str ?_ | with_reducible refine ev_add ?_ | with_reducible refine ev_sub ?_ | with_reducible refine ev_mul ?_ | with_reducible refine ev_mod ?_ | with_reducible refine ev_fdiv ?_ | with_reducible refine ev_neg ?_ | with_reducible refine ev_pow ?_ | with_reducible refine evt_lt ?_ | with_reducible refine evt_le ?_ | with_reducible refine evt_gt ?_ | with_reducible refine evt_ge ?_ | with_reducible refine evt_eq ?_ | with_reducible refine evt_ne ?_ | with_reducible refine evt_isN ?_ | with_reducible refine evt_notN ?_ | with_reducible refine evt_not ?_ | with_reducible refine evt_w (evw_and ?_) | with_reducible refine evt_w (evw_or ?_) | with_reducible refine evt_w (evw_and1 ?_) | with_reducible refine evt_w (evw_or1 ?_) | with_reducible refine evw_and ?_ | with_reducible refine evw_or ?_ | with_reducible refine evw_and1 ?_ | with_reducible refine evw_or1 ?_ | with_reducible refine ev_lt ?_ | with_reducible refine ev_le ?_ | with_reducible refine ev_gt ?_ | with_reducible refine ev_ge ?_ | with_reducible refine ev_eq ?_ | with_reducible refine ev_ne ?_ | with_reducible refine ev_isN ?_ | with_reducible refine ev_and ?_ | with_reducible refine ev_or ?_ | with_reducible refine ev_one ?_ | with_reducible refine ev_not ?_ | with_reducible refine ev_ifx ?_ | with_reducible refine eva_nil ?_ | with_reducible refine evo_none ?_ | with_reducible refine evo_some ?_ | with_reducible refine ev_slice ?_ | ((with_reducible refine' ev_globI ?_ ?m ?g ?b); (case m => assumption); (case g => rfl); (case b => decide)) | ((with_reducible refine' ev_globS ?_ ?m ?g ?b); (case m => assumption); (case g => rfl); (case b => decide)) | ((with_reducible refine x_expr ?s0 ?_); (case s0 => walk_at "pl")) | ((with_reducible refine evt_in ?s0 ?_); (case s0 => walk_at "pl")) | ((with_reducible refine evt_notin ?s0 ?_); (case s0 => walk_at "pl")) | ((with_reducible refine eva_cons ?s0 ?_); (case s0 => walk_at "pl")) | ((with_reducible refine ev_ix ?s0 ?_); (case s0 => walk_at "pl")) | ((with_reducible refine ev_len ?s0 ?s1 ?s2 ?_); (case s0 => walk_at "pl"); (case s1 => walk_at "pl"); (case s2 => walk_at "pl")) | ((with_reducible refine ev_intof ?s0 ?s1 ?s2 ?s3 ?_); (case s0 => walk_at "pl"); (case s1 => walk_at "pl"); (case s2 => walk_at "pl"); (case s3 => walk_at "pl")) | ((with_reducible refine ev_listof ?s0 ?s1 ?s2 ?s3 ?_); (case s0 => walk_at "pl"); (case s1 => walk_at "pl"); (case s2 => walk_at "pl"); (case s3 => walk_at "pl")) | ((with_reducible refine ev_tupleof ?s0 ?s1 ?s2 ?s3 ?_); (case s0 => walk_at "pl"); (case s1 => walk_at "pl"); (case s2 => walk_at "pl"); (case s3 => walk_at "pl")) | ((with_reducible refine ev_append ?s0 ?s1 ?s2 ?_); (case s0 => walk_at "pl"); (case s1 => walk_at "pl"); (case s2 => walk_at "pl")) | ((with_reducible refine ev_pop ?s0 ?s1 ?_); (case s0 => walk_at "pl"); (case s1 => walk_at "pl")) | ((with_reducible refine evt_val (e := .Call _ _ _ _) ?p ?_); (case p => exact fun _ _ => rfl)) | ((with_reducible refine' ev_isi ?a ?b ?c ?d ?e ?f ?g ?h ?i ?_); (case a => assumption); (case b => rfl); (case c => assumption); (case d => rfl); (case e => rfl); (case f => rfl); (case g => exact fun _ => rfl); (case h => decide); (case i => decide)) | ((with_reducible refine' ev_call ?D ?k ?g ?s ?p ?_ ?b); (case D => assumption); (case k => exact Nat.le_of_ble_eq_true rfl); (case g => rfl); (case s => exact fun _ => rfl); (case p => exact fun _ _ => rfl); (case b => decide)) | ((with_reducible refine' ev_call0 ?D ?k ?g ?_ ?b); (case D => assumption); (case k => exact Nat.le_of_ble_eq_true rfl); (case g => rfl); (case b => decide)) | with_reducible refine add_int ?_ | walk_at "nm" | walk_at "st" | walk_at "tg" | ((with_reducible refine ⟨_, _, rfl, rfl, ?c, ?_⟩); (case c => first | decide | exact ⟨by decide, by decide⟩)) | with_reducible refine .inl ⟨_, rfl, ?_⟩ | with_reducible refine ⟨_, rfl, ?_⟩ | with_reducible refine ⟨_, _, rfl, rfl, ?_⟩)
local macro_rules | `(tactic| walk_at "d") => `(tactic| first | with_reducible refine xs_one ?_ | with_reducible refine xs_cons ?_ | with_reducible refine xs_nil ?_ | walk_at "e")
local macro_rules | `(tactic| walk_at "es") => `(tactic| repeat walk_at "e")
local macro_rules | `(tactic| walk_at "ds") => `(tactic| repeat walk_at "d")
local macro_rules | `(tactic| walk_at "ecb") => `(tactic| repeat (first | exact ecB_nil | refine ecB_none ?_ | refine ecB_d ?_ | refine ecB_p (Nat.le_of_ble_eq_true rfl) ?_))
local macro_rules | `(tactic| walk_at "stb") => `(tactic| repeat (first | exact stoB_nil | refine stoB_cons (by first | exact celB_one _ | exact celB_ds _ | trivial) ?_))

namespace K48
open PySem PySem.Spec PyProof.Rows L2 DL
def top (i : Nat) : Stmt := PySem.Challenge.pw_herefrom_k48_frames_hold_payloads.main.body.getD i (.Pass ⟨0, 0, 0, 0⟩)
abbrev sLow : Stmt := top 1
abbrev sNum : Stmt := top 2
abbrev sCheck : Stmt := top 6
abbrev sFramed : Stmt := top 7
abbrev sPay : Stmt := top 8
abbrev sNumber : Stmt := top 10
abbrev sTake : Stmt := top 11
abbrev sLLow : Stmt := top 12
abbrev sLCheck : Stmt := top 13
abbrev sLFramed : Stmt := top 14
abbrev sLValue : Stmt := top 15
abbrev sLDue : Stmt := top 16
abbrev sLaw : Stmt := top 17
theorem scLow : FnScope ["number", "count", "found", "_"] ["number", "count"] (defScope sLow) := ⟨rfl, rfl, rfl, by decide +kernel, rfl, by decide +kernel, by decide +kernel⟩
theorem scNum : FnScope ["octets", "total", "octet"] ["octets"] (defScope sNum) := ⟨rfl, rfl, rfl, by decide +kernel, rfl, by decide +kernel, by decide +kernel⟩
theorem scCheck : FnScope ["octets", "total", "octet"] ["octets"] (defScope sCheck) := ⟨rfl, rfl, rfl, by decide +kernel, rfl, by decide +kernel, by decide +kernel⟩
theorem scFramed : FnScope ["payload", "length"] ["payload"] (defScope sFramed) := ⟨rfl, rfl, rfl, by decide +kernel, rfl, by decide +kernel, by decide +kernel⟩
def cstep (t o : Int) : Int := (t * 257 + o + 1) % 4294967291
def checkF (ns : List Int) : Int := ns.foldl cstep 1
theorem cstep_bd {t o : Int} : 0 ≤ cstep t o ∧ cstep t o < 4294967291 := ⟨Int.emod_nonneg _ (by decide), Int.emod_lt_of_pos _ (by decide)⟩
theorem check_bd (ns : List Int) : 0 ≤ checkF ns ∧ checkF ns < 4294967291 := by
  unfold checkF
  rcases List.eq_nil_or_concat ns with rfl | ⟨l, a, rfl⟩
  · decide
  · simp; exact cstep_bd
/-- octets -/
def Oct (ns : List Int) : Prop := ∀ x ∈ ns, 0 ≤ x ∧ x < 256
theorem Oct.take {ns : List Int} (h : Oct ns) (i : Nat) : Oct (ns.take i) := fun x hx => h x (List.mem_of_mem_take hx)
theorem Oct.drop {ns : List Int} (h : Oct ns) (i : Nat) : Oct (ns.drop i) := fun x hx => h x (List.mem_of_mem_drop hx)
theorem Oct.rev {ns : List Int} (h : Oct ns) : Oct ns.reverse := fun x hx => h x (by simpa using hx)
theorem Oct.app {ns ms : List Int} (h : Oct ns) (h' : Oct ms) : Oct (ns ++ ms) := fun x hx => (List.mem_append.mp hx).elim (h x) (h' x)
def spCheck : DSp := fun rs M Q R => ∃ r ns, rs = [r] ∧ AsL M r (iI ns) ∧ Oct ns ∧ Q (.d (.int (checkF ns))) M
section
variable {P : Program} {w : World} {K : PySem.W.Frag} {mg : Str → Option Value} {base : Heap}
theorem ok_check {f : Addr} {fd : FuncData} {t : Tok} (F : Fun K "check_of" "check_of" sCheck f fd) (mP : mg "PRIME" = some (.int 4294967291 t)) : FnOk P w K mg base (L2.CX P w) 1 f fd ["octets"] (spOf K spCheck) := by
  refine def_ok F scCheck (fun rs M Q R h => ?_) (fun W rs M Q R h hb hr => ?_)
  · obtain ⟨r, ns, rfl, _⟩ := h; rfl
  · obtain ⟨r, ns, rfl, hl, ho, hq⟩ := h
    show ExS _ _ [some r, none, none] M _
    refine xs_cons ?_
    walk_at "ds"
    refine x_for (fun _ _ => rfl) (evi_list ?_)
    walk_at "ds"
    refine ⟨_, hl, fun i Γ' M' => Γ' = [some r, some (.d (.int (checkF (ns.take i)))), none] ∧ M' = M, ⟨rfl, rfl⟩, ?_, ?_⟩
    · rintro i x Γ' M' hx ⟨rfl, rfl⟩
      refine ⟨hl, ?_⟩
      obtain ⟨o, ho', rfl⟩ := iI_get hx
      walk_at "ds"
      have hb := check_bd (ns.take i)
      refine ⟨mulx_ok (a := 64) (b := 64) (by omega) (by decide) (by decide), ?_⟩
      walk_at "ds"
      dsimp only
      refine turn_eq ⟨rfl, ?_, trivial⟩ rfl
      rw [take_snoc ho']
      simp [checkF, cstep]
    · rintro Γ' M' ⟨rfl, rfl⟩
      refine ⟨hl, ?_⟩
      walk_at "ds"
      left
      rw [List.take_of_length_le (by simp)]
      exact hq
theorem ediv_pow (n : Int) (i : Nat) : n / 256 ^ i / 256 = n / 256 ^ (i + 1) := by
  rw [Int.ediv_ediv_of_nonneg (Int.pow_nonneg (by decide)), Int.pow_succ]
def lowF (n : Int) (k : Nat) : List Int := (List.range k).map fun i => n / 256 ^ i % 256
def spLow : DSp := fun rs M Q R => ∃ n c, rs = [.d (.int n), .d (.int ((c : Nat) : Int))] ∧ c ≤ 1000 ∧ Q (.d (.list (dI (lowF n c)))) M
theorem lowF_len (n : Int) (k : Nat) : (lowF n k).length = k := by simp [lowF]
theorem lowF_oct (n : Int) (k : Nat) : Oct (lowF n k) := fun x hx => by
  obtain ⟨i, _, rfl⟩ := List.mem_map.mp hx
  exact ⟨Int.emod_nonneg _ (by decide), Int.emod_lt_of_pos _ (by decide)⟩
theorem ok_low {f : Addr} {fd : FuncData} (F : Fun K "low_octets" "low_octets" sLow f fd) (mR : mg "range" = none) : FnOk P w K mg base (L2.CX P w) 1 f fd ["number", "count"] (spOf K spLow) := by
  refine def_ok F scLow (fun rs M Q R h => ?_) (fun W rs M Q R h hb hr => ?_)
  · obtain ⟨n, c, rfl, _⟩ := h; rfl
  · obtain ⟨n, c, rfl, hc, hq⟩ := h
    show ExS _ _ [some (.d (.int n)), some (.d (.int c)), none, none] M _
    refine xs_cons ?_
    walk_at "ds"
    refine ev_lstP ?_
    walk_at "ds"
    refine ⟨by decide, ?_⟩
    walk_at "ds"
    refine x_for (fun _ _ => rfl) (evi_range mR rfl (fun _ => rfl) ?_)
    walk_at "ds"
    refine ⟨by omega, by omega, ?_⟩
    refine ⟨fun i Γ' M' => Γ' = [some (.d (.int (n / 256 ^ i))), some (.d (.int c)), some (.p M.length), none] ∧ M' = M ++ [.lst (iI (lowF n i))], ⟨?_, rfl⟩, ?_, ?_⟩
    · simp
    · rintro i x Γ' M' hx ⟨rfl, rfl⟩
      obtain ⟨hi, rfl⟩ := intsL_get hx
      refine ⟨trivial, ?_⟩
      walk_at "ds"
      refine ⟨_, _, rfl, getLast_app, ?_⟩
      walk_at "ds"
      refine ⟨_, getLast_app, ?_, ?_⟩
      · simp [lowF, sizeLine_eq]; omega
      rw [setLast_app]
      walk_at "ds"
      dsimp only
      refine turn_eq ⟨?_, rfl, rfl, trivial⟩ ?_
      · rw [ediv_pow]
      · simp [lowF, List.range_succ]
    · rintro Γ' M' ⟨rfl, rfl⟩
      refine ⟨trivial, ?_⟩
      rw [intsL_len]
      refine xs_fz M.length (dI (lowF n c)) (by simp) ?_
      walk_at "ds"
      exact backs_last hb rfl hq
/-- the number of octets, the lowest first -/
def numF : List Int → Int
  | [] => 0
  | o :: r => numF r * 256 + o
theorem numF_rev (ns : List Int) : (ns.reverse).foldl (fun t o => t * 256 + o) 0 = numF ns := by
  induction ns with
  | nil => rfl
  | cons o r ih => rw [List.reverse_cons, List.foldl_append, ih]; rfl
theorem numF_bd : ∀ {ns : List Int}, Oct ns → 0 ≤ numF ns ∧ numF ns < 256 ^ ns.length
  | [], _ => by decide
  | o :: r, h => by
    have h1 := numF_bd (ns := r) fun x hx => h x (List.mem_cons_of_mem _ hx)
    have h2 := h o List.mem_cons_self
    have e : (256 : Int) ^ (o :: r).length = 256 ^ r.length * 256 := by rw [List.length_cons, Int.pow_succ]
    rw [e]
    show 0 ≤ numF r * 256 + o ∧ numF r * 256 + o < 256 ^ r.length * 256
    omega
theorem fold_bd : ∀ {ns : List Int} {t : Int} {k : Nat}, Oct ns → 0 ≤ t → t < 256 ^ k → 0 ≤ ns.foldl (fun t o => t * 256 + o) t ∧ ns.foldl (fun t o => t * 256 + o) t < 256 ^ (k + ns.length)
  | [], t, k, _, h0, h1 => ⟨h0, by simpa using h1⟩
  | o :: r, t, k, h, h0, h1 => by
    have h2 := h o List.mem_cons_self
    have e : (256 : Int) ^ (k + 1) = 256 ^ k * 256 := Int.pow_succ _ _
    have := fold_bd (ns := r) (t := t * 256 + o) (k := k + 1) (fun x hx => h x (List.mem_cons_of_mem _ hx)) (by omega) (by omega)
    rw [List.foldl_cons, List.length_cons, show k + (r.length + 1) = k + 1 + r.length by omega]
    exact this
def spNum : DSp := fun rs M Q R => ∃ r ns, rs = [r] ∧ AsL M r (iI ns) ∧ Oct ns ∧ ns.length ≤ 64 ∧ Q (.d (.int (numF ns))) M
theorem pow_mono256 {a b : Nat} (h : a ≤ b) : (256 : Int) ^ a ≤ 256 ^ b := by
  have := Nat.pow_le_pow_right (n := 256) (by decide) h
  exact_mod_cast this
theorem ok_num {f : Addr} {fd : FuncData} (F : Fun K "number_of" "number_of" sNum f fd) (mR : mg "reversed" = none) : FnOk P w K mg base (L2.CX P w) 1 f fd ["octets"] (spOf K spNum) := by
  refine def_ok F scNum (fun rs M Q R h => ?_) (fun W rs M Q R h hb hr => ?_)
  · obtain ⟨r, ns, rfl, _⟩ := h; rfl
  · obtain ⟨r, ns, rfl, hl, ho, hz, hq⟩ := h
    show ExS _ _ [some r, none, none] M _
    refine xs_cons ?_
    walk_at "ds"
    refine x_for (fun _ _ => rfl) (evi_rev mR rfl (fun _ => rfl) ?_)
    walk_at "ds"
    have er : (iI ns).reverse = iI ns.reverse := by simp [iI, dI]
    refine ⟨_, hl, ?_⟩
    rw [er]
    refine ⟨fun i Γ' M' => Γ' = [some r, some (.d (.int ((ns.reverse.take i).foldl (fun t o => t * 256 + o) 0))), none] ∧ M' = M, ⟨rfl, rfl⟩, ?_, ?_⟩
    · rintro i x Γ' M' hx ⟨rfl, rfl⟩
      refine ⟨hl, ?_⟩
      obtain ⟨o, ho', rfl⟩ := iI_get hx
      walk_at "ds"
      have hb := fold_bd (k := 0) (t := 0) (ho.rev.take i) (by decide) (by decide)
      have hb2 := pow_mono256 (show 0 + (ns.reverse.take i).length ≤ 64 by simp; omega)
      have e64 : (256 : Int) ^ 64 = 2 ^ 256 * 2 ^ 256 := by decide
      refine ⟨mulx_ok (a := 512) (b := 64) (by omega) (by decide) (by decide), ?_⟩
      walk_at "ds"
      dsimp only
      refine turn_eq ⟨rfl, ?_, trivial⟩ rfl
      rw [take_snoc ho']
      simp
    · rintro Γ' M' ⟨rfl, rfl⟩
      refine ⟨hl, ?_⟩
      walk_at "ds"
      left
      rw [List.take_of_length_le (by simp), numF_rev]
      exact hq
end
end K48

namespace K48
open PySem PySem.Spec PyProof.Rows L2 DL
def frF (ns : List Int) : List Int := lowF ns.length 3 ++ lowF (checkF (lowF ns.length 3 ++ ns)) 4 ++ ns
def spFramed : DSp := fun rs M Q R => ∃ r ns, rs = [r] ∧ AsL M r (iI ns) ∧ Oct ns ∧ ns.length ≤ 1000000 ∧ Q (.d (.list (dI (frF ns)))) M
section
variable {P : Program} {w : World} {K : PySem.W.Frag} {mg : Str → Option Value} {base : Heap}
theorem ok_framed {f : Addr} {fd : FuncData} (F : Fun K "framed" "framed" sFramed f fd) (mL : mg "len" = none) (D1 : DefAt P w K mg base 1 "low_octets" ["number", "count"] spLow) (D2 : DefAt P w K mg base 1 "check_of" ["octets"] spCheck) : FnOk P w K mg base (L2.CX P w) 2 f fd ["payload"] (spOf K spFramed) := by
  refine def_ok F scFramed (fun rs M Q R h => ?_) (fun W rs M Q R h hb hr => ?_)
  · obtain ⟨r, ns, rfl, _⟩ := h; rfl
  · obtain ⟨r, ns, rfl, hl, ho, hz, hq⟩ := h
    show ExS _ _ [some r, none] M _
    refine xs_cons ?_
    walk_at "ds"
    refine ⟨_, .lst hl, ?_⟩
    walk_at "ds"
    refine ⟨_, 3, rfl, by decide, ?_⟩
    walk_at "ds"
    refine add_lst (.d _) hl ?_ ?_
    · rw [dI_len, dI_len, lowF_len, sizeLine_eq]; omega
    walk_at "ds"
    refine ⟨_, lowF ns.length 3 ++ ns, rfl, ?_, (lowF_oct _ _).app ho, ?_⟩
    · rw [iI_len]
      have : dI (lowF ns.length 3) ++ dI ns = dI (lowF ns.length 3 ++ ns) := by simp [dI]
      rw [this]
      exact .d _
    walk_at "ds"
    refine ⟨_, 4, rfl, by decide, ?_⟩
    refine add_lst (.d _) (.d _) ?_ ?_
    · simp only [dI_len, lowF_len, sizeLine_eq]; omega
    walk_at "ds"
    refine add_lst (.d _) hl ?_ ?_
    · simp only [dI_len, lowF_len, sizeLine_eq, List.length_append]; omega
    walk_at "ds"
    left
    rw [iI_len]
    simp only [frF, dI, List.map_append] at hq ⊢
    exact hq
/-- the next whole frame at a place: its payload and its end -/
def nextF (ns : List Int) (at_ : Nat) : Option (List Int × Nat) :=
  if at_ + 7 ≤ ns.length then
    let end_ := at_ + 7 + (numF (cutL ns (some at_) (some ((at_ + 3 : Nat) : Int)))).toNat
    let pay := cutL ns (some ((at_ + 7 : Nat) : Int)) (some (end_ : Int))
    if end_ ≤ ns.length ∧ numF (cutL ns (some ((at_ + 3 : Nat) : Int)) (some ((at_ + 7 : Nat) : Int))) = checkF (cutL ns (some at_) (some ((at_ + 3 : Nat) : Int)) ++ pay) then some (pay, end_) else none
  else none
theorem scPay0 : True := trivial
/-- all whole frames from a place on -/
inductive Par (ns : List Int) : Nat → List (List Int) → Nat → Prop
  | stop {at_ : Nat} : nextF ns at_ = none → Par ns at_ [] at_
  | go {at_ e a : Nat} {p : List Int} {r : List (List Int)} : nextF ns at_ = some (p, e) → Par ns e r a → Par ns at_ (p :: r) a
abbrev dL (fs : List (List Int)) : List Dt := fs.map fun p => .list (dI p)
def spPay : DSp := fun rs M Q R => ∃ r ns, rs = [r] ∧ AsL M r (iI ns) ∧ Oct ns ∧ ns.length ≤ 100000 ∧ (∀ fs a, Par ns 0 fs a → Q (.d (.tuple [.list (dL fs), .int (a : Nat)])) M)
theorem cut_dI (ns : List Int) (l u : Option Int) : cutL (dI ns) l u = dI (cutL ns l u) := cutL_map _ _ _ _
theorem cut_nat {α : Type} (ns : List α) (a b : Nat) : cutL ns (some (a : Int)) (some (b : Int)) = (ns.drop a).take (b - a) := by
  unfold cutL
  rw [HT.sIx_nat, HT.sIx_nat]
  by_cases ha : a ≤ ns.length
  · rw [Nat.min_eq_left ha]
    by_cases hb : b ≤ ns.length
    · rw [Nat.min_eq_left hb]
    · rw [Nat.min_eq_right (show ns.length ≤ b by omega), List.take_of_length_le (by simp), List.take_of_length_le (by simp; omega)]
  · rw [Nat.min_eq_right (show ns.length ≤ a by omega), List.drop_of_length_le (Nat.le_refl _), List.drop_of_length_le (show ns.length ≤ a by omega)]
    simp
theorem oct_cut {ns : List Int} (h : Oct ns) (l u : Option Int) : Oct (cutL ns l u) := (h.drop _).take _
theorem cut_len {α : Type} (ns : List α) (a b : Nat) : (cutL ns (some (a : Int)) (some (b : Int))).length ≤ b - a := by
  rw [cut_nat]; simp; omega
theorem scPay : FnScope ["octets", "found", "at", "end", "payload"] ["octets"] (defScope sPay) := ⟨rfl, rfl, rfl, by decide +kernel, rfl, by decide +kernel, by decide +kernel⟩
theorem ok_pay {f : Addr} {fd : FuncData} {t : Tok} (F : Fun K "payloads_in" "payloads_in" sPay f fd) (mL : mg "len" = none) (mH : mg "HEAD" = some (.int 7 t)) (D1 : DefAt P w K mg base 1 "number_of" ["octets"] spNum) (D2 : DefAt P w K mg base 1 "check_of" ["octets"] spCheck) : FnOk P w K mg base (L2.CX P w) 2 f fd ["octets"] (spOf K spPay) := by
  refine def_ok F scPay (fun rs M Q R h => ?_) (fun W rs M Q R h hb hr => ?_)
  · obtain ⟨r, ns, rfl, _⟩ := h; rfl
  · obtain ⟨r, ns, rfl, hl, ho, hz, hq⟩ := h
    show ExS _ _ [some r, none, none, none, none] M _
    refine xs_cons ?_
    walk_at "ds"
    refine ev_lstP ?_
    walk_at "ds"
    refine ⟨by decide, ?_⟩
    walk_at "ds"
    refine x_while (fun m Γ' M' => ∃ (fs : List (List Int)) (a : Nat), Γ' = [some r, some (.p M.length), some (.d (.int a)), none, none] ∧ M' = M ++ [.lst ((dL fs).map .d)] ∧ (∀ r' a', Par ns a r' a' → Par ns 0 (fs ++ r') a') ∧ m = ns.length - a ∧ fs.length ≤ a) (ns.length - 0) ⟨[], 0, rfl, rfl, fun _ _ h => h, rfl, Nat.le_refl _⟩ ?_
    rintro m Γ' M' ⟨fs, a, rfl, rfl, hp, rfl, hfs⟩
    have hl' : ∀ c, AsL (M ++ [c]) r (iI ns) := fun c => hl.app
    have fin : ∀ x3 x4 : Option Im, nextF ns a = none → ExS (defG P w K mg base ["octets", "found", "at", "end", "payload"] (defScope sPay) 1 M.length W) ((defBody sPay).drop 3) [some r, some (.p M.length), some (.d (.int a)), x3, x4] (M ++ [.lst ((dL fs).map .d)]) { nx := fun x M' => Backs M.length Q (Im.d PyData.none) M', rt := Backs M.length Q, ex := BacksX M.length R } := by
      intro x3 x4 hn
      refine xs_fz M.length (dL fs) (by simp) ?_
      refine xs_one (x_ret (ev_tup ?_))
      walk_at "ds"
      refine ⟨(by show 2 ≤ sizeLine; decide), [.list (dL fs), .int a], ?_, ?_⟩
      · rw [fzI_same]; exact ⟨rfl, rfl, trivial⟩
      · refine .inr ⟨M, [.dead], setLast_app, hb, trivial, Nat.le_refl _, hq fs a ?_⟩
        have := hp _ _ (.stop hn)
        simpa using this
    walk_at "ds"
    refine ⟨_, .lst (hl' _), ?_⟩
    walk_at "ds"
    rw [iI_len]
    refine ⟨fun hc => ?_, fun hc => ?_⟩
    · have hc : a + 7 ≤ ns.length := by have := of_decide_eq_true hc; omega
      have e3 : (a : Int) + 3 = ((a + 3 : Nat) : Int) := by omega
      have e7 : (a : Int) + 7 = ((a + 7 : Nat) : Int) := by omega
      walk_at "ds"
      rw [e3]
      refine slc_lst (hl' _) ?_
      walk_at "ds"
      have n3 := numF_bd (oct_cut ho (some (a : Int)) (some ((a + 3 : Nat) : Int)))
      obtain ⟨z, hz3⟩ : ∃ z : Nat, numF (cutL ns (some (a : Int)) (some ((a + 3 : Nat) : Int))) = (z : Int) := ⟨_, (Int.toNat_of_nonneg n3.1).symm⟩
      refine ⟨_, cutL ns (some (a : Int)) (some ((a + 3 : Nat) : Int)), rfl, by rw [cut_dI]; exact .d _, oct_cut ho _ _, by have := cut_len ns a (a + 3); omega, ?_⟩
      rw [hz3]
      walk_at "ds"
      refine ⟨_, .lst (hl' _), ?_⟩
      walk_at "ds"
      rw [iI_len]
      have ee : (a : Int) + 7 + (z : Int) = ((a + 7 + z : Nat) : Int) := by omega
      rw [ee]
      have nx : nextF ns a = if a + 7 + z ≤ ns.length ∧ numF (cutL ns (some ((a + 3 : Nat) : Int)) (some ((a + 7 : Nat) : Int))) = checkF (cutL ns (some a) (some ((a + 3 : Nat) : Int)) ++ cutL ns (some ((a + 7 : Nat) : Int)) (some ((a + 7 + z : Nat) : Int))) then some (cutL ns (some ((a + 7 : Nat) : Int)) (some ((a + 7 + z : Nat) : Int)), a + 7 + z) else none := by
        unfold nextF
        rw [if_pos hc, hz3]
        rfl
      refine ⟨fun hd => ?_, fun hd => ?_⟩
      · have hd := of_decide_eq_true hd
        refine xs_one (x_break ?_)
        refine fin _ _ ?_
        rw [nx, if_neg]
        rintro ⟨h1, _⟩
        omega
      · have hd := of_decide_eq_false hd
        refine xs_nil ?_
        walk_at "ds"
        rw [e7]
        refine slc_lst (hl' _) ?_
        walk_at "ds"
        rw [e3, e7]
        refine slc_lst (hl' _) ?_
        walk_at "ds"
        have n4 := numF_bd (oct_cut ho (some ((a + 3 : Nat) : Int)) (some ((a + 7 : Nat) : Int)))
        refine ⟨_, cutL ns (some ((a + 3 : Nat) : Int)) (some ((a + 7 : Nat) : Int)), rfl, by rw [cut_dI]; exact .d _, oct_cut ho _ _, by have := cut_len ns (a + 3) (a + 7); omega, ?_⟩
        walk_at "ds"
        rw [e3]
        refine slc_lst (hl' _) ?_
        walk_at "ds"
        refine add_lst (.d _) (.d _) ?_ ?_
        · rw [cut_dI, cut_dI, dI_len, dI_len]
          have h1 := cut_len ns a (a + 3)
          have h2 := cut_len ns (a + 7) (a + 7 + z)
          rw [sizeLine_eq]; omega
        walk_at "ds"
        refine ⟨_, cutL ns (some a) (some ((a + 3 : Nat) : Int)) ++ cutL ns (some ((a + 7 : Nat) : Int)) (some ((a + 7 + z : Nat) : Int)), rfl, ?_, (oct_cut ho _ _).app (oct_cut ho _ _), ?_⟩
        · rw [cut_dI, cut_dI, ← List.map_append]; exact .d _
        refine ⟨_, _, .d _, .d _, rfl, rfl, ?_⟩
        refine ⟨fun hd2 => ?_, fun hd2 => ?_⟩
        · refine xs_one (x_break ?_)
          refine fin _ _ ?_
          rw [nx, if_neg]
          rintro ⟨_, h1⟩
          rw [h1] at hd2
          simp [PyData.eqv] at hd2
        · have h4 : numF (cutL ns (some ((a + 3 : Nat) : Int)) (some ((a + 7 : Nat) : Int))) = checkF (cutL ns (some a) (some ((a + 3 : Nat) : Int)) ++ cutL ns (some ((a + 7 : Nat) : Int)) (some ((a + 7 + z : Nat) : Int))) := by
            simpa [PyData.eqv] using hd2
          rw [if_pos ⟨by omega, h4⟩] at nx
          refine xs_nil ?_
          walk_at "ds"
          refine ⟨_, _, rfl, getLast_app, ?_⟩
          walk_at "ds"
          refine ⟨_, getLast_app, ?_, ?_⟩
          · simp only [List.length_map, sizeLine_eq]; omega
          rw [setLast_app]
          walk_at "ds"
          dsimp only
          refine .inl ⟨[some r, some (.p M.length), some (.d (.int ((a + 7 + z : Nat) : Int))), none, none], ⟨rfl, rfl, rfl, trivial⟩, ns.length - (a + 7 + z), by omega, fs ++ [cutL ns (some ((a + 7 : Nat) : Int)) (some ((a + 7 + z : Nat) : Int))], a + 7 + z, rfl, ?_, ?_, rfl, ?_⟩
          · rw [cut_dI]; simp [dL]
          · intro r' a' h
            have := hp _ _ (.go nx h)
            simpa using this
          · simp; omega
    · refine fin _ _ ?_
      unfold nextF
      rw [if_neg]
      have := of_decide_eq_false hc
      omega
end
end K48

namespace K48
open PySem PySem.Spec PyProof.Rows L2 DL
theorem scNumber : FnScope ["script", "k", "cell", "first", "second"] ["script", "k"] (defScope sNumber) := ⟨rfl, rfl, rfl, by decide +kernel, rfl, by decide +kernel, by decide +kernel⟩
theorem scTake : FnScope ["box", "size", "digit"] ["box", "size"] (defScope sTake) := ⟨rfl, rfl, rfl, by decide +kernel, rfl, by decide +kernel, by decide +kernel⟩
section
variable {P : Program} {w : World} {K : PySem.W.Frag} {mg : Str → Option Value} {base : Heap}
def cell0 (ns : List Int) (k : Int) : Int := if 0 < ns.length then ns.getD (k % ns.length).toNat 0 else 0
def cell1 (c : Int) : Int := if c < 0 then 1 - 2 * c else c
def first0 (c k : Int) : Int := ((c + 7) * 48271 + (k + 3) * 69621) % 2147483647
def second0 (c k f : Int) : Int := ((f + 11) * 16807 + (c + 1) * 40692 + k) % 2147483399
def numL (ns : List Int) (k : Int) : Int :=
  let c := cell1 (cell0 ns k)
  if 1000000000 ≤ c ∧ k < ns.length then c else (first0 c k * 2147483399 + second0 c k (first0 c k) * 31 + c) % 4611686014132420609
def spNumber : DSp := fun rs M Q R => ∃ r ns k b, rs = [r, .d (.int k)] ∧ AsL M r (iI ns) ∧ ns.length ≤ 1000000 ∧ k.natAbs < 2 ^ 40 ∧ (∀ x ∈ ns, x.natAbs < 2 ^ b) ∧ b ≤ 100000000 ∧ Q (.d (.int (numL ns k))) M
theorem cell0_bd {ns : List Int} {k : Int} {b : Nat} (h : ∀ x ∈ ns, x.natAbs < 2 ^ b) : (cell0 ns k).natAbs < 2 ^ b := by
  unfold cell0
  split
  · rw [List.getD_eq_getElem?_getD]
    cases e : ns[(k % (ns.length : Int)).toNat]? with
    | none => simpa using Nat.pow_pos (n := b) (show 0 < 2 by decide)
    | some x => exact h x (List.mem_of_getElem? e)
  · simpa using Nat.pow_pos (n := b) (show 0 < 2 by decide)
theorem cell1_bd {c : Int} {b : Nat} (h : c.natAbs < 2 ^ b) : 0 ≤ cell1 c ∧ (cell1 c).natAbs < 2 ^ (b + 2) := by
  have e : 2 ^ (b + 2) = 4 * 2 ^ b := by rw [Nat.pow_add]; omega
  have := Nat.pow_pos (n := b) (show 0 < 2 by decide)
  unfold cell1
  rw [e]
  split <;> omega
theorem numL_bd {ns : List Int} {k : Int} {b : Nat} (h : ∀ x ∈ ns, x.natAbs < 2 ^ b) : 0 ≤ numL ns k ∧ (numL ns k).natAbs < 2 ^ (b + 64) := by
  have h1 := cell1_bd (cell0_bd (k := k) h)
  have e1 : 2 ^ (b + 64) = 2 ^ (b + 2) * 2 ^ 62 := by rw [← Nat.pow_add]
  have p := Nat.pow_pos (n := b + 2) (show 0 < 2 by decide)
  have e2 : (2 : Nat) ^ 62 = 4611686018427387904 := by decide
  unfold numL
  rw [e1, e2]
  dsimp only
  split
  · exact ⟨h1.1, by omega⟩
  · have h2 := Int.emod_nonneg (first0 (cell1 (cell0 ns k)) k * 2147483399 + second0 (cell1 (cell0 ns k)) k (first0 (cell1 (cell0 ns k)) k) * 31 + cell1 (cell0 ns k)) (show (4611686014132420609 : Int) ≠ 0 by decide)
    have h3 := Int.emod_lt_of_pos (first0 (cell1 (cell0 ns k)) k * 2147483399 + second0 (cell1 (cell0 ns k)) k (first0 (cell1 (cell0 ns k)) k) * 31 + cell1 (cell0 ns k)) (show (0 : Int) < 4611686014132420609 by decide)
    exact ⟨h2, by omega⟩
theorem first0_bd (c k : Int) : 0 ≤ first0 c k ∧ first0 c k < 2147483647 := ⟨Int.emod_nonneg _ (by decide), Int.emod_lt_of_pos _ (by decide)⟩
theorem second0_bd (c k f : Int) : 0 ≤ second0 c k f ∧ second0 c k f < 2147483399 := ⟨Int.emod_nonneg _ (by decide), Int.emod_lt_of_pos _ (by decide)⟩
theorem add8_bd {c d : Int} {b : Nat} (h : c.natAbs < 2 ^ (b + 2)) (hd : d.natAbs ≤ 8) : (c + d).natAbs < 2 ^ (b + 6) := by
  have e : 2 ^ (b + 6) = 2 ^ (b + 2) * 16 := by rw [show b + 6 = b + 2 + 4 by omega, Nat.pow_add (m := b + 2)]
  have e2 : 2 ^ (b + 2) = 2 ^ b * 4 := by rw [Nat.pow_add]
  have p := Nat.pow_pos (n := b) (show 0 < 2 by decide)
  rw [e]
  omega
theorem pow_le2 {a b : Nat} (h : a ≤ b) : 2 ^ a ≤ 2 ^ b := Nat.pow_le_pow_right (by decide) h
theorem ok_number {f : Addr} {fd : FuncData} (F : Fun K "_law_number" "_law_number" sNumber f fd) (mL : mg "len" = none) (mI : mg "int" = none) : FnOk P w K mg base (L2.CX P w) 1 f fd ["script", "k"] (spOf K spNumber) := by
  refine def_ok F scNumber (fun rs M Q R h => ?_) (fun W rs M Q R h hb hr => ?_)
  · obtain ⟨r, ns, k, b, rfl, _⟩ := h; rfl
  · obtain ⟨r, ns, k, b, rfl, hl, hz, hk, hx, hbb, hq⟩ := h
    show ExS _ _ [some r, some (.d (.int k)), none, none, none] M _
    have c0 := cell0_bd (k := k) hx
    have c1 := cell1_bd c0
    refine xs_cons ?_
    walk_at "es"
    -- if len(script) > 0
    refine xs_cons ?_
    refine x_join (fun Γ' M' => Γ' = [some r, some (.d (.int k)), some (.d (.int (cell0 ns k))), none, none] ∧ M' = M) ?_ ?_
    · walk_at "ds"
      refine ⟨_, .lst hl, ?_⟩
      walk_at "ds"
      rw [iI_len]
      refine ⟨fun hc => ?_, fun hc => ?_⟩
      · have hc : 0 < ns.length := by have := of_decide_eq_true hc; omega
        walk_at "ds"
        refine ⟨_, .lst hl, ?_⟩
        rw [iI_len]
        refine ⟨_, _, rfl, rfl, by omega, ?_⟩
        have h1 := Int.emod_nonneg k (show (ns.length : Int) ≠ 0 by omega)
        have h2 := Int.emod_lt_of_pos k (show (0 : Int) < ns.length by omega)
        refine ix_lst hl (i := k % ns.length) (x := .d (.int (cell0 ns k))) ?_ ?_
        · rw [show k % (ns.length : Int) = (((k % (ns.length : Int)).toNat : Nat) : Int) by omega]
          refine atI_nat ?_
          have hi : (k % (ns.length : Int)).toNat < ns.length := by omega
          simp only [iI, dI, List.getElem?_map, List.getElem?_eq_getElem hi, Option.map_some]
          unfold cell0
          rw [if_pos hc, List.getD_eq_getElem?_getD, List.getElem?_eq_getElem hi]
          rfl
        dsimp only
        exact turn_eq ⟨rfl, rfl, rfl, trivial⟩ rfl
      · have hc : ¬ 0 < ns.length := by have := of_decide_eq_false hc; omega
        refine xs_nil ?_
        dsimp only
        refine turn_eq ⟨rfl, rfl, ?_, trivial⟩ rfl
        unfold cell0
        rw [if_neg hc]
    rintro Γ' M' ⟨rfl, rfl⟩
    generalize hce : cell0 ns k = c at *
    -- if cell < 0
    refine xs_cons ?_
    refine x_join (fun Γ' M'' => Γ' = [some r, some (.d (.int k)), some (.d (.int (cell1 c))), none, none] ∧ M'' = M') ?_ ?_
    · walk_at "ds"
      refine ⟨fun hc => ?_, fun hc => ?_⟩
      · have hc := of_decide_eq_true hc
        walk_at "ds"
        refine ⟨mulx_ok (a := 64) (b := b) (by decide) c0 (by omega), ?_⟩
        walk_at "ds"
        dsimp only
        refine turn_eq ⟨rfl, rfl, ?_, trivial⟩ rfl
        unfold cell1
        rw [if_pos hc]
      · have hc := of_decide_eq_false hc
        refine xs_nil ?_
        dsimp only
        refine turn_eq ⟨rfl, rfl, ?_, trivial⟩ rfl
        unfold cell1
        rw [if_neg hc]
    rintro Γ' M'' ⟨rfl, rfl⟩
    have hnum : numL ns k = if 1000000000 ≤ cell1 c ∧ k < ns.length then cell1 c else (first0 (cell1 c) k * 2147483399 + second0 (cell1 c) k (first0 (cell1 c) k) * 31 + cell1 c) % 4611686014132420609 := by
      unfold numL; rw [hce]
    generalize hc1 : cell1 c = d at *
    -- if cell >= 10 ** 9 and k < len(script): return cell
    refine xs_cons ?_
    refine x_join (fun Γ' M3 => Γ' = [some r, some (.d (.int k)), some (.d (.int d)), none, none] ∧ M3 = M'' ∧ ¬ (1000000000 ≤ d ∧ k < ns.length)) ?_ ?_
    · walk_at "ds"
      refine ⟨fun hc => ?_, fun hc => ?_⟩
      · have hc : 1000000000 ≤ d := of_decide_eq_true hc
        walk_at "ds"
        refine ⟨_, .lst hl, ?_⟩
        rw [iI_len]
        walk_at "ds"
        refine ⟨fun hc2 => ?_, fun hc2 => ?_⟩
        · have hc2 := of_decide_eq_true hc2
          walk_at "ds"
          left
          rw [hnum, if_pos ⟨hc, hc2⟩] at hq
          exact hq
        · have hc2 := of_decide_eq_false hc2
          refine xs_nil ?_
          dsimp only
          exact turn_eq ⟨rfl, rfl, rfl, trivial⟩ ⟨rfl, fun z => hc2 z.2⟩
      · have hc : ¬ 1000000000 ≤ d := of_decide_eq_false hc
        refine ⟨fun z => Bool.noConfusion z, fun _ => ?_⟩
        refine xs_nil ?_
        dsimp only
        exact turn_eq ⟨rfl, rfl, rfl, trivial⟩ ⟨rfl, fun z => hc z.1⟩
    rintro Γ' M3 ⟨rfl, rfl, hno⟩
    rw [hnum, if_neg hno] at hq
    have d7 : (d + 7).natAbs < 2 ^ (b + 6) := add8_bd c1.2 (by decide)
    have d1 : (d + 1).natAbs < 2 ^ (b + 6) := add8_bd c1.2 (by decide)
    have f0 := first0_bd d k
    have s0 := second0_bd d k (first0 d k)
    refine xs_cons ?_
    walk_at "es"
    refine ⟨mulx_ok (a := b + 6) (b := 64) d7 (by decide) (by omega), ?_⟩
    walk_at "es"
    refine ⟨mulx_ok (a := 64) (b := 64) (by omega) (by decide) (by decide), ?_⟩
    walk_at "es"
    show ExS _ _ [some r, some (.d (.int k)), some (.d (.int d)), some (.d (.int (first0 d k))), none] _ _
    refine xs_cons ?_
    walk_at "es"
    refine ⟨mulx_ok (a := 64) (b := 64) (by omega) (by decide) (by decide), ?_⟩
    walk_at "es"
    refine ⟨mulx_ok (a := b + 6) (b := 64) d1 (by decide) (by omega), ?_⟩
    walk_at "es"
    show ExS _ _ [some r, some (.d (.int k)), some (.d (.int d)), some (.d (.int (first0 d k))), some (.d (.int (second0 d k (first0 d k))))] _ _
    refine xs_one ?_
    walk_at "es"
    refine ⟨mulx_ok (a := 64) (b := 64) (by omega) (by decide) (by decide), ?_⟩
    walk_at "es"
    refine ⟨mulx_ok (a := 64) (b := 64) (by omega) (by decide) (by decide), ?_⟩
    walk_at "es"
    left
    exact hq
def spTake : DSp := fun rs M Q R => ∃ kb n m, rs = [.p kb, .d (.int m)] ∧ M[kb]? = some (.lst [.d (.int n)]) ∧ 0 < m ∧ m.natAbs < 2 ^ 200 ∧ Q (.d (.int (n % m))) (M.set kb (.lst [.d (.int (n / m))]))
theorem ok_take {f : Addr} {fd : FuncData} (F : Fun K "_law_take" "_law_take" sTake f fd) (mI : mg "int" = none) : FnOk P w K mg base (L2.CX P w) 1 f fd ["box", "size"] (spOf K spTake) := by
  refine def_ok F scTake (fun rs M Q R h => ?_) (fun W rs M Q R h hb hr => ?_)
  · obtain ⟨kb, n, m, rfl, _⟩ := h; rfl
  · obtain ⟨kb, n, m, rfl, hk, hm, hmb, hq⟩ := h
    show ExS _ _ [some (.p kb), some (.d (.int m)), none] M _
    refine xs_cons ?_
    walk_at "ds"
    refine ix_lst (.p hk) (x := .d (.int n)) rfl ?_
    walk_at "ds"
    refine ⟨hm, ?_⟩
    walk_at "ds"
    refine x_setItem (fun _ _ => rfl) (fun _ => rfl) (fun _ => rfl) (fun _ => rfl) ?_
    walk_at "ds"
    refine ix_lst (.p hk) (x := .d (.int n)) rfl ?_
    walk_at "ds"
    refine ⟨wide_div (b := 200) hm hmb (by decide) (by decide), ?_⟩
    walk_at "ds"
    refine ⟨kb, _, 0, 0, rfl, rfl, hk, rfl, ?_⟩
    walk_at "ds"
    left
    exact hq
end

end K48

namespace K48
open PySem PySem.Spec PyProof.Rows L2 DL
theorem scLLow : FnScope ["number", "count", "octets", "k"] ["number", "count"] (defScope sLLow) := ⟨rfl, rfl, rfl, by decide +kernel, rfl, by decide +kernel, by decide +kernel⟩
theorem scLCheck : FnScope ["octets", "total", "octet"] ["octets"] (defScope sLCheck) := ⟨rfl, rfl, rfl, by decide +kernel, rfl, by decide +kernel, by decide +kernel⟩
theorem scLFramed : FnScope ["payload", "length"] ["payload"] (defScope sLFramed) := ⟨rfl, rfl, rfl, by decide +kernel, rfl, by decide +kernel, by decide +kernel⟩
theorem scLValue : FnScope ["octets", "total", "k"] ["octets"] (defScope sLValue) := ⟨rfl, rfl, rfl, by decide +kernel, rfl, by decide +kernel, by decide +kernel⟩
theorem scLDue : FnScope ["octets", "found", "at", "end", "payload"] ["octets"] (defScope sLDue) := ⟨rfl, rfl, rfl, by decide +kernel, rfl, by decide +kernel, by decide +kernel⟩
section
variable {P : Program} {w : World} {K : PySem.W.Frag} {mg : Str → Option Value} {base : Heap}
theorem ok_lcheck {f : Addr} {fd : FuncData} (F : Fun K "_law_check" "_law_check" sLCheck f fd) (mI : mg "int" = none) : FnOk P w K mg base (L2.CX P w) 1 f fd ["octets"] (spOf K spCheck) := by
  refine def_ok F scLCheck (fun rs M Q R h => ?_) (fun W rs M Q R h hb hr => ?_)
  · obtain ⟨r, ns, rfl, _⟩ := h; rfl
  · obtain ⟨r, ns, rfl, hl, ho, hq⟩ := h
    show ExS _ _ [some r, none, none] M _
    refine xs_cons ?_
    walk_at "ds"
    refine x_for (fun _ _ => rfl) (evi_list ?_)
    walk_at "ds"
    refine ⟨_, hl, fun i Γ' M' => Γ' = [some r, some (.d (.int (checkF (ns.take i)))), none] ∧ M' = M, ⟨rfl, rfl⟩, ?_, ?_⟩
    · rintro i x Γ' M' hx ⟨rfl, rfl⟩
      refine ⟨hl, ?_⟩
      obtain ⟨o, ho', rfl⟩ := iI_get hx
      walk_at "ds"
      have hb := check_bd (ns.take i)
      refine ⟨mulx_ok (a := 64) (b := 64) (by omega) (by decide) (by decide), ?_⟩
      walk_at "ds"
      dsimp only
      refine turn_eq ⟨rfl, ?_, trivial⟩ rfl
      rw [take_snoc ho']
      simp [checkF, cstep]
    · rintro Γ' M' ⟨rfl, rfl⟩
      refine ⟨hl, ?_⟩
      walk_at "ds"
      left
      rw [List.take_of_length_le (by simp)]
      exact hq
theorem ok_llow {f : Addr} {fd : FuncData} (F : Fun K "_law_low" "_law_low" sLLow f fd) (mR : mg "range" = none) (mI : mg "int" = none) : FnOk P w K mg base (L2.CX P w) 1 f fd ["number", "count"] (spOf K spLow) := by
  refine def_ok F scLLow (fun rs M Q R h => ?_) (fun W rs M Q R h hb hr => ?_)
  · obtain ⟨n, c, rfl, _⟩ := h; rfl
  · obtain ⟨n, c, rfl, hc, hq⟩ := h
    show ExS _ _ [some (.d (.int n)), some (.d (.int c)), none, none] M _
    refine xs_cons ?_
    walk_at "ds"
    refine ev_lstP ?_
    walk_at "ds"
    refine ⟨by decide, ?_⟩
    walk_at "ds"
    refine x_for (fun _ _ => rfl) (evi_range mR rfl (fun _ => rfl) ?_)
    walk_at "ds"
    refine ⟨by omega, by omega, ?_⟩
    refine ⟨fun i Γ' M' => Γ' = [some (.d (.int (n / 256 ^ i))), some (.d (.int c)), some (.p M.length), none] ∧ M' = M ++ [.lst (iI (lowF n i))], ⟨?_, rfl⟩, ?_, ?_⟩
    · simp
    · rintro i x Γ' M' hx ⟨rfl, rfl⟩
      obtain ⟨hi, rfl⟩ := intsL_get hx
      refine ⟨trivial, ?_⟩
      walk_at "ds"
      refine ⟨_, _, rfl, getLast_app, ?_⟩
      walk_at "ds"
      refine ⟨_, getLast_app, ?_, ?_⟩
      · simp [lowF, sizeLine_eq]; omega
      rw [setLast_app]
      walk_at "ds"
      dsimp only
      refine turn_eq ⟨?_, rfl, rfl, trivial⟩ ?_
      · rw [ediv_pow]
      · simp [lowF, List.range_succ]
    · rintro Γ' M' ⟨rfl, rfl⟩
      refine ⟨trivial, ?_⟩
      rw [intsL_len]
      refine xs_fz M.length (dI (lowF n c)) (by simp) ?_
      walk_at "ds"
      exact backs_last hb rfl hq
theorem ok_lframed {f : Addr} {fd : FuncData} (F : Fun K "_law_framed" "_law_framed" sLFramed f fd) (mL : mg "len" = none) (D1 : DefAt P w K mg base 1 "_law_low" ["number", "count"] spLow) (D2 : DefAt P w K mg base 1 "_law_check" ["octets"] spCheck) : FnOk P w K mg base (L2.CX P w) 2 f fd ["payload"] (spOf K spFramed) := by
  refine def_ok F scLFramed (fun rs M Q R h => ?_) (fun W rs M Q R h hb hr => ?_)
  · obtain ⟨r, ns, rfl, _⟩ := h; rfl
  · obtain ⟨r, ns, rfl, hl, ho, hz, hq⟩ := h
    show ExS _ _ [some r, none] M _
    refine xs_cons ?_
    walk_at "ds"
    refine ⟨_, .lst hl, ?_⟩
    walk_at "ds"
    refine ⟨_, 3, rfl, by decide, ?_⟩
    walk_at "ds"
    refine add_lst (.d _) hl ?_ ?_
    · rw [dI_len, dI_len, lowF_len, sizeLine_eq]; omega
    walk_at "ds"
    refine ⟨_, lowF ns.length 3 ++ ns, rfl, ?_, (lowF_oct _ _).app ho, ?_⟩
    · rw [iI_len]
      have : dI (lowF ns.length 3) ++ dI ns = dI (lowF ns.length 3 ++ ns) := by simp [dI]
      rw [this]
      exact .d _
    walk_at "ds"
    refine ⟨_, 4, rfl, by decide, ?_⟩
    refine add_lst (.d _) (.d _) ?_ ?_
    · simp only [dI_len, lowF_len, sizeLine_eq]; omega
    walk_at "ds"
    refine add_lst (.d _) hl ?_ ?_
    · simp only [dI_len, lowF_len, sizeLine_eq, List.length_append]; omega
    walk_at "ds"
    left
    rw [iI_len]
    simp only [frF, dI, List.map_append] at hq ⊢
    exact hq
theorem ok_lvalue {f : Addr} {fd : FuncData} (F : Fun K "_law_value" "_law_value" sLValue f fd) (mR : mg "range" = none) (mL : mg "len" = none) : FnOk P w K mg base (L2.CX P w) 1 f fd ["octets"] (spOf K spNum) := by
  refine def_ok F scLValue (fun rs M Q R h => ?_) (fun W rs M Q R h hb hr => ?_)
  · obtain ⟨r, ns, rfl, _⟩ := h; rfl
  · obtain ⟨r, ns, rfl, hl, ho, hz, hq⟩ := h
    show ExS _ _ [some r, none, none] M _
    refine xs_cons ?_
    walk_at "ds"
    refine x_for (fun _ _ => rfl) (evi_range mR rfl (fun _ => rfl) ?_)
    walk_at "ds"
    refine ⟨_, .lst hl, ?_⟩
    rw [iI_len]
    refine ⟨_, rfl, by omega, by omega, ?_⟩
    refine ⟨fun i Γ' M' => Γ' = [some r, some (.d (.int ((ns.reverse.take i).foldl (fun t o => t * 256 + o) 0))), none] ∧ M' = M, ⟨rfl, rfl⟩, ?_, ?_⟩
    · rintro i x Γ' M' hx ⟨rfl, rfl⟩
      refine ⟨trivial, ?_⟩
      obtain ⟨hi, rfl⟩ := intsL_get hx
      have hi : i < ns.length := by omega
      walk_at "ds"
      have hb := fold_bd (k := 0) (t := 0) (ho.rev.take i) (by decide) (by decide)
      have hb2 := pow_mono256 (show 0 + (ns.reverse.take i).length ≤ 64 by simp; omega)
      have e64 : (256 : Int) ^ 64 = 2 ^ 256 * 2 ^ 256 := by decide
      refine ⟨mulx_ok (a := 512) (b := 64) (by omega) (by decide) (by decide), ?_⟩
      walk_at "ds"
      refine ⟨_, .lst hl, ?_⟩
      walk_at "ds"
      rw [iI_len]
      walk_at "ds"
      have ho' : ns.reverse[i]? = some ns[ns.length - 1 - i] := by
        rw [List.getElem?_reverse hi, List.getElem?_eq_getElem]
      refine ix_lst hl (i := (ns.length : Int) - 1 - (0 + (i : Int))) (x := .d (.int ns[ns.length - 1 - i])) ?_ ?_
      · rw [show (ns.length : Int) - 1 - (0 + (i : Int)) = ((ns.length - 1 - i : Nat) : Int) by omega]
        refine atI_nat ?_
        simp only [iI, dI, List.getElem?_map, List.getElem?_eq_getElem (show ns.length - 1 - i < ns.length by omega), Option.map_some]
      walk_at "ds"
      dsimp only
      refine turn_eq ⟨rfl, ?_, trivial⟩ rfl
      rw [take_snoc ho']
      simp
    · rintro Γ' M' ⟨rfl, rfl⟩
      refine ⟨trivial, ?_⟩
      walk_at "ds"
      left
      rw [intsL_len, List.take_of_length_le (by simp), numF_rev]
      exact hq
theorem lowF_succ (n : Int) (k : Nat) : lowF n (k + 1) = n % 256 :: lowF (n / 256) k := by
  unfold lowF
  rw [List.range_succ_eq_map, List.map_cons, List.map_map]
  congr 1
  · simp
  · apply List.map_congr_left
    intro i _
    show n / 256 ^ (i + 1) % 256 = n / 256 / 256 ^ i % 256
    rw [Int.pow_succ, Int.mul_comm, ← Int.ediv_ediv_of_nonneg (by decide)]
theorem low_num : ∀ {l : List Int} {k : Nat}, Oct l → l.length = k → lowF (numF l) k = l
  | [], _, _, h => by subst h; rfl
  | o :: r, k + 1, ho, h => by
    have h1 := ho o List.mem_cons_self
    rw [lowF_succ]
    have e1 : (numF r * 256 + o) % 256 = o := by omega
    have e2 : (numF r * 256 + o) / 256 = numF r := by omega
    show (numF r * 256 + o) % 256 :: lowF ((numF r * 256 + o) / 256) k = _
    rw [e1, e2, low_num (fun x hx => ho x (List.mem_cons_of_mem _ hx)) (by simpa using h)]
theorem num_low : ∀ {k : Nat} {n : Int}, 0 ≤ n → n < 256 ^ k → numF (lowF n k) = n
  | 0, n, h0, h1 => by
    have : n = 0 := by simp at h1; omega
    subst this; rfl
  | k + 1, n, h0, h1 => by
    rw [lowF_succ]
    show numF (lowF (n / 256) k) * 256 + n % 256 = n
    rw [Int.pow_succ] at h1
    rw [num_low (by omega) (by omega)]
    omega
theorem cut_join (ns : List Int) {a b c : Nat} (h1 : a ≤ b) (h2 : b ≤ c) : cutL ns (some (a : Int)) (some (c : Int)) = cutL ns (some (a : Int)) (some (b : Int)) ++ cutL ns (some (b : Int)) (some (c : Int)) := by
  rw [cut_nat, cut_nat, cut_nat]
  have : c - a = (b - a) + (c - b) := by omega
  rw [this, List.take_add, List.drop_drop]
  congr 3
  omega
theorem cut_len_eq {α : Type} (ns : List α) {a b : Nat} (h1 : a ≤ b) (h2 : b ≤ ns.length) : (cutL ns (some (a : Int)) (some (b : Int))).length = b - a := by
  rw [cut_nat]; simp; omega
theorem frame_eq {ns : List Int} {a z : Nat} (ho : Oct ns) (hc : a + 7 + z ≤ ns.length) (hz : numF (cutL ns (some (a : Int)) (some ((a + 3 : Nat) : Int))) = (z : Int)) :
    cutL ns (some (a : Int)) (some ((a + 7 + z : Nat) : Int)) = frF (cutL ns (some ((a + 7 : Nat) : Int)) (some ((a + 7 + z : Nat) : Int))) ↔
    numF (cutL ns (some ((a + 3 : Nat) : Int)) (some ((a + 7 : Nat) : Int))) = checkF (cutL ns (some (a : Int)) (some ((a + 3 : Nat) : Int)) ++ cutL ns (some ((a + 7 : Nat) : Int)) (some ((a + 7 + z : Nat) : Int))) := by
  have l3 : lowF (z : Int) 3 = cutL ns (some (a : Int)) (some ((a + 3 : Nat) : Int)) := by
    rw [← hz]; exact low_num (oct_cut ho _ _) (by rw [cut_len_eq _ (by omega) (by omega)]; omega)
  have lp : (cutL ns (some ((a + 7 : Nat) : Int)) (some ((a + 7 + z : Nat) : Int))).length = z := by rw [cut_len_eq _ (by omega) hc]; omega
  have l4 : (cutL ns (some ((a + 3 : Nat) : Int)) (some ((a + 7 : Nat) : Int))).length = 4 := by rw [cut_len_eq _ (by omega) (by omega)]; omega
  unfold frF
  rw [lp, l3, cut_join ns (show a ≤ a + 3 by omega) (show a + 3 ≤ a + 7 + z by omega), cut_join ns (show a + 3 ≤ a + 7 by omega) (show a + 7 ≤ a + 7 + z by omega), List.append_assoc]
  rw [List.append_right_inj]
  have hb := check_bd (cutL ns (some (a : Int)) (some ((a + 3 : Nat) : Int)) ++ cutL ns (some ((a + 7 : Nat) : Int)) (some ((a + 7 + z : Nat) : Int)))
  constructor
  · intro h
    have h := (List.append_inj h (by rw [l4, lowF_len])).1
    rw [h, num_low hb.1 (by have : (256 : Int) ^ 4 = 4294967296 := by decide
                            omega)]
  · intro h
    rw [← h, low_num (oct_cut ho _ _) l4]
theorem ok_ldue {f : Addr} {fd : FuncData} (F : Fun K "_law_due" "_law_due" sLDue f fd) (mL : mg "len" = none) (D1 : DefAt P w K mg base 1 "_law_value" ["octets"] spNum) (D2 : DefAt P w K mg base 2 "_law_framed" ["payload"] spFramed) : FnOk P w K mg base (L2.CX P w) 3 f fd ["octets"] (spOf K spPay) := by
  refine def_ok F scLDue (fun rs M Q R h => ?_) (fun W rs M Q R h hb hr => ?_)
  · obtain ⟨r, ns, rfl, _⟩ := h; rfl
  · obtain ⟨r, ns, rfl, hl, ho, hz, hq⟩ := h
    show ExS _ _ [some r, none, none, none, none] M _
    refine xs_cons ?_
    walk_at "ds"
    refine ev_lstP ?_
    walk_at "ds"
    refine ⟨by decide, ?_⟩
    walk_at "ds"
    refine x_while (fun m Γ' M' => ∃ (fs : List (List Int)) (a : Nat), Γ' = [some r, some (.p M.length), some (.d (.int a)), none, none] ∧ M' = M ++ [.lst ((dL fs).map .d)] ∧ (∀ r' a', Par ns a r' a' → Par ns 0 (fs ++ r') a') ∧ m = ns.length - a ∧ fs.length ≤ a) (ns.length - 0) ⟨[], 0, rfl, rfl, fun _ _ h => h, rfl, Nat.le_refl _⟩ ?_
    rintro m Γ' M' ⟨fs, a, rfl, rfl, hp, rfl, hfs⟩
    have hl' : ∀ c, AsL (M ++ [c]) r (iI ns) := fun c => hl.app
    have fin : ∀ x3 x4 : Option Im, nextF ns a = none → ExS (defG P w K mg base ["octets", "found", "at", "end", "payload"] (defScope sLDue) 2 M.length W) ((defBody sLDue).drop 3) [some r, some (.p M.length), some (.d (.int a)), x3, x4] (M ++ [.lst ((dL fs).map .d)]) { nx := fun x M' => Backs M.length Q (Im.d PyData.none) M', rt := Backs M.length Q, ex := BacksX M.length R } := by
      intro x3 x4 hn
      refine xs_fz M.length (dL fs) (by simp) ?_
      refine xs_one (x_ret (ev_tup ?_))
      walk_at "ds"
      refine ⟨(by show 2 ≤ sizeLine; decide), [.list (dL fs), .int a], ?_, ?_⟩
      · rw [fzI_same]; exact ⟨rfl, rfl, trivial⟩
      · refine .inr ⟨M, [.dead], setLast_app, hb, trivial, Nat.le_refl _, hq fs a ?_⟩
        have := hp _ _ (.stop hn)
        simpa using this
    walk_at "ds"
    refine ⟨_, .lst (hl' _), ?_⟩
    walk_at "ds"
    rw [iI_len]
    refine ⟨fun hc => ?_, fun hc => ?_⟩
    · have hc : a + 7 ≤ ns.length := by have := of_decide_eq_true hc; omega
      have e3 : (a : Int) + 3 = ((a + 3 : Nat) : Int) := by omega
      have e7 : (a : Int) + 7 = ((a + 7 : Nat) : Int) := by omega
      walk_at "ds"
      rw [e3]
      refine slc_lst (hl' _) ?_
      walk_at "ds"
      have n3 := numF_bd (oct_cut ho (some (a : Int)) (some ((a + 3 : Nat) : Int)))
      obtain ⟨z, hz3⟩ : ∃ z : Nat, numF (cutL ns (some (a : Int)) (some ((a + 3 : Nat) : Int))) = (z : Int) := ⟨_, (Int.toNat_of_nonneg n3.1).symm⟩
      refine ⟨_, cutL ns (some (a : Int)) (some ((a + 3 : Nat) : Int)), rfl, by rw [cut_dI]; exact .d _, oct_cut ho _ _, by have := cut_len ns a (a + 3); omega, ?_⟩
      rw [hz3]
      have ee : (a : Int) + 7 + (z : Int) = ((a + 7 + z : Nat) : Int) := by omega
      refine add_int ?_
      rw [ee]
      have nx : nextF ns a = if a + 7 + z ≤ ns.length ∧ numF (cutL ns (some ((a + 3 : Nat) : Int)) (some ((a + 7 : Nat) : Int))) = checkF (cutL ns (some a) (some ((a + 3 : Nat) : Int)) ++ cutL ns (some ((a + 7 : Nat) : Int)) (some ((a + 7 + z : Nat) : Int))) then some (cutL ns (some ((a + 7 : Nat) : Int)) (some ((a + 7 + z : Nat) : Int)), a + 7 + z) else none := by
        unfold nextF
        rw [if_pos hc, hz3]
        rfl
      walk_at "es"
      refine xs_cons ?_
      walk_at "es"
      rw [e7]
      refine slc_lst (hl' _) ?_
      refine xs_cons ?_
      walk_at "es"
      refine ⟨_, .lst (hl' _), ?_⟩
      walk_at "es"
      rw [iI_len]
      refine ⟨fun hd => ?_, fun hd => ?_⟩
      · have hd := of_decide_eq_false hd
        walk_at "es"
        refine slc_lst (hl' _) ?_
        walk_at "es"
        rw [cut_dI, cut_dI]
        have h2 := cut_len ns (a + 7) (a + 7 + z)
        refine ⟨_, cutL ns (some ((a + 7 : Nat) : Int)) (some ((a + 7 + z : Nat) : Int)), rfl, .d _, oct_cut ho _ _, by omega, ?_⟩
        refine ⟨_, _, .d _, .d _, shaped_ints _, shaped_ints _, ?_⟩
        rw [eqv_ints]
        have fe := frame_eq (a := a) (z := z) ho (by omega) hz3
        refine ⟨fun hd2 => ?_, fun hd2 => ?_⟩
        · refine xs_one (x_break ?_)
          refine fin _ _ ?_
          rw [nx, if_neg]
          rintro ⟨_, h1⟩
          rw [decide_eq_true (fe.mpr h1)] at hd2
          cases hd2
        · have h4 : numF (cutL ns (some ((a + 3 : Nat) : Int)) (some ((a + 7 : Nat) : Int))) = checkF (cutL ns (some a) (some ((a + 3 : Nat) : Int)) ++ cutL ns (some ((a + 7 : Nat) : Int)) (some ((a + 7 + z : Nat) : Int))) := by
            refine fe.mp ?_
            simpa using hd2
          rw [if_pos ⟨by omega, h4⟩] at nx
          refine xs_nil ?_
          walk_at "ds"
          refine ⟨_, _, rfl, getLast_app, ?_⟩
          walk_at "ds"
          refine ⟨_, getLast_app, ?_, ?_⟩
          · simp only [List.length_map, sizeLine_eq]; omega
          rw [setLast_app]
          walk_at "ds"
          dsimp only
          refine .inl ⟨[some r, some (.p M.length), some (.d (.int ((a + 7 + z : Nat) : Int))), none, none], ⟨rfl, rfl, rfl, trivial⟩, ns.length - (a + 7 + z), by omega, fs ++ [cutL ns (some ((a + 7 : Nat) : Int)) (some ((a + 7 + z : Nat) : Int))], a + 7 + z, rfl, ?_, ?_, rfl, ?_⟩
          · simp [dL]
          · intro r' a' h
            have := hp _ _ (.go nx h)
            simpa using this
          · simp; omega
      · have hd := of_decide_eq_true hd
        refine ⟨fun _ => ?_, fun z => Bool.noConfusion z⟩
        refine xs_one (x_break ?_)
        refine fin _ _ ?_
        rw [nx, if_neg]
        rintro ⟨h1, _⟩
        omega
    · refine fin _ _ ?_
      unfold nextF
      rw [if_neg]
      have := of_decide_eq_false hc
      omega
end
end K48

namespace K48
open PySem PySem.Spec PyProof.Rows L2 DL
def cat : List (List Int) → List Int
  | [] => []
  | p :: r => frF p ++ cat r
theorem frF_len (p : List Int) : (frF p).length = p.length + 7 := by simp [frF, lowF_len]; omega
theorem frF_oct {p : List Int} (h : Oct p) : Oct (frF p) := ((lowF_oct _ _).app (lowF_oct _ _)).app h
theorem cat_oct : ∀ {ps : List (List Int)}, (∀ p ∈ ps, Oct p) → Oct (cat ps)
  | [], _ => fun x hx => absurd hx (by simp [cat])
  | p :: r, h => (frF_oct (h p List.mem_cons_self)).app (cat_oct fun q hq => h q (List.mem_cons_of_mem _ hq))
theorem cat_snoc : ∀ (ps : List (List Int)) (p : List Int), cat (ps ++ [p]) = cat ps ++ frF p
  | [], p => by simp [cat]
  | q :: r, p => by simp [cat, cat_snoc r p]
theorem cut_app {α : Type} (pre x post : List α) {a b : Nat} (ha : a = pre.length) (hb : b = pre.length + x.length) : cutL (pre ++ x ++ post) (some (a : Int)) (some (b : Int)) = x := by
  subst ha hb
  rw [cut_nat, List.append_assoc, List.drop_left, show pre.length + x.length - pre.length = x.length by omega, List.take_left]
theorem next_frame {pre p post : List Int} (ho : Oct p) (hz : p.length ≤ 1000) : nextF (pre ++ frF p ++ post) pre.length = some (p, pre.length + (frF p).length) := by
  have L3 := lowF_len (p.length : Int) 3
  have L4 := lowF_len (checkF (lowF p.length 3 ++ p)) 4
  have e : pre ++ frF p ++ post = pre ++ lowF p.length 3 ++ lowF (checkF (lowF p.length 3 ++ p)) 4 ++ p ++ post := by simp [frF]
  have hb := check_bd (lowF p.length 3 ++ p)
  have p4 : (256 : Int) ^ 4 = 4294967296 := by decide
  have p3 : (256 : Int) ^ 3 = 16777216 := by decide
  have n3 : numF (lowF (p.length : Int) 3) = (p.length : Int) := num_low (by omega) (by omega)
  have n4 : numF (lowF (checkF (lowF p.length 3 ++ p)) 4) = checkF (lowF p.length 3 ++ p) := num_low hb.1 (by omega)
  have c1 : cutL (pre ++ frF p ++ post) (some (pre.length : Int)) (some ((pre.length + 3 : Nat) : Int)) = lowF p.length 3 := by
    rw [e, List.append_assoc, List.append_assoc]; exact cut_app pre _ _ rfl (by rw [L3])
  have c2 : cutL (pre ++ frF p ++ post) (some ((pre.length + 3 : Nat) : Int)) (some ((pre.length + 7 : Nat) : Int)) = lowF (checkF (lowF p.length 3 ++ p)) 4 := by
    rw [e, List.append_assoc (as := pre ++ lowF p.length 3 ++ _)]; exact cut_app _ _ _ (by rw [List.length_append, L3]) (by rw [List.length_append, L3, L4])
  have c3 : cutL (pre ++ frF p ++ post) (some ((pre.length + 7 : Nat) : Int)) (some ((pre.length + 7 + p.length : Nat) : Int)) = p := by
    rw [e]; exact cut_app _ _ _ (by rw [List.length_append, List.length_append, L3, L4]) (by rw [List.length_append, List.length_append, L3, L4])
  have hl : (pre ++ frF p ++ post).length = pre.length + (p.length + 7) + post.length := by rw [List.length_append, List.length_append, frF_len]
  unfold nextF
  rw [if_pos (by omega), c1, n3]
  dsimp only
  rw [Int.toNat_natCast, c2, n4, c3, if_pos ⟨by omega, rfl⟩, frF_len]
  congr 2
  omega
theorem par_all : ∀ (ps : List (List Int)) (pre : List Int), (∀ p ∈ ps, Oct p ∧ p.length ≤ 1000) → Par (pre ++ cat ps) pre.length ps (pre ++ cat ps).length
  | [], pre, _ => by
    have : (pre ++ cat []).length = pre.length := by simp [cat]
    rw [this]
    refine .stop ?_
    unfold nextF
    rw [if_neg (by rw [this]; omega)]
  | p :: r, pre, h => by
    have h1 := h p List.mem_cons_self
    have e : pre ++ cat (p :: r) = pre ++ frF p ++ cat r := by simp [cat]
    have ih := par_all r (pre ++ frF p) fun q hq => h q (List.mem_cons_of_mem _ hq)
    rw [e]
    refine .go (next_frame h1.1 h1.2) ?_
    rw [List.length_append] at ih
    exact ih
theorem par_det {ns : List Int} {a e e' : Nat} {fs fs' : List (List Int)} (h : Par ns a fs e) : Par ns a fs' e' → fs = fs' ∧ e = e' := by
  intro h'
  induction h generalizing fs' e' with
  | stop hn =>
    cases h' with
    | stop _ => exact ⟨rfl, rfl⟩
    | go hn' _ => rw [hn] at hn'; cases hn'
  | go hn _ ih =>
    cases h' with
    | stop hn' => rw [hn] at hn'; cases hn'
    | go hn' h2 =>
      rw [hn] at hn'
      cases hn'
      obtain ⟨rfl, rfl⟩ := ih h2
      exact ⟨rfl, rfl⟩
theorem canLay_dL : ∀ fs : List (List Int), PyData.canLayAll0 (dL fs) = true
  | [] => rfl
  | p :: r => by
    show (PyData.canLay0 (.list (dI p)) && PyData.canLayAll0 (dL r)) = true
    rw [canLay_dL r, show PyData.canLay0 (.list (dI p)) = true from canLay_ints p]; rfl
theorem depth_dL : ∀ fs : List (List Int), PyData.depthAll (dL fs) ≤ 1
  | [] => Nat.zero_le _
  | p :: r => by
    show max (PyData.depth (.list (dI p))) (PyData.depthAll (dL r)) ≤ 1
    have h1 := depth_dL r
    have h2 : PyData.depth (.list (dI p)) = 1 := by show PyData.depthAll (dI p) + 1 = 1; rw [depth_ints]
    omega
abbrev payD (fs : List (List Int)) (a : Int) : Dt := .tuple [.list (dL fs), .int a]
theorem shaped_pay (fs : List (List Int)) (a : Int) : SeqAt.shaped (payD fs a) = true := by
  unfold SeqAt.shaped
  have h1 : PyData.canLay0 (payD fs a) = true := by
    show (PyData.canLay0 (.list (dL fs)) && (PyData.canLay0 (.int a) && PyData.canLayAll0 [])) = true
    rw [show PyData.canLay0 (.list (dL fs)) = true from canLay_dL fs]; rfl
  have h2 : PyData.depth (payD fs a) ≤ 3 := by
    show max (PyData.depthAll (dL fs) + 1) (max (PyData.depth (.int a)) (PyData.depthAll [])) + 1 ≤ 3
    have := depth_dL fs
    show max (PyData.depthAll (dL fs) + 1) (max 0 0) + 1 ≤ 3
    omega
  rw [h1, Bool.true_and, decide_eq_true_eq]
  omega
theorem scLaw : FnScope ["script", "turn", "box", "octets", "payloads", "k", "inner", "size", "payload", "told", "other", "spot", "passed", "j"] ["script"] (defScope sLaw) := ⟨rfl, rfl, rfl, by decide +kernel, rfl, by decide +kernel, by decide +kernel⟩
def spLaw : DSp := fun rs M Q R => ∃ ns, rs = [.d (.list (dI ns))] ∧ M = [] ∧ ns.length ≤ 63 ∧ (∀ x ∈ ns, x.natAbs < 2 ^ 1048576) ∧ Q (.d (.bool true)) []
end K48

namespace K48
open PySem PySem.Spec PyProof.Rows L2 DL
abbrev nLaw : List Str := ["script", "turn", "box", "octets", "payloads", "k", "inner", "size", "payload", "told", "other", "spot", "passed", "j"]
section
variable {P : Program} {w : World} {K : PySem.W.Frag} {mg : Str → Option Value} {base : Heap}
theorem mod_nat (z m : Int) (hm : 0 < m) : ∃ n : Nat, z % m = (n : Int) ∧ (n : Int) < m := ⟨(z % m).toNat, by have := Int.emod_nonneg z (show m ≠ 0 by omega); omega, by have := Int.emod_nonneg z (show m ≠ 0 by omega); have := Int.emod_lt_of_pos z hm; omega⟩
theorem ok_law {f : Addr} {fd : FuncData} (F : Fun K "law" "law" sLaw f fd) (mR : mg "range" = none) (mL : mg "len" = none) (mI : mg "int" = none) (mLi : mg "list" = none) (mIs : mg "isinstance" = none) (mTu : mg "tuple" = none)
    (D1 : DefAt P w K mg base 1 "_law_number" ["script", "k"] spNumber) (D2 : DefAt P w K mg base 1 "_law_take" ["box", "size"] spTake) (D3 : DefAt P w K mg base 2 "framed" ["payload"] spFramed) (D4 : DefAt P w K mg base 2 "payloads_in" ["octets"] spPay)
    (D5 : DefAt P w K mg base 2 "_law_framed" ["payload"] spFramed) (D6 : DefAt P w K mg base 3 "_law_due" ["octets"] spPay) : FnOk P w K mg base (L2.CX P w) 4 f fd ["script"] (spOf K spLaw) := by
  refine def_ok F scLaw (fun rs M Q R h => ?_) (fun W rs M Q R h hb hr => ?_)
  · obtain ⟨ns, rfl, _⟩ := h; rfl
  · obtain ⟨ns, rfl, rfl, hz, hx, hq⟩ := h
    clear hb hr
    have hl : ∀ M : Sto, AsL M (.d (.list (dI ns))) (iI ns) := fun M => .d _
    generalize hS : PyData.list (dI ns) = S at hl
    show ExS _ _ [some (.d S), none, none, none, none, none, none, none, none, none, none, none, none, none] [] _
    refine xs_cons ?_
    refine x_for (fun _ _ => rfl) (evi_range mR rfl (fun _ => rfl) ?_)
    walk_at "es"
    refine ⟨by decide, by decide, ?_⟩
    refine ⟨fun i Γ' M' => Γ' = [some (.d S), none, none, none, none, none, none, none, none, none, none, none, none, none] ∧ M' = [], ⟨rfl, rfl⟩, ?_, ?_⟩
    · rintro i x Γ' M' hx1 ⟨rfl, rfl⟩
      obtain ⟨hi, rfl⟩ := intsL_get hx1
      have hi : i < 6 := hi
      refine ⟨trivial, ?_⟩
      walk_at "es"
      -- box = [_law_number(script, 12 * turn)]
      refine xs_cons ?_
      walk_at "es"
      refine ev_lstP ?_
      walk_at "es"
      refine ⟨mulx_ok (a := 64) (b := 64) (by decide) (by omega) (by decide), ?_⟩
      walk_at "es"
      refine ⟨.d S, ns, _, 1048576, rfl, hl _, by omega, by omega, hx, by decide, ?_⟩
      generalize numL ns _ = z
      walk_at "es"
      refine ⟨by (show 1 ≤ sizeLine); decide, ?_⟩
      show ExS _ _ [some (.d S), some (.d (.int (0 + (i : Int)))), some (.p 0), none, none, none, none, none, none, none, none, none, none, none] [.lst [.d (.int z)]] _
      -- octets = []; payloads = []
      refine xs_cons ?_
      walk_at "es"
      refine ev_lst ?_
      walk_at "es"
      refine ⟨by decide, [], trivial, ?_⟩
      refine xs_cons ?_
      walk_at "es"
      refine ev_lstP ?_
      walk_at "es"
      refine ⟨by decide, ?_⟩
      show ExS _ _ [some (.d S), some (.d (.int (0 + (i : Int)))), some (.p 0), some (.d (.list (dI []))), some (.p 1), none, none, none, none, none, none, none, none, none] [.lst [.d (.int z)], .lst []] _
      -- for k in range(_law_take(box, 9))
      refine xs_cons ?_
      refine x_for (fun _ _ => rfl) (evi_range mR rfl (fun _ => rfl) ?_)
      walk_at "es"
      refine ⟨0, z, 9, rfl, rfl, by decide, by decide, ?_⟩
      obtain ⟨n9, e9, h9⟩ := mod_nat z 9 (by decide)
      rw [e9]
      refine ⟨_, rfl, by omega, by omega, ?_⟩
      refine ⟨fun kk Γ' M' => ∃ ps : List (List Int), ps.length = kk ∧ (∀ p ∈ ps, Oct p ∧ p.length ≤ 40) ∧ (cat ps).length ≤ 47 * kk ∧ Γ' = [some (.d S), some (.d (.int (0 + (i : Int)))), some (.p 0), some (.d (.list (dI (cat ps)))), some (.p 1), none, none, none, none, none, none, none, none, none] ∧ M' = [.lst [.d (.int (z / 9))], .lst ((dL ps).map .d)],
        ⟨[], rfl, (fun _ h => absurd h (by simp)), (by decide), rfl, rfl⟩, ?_, ?_⟩
      · rintro kk x Γ' M' hx2 ⟨ps, hps, hpo, hcl, rfl, rfl⟩
        obtain ⟨hk, rfl⟩ := intsL_get hx2
        have hk : kk < 9 := by omega
        refine ⟨trivial, ?_⟩
        walk_at "es"
        -- inner = [_law_number(script, 12 * turn + 1 + k)]
        refine xs_cons ?_
        walk_at "es"
        refine ev_lstP ?_
        walk_at "es"
        refine ⟨mulx_ok (a := 64) (b := 64) (by decide) (by omega) (by decide), ?_⟩
        walk_at "es"
        refine ⟨.d S, ns, _, 1048576, rfl, hl _, by omega, by omega, hx, by decide, ?_⟩
        have nb := numL_bd (k := 12 * (0 + (i : Int)) + 1 + (0 + (kk : Int))) hx
        generalize numL ns _ = n at nb ⊢
        walk_at "es"
        refine ⟨by (show 1 ≤ sizeLine); decide, ?_⟩
        show ExS _ _ [some (.d S), some (.d (.int (0 + (i : Int)))), some (.p 0), some (.d (.list (dI (cat ps)))), some (.p 1), some (.d (.int (0 + (kk : Int)))), some (.p 2), none, none, none, none, none, none, none] [.lst [.d (.int (z / 9))], .lst ((dL ps).map .d), .lst [.d (.int n)]] _
        -- size = _law_take(inner, 41)
        refine xs_cons ?_
        walk_at "es"
        refine ⟨2, n, 41, rfl, rfl, by decide, by decide, ?_⟩
        obtain ⟨sz, esz, hsz⟩ := mod_nat n 41 (by decide)
        rw [esz]
        show ExS _ _ [some (.d S), some (.d (.int (0 + (i : Int)))), some (.p 0), some (.d (.list (dI (cat ps)))), some (.p 1), some (.d (.int (0 + (kk : Int)))), some (.p 2), some (.d (.int sz)), none, none, none, none, none, none] [.lst [.d (.int (z / 9))], .lst ((dL ps).map .d), .lst [.d (.int (n / 41))]] _
        -- payload = [int(inner[0] // (j + 1)) % 256 for j in range(size)]
        refine xs_cons ?_
        refine x_lcD (i := 8) (own := [("j", 13)]) rfl rfl (sw_lc rfl rfl rfl (by decide +kernel)) (show blkC nLaw (defScope sLaw) _ [("j", 13)] = true by decide +kernel) (tg_name (i := 13) rfl (Or.inl rfl) (Or.inr rfl) (by decide)) (fun _ _ => rfl) (evi_range mR rfl (fun _ => rfl) ?_)
        walk_at "es"
        refine ⟨by omega, by omega, rfl, (fun x => match x with | .d (.int j) => .int (n / 41 / (j + 1) % 256) | _ => .none), (fun _ => true), by rw [intsL_len, sizeLine_eq]; omega, ?_, fun _ => trivial, ?_⟩
        · intro x hxm acc
          obtain ⟨j, hj, rfl⟩ := List.mem_map.mp hxm
          refine evts_nil ⟨rfl, rfl, fun _ => ?_⟩
          walk_at "es"
          refine ix_lst (xs := [.d (.int (n / 41))]) (.p rfl) (x := .d (.int (n / 41))) rfl ?_
          walk_at "es"
          have hj := List.mem_range.mp hj
          refine ⟨⟨by omega, ?_⟩, ?_⟩
          · have h40 : (0 + (j : Int) + 1).natAbs < 2 ^ 64 := by omega
            exact (wide_div (b := 64) (i := 0) (by omega) h40 (by decide) (by decide)).2
          walk_at "es"
          exact ⟨rfl, rfl⟩
        · obtain ⟨pl, hpl, hplo, hpll⟩ : ∃ pl : List Int, ((intsL 0 (sz : Int).toNat).filter (fun _ => true)).map (fun x => match x with | .d (.int j) => PyData.int (n / 41 / (j + 1) % 256) | _ => .none) = dI pl ∧ Oct pl ∧ pl.length ≤ 40 := by
            refine ⟨(List.range sz).map fun (j : Nat) => n / 41 / (0 + (j : Int) + 1) % 256, ?_, ?_, ?_⟩
            · unfold intsL dI
              rw [List.filter_eq_self.mpr (fun _ _ => rfl), List.map_map, List.map_map]
              rfl
            · intro x hx
              obtain ⟨j, _, rfl⟩ := List.mem_map.mp hx
              exact ⟨Int.emod_nonneg _ (by decide), Int.emod_lt_of_pos _ (by decide)⟩
            · simp; omega
          rw [hpl]
          show ExS _ _ [some (.d S), some (.d (.int (0 + (i : Int)))), some (.p 0), some (.d (.list (dI (cat ps)))), some (.p 1), some (.d (.int (0 + (kk : Int)))), some (.p 2), some (.d (.int sz)), some (.d (.list (dI pl))), none, none, none, none, none] [.lst [.d (.int (z / 9))], .lst ((dL ps).map .d), .lst [.d (.int (n / 41))]] _
          -- payloads.append(payload)
          refine xs_cons ?_
          walk_at "es"
          refine ⟨?_, ?_⟩
          · simp only [List.length_map, sizeLine_eq]; omega
          have esn : (dL ps).map Im.d ++ [Im.d (.list (dI pl))] = (dL (ps ++ [pl])).map Im.d := by simp [dL]
          rw [esn]
          show ExS _ _ [some (.d S), some (.d (.int (0 + (i : Int)))), some (.p 0), some (.d (.list (dI (cat ps)))), some (.p 1), some (.d (.int (0 + (kk : Int)))), some (.p 2), some (.d (.int sz)), some (.d (.list (dI pl))), none, none, none, none, none] [.lst [.d (.int (z / 9))], .lst ((dL (ps ++ [pl])).map .d), .lst [.d (.int (n / 41))]] _
          -- if framed(list(payload)) != _law_framed(payload)
          refine xs_cons ?_
          walk_at "es"
          refine .inl ⟨dI pl, .inl (.d _), ?_⟩
          walk_at "es"
          refine ⟨_, pl, rfl, .d _, hplo, by omega, ?_⟩
          walk_at "es"
          refine ⟨_, pl, rfl, .d _, hplo, by omega, ?_⟩
          refine ⟨_, _, .d _, .d _, shaped_ints _, shaped_ints _, ?_⟩
          rw [eqv_ints, decide_eq_true rfl]
          refine ⟨fun z => Bool.noConfusion z, fun _ => xs_nil ?_⟩
          -- octets = octets + _law_framed(payload)
          refine xs_one ?_
          walk_at "es"
          refine ⟨_, pl, rfl, .d _, hplo, by omega, ?_⟩
          have hfl := frF_len pl
          refine add_lst (.d _) (.d _) ?_ ?_
          · simp only [dI_len, sizeLine_eq]; omega
          have eo : dI (cat ps) ++ dI (frF pl) = dI (cat (ps ++ [pl])) := by rw [cat_snoc]; simp [dI]
          rw [eo]
          dsimp only
          refine .inr ⟨_, [.lst [.d (.int (z / 9))], .lst ((dL (ps ++ [pl])).map .d)], ⟨?_, ⟨_, rfl⟩, ?_, ?_, Nat.le_refl _⟩, ps ++ [pl], by simp [hps], ?_, ?_, rfl, rfl⟩
          · exact ⟨rfl, rfl, rfl, rfl, rfl, trivial⟩
          · walk_at "stb"
          · walk_at "ecb"
          · intro p hp
            rcases List.mem_append.mp hp with hp | hp
            · exact hpo p hp
            · simp at hp; subst hp; exact ⟨hplo, hpll⟩
          · rw [cat_snoc, List.length_append]; omega
      · rintro Γ' M' ⟨ps, hps, hpo, hcl, rfl, rfl⟩
        rw [intsL_len] at hps hcl
        have hcl : (cat ps).length ≤ 400 := by omega
        have hco : Oct (cat ps) := cat_oct fun p hp => (hpo p hp).1
        have hpar := par_all ps [] fun p hp => ⟨(hpo p hp).1, by have := (hpo p hp).2; omega⟩
        rw [List.nil_append] at hpar
        refine ⟨trivial, ?_⟩
        refine xs_fz 1 (dL ps) rfl ?_
        show ExS _ _ [some (.d S), some (.d (.int (0 + (i : Int)))), some (.p 0), some (.d (.list (dI (cat ps)))), some (.d (.list (dL ps))), none, none, none, none, none, none, none, none, none] [.lst [.d (.int (z / 9))], .dead] _
        -- told = payloads_in(list(octets))
        refine xs_cons ?_
        walk_at "es"
        refine .inl ⟨dI (cat ps), .inl (.d _), ?_⟩
        walk_at "es"
        refine ⟨_, cat ps, rfl, .d _, hco, by omega, fun fs a hp => ?_⟩
        obtain ⟨rfl, rfl⟩ := par_det hp hpar
        show ExS _ _ [some (.d S), some (.d (.int (0 + (i : Int)))), some (.p 0), some (.d (.list (dI (cat fs)))), some (.d (.list (dL fs))), none, none, none, none, some (.d (payD fs (cat fs).length)), none, none, none, none] [.lst [.d (.int (z / 9))], .dead] _
        -- if not isinstance(told, tuple) or told != (payloads, len(octets))
        refine xs_cons ?_
        walk_at "es"
        refine ⟨_, true, .d _, (show kitB "tuple" "tuple" = some true by decide +kernel), ?_⟩
        walk_at "es"
        refine ⟨fun _ => ?_, fun z => Bool.noConfusion z⟩
        walk_at "es"
        refine ev_tup ?_
        walk_at "es"
        refine ⟨_, .lst (.d _), ?_⟩
        walk_at "es"
        refine ⟨(by show 2 ≤ sizeLine; decide), [.list (dL fs), .int (cat fs).length], ⟨rfl, by rw [iI_len], trivial⟩, ?_⟩
        refine ⟨_, _, .d _, .d _, shaped_pay _ _, shaped_pay _ _, ?_⟩
        rw [eqv_refl_sh (shaped_pay _ _)]
        refine ⟨fun z => Bool.noConfusion z, fun _ => xs_nil ?_⟩
        refine xs_see (Γ' := [some (.d S), some (.d (.int (0 + (i : Int)))), none, some (.d (.list (dI (cat fs)))), none, none, none, none, none, none, none, none, none, none]) (M' := []) ⟨⟨rfl, rfl, rfl, trivial⟩, ⟨_, rfl⟩, stoB_nil, by walk_at "ecb", Nat.zero_le _⟩ ?_
        -- for k in range(4)
        refine xs_one ?_
        refine x_for (fun _ _ => rfl) (evi_range mR rfl (fun _ => rfl) ?_)
        walk_at "es"
        refine ⟨by decide, by decide, ?_⟩
        refine ⟨fun i2 Γ' M' => Γ' = [some (.d S), some (.d (.int (0 + (i : Int)))), none, some (.d (.list (dI (cat fs)))), none, none, none, none, none, none, none, none, none, none] ∧ M' = [], ⟨rfl, rfl⟩, ?_, ?_⟩
        · rintro i2 x Γ' M' hx3 ⟨rfl, rfl⟩
          obtain ⟨hi2, rfl⟩ := intsL_get hx3
          have hi2 : i2 < 4 := hi2
          refine ⟨trivial, ?_⟩
          walk_at "es"
          -- inner = [_law_number(script, 12 * turn + 9 + k)]
          refine xs_cons ?_
          walk_at "es"
          refine ev_lstP ?_
          walk_at "es"
          refine ⟨mulx_ok (a := 64) (b := 64) (by decide) (by omega) (by decide), ?_⟩
          walk_at "es"
          refine ⟨.d S, ns, _, 1048576, rfl, hl _, by omega, by omega, hx, by decide, ?_⟩
          generalize numL ns _ = n
          walk_at "es"
          refine ⟨by (show 1 ≤ sizeLine); decide, ?_⟩
          -- other = list(octets) + [0, 0, 0, 1]
          refine xs_cons ?_
          walk_at "es"
          refine .inl ⟨dI (cat fs), .inl (.d _), ?_⟩
          refine ev_lst ?_
          walk_at "es"
          refine ⟨by (show 4 ≤ sizeLine); decide, [.int 0, .int 0, .int 0, .int 1], ⟨rfl, rfl, rfl, rfl, trivial⟩, ?_⟩
          refine add_lstP (.d _) (.d _) ?_ ?_
          · simp only [List.length_map, dI_len, sizeLine_eq]; show (cat fs).length + 4 ≤ _; omega
          have eot : (dI (cat fs)).map Im.d ++ [PyData.int 0, .int 0, .int 0, .int 1].map Im.d = iI (cat fs ++ [0, 0, 0, 1]) := by simp [dI, iI]
          rw [eot]
          obtain ⟨os, hos, hosl, hosp⟩ : ∃ os : List Int, cat fs ++ [0, 0, 0, 1] = os ∧ os.length = (cat fs).length + 4 ∧ Oct os := ⟨_, rfl, by simp, hco.app (by intro x hx; simp at hx; omega)⟩
          rw [hos]
          show ExS _ _ [some (.d S), some (.d (.int (0 + (i : Int)))), none, some (.d (.list (dI (cat fs)))), none, some (.d (.int (0 + (i2 : Int)))), some (.p 0), none, none, none, some (.p 1), none, none, none] [.lst [.d (.int n)], .lst (iI os)] _
          -- spot = _law_take(inner, len(other))
          refine xs_cons ?_
          walk_at "es"
          refine ⟨_, .lst (.p rfl), ?_⟩
          rw [iI_len]
          walk_at "es"
          refine ⟨0, n, os.length, rfl, rfl, by omega, ?_, ?_⟩
          · have := pow_le2 (show 10 ≤ 200 by decide); omega
          obtain ⟨sp, esp, hsp⟩ := mod_nat n os.length (by omega)
          rw [esp]
          generalize n / (os.length : Int) = n1
          show ExS _ _ [some (.d S), some (.d (.int (0 + (i : Int)))), none, some (.d (.list (dI (cat fs)))), none, some (.d (.int (0 + (i2 : Int)))), some (.p 0), none, none, none, some (.p 1), some (.d (.int sp)), none, none] [.lst [.d (.int n1)], .lst (iI os)] _
          -- if _law_take(inner, 2) == 0: other = other[:spot] else: other[spot] = _law_take(inner, 256)
          refine xs_cons ?_
          refine x_join (fun Γ' M' => ∃ ot : List Int, Oct ot ∧ ot.length ≤ 404 ∧ Γ' = [some (.d S), some (.d (.int (0 + (i : Int)))), none, some (.d (.list (dI (cat fs)))), none, none, none, none, none, none, some (.d (.list (dI ot))), none, none, none] ∧ M' = []) ?_ ?_
          · walk_at "es"
            refine ⟨0, n1, 2, rfl, rfl, by decide, by decide, ?_⟩
            generalize n1 % 2 = b2
            generalize n1 / 2 = n2
            walk_at "es"
            refine ⟨_, _, .d _, .d _, rfl, rfl, ?_⟩
            refine ⟨fun _ => ?_, fun _ => ?_⟩
            · refine xs_one ?_
              walk_at "es"
              refine slc_lst (ds := dI os) (.p rfl) ?_
              rw [cut_dI]
              dsimp only
              have hcl2 := cutV_length (os.map V.int) none (some (sp : Int))
              refine .inr ⟨_, [], ⟨?_, ⟨_, rfl⟩, stoB_nil, ?_, Nat.zero_le _⟩, cutL os none (some (sp : Int)), oct_cut hosp _ _, ?_, rfl, rfl⟩
              · exact ⟨rfl, rfl, rfl, rfl, trivial⟩
              · walk_at "ecb"
              · have : (cutL os none (some (sp : Int))).length ≤ os.length := by
                  unfold cutL; rw [List.length_take, List.length_drop]; omega
                omega
            · refine xs_cons ?_
              refine x_setItem (fun _ _ => rfl) (fun _ => rfl) (fun _ => rfl) (fun _ => rfl) ?_
              walk_at "es"
              refine ⟨0, n2, 256, rfl, rfl, by decide, by decide, ?_⟩
              obtain ⟨ov, eov, hov⟩ := mod_nat n2 256 (by decide)
              rw [eov]
              walk_at "es"
              refine ⟨1, iI os, sp, sp, rfl, rfl, rfl, ?_, ?_⟩
              · rw [iI_len]; unfold ixN; rw [if_pos (by omega), if_pos (by omega)]; simp
              have es2 : (iI os).set sp (.d (.int ov)) = iI (os.set sp ov) := by simp [iI, dI, List.map_set]
              rw [es2]
              refine xs_fz 1 (dI (os.set sp ov)) rfl ?_
              refine xs_nil ?_
              dsimp only
              refine .inr ⟨[some (.d S), some (.d (.int (0 + (i : Int)))), none, some (.d (.list (dI (cat fs)))), none, none, none, none, none, none, some (.d (.list (dI (os.set sp ov)))), none, none, none], [], ⟨?_, ⟨_, rfl⟩, stoB_nil, ?_, Nat.zero_le _⟩, os.set sp ov, ?_, ?_, rfl, rfl⟩
              · exact ⟨rfl, rfl, rfl, rfl, trivial⟩
              · walk_at "ecb"
              · intro x hx
                rcases List.mem_or_eq_of_mem_set hx with h | h
                · exact hosp x h
                · subst h; omega
              · rw [List.length_set]; omega
          rintro Γ' M' ⟨ot, hoto, hotl, rfl, rfl⟩
          -- passed = list(other)
          refine xs_cons ?_
          walk_at "es"
          refine .inl ⟨dI ot, .inl (.d _), ?_⟩
          -- if payloads_in(passed) != _law_due(other) or passed != other
          refine xs_cons ?_
          walk_at "es"
          refine ⟨_, ot, rfl, .d _, hoto, by omega, fun g1 a1 hp1 => ?_⟩
          walk_at "es"
          refine ⟨_, ot, rfl, .d _, hoto, by omega, fun g2 a2 hp2 => ?_⟩
          obtain ⟨rfl, rfl⟩ := par_det hp1 hp2
          refine ⟨_, _, .d _, .d _, shaped_pay _ _, shaped_pay _ _, ?_⟩
          rw [eqv_refl_sh (shaped_pay _ _)]
          refine ⟨fun _ => ?_, fun z => Bool.noConfusion z⟩
          walk_at "es"
          refine ⟨_, _, .d _, .d _, shaped_ints _, shaped_ints _, ?_⟩
          rw [eqv_ints, decide_eq_true rfl]
          refine ⟨fun z => Bool.noConfusion z, fun _ => xs_nil ?_⟩
          refine xs_nil ?_
          dsimp only
          refine turn_eq ?_ ?_
          · exact ⟨rfl, rfl, rfl, trivial⟩
          · rfl
        · rintro Γ' M' ⟨rfl, rfl⟩
          refine ⟨trivial, ?_⟩
          dsimp only
          exact turn_eq ⟨rfl, trivial⟩ rfl
    · rintro Γ' M' ⟨rfl, rfl⟩
      refine ⟨trivial, ?_⟩
      -- return payloads_in([]) == ([], 0)
      refine xs_one ?_
      walk_at "es"
      refine ev_lst ?_
      walk_at "es"
      refine ⟨(by show 0 ≤ sizeLine; decide), [], trivial, ?_⟩
      walk_at "es"
      refine ⟨_, [], rfl, .d _, fun _ h => absurd h (by simp), by decide, fun fs a hp => ?_⟩
      obtain ⟨rfl, rfl⟩ := par_det hp (Par.stop (ns := []) (at_ := 0) rfl)
      refine ev_tup ?_
      walk_at "es"
      refine ev_lst ?_
      walk_at "es"
      refine ⟨(by show 0 ≤ sizeLine; decide), [], trivial, ?_⟩
      walk_at "es"
      refine ⟨(by show 2 ≤ sizeLine; decide), [.list (dL []), .int (0 : Nat)], ⟨rfl, rfl, trivial⟩, ?_⟩
      refine ⟨_, _, .d _, .d _, shaped_pay [] 0, shaped_pay [] 0, ?_⟩
      left
      exact hq
end
end K48

namespace K48
open PySem PySem.Spec PyProof.Rows L2 DL
theorem all_mk {l : PySem.W.OpenLaw} {w : World} {K : PySem.W.Frag} {h : Heap} {mg : Str → Option Value} {fa f0 f1 f2 f3 f4 f5 f6 f7 f8 f9 f10 f11 f12 : Addr} (X : K.In h) (G : h.Ns mainGlobals mg) (hfa : mg "law" = some (.ref fa))
    {od0 an0 od1 an1 od2 an2 od3 an3 od4 an4 od5 an5 od6 an6 od7 an7 od8 an8 od9 an9 od10 an10 od11 an11 od12 an12 : Option Addr} {sl0 sl1 sl2 sl3 sl4 sl5 sl6 sl7 sl8 sl9 sl10 sl11 sl12 : Array (Option Value)} {oc0 kV0 dc0 pm0 cd0 ct0 oc1 kV1 dc1 pm1 cd1 ct1 oc2 kV2 dc2 pm2 cd2 ct2 oc3 kV3 dc3 pm3 cd3 ct3 oc4 kV4 dc4 pm4 cd4 ct4 oc5 kV5 dc5 pm5 cd5 ct5 oc6 kV6 dc6 pm6 cd6 ct6 oc7 kV7 dc7 pm7 cd7 ct7 oc8 kV8 dc8 pm8 cd8 ct8 oc9 kV9 dc9 pm9 cd9 ct9 oc10 kV10 dc10 pm10 cd10 ct10 oc11 kV11 dc11 pm11 cd11 ct11 oc12 kV12 dc12 pm12 cd12 ct12 : Value}
    {t0 t1 : Tok}
    (a0 : PySem.W.nsIn K mainGlobals "low_octets" = some (some (.ref f0))) (l0 : K.lookup f0 = some ⟨oc0, od0, .func (PySem.W.fnOf "low_octets" "low_octets" (defArgs sLow) (defBody sLow) (defScope sLow) .none kV0 dc0 pm0 an0 cd0 ct0), sl0⟩) (c0 : PySem.W.codeIn K cd0 "low_octets" = true) (k0 : PySem.W.keepIn K (.ref f0) = true)
    (a1 : PySem.W.nsIn K mainGlobals "number_of" = some (some (.ref f1))) (l1 : K.lookup f1 = some ⟨oc1, od1, .func (PySem.W.fnOf "number_of" "number_of" (defArgs sNum) (defBody sNum) (defScope sNum) .none kV1 dc1 pm1 an1 cd1 ct1), sl1⟩) (c1 : PySem.W.codeIn K cd1 "number_of" = true) (k1 : PySem.W.keepIn K (.ref f1) = true)
    (a2 : PySem.W.nsIn K mainGlobals "check_of" = some (some (.ref f2))) (l2 : K.lookup f2 = some ⟨oc2, od2, .func (PySem.W.fnOf "check_of" "check_of" (defArgs sCheck) (defBody sCheck) (defScope sCheck) .none kV2 dc2 pm2 an2 cd2 ct2), sl2⟩) (c2 : PySem.W.codeIn K cd2 "check_of" = true) (k2 : PySem.W.keepIn K (.ref f2) = true)
    (a3 : PySem.W.nsIn K mainGlobals "framed" = some (some (.ref f3))) (l3 : K.lookup f3 = some ⟨oc3, od3, .func (PySem.W.fnOf "framed" "framed" (defArgs sFramed) (defBody sFramed) (defScope sFramed) .none kV3 dc3 pm3 an3 cd3 ct3), sl3⟩) (c3 : PySem.W.codeIn K cd3 "framed" = true) (k3 : PySem.W.keepIn K (.ref f3) = true)
    (a4 : PySem.W.nsIn K mainGlobals "payloads_in" = some (some (.ref f4))) (l4 : K.lookup f4 = some ⟨oc4, od4, .func (PySem.W.fnOf "payloads_in" "payloads_in" (defArgs sPay) (defBody sPay) (defScope sPay) .none kV4 dc4 pm4 an4 cd4 ct4), sl4⟩) (c4 : PySem.W.codeIn K cd4 "payloads_in" = true) (k4 : PySem.W.keepIn K (.ref f4) = true)
    (a5 : PySem.W.nsIn K mainGlobals "_law_number" = some (some (.ref f5))) (l5 : K.lookup f5 = some ⟨oc5, od5, .func (PySem.W.fnOf "_law_number" "_law_number" (defArgs sNumber) (defBody sNumber) (defScope sNumber) .none kV5 dc5 pm5 an5 cd5 ct5), sl5⟩) (c5 : PySem.W.codeIn K cd5 "_law_number" = true) (k5 : PySem.W.keepIn K (.ref f5) = true)
    (a6 : PySem.W.nsIn K mainGlobals "_law_take" = some (some (.ref f6))) (l6 : K.lookup f6 = some ⟨oc6, od6, .func (PySem.W.fnOf "_law_take" "_law_take" (defArgs sTake) (defBody sTake) (defScope sTake) .none kV6 dc6 pm6 an6 cd6 ct6), sl6⟩) (c6 : PySem.W.codeIn K cd6 "_law_take" = true) (k6 : PySem.W.keepIn K (.ref f6) = true)
    (a7 : PySem.W.nsIn K mainGlobals "_law_low" = some (some (.ref f7))) (l7 : K.lookup f7 = some ⟨oc7, od7, .func (PySem.W.fnOf "_law_low" "_law_low" (defArgs sLLow) (defBody sLLow) (defScope sLLow) .none kV7 dc7 pm7 an7 cd7 ct7), sl7⟩) (c7 : PySem.W.codeIn K cd7 "_law_low" = true) (k7 : PySem.W.keepIn K (.ref f7) = true)
    (a8 : PySem.W.nsIn K mainGlobals "_law_check" = some (some (.ref f8))) (l8 : K.lookup f8 = some ⟨oc8, od8, .func (PySem.W.fnOf "_law_check" "_law_check" (defArgs sLCheck) (defBody sLCheck) (defScope sLCheck) .none kV8 dc8 pm8 an8 cd8 ct8), sl8⟩) (c8 : PySem.W.codeIn K cd8 "_law_check" = true) (k8 : PySem.W.keepIn K (.ref f8) = true)
    (a9 : PySem.W.nsIn K mainGlobals "_law_framed" = some (some (.ref f9))) (l9 : K.lookup f9 = some ⟨oc9, od9, .func (PySem.W.fnOf "_law_framed" "_law_framed" (defArgs sLFramed) (defBody sLFramed) (defScope sLFramed) .none kV9 dc9 pm9 an9 cd9 ct9), sl9⟩) (c9 : PySem.W.codeIn K cd9 "_law_framed" = true) (k9 : PySem.W.keepIn K (.ref f9) = true)
    (a10 : PySem.W.nsIn K mainGlobals "_law_value" = some (some (.ref f10))) (l10 : K.lookup f10 = some ⟨oc10, od10, .func (PySem.W.fnOf "_law_value" "_law_value" (defArgs sLValue) (defBody sLValue) (defScope sLValue) .none kV10 dc10 pm10 an10 cd10 ct10), sl10⟩) (c10 : PySem.W.codeIn K cd10 "_law_value" = true) (k10 : PySem.W.keepIn K (.ref f10) = true)
    (a11 : PySem.W.nsIn K mainGlobals "_law_due" = some (some (.ref f11))) (l11 : K.lookup f11 = some ⟨oc11, od11, .func (PySem.W.fnOf "_law_due" "_law_due" (defArgs sLDue) (defBody sLDue) (defScope sLDue) .none kV11 dc11 pm11 an11 cd11 ct11), sl11⟩) (c11 : PySem.W.codeIn K cd11 "_law_due" = true) (k11 : PySem.W.keepIn K (.ref f11) = true)
    (a12 : PySem.W.nsIn K mainGlobals "law" = some (some (.ref f12))) (l12 : K.lookup f12 = some ⟨oc12, od12, .func (PySem.W.fnOf "law" "law" (defArgs sLaw) (defBody sLaw) (defScope sLaw) .none kV12 dc12 pm12 an12 cd12 ct12), sl12⟩) (c12 : PySem.W.codeIn K cd12 "law" = true) (k12 : PySem.W.keepIn K (.ref f12) = true)
    (cst0 : PySem.W.nsIn K mainGlobals "PRIME" = some (some (.int 4294967291 t0)))
    (cst1 : PySem.W.nsIn K mainGlobals "HEAD" = some (some (.int 7 t1)))
    (z0 : PySem.W.nsIn K mainGlobals "range" = some none)
    (z1 : PySem.W.nsIn K mainGlobals "reversed" = some none)
    (z2 : PySem.W.nsIn K mainGlobals "len" = some none)
    (z3 : PySem.W.nsIn K mainGlobals "int" = some none)
    (z4 : PySem.W.nsIn K mainGlobals "list" = some none)
    (z5 : PySem.W.nsIn K mainGlobals "isinstance" = some none)
    (z6 : PySem.W.nsIn K mainGlobals "tuple" = some none)
    : ∃ fd : FuncData, (∀ (s : Shared) (v : Value), BindsTo s fd ⟨[v], []⟩ [("script", v)]) ∧ ∀ base : Heap, K.In base → base.Ns mainGlobals mg → FnOk l.prog w K mg base (L2.CX l.prog w) 4 fa fd ["script"] (spOf K spLaw) := by
  have e := hfa.symm.trans (PySem.W.mg_of X G a12)
  cases e
  have m_range : mg "range" = none := PySem.W.mg_none_of X G z0
  have m_reversed : mg "reversed" = none := PySem.W.mg_none_of X G z1
  have m_len : mg "len" = none := PySem.W.mg_none_of X G z2
  have m_int : mg "int" = none := PySem.W.mg_none_of X G z3
  have m_list : mg "list" = none := PySem.W.mg_none_of X G z4
  have m_isinstance : mg "isinstance" = none := PySem.W.mg_none_of X G z5
  have m_tuple : mg "tuple" = none := PySem.W.mg_none_of X G z6
  have m_PRIME : mg "PRIME" = some (.int 4294967291 t0) := PySem.W.mg_of X G cst0
  have m_HEAD : mg "HEAD" = some (.int 7 t1) := PySem.W.mg_of X G cst1
  refine ⟨PySem.W.fnOf "law" "law" (defArgs sLaw) (defBody sLaw) (defScope sLaw) .none kV12 dc12 pm12 an12 cd12 ct12, fun s v => .of_eq rfl, fun base _ _ => ?_⟩
  have F0 := fun_mk (st := sLow) l0 c0 k0
  have b0 := F0.binds (ps := ["number", "count"]) fun _ _ _ _ _ _ us hl => match us, hl with | [_, _], _ => rfl
  have D_low_octets := defAt_mk (P := l.prog) (w := w) (base := base) (x := "low_octets") (ok_low F0 m_range) (PySem.W.mg_of X G a0) k0 b0
  have F1 := fun_mk (st := sNum) l1 c1 k1
  have b1 := F1.binds (ps := ["octets"]) fun _ _ _ _ _ _ us hl => match us, hl with | [_], _ => rfl
  have D_number_of := defAt_mk (P := l.prog) (w := w) (base := base) (x := "number_of") (ok_num F1 m_reversed) (PySem.W.mg_of X G a1) k1 b1
  have F2 := fun_mk (st := sCheck) l2 c2 k2
  have b2 := F2.binds (ps := ["octets"]) fun _ _ _ _ _ _ us hl => match us, hl with | [_], _ => rfl
  have D_check_of := defAt_mk (P := l.prog) (w := w) (base := base) (x := "check_of") (ok_check F2 m_PRIME) (PySem.W.mg_of X G a2) k2 b2
  have F3 := fun_mk (st := sFramed) l3 c3 k3
  have b3 := F3.binds (ps := ["payload"]) fun _ _ _ _ _ _ us hl => match us, hl with | [_], _ => rfl
  have D_framed := defAt_mk (P := l.prog) (w := w) (base := base) (x := "framed") (ok_framed F3 m_len D_low_octets D_check_of) (PySem.W.mg_of X G a3) k3 b3
  have F4 := fun_mk (st := sPay) l4 c4 k4
  have b4 := F4.binds (ps := ["octets"]) fun _ _ _ _ _ _ us hl => match us, hl with | [_], _ => rfl
  have D_payloads_in := defAt_mk (P := l.prog) (w := w) (base := base) (x := "payloads_in") (ok_pay F4 m_len m_HEAD D_number_of D_check_of) (PySem.W.mg_of X G a4) k4 b4
  have F5 := fun_mk (st := sNumber) l5 c5 k5
  have b5 := F5.binds (ps := ["script", "k"]) fun _ _ _ _ _ _ us hl => match us, hl with | [_, _], _ => rfl
  have D__law_number := defAt_mk (P := l.prog) (w := w) (base := base) (x := "_law_number") (ok_number F5 m_len m_int) (PySem.W.mg_of X G a5) k5 b5
  have F6 := fun_mk (st := sTake) l6 c6 k6
  have b6 := F6.binds (ps := ["box", "size"]) fun _ _ _ _ _ _ us hl => match us, hl with | [_, _], _ => rfl
  have D__law_take := defAt_mk (P := l.prog) (w := w) (base := base) (x := "_law_take") (ok_take F6 m_int) (PySem.W.mg_of X G a6) k6 b6
  have F7 := fun_mk (st := sLLow) l7 c7 k7
  have b7 := F7.binds (ps := ["number", "count"]) fun _ _ _ _ _ _ us hl => match us, hl with | [_, _], _ => rfl
  have D__law_low := defAt_mk (P := l.prog) (w := w) (base := base) (x := "_law_low") (ok_llow F7 m_range m_int) (PySem.W.mg_of X G a7) k7 b7
  have F8 := fun_mk (st := sLCheck) l8 c8 k8
  have b8 := F8.binds (ps := ["octets"]) fun _ _ _ _ _ _ us hl => match us, hl with | [_], _ => rfl
  have D__law_check := defAt_mk (P := l.prog) (w := w) (base := base) (x := "_law_check") (ok_lcheck F8 m_int) (PySem.W.mg_of X G a8) k8 b8
  have F9 := fun_mk (st := sLFramed) l9 c9 k9
  have b9 := F9.binds (ps := ["payload"]) fun _ _ _ _ _ _ us hl => match us, hl with | [_], _ => rfl
  have D__law_framed := defAt_mk (P := l.prog) (w := w) (base := base) (x := "_law_framed") (ok_lframed F9 m_len D__law_low D__law_check) (PySem.W.mg_of X G a9) k9 b9
  have F10 := fun_mk (st := sLValue) l10 c10 k10
  have b10 := F10.binds (ps := ["octets"]) fun _ _ _ _ _ _ us hl => match us, hl with | [_], _ => rfl
  have D__law_value := defAt_mk (P := l.prog) (w := w) (base := base) (x := "_law_value") (ok_lvalue F10 m_range m_len) (PySem.W.mg_of X G a10) k10 b10
  have F11 := fun_mk (st := sLDue) l11 c11 k11
  have b11 := F11.binds (ps := ["octets"]) fun _ _ _ _ _ _ us hl => match us, hl with | [_], _ => rfl
  have D__law_due := defAt_mk (P := l.prog) (w := w) (base := base) (x := "_law_due") (ok_ldue F11 m_len D__law_value D__law_framed) (PySem.W.mg_of X G a11) k11 b11
  have F12 := fun_mk (st := sLaw) l12 c12 k12
  exact ok_law F12 m_range m_len m_int m_list m_isinstance m_tuple D__law_number D__law_take D_framed D_payloads_in D__law_framed D__law_due
end K48
open PySem PySem.W PyProof.Rows
set_option maxRecDepth 100000 in
set_option maxHeartbeats 0 in
theorem PySem.Challenge.cw_herefrom_k48_frames_hold_payloads_holds : PySem.Challenge.rw_herefrom_k48_frames_hold_payloads.Holds := by
  w_on; o_law; k_head; (case hw => w_witness2)
  k_fill
  refine L2.walk_ofB (l := PySem.Challenge.rw_herefrom_k48_frames_hold_payloads) (n := 63) (k := 4) (x := "script") (CX := fun w => L2.CX (PySem.Challenge.rw_herefrom_k48_frames_hold_payloads).prog w) (sp := fun w => DL.spOf _ K48.spLaw) rfl (by decide) rfl ⟨rfl, by decide, by decide⟩ (fun w h Y => PySem.W.kIn_of Y) ?F (fun w H a ns hl hbits hO hS => DL.law_sp hS ⟨ns, rfl, rfl, hl, fun z hz => DL.bits_lt (hbits z hz), rfl⟩) (fun _ _ _ _ _ h => DL.cx_none h)
  case F =>
    intro w mg fa h KX G hmg
    refine' K48.all_mk KX G hmg ?a0 ?l0 ?c0 ?k0 ?a1 ?l1 ?c1 ?k1 ?a2 ?l2 ?c2 ?k2 ?a3 ?l3 ?c3 ?k3 ?a4 ?l4 ?c4 ?k4 ?a5 ?l5 ?c5 ?k5 ?a6 ?l6 ?c6 ?k6 ?a7 ?l7 ?c7 ?k7 ?a8 ?l8 ?c8 ?k8 ?a9 ?l9 ?c9 ?k9 ?a10 ?l10 ?c10 ?k10 ?a11 ?l11 ?c11 ?k11 ?a12 ?l12 ?c12 ?k12 ?cst0 ?cst1 ?z0 ?z1 ?z2 ?z3 ?z4 ?z5 ?z6
    (case a0 => k_is)
    (case l0 => k_is)
    (case c0 => k_is)
    (case k0 => k_is)
    (case a1 => k_is)
    (case l1 => k_is)
    (case c1 => k_is)
    (case k1 => k_is)
    (case a2 => k_is)
    (case l2 => k_is)
    (case c2 => k_is)
    (case k2 => k_is)
    (case a3 => k_is)
    (case l3 => k_is)
    (case c3 => k_is)
    (case k3 => k_is)
    (case a4 => k_is)
    (case l4 => k_is)
    (case c4 => k_is)
    (case k4 => k_is)
    (case a5 => k_is)
    (case l5 => k_is)
    (case c5 => k_is)
    (case k5 => k_is)
    (case a6 => k_is)
    (case l6 => k_is)
    (case c6 => k_is)
    (case k6 => k_is)
    (case a7 => k_is)
    (case l7 => k_is)
    (case c7 => k_is)
    (case k7 => k_is)
    (case a8 => k_is)
    (case l8 => k_is)
    (case c8 => k_is)
    (case k8 => k_is)
    (case a9 => k_is)
    (case l9 => k_is)
    (case c9 => k_is)
    (case k9 => k_is)
    (case a10 => k_is)
    (case l10 => k_is)
    (case c10 => k_is)
    (case k10 => k_is)
    (case a11 => k_is)
    (case l11 => k_is)
    (case c11 => k_is)
    (case k11 => k_is)
    (case a12 => k_is)
    (case l12 => k_is)
    (case c12 => k_is)
    (case k12 => k_is)
    (case cst0 => k_is)
    (case cst1 => k_is)
    (case z0 => k_is)
    (case z1 => k_is)
    (case z2 => k_is)
    (case z3 => k_is)
    (case z4 => k_is)
    (case z5 => k_is)
    (case z6 => k_is)


