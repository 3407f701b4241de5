import PyProof.Rows.All
import Wide.All
import OpenK.AllK
import Wide.FinOn
import HandS.ForMost
import HandS.ForExc
import HandS.IsInst
import HandS.Wide
import HandS.WideBits
import HandS.TupAny
import HandS.CallSlots
import HandS.EndBits
import HandS.Deep
import KE.KDictKeyed
import KE.SortKeyHeap
import KE.KeyNested
import HandS.SortKw
import HandS.Iter
import KE.DataCmp
import KE.DataEq
import KE.DataAny
import KE.DataMinMax
import KE.DataMinKey
import HandS.ExcIs
import HandS.ExcField
import HandS.ExcOwn
import HandS.TryOnly
import HandS.TupMul
import HandS.Text
import HandS.NoneIn
import KE.KDictWalk
import KE.KDictSum
import KE.KDictCopyH
import HandS.RaiseMore
import HandS.TupLen
import HandS.Records
import HandS.SetKeys
import HandS.DictComp
import PyProof.AutoSeq1
import HandS.DeepEq
import KE.KExcIs
import PySem.Challenge.RW_herefrom_k13_heads_and_folds
set_option Elab.async false
set_option linter.all false
set_option maxRecDepth 100000
set_option maxHeartbeats 4000000
namespace DX
open PySem PySem.Spec PyProof.Rows L2

abbrev Dt := PyData
/-- what all readings lean on: the written part, the world, and what lies outside the frame at hand and stays -/
structure KW where
  K : PySem.W.Frag
  w : World
  z : Hp
/-- what a name or a place holds: data that never change, or the k-th cell of the store -/
inductive Im where
  | d (x : Dt)
  | p (k : Nat)
/-- what stands in a cell: dl, dd: of data alone -/
inductive Cel where
  | dead
  | dl (ds : List Dt)
  | lst (xs : List Im)
  | dd (kvs : List (Dt × Dt))
  | dct (kvs : List (Dt × Im))
  | ins (C : Addr) (fs : List (Str × Im))
abbrev Ec := List (Option Im)
abbrev Sto := List Cel

abbrev ALe (A A' : List Addr) : Prop := ∀ (k : Nat) (a : Addr), A[k]? = some a → A'[k]? = some a
abbrev ALn (n : Nat) (A A' : List Addr) : Prop := ∀ (k : Nat) (a : Addr), k < n → A[k]? = some a → A'[k]? = some a
theorem ALe.refl (A : List Addr) : ALe A A := fun _ _ h => h
theorem ALe.trans {A B C : List Addr} (h : ALe A B) (h' : ALe B C) : ALe A C := fun k a e => h' k a (h k a e)
theorem ALe.app (A B : List Addr) : ALe A (A ++ B) := fun k a e => by
  rw [List.getElem?_append_left (by have := List.getElem?_eq_some_iff.mp e; exact this.1)]; exact e
theorem ALe.n {A A' : List Addr} (h : ALe A A') (n : Nat) : ALn n A A' := fun k a _ e => h k a e
theorem ALn.refl (n : Nat) (A : List Addr) : ALn n A A := fun _ _ _ h => h
theorem ALn.trans {n : Nat} {A B C : List Addr} (h : ALn n A B) (h' : ALn n B C) : ALn n A C := fun k a hk e => h' k a hk (h k a hk e)

theorem Same.seqT {K : PySem.W.Frag} {H H' : Hp} {a : Addr} {xs : List V} (e : Same H H') (h : SqT K H a xs) : SqT K H' a xs := by
  rcases h with (h | ⟨o, h⟩) | h
  · exact .inl (.inl (e _ _ h))
  · exact .inl (.inr ⟨o, e _ _ h⟩)
  · exact .inr h

/-- the key that data are -/
def kD : Key → Dt
  | .inl i => .int i
  | .inr x => .str x
mutual
def nkD : Dt → Option NestedKey
  | .none => some .none
  | .int i => some (.num i)
  | .str x => some (.text x)
  | .tuple xs => (nkAll xs).map .tup
  | _ => none
def nkAll : List Dt → Option (List NestedKey)
  | [] => some []
  | x :: xs => match nkD x, nkAll xs with
    | some k, some ks => some (k :: ks)
    | _, _ => none
end
/-- a dict whose keys are tuples stands at d: its keys, their addresses, its values -/
def NDic (w : World) (d : Addr) (ws : List (NestedKey × Addr × V)) (h : Heap) : Prop :=
  (d == sysModules) = false ∧ (ws.length ≤ sizeLine ∧ ws ≠ []) ∧ (ws.map (·.1)).Nodup ∧ ∃ xs : List (NestedKey × Addr × Value), Paired (fun (p : NestedKey × Addr × V) (q : NestedKey × Addr × Value) => p.1 = q.1 ∧ p.2.1 = q.2.1 ∧ RelV p.2.2 q.2.2) ws xs ∧
    ∃ o es ep, h.get? d = some o ∧ o.ExactDict ∧ o.data = .dict es ep ∧ es.toList = xs.map (fun x => ⟨x.1.hash w, .ref x.2.1, x.2.2⟩)
def dN (w : World) (d : Addr) (ws : List (NestedKey × Addr × V)) : HO := .ext (NDic w d ws)
mutual
/-- v, where F stands, is the data -/
inductive Dv (K : KW) (F : Hp) : V → Dt → Prop
  | non : Dv K F .non .none
  | bl (b : Bool) : Dv K F (.bl b) (.bool b)
  | int (i : Int) : Dv K F (.int i) (.int i)
  | str (x : Str) : Dv K F (.str x) (.str x)
  | lst {a : Addr} {xs : List V} {ds : List Dt} : SqL K.K F a xs → DvAll K F xs ds → Dv K F (.ref a) (.list ds)
  | tup {a : Addr} {xs : List V} {ds : List Dt} : SqT K.K F a xs → DvAll K F xs ds → Dv K F (.ref a) (.tuple ds)
  | dK {a : Addr} {o : Obj} {ws : List (Key × V)} {kvs : List (Dt × Dt)} : F a = some (.frz o (.dK ws)) → DvK K F ws kvs → Dv K F (.ref a) (.dict kvs)
  | dN {a : Addr} {o : Obj} {ws : List (NestedKey × Addr × V)} {kvs : List (Dt × Dt)} : F a = some (.frz o (dN K.w a ws)) → DvN K F ws kvs → Dv K F (.ref a) (.dict kvs)
inductive DvAll (K : KW) (F : Hp) : List V → List Dt → Prop
  | nil : DvAll K F [] []
  | cons {v : V} {vs : List V} {d : Dt} {ds : List Dt} : Dv K F v d → DvAll K F vs ds → DvAll K F (v :: vs) (d :: ds)
inductive DvK (K : KW) (F : Hp) : List (Key × V) → List (Dt × Dt) → Prop
  | nil : DvK K F [] []
  | cons {k : Key} {v : V} {ws : List (Key × V)} {x : Dt} {kvs : List (Dt × Dt)} : Dv K F v x → DvK K F ws kvs → DvK K F ((k, v) :: ws) ((kD k, x) :: kvs)
inductive DvN (K : KW) (F : Hp) : List (NestedKey × Addr × V) → List (Dt × Dt) → Prop
  | nil : DvN K F [] []
  | cons {k : NestedKey} {b : Addr} {v : V} {ws : List (NestedKey × Addr × V)} {y x : Dt} {kvs : List (Dt × Dt)} : Dv K F (.ref b) y → nkD y = some k → k.depth ≤ 8 → Dv K F v x → DvN K F ws kvs → DvN K F ((k, b, v) :: ws) ((y, x) :: kvs)
end
mutual
theorem Dv.mono {K : KW} {H H' : Hp} (e : Same H H') : ∀ {v : V} {d : Dt}, Dv K H v d → Dv K H' v d
  | _, _, .non => .non
  | _, _, .bl _ => .bl _
  | _, _, .int i => .int i
  | _, _, .str x => .str x
  | _, _, .lst h ha => .lst (Same.seq e h) (DvAll.mono e ha)
  | _, _, .tup h ha => .tup (Same.seqT e h) (DvAll.mono e ha)
  | _, _, .dK h ha => .dK (e _ _ h) (DvK.mono e ha)
  | _, _, .dN h ha => .dN (e _ _ h) (DvN.mono e ha)
theorem DvAll.mono {K : KW} {H H' : Hp} (e : Same H H') : ∀ {vs : List V} {ds : List Dt}, DvAll K H vs ds → DvAll K H' vs ds
  | _, _, .nil => .nil
  | _, _, .cons h ha => .cons (Dv.mono e h) (DvAll.mono e ha)
theorem DvK.mono {K : KW} {H H' : Hp} (e : Same H H') : ∀ {ws : List (Key × V)} {kvs : List (Dt × Dt)}, DvK K H ws kvs → DvK K H' ws kvs
  | _, _, .nil => .nil
  | _, _, .cons h ha => .cons (Dv.mono e h) (DvK.mono e ha)
theorem DvN.mono {K : KW} {H H' : Hp} (e : Same H H') : ∀ {ws : List (NestedKey × Addr × V)} {kvs : List (Dt × Dt)}, DvN K H ws kvs → DvN K H' ws kvs
  | _, _, .nil => .nil
  | _, _, .cons h h2 h3 h4 ha => .cons (Dv.mono e h) h2 h3 (Dv.mono e h4) (DvN.mono e ha)
end
mutual
/-- data without dicts, over a heap -/
theorem Dv.toDp {K : KW} {H : Hp} : ∀ (d : Dt) {v : V}, d.canLay0 = true → Dv K H v d → Dp K.K H v d
  | .none, _, _, .non => .non
  | .bool b, _, _, .bl _ => .bl _
  | .int i, _, _, .int _ => .int _
  | .str x, _, _, .str _ => .str _
  | .list ds, _, c, .lst h ha => .lst h (DvAll.toDp ds (by simpa [PyData.canLay0] using c) ha)
  | .tuple ds, _, c, .tup h ha => .tup h (DvAll.toDp ds (by simpa [PyData.canLay0] using c) ha)
  | .dict _, _, c, _ => by simp [PyData.canLay0] at c
theorem DvAll.toDp {K : KW} {H : Hp} : ∀ (ds : List Dt) {vs : List V}, PyData.canLayAll0 ds = true → DvAll K H vs ds → DpAll K.K H vs ds
  | [], _, _, .nil => .nil
  | d :: ds, _, c, .cons h ha => by
    have c' : d.canLay0 = true ∧ PyData.canLayAll0 ds = true := by simpa [PyData.canLayAll0] using c
    exact .cons (Dv.toDp d c'.1 h) (DvAll.toDp ds c'.2 ha)
end

section
variable (K : KW)
def ImR (A : List Addr) (F : Hp) : Im → V → Prop
  | .d x, v => Dv K F v x
  | .p k, v => ∃ a, A[k]? = some a ∧ v = .ref a
abbrev ImsR (A : List Addr) (F : Hp) : List Im → List V → Prop := Paired (ImR K A F)
/-- a dict object holds these pairs, whatever their values stand for -/
def DicR (F : Hp) (R : Im → V → Prop) (a : Addr) (o : HO) (kvs : List (Dt × Im)) : Prop :=
  (∃ ws, o = .dK ws ∧ Paired (fun (p : Dt × Im) (q : Key × V) => p.1 = kD q.1 ∧ R p.2 q.2) kvs ws) ∨
  (∃ ws, o = dN K.w a ws ∧ Paired (fun (p : Dt × Im) (q : NestedKey × Addr × V) => Dv K F (.ref q.2.1) p.1 ∧ nkD p.1 = some q.1 ∧ q.1.depth ≤ 8 ∧ R p.2 q.2.2) kvs ws)
/-- the same cell, its data as items -/
def Cel.gen : Cel → Cel
  | .dl ds => .lst (ds.map .d)
  | .dd kvs => .dct (kvs.map fun p => (p.1, .d p.2))
  | c => c
def CelG (A : List Addr) (F H : Hp) (a : Addr) : Cel → Prop
  | .dead => True
  | .dl _ => True
  | .dd _ => True
  | .lst xs => F a = none ∧ ∃ vs, H a = some (.lst vs) ∧ ImsR K A F xs vs
  | .dct kvs => F a = none ∧ ∃ o, H a = some o ∧ DicR K F (ImR K A F) a o kvs
  | .ins C fs => F a = none ∧ ∃ dx ws, H a = some (.ins C dx ws) ∧ Paired (fun (p : Str × Im) (q : Str × V) => p.1 = q.1 ∧ ImR K A F p.2 q.2) fs ws
def CelR (A : List Addr) (F H : Hp) (a : Addr) (c : Cel) : Prop := CelG K A F H a c.gen
structure StO (A : List Addr) (M : Sto) (F H : Hp) : Prop where
  sub : Same F H
  len : A.length = M.length
  nd : A.Nodup
  there : ∀ a ∈ A, H a ≠ none
  cel : ∀ (k : Nat) (a : Addr) (c : Cel), A[k]? = some a → M[k]? = some c → CelR K A F H a c
  fr : Same K.z H
  fd : ∀ a ∈ A, K.z a = none
  zf : ∀ a o, K.z a = some o → F a = none
def Sl (A : List Addr) (F : Hp) (Γ : Ec) (σ : L2.St) : Prop := σ.length = Γ.length ∧ ∀ (i : Nat) (r : Im), Γ[i]? = some (some r) → ∃ v, σ[i]? = some (some v) ∧ ImR K A F r v
end

section
variable {K : KW} {A A' : List Addr} {F F' H H' : Hp}
theorem ImR.mono (ha : ALe A A') (hf : Same F F') : ∀ {r : Im} {v : V}, ImR K A F r v → ImR K A' F' r v
  | .d x, v, h => Dv.mono hf h
  | .p k, v, ⟨a, e, h⟩ => ⟨a, ha k a e, h⟩
theorem Paired.imp {α β : Type} {R S : α → β → Prop} : ∀ {l₁ : List α} {l₂ : List β}, Paired R l₁ l₂ → (∀ a b, R a b → S a b) → Paired S l₁ l₂
  | _, _, .nil, _ => .nil
  | _, _, .cons r t, f => .cons (f _ _ r) (Paired.imp t f)
theorem ImsR.mono (ha : ALe A A') (hf : Same F F') {rs : List Im} {vs : List V} (h : ImsR K A F rs vs) : ImsR K A' F' rs vs := Paired.imp h fun _ _ => ImR.mono ha hf
theorem DicR.mono {R R' : Im → V → Prop} (hf : Same F F') (hr : ∀ r v, R r v → R' r v) {a : Addr} {o : HO} {kvs : List (Dt × Im)} (h : DicR K F R a o kvs) : DicR K F' R' a o kvs := by
  rcases h with ⟨ws, e, p⟩ | ⟨ws, e, p⟩
  · exact .inl ⟨ws, e, Paired.imp p fun _ _ q => ⟨q.1, hr _ _ q.2⟩⟩
  · exact .inr ⟨ws, e, Paired.imp p fun _ _ q => ⟨Dv.mono hf q.1, q.2.1, q.2.2.1, hr _ _ q.2.2.2⟩⟩
theorem CelG.mono (ha : ALe A A') (hf : Same F F') {a : Addr} {c : Cel} (hn : F a = none → F' a = none) (hH : ∀ o, H a = some o → H' a = some o) (h : CelG K A F H a c) : CelG K A' F' H' a c := by
  cases c with
  | dead => trivial
  | dl _ => trivial
  | dd _ => trivial
  | lst xs => obtain ⟨z, vs, e, r⟩ := h; exact ⟨hn z, vs, hH _ e, ImsR.mono ha hf r⟩
  | dct xs => obtain ⟨z, o, e, r⟩ := h; exact ⟨hn z, o, hH _ e, r.mono hf fun _ _ => ImR.mono ha hf⟩
  | ins C xs => obtain ⟨z, dx, vs, e, r⟩ := h; exact ⟨hn z, dx, vs, hH _ e, Paired.imp r fun _ _ q => ⟨q.1, ImR.mono ha hf q.2⟩⟩
theorem CelR.mono (ha : ALe A A') (hf : Same F F') {a : Addr} {c : Cel} (hn : F a = none → F' a = none) (hH : ∀ o, H a = some o → H' a = some o) (h : CelR K A F H a c) : CelR K A' F' H' a c := CelG.mono ha hf hn hH h
theorem Sl.mono (ha : ALe A A') (hf : Same F F') {Γ : Ec} {σ : L2.St} (h : Sl K A F Γ σ) : Sl K A' F' Γ σ := ⟨h.1, fun i r e => by
  obtain ⟨v, h1, h2⟩ := h.2 i r e
  exact ⟨v, h1, ImR.mono ha hf h2⟩⟩
theorem Sl.set {Γ : Ec} {σ : L2.St} (h : Sl K A F Γ σ) {r : Im} {v : V} (hr : ImR K A F r v) (i : Nat) : Sl K A F (Γ.set i (some r)) (σ.set i (some v)) := by
  refine ⟨by simp [h.1], fun j q e => ?_⟩
  by_cases hj : i = j
  · subst hj
    have hi : i < Γ.length := by
      have := (List.getElem?_eq_some_iff.mp e).1
      simpa using this
    rw [List.getElem?_set_self hi] at e
    cases e
    exact ⟨v, by rw [List.getElem?_set_self (by rw [h.1]; exact hi)], hr⟩
  · rw [List.getElem?_set_ne hj] at e
    obtain ⟨v, h1, h2⟩ := h.2 j q e
    exact ⟨v, by rw [List.getElem?_set_ne hj]; exact h1, h2⟩
/-- new data laid at a fresh address -/
theorem same_updF {p : Addr} {o : HO} (hp : H p = none) : Same H (upd H p o) := fun b x e => by
  rw [upd_ne (ne_of_none e hp)]; exact e
theorem StO.freshF {M : Sto} (S : StO K A M F H) {p : Addr} (hp : H p = none) : F p = none := by
  cases e : F p with
  | none => rfl
  | some o => have := S.sub p o e; rw [hp] at this; cases this
theorem StO.freshZ {M : Sto} (S : StO K A M F H) {p : Addr} (hp : H p = none) : K.z p = none := by
  cases e : K.z p with
  | none => rfl
  | some o => have := S.fr p o e; rw [hp] at this; cases this
theorem StO.notA {M : Sto} (S : StO K A M F H) {p : Addr} (hp : H p = none) : p ∉ A := fun h => S.there p h hp
theorem StO.outZ {M : Sto} (S : StO K A M F H) {a b : Addr} {o : HO} (ha : a ∈ A) (e : K.z b = some o) : b ≠ a := fun z => by subst z; rw [S.fd _ ha] at e; cases e
theorem zf_upd {M : Sto} (S : StO K A M F H) {p : Addr} {o : HO} (hp : K.z p = none) : ∀ a u, K.z a = some u → upd F p o a = none := fun a u e => by
  rw [upd_ne (fun z => by subst z; rw [hp] at e; cases e)]; exact S.zf a u e
/-- a fresh object taken as data -/
theorem StO.data {M : Sto} (S : StO K A M F H) {p : Addr} {o : HO} (hp : H p = none) : StO K A M (upd F p o) (upd H p o) := by
  have hF := S.freshF hp
  have hA := S.notA hp
  refine ⟨fun b x e => ?_, S.len, S.nd, fun a ha => ?_, fun k a c e1 e2 => ?_, S.fr.trans (same_updF hp), S.fd, zf_upd S (S.freshZ hp)⟩
  · unfold upd at e ⊢
    split at e
    · rw [if_pos (by assumption)]; exact e
    · rw [if_neg (by assumption)]; exact S.sub b x e
  · have : a ≠ p := fun z => hA (z ▸ ha)
    rw [upd_ne this]; exact S.there a ha
  · have ha : a ∈ A := List.mem_of_getElem? e1
    have hne : a ≠ p := fun z => hA (z ▸ ha)
    exact CelR.mono (ALe.refl _) (same_updF hF) (fun z => by rw [upd_ne hne]; exact z) (fun o z => by rw [upd_ne hne]; exact z) (S.cel k a c e1 e2)
/-- a fresh object that is neither data nor a cell -/
theorem StO.junk {M : Sto} (S : StO K A M F H) {p : Addr} {o : HO} (hp : H p = none) : StO K A M F (upd H p o) := by
  have hA := S.notA hp
  refine ⟨fun b x e => ?_, S.len, S.nd, fun a ha => ?_, fun k a c e1 e2 => ?_, S.fr.trans (same_updF hp), S.fd, S.zf⟩
  · exact same_updF hp b x (S.sub b x e)
  · have : a ≠ p := fun z => hA (z ▸ ha)
    rw [upd_ne this]; exact S.there a ha
  · have ha : a ∈ A := List.mem_of_getElem? e1
    have hne : a ≠ p := fun z => hA (z ▸ ha)
    exact CelR.mono (ALe.refl _) (fun _ _ z => z) (fun z => z) (fun o z => by rw [upd_ne hne]; exact z) (S.cel k a c e1 e2)
/-- a fresh cell -/
theorem StO.cell {M : Sto} (S : StO K A M F H) {p : Addr} {o : HO} {c : Cel} (hp : H p = none) (hc : CelR K (A ++ [p]) F (upd H p o) p c) : StO K (A ++ [p]) (M ++ [c]) F (upd H p o) := by
  have hA := S.notA hp
  refine ⟨fun b x e => same_updF hp b x (S.sub b x e), by simp [S.len], ?_, fun a ha => ?_, fun k a c' e1 e2 => ?_, S.fr.trans (same_updF hp), fun a ha => ?_, S.zf⟩
  · rw [List.nodup_append]
    exact ⟨S.nd, by simp, fun a ha b hb => by simp at hb; subst hb; exact fun z => hA (z ▸ ha)⟩
  · rcases List.mem_append.mp ha with ha | ha
    · have : a ≠ p := fun z => hA (z ▸ ha)
      rw [upd_ne this]; exact S.there a ha
    · simp at ha; subst ha; rw [upd_same]; simp
  · by_cases hk : k < A.length
    · rw [List.getElem?_append_left hk] at e1
      rw [List.getElem?_append_left (by rw [← S.len]; exact hk)] at e2
      have ha : a ∈ A := List.mem_of_getElem? e1
      have hne : a ≠ p := fun z => hA (z ▸ ha)
      exact CelR.mono (ALe.app _ _) (fun _ _ z => z) (fun z => z) (fun o z => by rw [upd_ne hne]; exact z) (S.cel k a c' e1 e2)
    · have hk2 : k < (A ++ [p]).length := (List.getElem?_eq_some_iff.mp e1).1
      have ek : k = A.length := by simp at hk2; omega
      subst ek
      simp at e1; subst e1
      rw [S.len] at e2
      simp at e2; subst e2
      exact hc
  · rcases List.mem_append.mp ha with ha | ha
    · exact S.fd a ha
    · simp at ha; subst ha; exact S.freshZ hp
/-- a cell rewritten -/
theorem StO.write {M : Sto} (S : StO K A M F H) {k : Nat} {a : Addr} {c : Cel} {o : HO} (hk : A[k]? = some a) (hF : F a = none) (hc : CelR K A F (upd H a o) a c) : StO K A (M.set k c) F (upd H a o) := by
  have uniq : ∀ j, A[j]? = some a → j = k := fun j e => nd_ix S.nd e hk
  have hmem : a ∈ A := List.mem_of_getElem? hk
  refine ⟨fun b x e => ?_, by simp [S.len], S.nd, fun b hb => ?_, fun j b c' e1 e2 => ?_, fun b x e => ?_, S.fd, S.zf⟩
  · have : b ≠ a := fun z => by rw [z, hF] at e; cases e
    rw [upd_ne this]; exact S.sub b x e
  · by_cases z : b = a
    · subst z; rw [upd_same]; simp
    · rw [upd_ne z]; exact S.there b hb
  · by_cases hj : k = j
    · subst hj
      rw [hk] at e1; cases e1
      have hl : k < M.length := by rw [← S.len]; exact (List.getElem?_eq_some_iff.mp hk).1
      rw [List.getElem?_set_self hl] at e2; cases e2
      exact hc
    · rw [List.getElem?_set_ne hj] at e2
      have hne : b ≠ a := fun z => by subst z; exact hj (uniq j e1).symm
      exact CelR.mono (ALe.refl _) (fun _ _ z => z) (fun z => z) (fun o z => by rw [upd_ne hne]; exact z) (S.cel j b c' e1 e2)
  · rw [upd_ne (S.outZ hmem e)]; exact S.fr b x e
/-- a cell becomes data -/
theorem StO.freeze {M : Sto} (S : StO K A M F H) {k : Nat} {a : Addr} {o : HO} (hk : A[k]? = some a) (hF : F a = none) (hH : H a = some o) : StO K A (M.set k .dead) (upd F a o) H := by
  have uniq : ∀ j, A[j]? = some a → j = k := fun j e => nd_ix S.nd e hk
  have hmem : a ∈ A := List.mem_of_getElem? hk
  refine ⟨fun b x e => ?_, by simp [S.len], S.nd, S.there, fun j b c' e1 e2 => ?_, S.fr, S.fd, zf_upd S (S.fd a hmem)⟩
  · by_cases z : b = a
    · subst z; rw [upd_same] at e; cases e; exact hH
    · rw [upd_ne z] at e; exact S.sub b x e
  · by_cases hj : k = j
    · subst hj
      have hl : k < M.length := by rw [← S.len]; exact (List.getElem?_eq_some_iff.mp hk).1
      rw [List.getElem?_set_self hl] at e2; cases e2
      trivial
    · rw [List.getElem?_set_ne hj] at e2
      have hne : b ≠ a := fun z => by subst z; exact hj (uniq j e1).symm
      exact CelR.mono (ALe.refl _) (same_updF hF) (fun z => by rw [upd_ne hne]; exact z) (fun o z => z) (S.cel j b c' e1 e2)
end

/-- the items of a list's cell -/
def Cel.its : Cel → Option (List Im)
  | .dl ds => some (ds.map .d)
  | .lst xs => some xs
  | _ => none
theorem Cel.its_gen {c : Cel} {xs : List Im} (h : c.its = some xs) : c.gen = .lst xs := by
  cases c <;> simp only [Cel.its] at h <;> cases h <;> rfl
/-- r is a list of the items xs that can be read -/
inductive AsL (M : Sto) : Im → List Im → Prop
  | d (ds : List Dt) : AsL M (.d (.list ds)) (ds.map .d)
  | p {k : Nat} {c : Cel} {xs : List Im} (h : M[k]? = some c) (hx : c.its = some xs) : AsL M (.p k) xs
/-- r can be read as data, deep -/
inductive AsD (M : Sto) : Im → Dt → Prop
  | d (x : Dt) : AsD M (.d x) x
  | p {k : Nat} {ds : List Dt} (h : M[k]? = some (.dl ds)) : AsD M (.p k) (.list ds)
section
variable {K : KW} {A : List Addr} {F H : Hp} {M : Sto}
theorem dpAll_of : ∀ {ds : List Dt} {vs : List V}, ImsR K A F (ds.map .d) vs → DvAll K F vs ds
  | [], _, h => by cases h; exact .nil
  | d :: ds, _, h => by
    cases h with
    | cons h1 h2 => exact .cons h1 (dpAll_of h2)
theorem of_dpAll : ∀ {ds : List Dt} {vs : List V}, DvAll K F vs ds → ImsR K A F (ds.map .d) vs
  | [], _, .nil => .nil
  | d :: ds, _, .cons h1 h2 => .cons h1 (of_dpAll h2)
theorem StO.lst (S : StO K A M F H) {k : Nat} {a : Addr} {c : Cel} {xs : List Im} (ea : A[k]? = some a) (hk : M[k]? = some c) (hx : c.its = some xs) : F a = none ∧ ∃ vs, H a = some (.lst vs) ∧ ImsR K A F xs vs := by
  have h := S.cel k a c ea hk
  unfold CelR at h
  rw [Cel.its_gen hx] at h
  exact h
theorem AsL.sq {r : Im} {xs : List Im} (h : AsL M r xs) (S : StO K A M F H) {v : V} (hv : ImR K A F r v) : ∃ a vs, v = .ref a ∧ SqL K.K H a vs ∧ ImsR K A F xs vs := by
  cases h with
  | d ds =>
    cases hv with
    | lst hs ha => exact ⟨_, _, rfl, Same.seq S.sub hs, of_dpAll ha⟩
  | p h hx =>
    obtain ⟨a, e, rfl⟩ := hv
    obtain ⟨_, vs, e2, r2⟩ := S.lst e h hx
    exact ⟨a, vs, rfl, SqL.of e2, r2⟩
theorem dvK_of : ∀ {kvs : List (Dt × Dt)} {ws : List (Key × V)}, Paired (fun (p : Dt × Im) (q : Key × V) => p.1 = kD q.1 ∧ ImR K A F p.2 q.2) (kvs.map fun p => (p.1, Im.d p.2)) ws → DvK K F ws kvs
  | [], _, h => by cases h; exact .nil
  | (y, x) :: kvs, _, h => by
    cases h with
    | cons h1 h2 =>
      obtain ⟨e, r⟩ := h1
      dsimp only at e r
      subst e
      exact .cons r (dvK_of h2)
theorem dvN_of : ∀ {kvs : List (Dt × Dt)} {ws : List (NestedKey × Addr × V)}, Paired (fun (p : Dt × Im) (q : NestedKey × Addr × V) => Dv K F (.ref q.2.1) p.1 ∧ nkD p.1 = some q.1 ∧ q.1.depth ≤ 8 ∧ ImR K A F p.2 q.2.2) (kvs.map fun p => (p.1, Im.d p.2)) ws → DvN K F ws kvs
  | [], _, h => by cases h; exact .nil
  | (y, x) :: kvs, _, h => by
    cases h with
    | cons h1 h2 =>
      obtain ⟨e, r, l, m⟩ := h1
      exact .cons e r l m (dvN_of h2)
theorem of_dvK : ∀ {kvs : List (Dt × Dt)} {ws : List (Key × V)}, DvK K F ws kvs → Paired (fun (p : Dt × Im) (q : Key × V) => p.1 = kD q.1 ∧ ImR K A F p.2 q.2) (kvs.map fun p => (p.1, Im.d p.2)) ws
  | _, _, .nil => .nil
  | _, _, .cons h1 h2 => .cons ⟨rfl, h1⟩ (of_dvK h2)
theorem of_dvN : ∀ {kvs : List (Dt × Dt)} {ws : List (NestedKey × Addr × V)}, DvN K F ws kvs → Paired (fun (p : Dt × Im) (q : NestedKey × Addr × V) => Dv K F (.ref q.2.1) p.1 ∧ nkD p.1 = some q.1 ∧ q.1.depth ≤ 8 ∧ ImR K A F p.2 q.2.2) (kvs.map fun p => (p.1, Im.d p.2)) ws
  | _, _, .nil => .nil
  | _, _, .cons h1 h2 h3 h4 h5 => .cons ⟨h1, h2, h3, h4⟩ (of_dvN h5)
theorem AsD.dp {r : Im} {x : Dt} (h : AsD M r x) (S : StO K A M F H) {v : V} (hv : ImR K A F r v) : Dv K H v x := by
  cases h with
  | d x => exact Dv.mono S.sub hv
  | p h =>
    obtain ⟨a, e, rfl⟩ := hv
    obtain ⟨_, vs, e2, r2⟩ := S.lst e h rfl
    exact .lst (SqL.of e2) (DvAll.mono S.sub (dpAll_of r2))
end
end DX

namespace DX
open PySem PySem.Spec PyProof.Rows L2

def ImB (n : Nat) : Im → Prop
  | .d _ => True
  | .p k => k < n
def CelB (n : Nat) : Cel → Prop
  | .dead => True
  | .dl _ => True
  | .dd _ => True
  | .lst xs => ∀ x ∈ xs, ImB n x
  | .dct kvs => ∀ p ∈ kvs, ImB n p.2
  | .ins _ fs => ∀ p ∈ fs, ImB n p.2
def StoB (n : Nat) (M : Sto) : Prop := ∀ c ∈ M, CelB n c
def EcB (n : Nat) (Γ : Ec) : Prop := ∀ r, some r ∈ Γ → ImB n r
section
variable {K : KW} {A : List Addr} {F H : Hp} {M L : Sto}
theorem ImR.bd {r : Im} {v : V} (h : ImR K A F r v) : ImB A.length r := by
  cases r with
  | d x => trivial
  | p k => obtain ⟨a, e, _⟩ := h; exact (List.getElem?_eq_some_iff.mp e).1
theorem paired_left {α β : Type} {R : α → β → Prop} : ∀ {l₁ : List α} {l₂ : List β}, Paired R l₁ l₂ → ∀ a ∈ l₁, ∃ b, R a b
  | _, _, .cons r t, a, h => by
    rcases List.mem_cons.mp h with rfl | h
    · exact ⟨_, r⟩
    · exact paired_left t a h
theorem celB_gen {n : Nat} : ∀ {c : Cel}, CelB n c.gen → CelB n c
  | .dead, _ => trivial
  | .dl _, _ => trivial
  | .dd _, _ => trivial
  | .lst _, h => h
  | .dct _, h => h
  | .ins _ _, h => h
theorem StO.bd (S : StO K A M F H) : StoB M.length M := fun c hc => by
  obtain ⟨k, hk⟩ := List.getElem?_of_mem hc
  have hl : k < A.length := by rw [S.len]; exact (List.getElem?_eq_some_iff.mp hk).1
  have h := S.cel k _ c (List.getElem?_eq_getElem hl) hk
  rw [← S.len]
  refine celB_gen ?_
  unfold CelR at h
  generalize c.gen = c at h
  cases c with
  | dead => trivial
  | dl _ => trivial
  | dd _ => trivial
  | lst xs => obtain ⟨_, vs, _, r⟩ := h; exact fun x hx => (paired_left r x hx).elim fun _ q => q.bd
  | dct xs =>
    obtain ⟨_, o, _, r⟩ := h
    rcases r with ⟨ws, _, r⟩ | ⟨ws, _, r⟩
    · exact fun x hx => (paired_left r x hx).elim fun _ q => q.2.bd
    · exact fun x hx => (paired_left r x hx).elim fun _ q => q.2.2.2.bd
  | ins C xs => obtain ⟨_, dx, vs, _, r⟩ := h; exact fun x hx => (paired_left r x hx).elim fun _ q => q.2.bd
theorem ImR.cut {n : Nat} {r : Im} {v : V} (hb : ImB n r) (h : ImR K A F r v) : ImR K (A.take n) F r v := by
  cases r with
  | d x => exact h
  | p k =>
    obtain ⟨a, e, q⟩ := h
    exact ⟨a, by rw [List.getElem?_take, if_pos (show k < n from hb)]; exact e, q⟩
theorem paired_cut {α β : Type} {R S : α → β → Prop} : ∀ {l₁ : List α} {l₂ : List β}, Paired R l₁ l₂ → (∀ a ∈ l₁, ∀ b, R a b → S a b) → Paired S l₁ l₂
  | _, _, .nil, _ => .nil
  | _, _, .cons r t, f => .cons (f _ List.mem_cons_self _ r) (paired_cut t fun a h b => f a (List.mem_cons_of_mem _ h) b)
theorem CelG.cut {n : Nat} {a : Addr} {c : Cel} (hc : CelB n c) (h : CelG K A F H a c) : CelG K (A.take n) F H a c := by
  cases c with
  | dead => trivial
  | dl _ => trivial
  | dd _ => trivial
  | lst xs => obtain ⟨z, vs, e, r⟩ := h; exact ⟨z, vs, e, paired_cut r fun x hx v q => ImR.cut (hc x hx) q⟩
  | dct xs =>
    obtain ⟨z, o, e, r⟩ := h
    refine ⟨z, o, e, ?_⟩
    rcases r with ⟨ws, e, r⟩ | ⟨ws, e, r⟩
    · exact .inl ⟨ws, e, paired_cut r fun x hx v q => ⟨q.1, ImR.cut (hc x hx) q.2⟩⟩
    · exact .inr ⟨ws, e, paired_cut r fun x hx v q => ⟨q.1, q.2.1, q.2.2.1, ImR.cut (hc x hx) q.2.2.2⟩⟩
  | ins C xs => obtain ⟨z, dx, vs, e, r⟩ := h; exact ⟨z, dx, vs, e, paired_cut r fun x hx v q => ⟨q.1, ImR.cut (hc x hx) q.2⟩⟩
theorem celB_of {n : Nat} : ∀ {c : Cel}, CelB n c → CelB n c.gen
  | .dead, _ => trivial
  | .dl _, _ => fun x hx => by
    obtain ⟨d, _, rfl⟩ := List.mem_map.mp hx
    trivial
  | .dd _, _ => fun x hx => by
    obtain ⟨d, _, rfl⟩ := List.mem_map.mp hx
    trivial
  | .lst _, h => h
  | .dct _, h => h
  | .ins _ _, h => h
theorem StO.trim (S : StO K A (M ++ L) F H) (hb : StoB M.length M) : StO K (A.take M.length) M F H := by
  have hl : M.length ≤ A.length := by rw [S.len]; simp
  refine ⟨S.sub, by simp [hl], S.nd.sublist (List.take_sublist _ _), fun a ha => S.there a (List.mem_of_mem_take ha), fun k a c e1 e2 => ?_, S.fr, fun a ha => S.fd a (List.mem_of_mem_take ha), S.zf⟩
  have hk : k < M.length := (List.getElem?_eq_some_iff.mp e2).1
  rw [List.getElem?_take, if_pos hk] at e1
  exact CelG.cut (celB_of (hb c (List.mem_of_getElem? e2))) (S.cel k a c e1 (by rw [List.getElem?_append_left hk]; exact e2))
end
theorem StoB.set {n : Nat} {M : Sto} {k : Nat} {c : Cel} (h : StoB n M) (hc : CelB n c) : StoB n (M.set k c) := fun c' h' => by
  rcases List.mem_or_eq_of_mem_set h' with z | z
  · exact h c' z
  · rw [z]; exact hc
theorem StoB.app {n : Nat} {M : Sto} {c : Cel} (h : StoB n M) (hc : CelB n c) : StoB n (M ++ [c]) := fun c' h' => by
  rcases List.mem_append.mp h' with z | z
  · exact h c' z
  · simp at z; rw [z]; exact hc
theorem ImB.mono {n m : Nat} (h : n ≤ m) : ∀ {r : Im}, ImB n r → ImB m r
  | .d _, _ => trivial
  | .p k, q => Nat.lt_of_lt_of_le q h
theorem CelB.mono {n m : Nat} (h : n ≤ m) : ∀ {r : Cel}, CelB n r → CelB m r
  | .dead, _ => trivial
  | .dl _, _ => trivial
  | .dd _, _ => trivial
  | .lst _, q => fun x hx => ImB.mono h (q x hx)
  | .dct _, q => fun x hx => ImB.mono h (q x hx)
  | .ins _ _, q => fun x hx => ImB.mono h (q x hx)
theorem StoB.mono {n m : Nat} (h : n ≤ m) {M : Sto} (q : StoB n M) : StoB m M := fun c hc => CelB.mono h (q c hc)

/-- an exception that is being handled: the slot of its name, its place, its class, its own dict -/
structure Hot where
  i : Option Nat
  a : Addr
  D : Addr
  d : Option Addr
  fs : List (Str × Dt)
structure Sx where
  P : Program
  w : World
  K : PySem.W.Frag
  mg : Str → Option Value
  base : Heap
  N : List Str
  sc : Scope
  k : Nat
  W : WX
  fn : Str → Bool
  n : Nat
  top : Bool
  z : Hp
  hot : Option Hot
abbrev Sx.kw (G : Sx) : KW := ⟨G.K, G.w, G.z⟩
structure Sx.Has (G : Sx) (X : Cx) : Prop where
  prog : X.prog = G.P
  w : X.w = G.w
  K : X.K = G.K
  mg : X.mg = G.mg
  base : X.base = G.base
  N : X.N = G.N
  sc : X.env.scope = G.sc
  nd : X.N.Nodup
  room : G.hot = none → Room G.k X.A
  un : X.A.units + 200 < cLine
  calm : G.hot = none → X.calm = true
  po : PassesOwn (model X.prog X.w) X.A X.env X.xe
  tk : Takes X G.W
  fn : X.fn = G.fn
  top : G.top = true → X.stack = X.env :: X.outer ∧ X.env.frame = some X.env.locals
  hot : ∀ h, G.hot = some h → ∃ (X0 : Cx) (oe : Obj) (pn : List (Addr × Obj)), X = X0.suite h.a ((h.a, oe) :: pn) ∧ Zc (.ref h.D) h.d oe ∧ ∃ vs, oe.data = .fields vs
/-- the slots hold what is known -/
structure SlH (K : KW) (ho : Option Hot) (A : List Addr) (F : Hp) (Γ : Ec) (σ : L2.St) : Prop where
  len : σ.length = Γ.length
  at' : ∀ (i : Nat) (r : Im), Γ[i]? = some (some r) → ∃ v, σ[i]? = some (some v) ∧ ImR K A F r v
  hot : ∀ h i, ho = some h → h.i = some i → σ[i]? = some (some (.ref h.a))
  xd : ∀ h d, ho = some h → h.d = some d → ∃ vs, F d = some (.xd vs) ∧ Paired (fun (p : Str × Dt) (q : Str × V) => p.1 = q.1 ∧ Dv K F q.2 p.2) h.fs vs
abbrev SlG (G : Sx) : List Addr → Hp → Ec → L2.St → Prop := SlH G.kw G.hot
abbrev NoHot (G : Sx) (i : Nat) : Prop := ∀ h, G.hot = some h → h.i ≠ some i
theorem NoHot.none {G : Sx} (h : G.hot = none) (i : Nat) : NoHot G i := fun h' e => by rw [h] at e; cases e
section
variable {K : KW} {hot : Option Hot} {A A' : List Addr} {F F' : Hp} {Γ : Ec} {σ : L2.St}
theorem SlH.sl (L : SlH K hot A F Γ σ) : Sl K A F Γ σ := ⟨L.1, L.2⟩
theorem SlH.of (L : Sl K A F Γ σ) (h : hot = none) : SlH K hot A F Γ σ := ⟨L.1, L.2, (fun h' _ e => by rw [h] at e; cases e), fun h' _ e => by rw [h] at e; cases e⟩
theorem SlH.re (L : SlH K hot A F Γ σ) {Γ' : Ec} (hf : Same F F') (L' : Sl K A' F' Γ' σ) : SlH K hot A' F' Γ' σ := ⟨L'.1, L'.2, L.3, fun h d e1 e2 => by
  obtain ⟨vs, e, p⟩ := L.4 h d e1 e2
  exact ⟨vs, hf _ _ e, Paired.imp p fun _ _ q => ⟨q.1, Dv.mono hf q.2⟩⟩⟩
theorem SlH.mono (ha : ALe A A') (hf : Same F F') (L : SlH K hot A F Γ σ) : SlH K hot A' F' Γ σ := L.re hf (Sl.mono ha hf L.sl)
theorem SlH.set (h : SlH K hot A F Γ σ) {r : Im} {v : V} (hr : ImR K A F r v) (i : Nat) (hn : ∀ h, hot = some h → h.i ≠ some i) : SlH K hot A F (Γ.set i (some r)) (σ.set i (some v)) := by
  have := Sl.set h.sl hr i
  refine ⟨this.1, this.2, fun h' j e1 e2 => ?_, h.4⟩
  have hij : i ≠ j := fun z => hn h' e1 (by rw [z]; exact e2)
  rw [List.getElem?_set_ne hij]
  exact h.3 h' j e1 e2
end

section
variable (G : Sx)
def tS (e : Expr) : TE := fun σ H Q => ∀ X, G.Has X → ∀ pins s, Inv X pins σ H s → wpAny (model X.prog X.w) X.A (eval e X.env) (EP X pins σ Q) X.xe s
def tSA (es : List Expr) : TA := fun σ H Q => ∀ X, G.Has X → ∀ pos pins s, Inv X pins σ H s → wpAny (model X.prog X.w) X.A (spliced (backTo pos (starEach es X.env))) (AP X pins σ Q) X.xe s
def tST (e : Expr) : TT := fun σ H Q => ∀ X, G.Has X → ∀ pins s, Inv X pins σ H s → wpAny (model X.prog X.w) X.A (isTrue e X.env (eval e X.env)) (TP X pins σ Q) X.xe s
def tSW (e : Expr) : TT := fun σ H Q => ∀ X, G.Has X → ∀ (whole : Sem Value) pins s, Inv X pins σ H s → wpAny (model X.prog X.w) X.A (isTrue e X.env whole) (TP X pins σ Q) X.xe s
def sS (st : Stmt) : TS := fun D σ H => ∀ X, G.Has X → ∀ pins s, Inv X pins σ H s → wpAny (model X.prog X.w) X.A (exec st X.env) (SP X pins D) X.xe s
def sSs (st : List Stmt) : TS := fun D σ H => ∀ X, G.Has X → ∀ pins s, Inv X pins σ H s → wpAny (model X.prog X.w) X.A (execs st X.env) (SP X pins D) X.xe s
def iS (tg iter : Expr) : TI := fun σ H R => ∀ X, G.Has X → ∀ pins s, Inv X pins σ H s →
    wpAny (model X.prog X.w) X.A (eval iter X.env) (fun v s1 => wpAny (model X.prog X.w) X.A (pyIter v) (PIE X pins σ tg R) X.xe s1) X.xe s
def gS (tg : Expr) : TG := fun v σ H Q => ∀ X, G.Has X → ∀ pins s u, Inv X pins σ H s → RelV v u →
    wpAny (model X.prog X.w) X.A (assign tg X.env u) (fun _ s' => ∃ σ' H', Inv X pins σ' H' s' ∧ Q σ' H') X.xe s
def gSs (ts : List Expr) : TGs := fun vs σ H Q => ∀ X, G.Has X → ∀ pins s us, Inv X pins σ H s → Vals vs us →
    wpAny (model X.prog X.w) X.A (assignInOrder ((assignEach ts X.env).map (·.2)) us) (fun _ s' => ∃ σ' H', Inv X pins σ' H' s' ∧ Q σ' H') X.xe s
def tSTs (ifs : List Expr) : TT := fun σ H Q => ∀ X, G.Has X → ∀ t, PTs X ifs t → t σ H Q → t σ H Q
end
section
variable {G : Sx} {X : Cx}
theorem pe_S (hX : G.Has X) (e : Expr) : PE X e (tS G e) := ⟨fun pins s σ H Q I h => h X hX pins s I⟩
theorem pa_S (hX : G.Has X) (es : List Expr) : PA X es (tSA G es) := ⟨fun pos pins s σ H Q I h => h X hX pos pins s I⟩
theorem pt_S (hX : G.Has X) (e : Expr) : PT X e (tST G e) := ⟨fun pins s σ H Q I h => h X hX pins s I⟩
theorem pw_S (hX : G.Has X) (e : Expr) : PW X e (tSW G e) := ⟨fun wh pins s σ H Q I h => h X hX wh pins s I⟩
theorem ps_S (hX : G.Has X) (e : Stmt) : PS X e (sS G e) := ⟨fun pins s σ H Q I h => h X hX pins s I⟩
theorem pss_S (hX : G.Has X) (e : List Stmt) : PSs X e (sSs G e) := ⟨fun pins s σ H Q I h => h X hX pins s I⟩
theorem pi_S (hX : G.Has X) (tg e : Expr) : PI X tg e (iS G tg e) := ⟨fun pins s σ H Q I h => h X hX pins s I⟩
theorem pg_S (hX : G.Has X) (e : Expr) : PG X e (gS G e) := ⟨fun pins s σ H v u Q I r h => h X hX pins s u I r⟩
theorem pgs_S (hX : G.Has X) (e : List Expr) : PGs X e (gSs G e) := ⟨fun pins s σ H v u Q I r h => h X hX pins s u I r⟩
theorem tS_of {e : Expr} {t : TE} (h : ∀ X, G.Has X → PE X e t) {σ : L2.St} {H : Hp} {Q : VK} (q : t σ H Q) : tS G e σ H Q := fun X hX pins s I => (h X hX).run pins s σ H Q I q
theorem tSA_of {e : List Expr} {t : TA} (h : ∀ X, G.Has X → PA X e t) {σ : L2.St} {H : Hp} {Q : List V → Hp → Prop} (q : t σ H Q) : tSA G e σ H Q := fun X hX pos pins s I => (h X hX).run pos pins s σ H Q I q
theorem tST_of {e : Expr} {t : TT} (h : ∀ X, G.Has X → PT X e t) {σ : L2.St} {H : Hp} {Q : Bool → Hp → Prop} (q : t σ H Q) : tST G e σ H Q := fun X hX pins s I => (h X hX).run pins s σ H Q I q
theorem tSW_of {e : Expr} {t : TT} (h : ∀ X, G.Has X → PW X e t) {σ : L2.St} {H : Hp} {Q : Bool → Hp → Prop} (q : t σ H Q) : tSW G e σ H Q := fun X hX wh pins s I => (h X hX).run wh pins s σ H Q I q
theorem sS_of {e : Stmt} {t : TS} (h : ∀ X, G.Has X → PS X e t) {σ : L2.St} {H : Hp} {D : Ends} (q : t D σ H) : sS G e D σ H := fun X hX pins s I => (h X hX).run pins s σ H D I q
theorem sSs_of {e : List Stmt} {t : TS} (h : ∀ X, G.Has X → PSs X e t) {σ : L2.St} {H : Hp} {D : Ends} (q : t D σ H) : sSs G e D σ H := fun X hX pins s I => (h X hX).run pins s σ H D I q
theorem iS_of {tg e : Expr} {t : TI} (h : ∀ X, G.Has X → PI X tg e t) {σ : L2.St} {H : Hp} {R : L2.It → Hp → Prop} (q : t σ H R) : iS G tg e σ H R := fun X hX pins s I => (h X hX).run pins s σ H R I q
theorem gS_of {e : Expr} {t : TG} (h : ∀ X, G.Has X → PG X e t) {v : V} {σ : L2.St} {H : Hp} {Q : L2.St → Hp → Prop} (q : t v σ H Q) : gS G e v σ H Q := fun X hX pins s u I r => (h X hX).run pins s σ H v u Q I r q
theorem gSs_of {e : List Expr} {t : TGs} (h : ∀ X, G.Has X → PGs X e t) {v : List V} {σ : L2.St} {H : Hp} {Q : L2.St → Hp → Prop} (q : t v σ H Q) : gSs G e v σ H Q := fun X hX pins s u I r => (h X hX).run pins s σ H v u Q I r q
end

abbrev QE := Im → Sto → Prop
/-- what is raised: its class, its own fields -/
abbrev QR := Addr → List (Str × Dt) → Sto → Prop
/-- an exception that flies, as its wish is told -/
def FlyE (K : KW) (F H : Hp) (C : Addr) (fs : List (Str × Dt)) (E : Value → Option Addr → Prop) : Prop :=
  (fs = [] → E (.ref C) none) ∧ (fs ≠ [] → ∀ d vs, K.z d = none → H d = some (.xd vs) → Paired (fun (p : Str × Dt) (q : Str × V) => p.1 = q.1 ∧ Dv K F q.2 p.2) fs vs → E (.ref C) (some d))
theorem FlyE.imp {K : KW} {F H : Hp} {C : Addr} {fs : List (Str × Dt)} {E E' : Value → Option Addr → Prop} (h : FlyE K F H C fs E) (he : ∀ v d, E v d → E' v d) : FlyE K F H C fs E' :=
  ⟨fun e => he _ _ (h.1 e), fun e d vs h0 h1 h2 => he _ _ (h.2 e d vs h0 h1 h2)⟩
section
variable (G : Sx)
/-- what a value's end asks -/
def Goes (A : List Addr) (F : Hp) (Q : QE) (Qv : VK) : Prop := ∀ r M' A' F' H' v, Q r M' → StO G.kw A' M' F' H' → ALe A A' → Same F F' → ImR G.kw A' F' r v → Qv v H'
def Flies (A : List Addr) (F : Hp) (R : QR) (σ : L2.St) : Prop := ∀ C fs M' A' F' H', R C fs M' → StO G.kw A' M' F' H' → ALe A A' → Same F F' → FlyE G.kw F' H' C fs fun v d => G.W v d σ H'
def EvX (e : Expr) (Γ : Ec) (M : Sto) (Q : QE) (R : QR) : Prop :=
  ∀ A F σ H Qv, StO G.kw A M F H → SlG G A F Γ σ → Goes G A F Q Qv → Flies G A F R σ → tS G e σ H Qv
def EvA (es : List Expr) (Γ : Ec) (M : Sto) (Q : List Im → Sto → Prop) (R : QR) : Prop :=
  ∀ A F σ H (Qv : List V → Hp → Prop), StO G.kw A M F H → SlG G A F Γ σ →
    (∀ rs M' A' F' H' vs, Q rs M' → StO G.kw A' M' F' H' → ALe A A' → Same F F' → ImsR G.kw A' F' rs vs → Qv vs H') → Flies G A F R σ → tSA G es σ H Qv
def EvT (e : Expr) (Γ : Ec) (M : Sto) (Q : Bool → Sto → Prop) (R : QR) : Prop :=
  ∀ A F σ H (Qv : Bool → Hp → Prop), StO G.kw A M F H → SlG G A F Γ σ →
    (∀ b M' A' F' H', Q b M' → StO G.kw A' M' F' H' → ALe A A' → Same F F' → Qv b H') → Flies G A F R σ → tST G e σ H Qv
def EvW (e : Expr) (Γ : Ec) (M : Sto) (Q : Bool → Sto → Prop) (R : QR) : Prop :=
  ∀ A F σ H (Qv : Bool → Hp → Prop), StO G.kw A M F H → SlG G A F Γ σ →
    (∀ b M' A' F' H', Q b M' → StO G.kw A' M' F' H' → ALe A A' → Same F F' → Qv b H') → Flies G A F R σ → tSW G e σ H Qv
/-- a target takes r -/
def EvG (tg : Expr) (r : Im) (Γ : Ec) (M : Sto) (Q : Ec → Sto → Prop) : Prop :=
  ∀ A F σ H v (Qv : L2.St → Hp → Prop), StO G.kw A M F H → SlG G A F Γ σ → ImR G.kw A F r v →
    (∀ Γ' M' A' F' σ' H', Q Γ' M' → StO G.kw A' M' F' H' → SlG G A' F' Γ' σ' → ALe A A' → Same F F' → Qv σ' H') → gS G tg v σ H Qv
structure Pst where
  nx : Ec → Sto → Prop
  rt : Im → Sto → Prop
  bk : Ec → Sto → Prop := fun _ _ => False
  ct : Ec → Sto → Prop := fun _ _ => False
  ex : Addr → List (Str × Dt) → Ec → Sto → Prop := fun _ _ _ _ => False
structure Lands (A : List Addr) (F : Hp) (P : Pst) (D : Ends) : Prop where
  nx : ∀ Γ' M' A' F' σ' H', P.nx Γ' M' → StO G.kw A' M' F' H' → SlG G A' F' Γ' σ' → ALn G.n A A' → Same F F' → D.nx σ' H'
  rt : ∀ r M' A' F' H' v, P.rt r M' → StO G.kw A' M' F' H' → ImR G.kw A' F' r v → ALn G.n A A' → Same F F' → D.rt v H'
  bk : ∀ Γ' M' A' F' σ' H', P.bk Γ' M' → StO G.kw A' M' F' H' → SlG G A' F' Γ' σ' → ALn G.n A A' → Same F F' → D.bk σ' H'
  ct : ∀ Γ' M' A' F' σ' H', P.ct Γ' M' → StO G.kw A' M' F' H' → SlG G A' F' Γ' σ' → ALn G.n A A' → Same F F' → D.ct σ' H'
  ex : ∀ C fs Γ' M' A' F' σ' H', P.ex C fs Γ' M' → StO G.kw A' M' F' H' → SlG G A' F' Γ' σ' → ALn G.n A A' → Same F F' → FlyE G.kw F' H' C fs fun v d => G.W v d σ' H'
def ExX (st : Stmt) (Γ : Ec) (M : Sto) (P : Pst) : Prop :=
  ∀ A F σ H D, StO G.kw A M F H → SlG G A F Γ σ → G.n ≤ M.length → Lands G A F P D → sS G st D σ H
def ExS (sts : List Stmt) (Γ : Ec) (M : Sto) (P : Pst) : Prop :=
  ∀ A F σ H D, StO G.kw A M F H → SlG G A F Γ σ → G.n ≤ M.length → Lands G A F P D → sSs G sts D σ H
/-- an iterator: its items, and when it still holds -/
def JOk (J : L2.It) (xs : List Im) (ok : Sto → Prop) (A : List Addr) (F : Hp) : Prop :=
  ∀ (i : Nat) M' A' F' H', StO G.kw A' M' F' H' → ALe A A' → Same F F' → ok M' →
    (∀ x, xs[i]? = some x → J.go i H' ∧ ∀ v H'', J.yld i H' v H'' → ∃ F'', StO G.kw A' M' F'' H'' ∧ Same F' F'' ∧ ImR G.kw A' F'' x v) ∧ (xs.length ≤ i → J.stop i H')
def EvI (tg iter : Expr) (Γ : Ec) (M : Sto) (Q : List Im → (Sto → Prop) → Sto → Prop) (R : QR) : Prop :=
  ∀ A F σ H (Rk : L2.It → Hp → Prop), StO G.kw A M F H → SlG G A F Γ σ →
    (∀ J xs ok M' A' F' H', Q xs ok M' → StO G.kw A' M' F' H' → ALe A A' → Same F F' → JOk G J xs ok A' F' → Rk J H') → Flies G A F R σ → iS G tg iter σ H Rk
end

section
variable {G : Sx} {A A' B : List Addr} {F F' : Hp} {Q : QE} {R : QR} {σ : L2.St} {P : Pst} {D : Ends}
theorem Flies.mono (h : Flies G A F R σ) (ha : ALe A A') (hf : Same F F') : Flies G A' F' R σ := fun C fs M' A2 F2 H2 q S a f => h C fs M' A2 F2 H2 q S (ha.trans a) (hf.trans f)
theorem Lands.mono (h : Lands G A F P D) (ha : ALn G.n A A') (hf : Same F F') : Lands G A' F' P D where
  nx := fun Γ M A2 F2 σ2 H2 q S L a f => h.nx Γ M A2 F2 σ2 H2 q S L (ha.trans a) (hf.trans f)
  rt := fun r M A2 F2 H2 v q S L a f => h.rt r M A2 F2 H2 v q S L (ha.trans a) (hf.trans f)
  bk := fun Γ M A2 F2 σ2 H2 q S L a f => h.bk Γ M A2 F2 σ2 H2 q S L (ha.trans a) (hf.trans f)
  ct := fun Γ M A2 F2 σ2 H2 q S L a f => h.ct Γ M A2 F2 σ2 H2 q S L (ha.trans a) (hf.trans f)
  ex := fun C fs Γ M A2 F2 σ2 H2 q S L a f => h.ex C fs Γ M A2 F2 σ2 H2 q S L (ha.trans a) (hf.trans f)
theorem ALn.len {n : Nat} {A A' : List Addr} (h : ALn n A A') (hn : n ≤ A.length) : n ≤ A'.length := by
  cases n with
  | zero => exact Nat.zero_le _
  | succ k =>
    have hk : k < A.length := hn
    exact (List.getElem?_eq_some_iff.mp (h k A[k] (Nat.lt_succ_self k) (List.getElem?_eq_getElem hk))).1
theorem ALe.len {A A' : List Addr} (h : ALe A A') : A.length ≤ A'.length := (h.n A.length).len (Nat.le_refl _)
end

section
variable {G : Sx} {Γ : Ec} {M : Sto} {Q : QE} {R : QR} {pos : Pos}
theorem ev_name {i : Nat} {x : Str} {r : Im} (hq : Q r M) (hΓ : Γ[i]? = some (some r)) (hN : G.N[i]? = some x) (hv : Vis G.sc x)
    (hd : (x == ("__debug__" : Str)) = false := by decide) (hcd : (x == ("__classdict__" : Str)) = false := by decide) : EvX G (.Name x pos) Γ M Q R := by
  intro A F σ H Qv S L hQ hR
  obtain ⟨v, e, r⟩ := L.2 i _ hΓ
  exact tS_of (fun X hX => pe_var (i := i) (by rw [hX.N]; exact hN) (by rw [hX.sc]; exact hv) hd hcd) ⟨v, e, hQ _ M A F H v hq S (ALe.refl _) (Same.refl _) r⟩
theorem ev_int {i : Int} {j : Nat} (hq : Q (.d (.int i)) M) : EvX G (.Constant (.int i) j pos) Γ M Q R := fun A F σ H Qv S L hQ hR =>
  tS_of (fun X hX => pe_int) (hQ _ M A F H _ hq S (ALe.refl _) (Same.refl _) (Dv.int i))
theorem ev_bool {b : Bool} {j : Nat} (hq : Q (.d (.bool b)) M) : EvX G (.Constant (.bool b) j pos) Γ M Q R := fun A F σ H Qv S L hQ hR =>
  tS_of (fun X hX => pe_bl) (hQ _ M A F H _ hq S (ALe.refl _) (Same.refl _) (Dv.bl b))
theorem ev_none {j : Nat} (hq : Q (.d .none) M) : EvX G (.Constant .none j pos) Γ M Q R := fun A F σ H Qv S L hQ hR =>
  tS_of (fun X hX => pe_non) (hQ _ M A F H _ hq S (ALe.refl _) (Same.refl _) Dv.non)
theorem ev_str {x : Str} {j : Nat} (hq : Q (.d (.str x)) M) : EvX G (.Constant (.str x) j pos) Γ M Q R := fun A F σ H Qv S L hQ hR =>
  tS_of (fun X hX => pe_str) (hQ _ M A F H _ hq S (ALe.refl _) (Same.refl _) (Dv.str x))
theorem gl_of {X : Cx} (hX : G.Has X) {x : Str} (hg : G.sc.names.lookup x = some .globalImplicit) : Gl X x := by
  show X.env.scope.names.lookup x = some .globalImplicit
  rw [hX.sc]; exact hg
/-- a module's constant -/
theorem ev_globI {x : Str} {i : Int} {t : Tok} (hq : Q (.d (.int i)) M) (hm : G.mg x = some (.int i t)) (hg : G.sc.names.lookup x = some .globalImplicit) (hd : (x == ("__debug__" : Str)) = false := by decide) : EvX G (.Name x pos) Γ M Q R := fun A F σ H Qv S L hQ hR =>
  tS_of (fun X hX => pe_glob (v := .int i) (gl_of hX hg) (by rw [hX.mg]; exact hm) ⟨t, rfl⟩ hd) (hQ _ M A F H _ hq S (ALe.refl _) (Same.refl _) (Dv.int i))
theorem ev_globS {x y : Str} {t : Tok} (hq : Q (.d (.str y)) M) (hm : G.mg x = some (.str y t)) (hg : G.sc.names.lookup x = some .globalImplicit) (hd : (x == ("__debug__" : Str)) = false := by decide) : EvX G (.Name x pos) Γ M Q R := fun A F σ H Qv S L hQ hR =>
  tS_of (fun X hX => pe_glob (v := .str y) (gl_of hX hg) (by rw [hX.mg]; exact hm) ⟨t, rfl⟩ hd) (hQ _ M A F H _ hq S (ALe.refl _) (Same.refl _) (Dv.str y))
end

/-- an operator's reading over data -/
def BopR (G : Sx) (r : R2) (ra rb : Im) (M : Sto) (Q : QE) : Prop :=
  ∀ A F H va vb Qv, StO G.kw A M F H → ImR G.kw A F ra va → ImR G.kw A F rb vb → Goes G A F Q Qv → r va vb H Qv
section
variable {G : Sx} {Γ : Ec} {M : Sto} {Q : QE} {R : QR} {pos : Pos} {a b : Expr}
theorem Goes.mono {A A' : List Addr} {F F' : Hp} {Qv : VK} (h : Goes G A F Q Qv) (ha : ALe A A') (hf : Same F F') : Goes G A' F' Q Qv := fun r M A2 F2 H2 v q S a f => h r M A2 F2 H2 v q S (ha.trans a) (hf.trans f)
theorem two_ev {r : R2} (h : EvX G a Γ M (fun ra Ma => EvX G b Γ Ma (fun rb Mb => BopR G r ra rb Mb Q) R) R) {A : List Addr} {F : Hp} {σ : L2.St} {H : Hp} {Qv : VK} (S : StO G.kw A M F H) (L : SlG G A F Γ σ) (hQ : Goes G A F Q Qv) (hR : Flies G A F R σ) :
    tOp r (tS G a) (tS G b) σ H Qv := by
  refine h A F σ H _ S L (fun ra Ma A1 F1 H1 va hb S1 a1 f1 r1 => ?_) hR
  refine hb A1 F1 σ H1 _ S1 (L.mono a1 f1) (fun rb Mb A2 F2 H2 vb hr S2 a2 f2 r2 => ?_) (hR.mono a1 f1)
  exact hr A2 F2 H2 va vb Qv S2 (r1.mono a2 f2) r2 (hQ.mono (a1.trans a2) (f1.trans f2))
theorem ev_op {op : Operator} {r : R2} (ho : ∀ X, G.Has X → OpR X (binaryOp op) r) (h : EvX G a Γ M (fun ra Ma => EvX G b Γ Ma (fun rb Mb => BopR G r ra rb Mb Q) R) R) : EvX G (.BinOp a op b pos) Γ M Q R :=
  fun A F σ H Qv S L hQ hR => tS_of (fun X hX => pe_op (ho X hX) (pe_S hX a) (pe_S hX b)) (two_ev h S L hQ hR)
theorem ev_cmp {op : CmpOp} {r : R2} (ho : ∀ X, G.Has X → OpR X (compareOp op) r) (h : EvX G a Γ M (fun ra Ma => EvX G b Γ Ma (fun rb Mb => BopR G r ra rb Mb Q) R) R) (hm : behindInMarks op b = false) : EvX G (.Compare a [op] [b] pos) Γ M Q R :=
  fun A F σ H Qv S L hQ hR => tS_of (fun X hX => pe_cmpR (ho X hX) (pe_S hX a) (pe_S hX b) hm) (two_ev h S L hQ hR)
theorem evt_cmp {op : CmpOp} {r : R2} {Q : Bool → Sto → Prop} (ho : ∀ X, G.Has X → OpR X (compareOp op) r)
    (h : EvX G a Γ M (fun ra Ma => EvX G b Γ Ma (fun rb Mb => BopR G r ra rb Mb (fun rc Mc => ∃ c, rc = .d (.bool c) ∧ Q c Mc)) R) R) (hm : behindInMarks op b = false) : EvT G (.Compare a [op] [b] pos) Γ M Q R := by
  intro A F σ H Qv S L hQ hR
  refine tST_of (fun X hX => pt_cmpR (ho X hX) (pe_S hX a) (pe_S hX b) hm) (two_ev h S L (fun r M' A' F' H' v q S' a' f' rv => ?_) hR)
  obtain ⟨c, rfl, q⟩ := q
  cases rv
  exact ⟨c, rfl, hQ _ _ _ _ _ q S' a' f'⟩
theorem bop_int {r : R2} {i j : Int} {g : Im} (hq : Q g M) (hr : ∀ H Qv, (∀ v, ImR G.kw [] (fun _ => none) g v → Qv v H) → r (.int i) (.int j) H Qv) (hg : ∃ x, g = .d x ∧ ∀ A F v, ImR G.kw [] (fun _ => none) g v → ImR G.kw A F g v) : BopR G r (.d (.int i)) (.d (.int j)) M Q := by
  intro A F H va vb Qv S ra rb hQ
  cases ra
  cases rb
  obtain ⟨x, rfl, hm⟩ := hg
  exact hr H Qv fun v hv => hQ _ M A F H v hq S (ALe.refl _) (Same.refl _) (hm A F v hv)
theorem imr_int {i : Int} : ImR G.kw [] (fun _ => none) (.d (.int i)) (.int i) := Dv.int i
theorem bop_addI {i j : Int} (hq : Q (.d (.int (i + j))) M) : BopR G (rI0 fun i j => .int (i + j)) (.d (.int i)) (.d (.int j)) M Q := fun A F H va vb Qv S ra rb hQ => by
  cases ra; cases rb
  exact ⟨i, j, rfl, rfl, hQ _ M A F H _ hq S (ALe.refl _) (Same.refl _) (Dv.int _)⟩
theorem bop_I {C : Int → Int → Prop} {g : Int → Int → Int} {i j : Int} (hc : C i j) (hq : Q (.d (.int (g i j))) M) : BopR G (rI C fun i j => .int (g i j)) (.d (.int i)) (.d (.int j)) M Q := fun A F H va vb Qv S ra rb hQ => by
  cases ra; cases rb
  exact ⟨i, j, rfl, rfl, hc, hQ _ M A F H _ hq S (ALe.refl _) (Same.refl _) (Dv.int _)⟩
theorem bop_I0 {g : Int → Int → Int} {i j : Int} (hq : Q (.d (.int (g i j))) M) : BopR G (rI0 fun i j => .int (g i j)) (.d (.int i)) (.d (.int j)) M Q := fun A F H va vb Qv S ra rb hQ => by
  cases ra; cases rb
  exact ⟨i, j, rfl, rfl, hQ _ M A F H _ hq S (ALe.refl _) (Same.refl _) (Dv.int _)⟩
theorem bop_B0 {g : Int → Int → Bool} {i j : Int} (hq : Q (.d (.bool (g i j))) M) : BopR G (rI0 fun i j => .bl (g i j)) (.d (.int i)) (.d (.int j)) M Q := fun A F H va vb Qv S ra rb hQ => by
  cases ra; cases rb
  exact ⟨i, j, rfl, rfl, hQ _ M A F H _ hq S (ALe.refl _) (Same.refl _) (Dv.bl _)⟩
end
end DX

namespace DX
open PySem PySem.Spec PyProof.Rows L2

section
variable {X : Cx}
def rCatG (K : PySem.W.Frag) : R2 := fun x y H Q => ∃ l b xs zs, x = .ref l ∧ y = .ref b ∧ SqL K H l xs ∧ SqL K H b zs ∧ xs.length + zs.length ≤ sizeLine ∧ ∀ p, H p = none → Q (.ref p) (upd H p (.lst (xs ++ zs)))
theorem op_catG : OpR X (binaryOp .Add) (rCatG X.K) := by
  intro pins s σ H x y v u Q I rx ry h
  obtain ⟨l, b, xs, zs, rfl, rfl, hH, hB, hz, q⟩ := h
  cases rx
  cases ry
  obtain ⟨its, r, pl, hl⟩ := I.list hH
  obtain ⟨its2, r2, pl2, hl2⟩ := I.list hB
  have e1 := r.length
  have e2 := r2.length
  obtain ⟨⟨cls, dd, data, sl⟩, ho, hc, n, hd⟩ := pl.isList
  obtain ⟨⟨cls2, dd2, data2, sl2⟩, ho2, hc2, n2, hd2⟩ := pl2.isList
  simp only at hc hd hc2 hd2
  subst hc hd hc2 hd2
  have e : its.toArray ++ its2.toArray = (its ++ its2).toArray := by simp
  refine concat_meets ⟨_, ho, rfl⟩ ⟨_, ho2, rfl⟩ noFill_list_add seq_list_add PySem.F.slot_list_add PySem.F.entry_list_add (PySem.F.args_list_add_2 _ _) (list_addW l b its.toArray its2.toArray n n2 dd dd2 sl sl2 (by simp only [List.size_toArray]; omega)) ⟨ho, ho2, ?_⟩
  rw [e]
  exact ⟨.ref _, _, I.lnew (t' := s.toks) (r.append r2) (by rw [List.length_append]; omega), rfl, q _ I.fresh⟩
def rStrAdd : R2 := fun x y H Q => ∃ i j, x = .str i ∧ y = .str j ∧ i.length + j.length ≤ sizeLine ∧ Q (.str (i ++ j)) H
def rAdd4 (K : PySem.W.Frag) : R2 := fun x y H Q => rI0 (fun i j => .int (i + j)) x y H Q ∨ (rCatG K x y H Q ∨ (rCatA K x y H Q ∨ rStrAdd x y H Q))
theorem op_add4 : OpR X (binaryOp .Add) (rAdd4 X.K) := op_add.or (op_catG.or (op_catA.or op_add_str))
end

section
variable {K : KW} {A : List Addr} {F H : Hp} {M : Sto} {G : Sx} {Q : QE} {Qv : VK}
theorem dp_lst {p : Addr} {vs : List V} {ds : List Dt} (h : DvAll K F vs ds) (hF : F p = none) : Dv K (upd F p (.lst vs)) (.ref p) (.list ds) :=
  .lst (SqL.of upd_same) (DvAll.mono (same_updF hF) h)
theorem dp_tup {p : Addr} {vs : List V} {ds : List Dt} (h : DvAll K F vs ds) (hF : F p = none) : Dv K (upd F p (.tup vs)) (.ref p) (.tuple ds) :=
  .tup (SqT.of upd_same) (DvAll.mono (same_updF hF) h)
/-- a fresh list taken as data -/
theorem goes_lst (S : StO G.kw A M F H) (hQ : Goes G A F Q Qv) {p : Addr} (hp : H p = none) {vs : List V} {ds : List Dt} (h : ImsR G.kw A F (ds.map .d) vs) (q : Q (.d (.list ds)) M) : Qv (.ref p) (upd H p (.lst vs)) :=
  hQ _ M A _ _ _ q (S.data hp) (ALe.refl _) (same_updF (S.freshF hp)) (dp_lst (dpAll_of h) (S.freshF hp))
theorem goes_tup (S : StO G.kw A M F H) (hQ : Goes G A F Q Qv) {p : Addr} (hp : H p = none) {vs : List V} {ds : List Dt} (h : ImsR G.kw A F (ds.map .d) vs) (q : Q (.d (.tuple ds)) M) : Qv (.ref p) (upd H p (.tup vs)) :=
  hQ _ M A _ _ _ q (S.data hp) (ALe.refl _) (same_updF (S.freshF hp)) (dp_tup (dpAll_of h) (S.freshF hp))
theorem cell_lst (S : StO K A M F H) {p : Addr} (hp : H p = none) {c : Cel} {vs : List V} {xs : List Im} (hx : c.its = some xs) (h : ImsR K A F xs vs) : StO K (A ++ [p]) (M ++ [c]) F (upd H p (.lst vs)) :=
  S.cell hp (by unfold CelR; rw [Cel.its_gen hx]; exact ⟨S.freshF hp, vs, upd_same, ImsR.mono (ALe.app _ _) (Same.refl _) h⟩)
/-- a fresh list taken as a cell -/
theorem goes_lstP (S : StO G.kw A M F H) (hQ : Goes G A F Q Qv) {p : Addr} (hp : H p = none) {c : Cel} {vs : List V} {xs : List Im} (hx : c.its = some xs) (h : ImsR G.kw A F xs vs) (q : Q (.p M.length) (M ++ [c])) : Qv (.ref p) (upd H p (.lst vs)) :=
  hQ _ _ (A ++ [p]) F _ _ q (cell_lst S hp hx h) (ALe.app _ _) (Same.refl _) ⟨p, by rw [← S.len]; simp, rfl⟩
theorem ImsR.len {rs : List Im} {vs : List V} (h : ImsR K A F rs vs) : rs.length = vs.length := Paired.length h
theorem ImsR.app {rs rs' : List Im} {vs vs' : List V} (h : ImsR K A F rs vs) (h' : ImsR K A F rs' vs') : ImsR K A F (rs ++ rs') (vs ++ vs') := by
  induction h with
  | nil => exact h'
  | cons r _ ih => exact .cons r ih
theorem ImsR.get {rs : List Im} {vs : List V} (h : ImsR K A F rs vs) : ∀ {i : Nat} {r : Im}, rs[i]? = some r → ∃ v, vs[i]? = some v ∧ ImR K A F r v := by
  induction h with
  | nil => intro i r e; simp at e
  | cons r t ih =>
    intro i x e
    cases i with
    | zero => simp at e; subst e; exact ⟨_, rfl, r⟩
    | succ i => obtain ⟨v, e1, e2⟩ := ih (i := i) (r := x) (by simpa using e); exact ⟨v, by simpa using e1, e2⟩
theorem ImsR.take {rs : List Im} {vs : List V} (h : ImsR K A F rs vs) : ∀ n : Nat, ImsR K A F (rs.take n) (vs.take n) := by
  induction h with
  | nil => intro n; simp; exact .nil
  | cons r t ih =>
    intro n
    cases n with
    | zero => exact .nil
    | succ n => exact .cons r (ih n)
theorem ImsR.drop {rs : List Im} {vs : List V} (h : ImsR K A F rs vs) : ∀ n : Nat, ImsR K A F (rs.drop n) (vs.drop n) := by
  induction h with
  | nil => intro n; simp; exact .nil
  | cons r t ih =>
    intro n
    cases n with
    | zero => exact .cons r t
    | succ n => exact ih n
theorem ImsR.set {rs : List Im} {vs : List V} (h : ImsR K A F rs vs) {r : Im} {v : V} (hr : ImR K A F r v) : ∀ n : Nat, ImsR K A F (rs.set n r) (vs.set n v) := by
  induction h with
  | nil => intro n; simp; exact .nil
  | cons q t ih =>
    intro n
    cases n with
    | zero => exact .cons hr t
    | succ n => exact .cons q (ih n)
end

section
variable {G : Sx} {Γ : Ec} {M : Sto} {Q : QE} {R : QR} {pos : Pos} {a b : Expr}
theorem ev_add (h : EvX G a Γ M (fun ra Ma => EvX G b Γ Ma (fun rb Mb => BopR G (rAdd4 G.K) ra rb Mb Q) R) R) : EvX G (.BinOp a .Add b pos) Γ M Q R :=
  ev_op (fun X hX => by rw [← hX.K]; exact op_add4) h
theorem add_int {i j : Int} (hq : Q (.d (.int (i + j))) M) : BopR G (rAdd4 G.K) (.d (.int i)) (.d (.int j)) M Q := fun A F H va vb Qv S ra rb hQ => .inl (bop_I0 (g := fun i j => i + j) hq A F H va vb Qv S ra rb hQ)
theorem add_lst {ra rb : Im} {ds es : List Dt} (ha : AsL M ra (ds.map .d)) (hb : AsL M rb (es.map .d)) (hz : ds.length + es.length ≤ sizeLine) (hq : Q (.d (.list (ds ++ es))) M) : BopR G (rAdd4 G.K) ra rb M Q := fun A F H va vb Qv S ra rb hQ => by
  obtain ⟨x, vs, rfl, h1, r1⟩ := ha.sq S ra
  obtain ⟨y, ws, rfl, h2, r2⟩ := hb.sq S rb
  have l1 := r1.len
  have l2 := r2.len
  simp at l1 l2
  refine .inr (.inl ⟨x, y, vs, ws, rfl, rfl, h1, h2, by omega, fun p hp => goes_lst S hQ hp ?_ hq⟩)
  rw [List.map_append]
  exact r1.app r2
theorem add_lstP {ra rb : Im} {xs ys : List Im} {c : Cel} (hx : c.its = some (xs ++ ys)) (ha : AsL M ra xs) (hb : AsL M rb ys) (hz : xs.length + ys.length ≤ sizeLine) (hq : Q (.p M.length) (M ++ [c])) : BopR G (rAdd4 G.K) ra rb M Q := fun A F H va vb Qv S ra rb hQ => by
  obtain ⟨x, vs, rfl, h1, r1⟩ := ha.sq S ra
  obtain ⟨y, ws, rfl, h2, r2⟩ := hb.sq S rb
  have l1 := r1.len
  have l2 := r2.len
  exact .inr (.inl ⟨x, y, vs, ws, rfl, rfl, h1, h2, by omega, fun p hp => goes_lstP S hQ hp hx (r1.app r2) hq⟩)
theorem add_tup {ds es : List Dt} (hz : ds.length + es.length ≤ sizeLine) (hq : Q (.d (.tuple (ds ++ es))) M) : BopR G (rAdd4 G.K) (.d (.tuple ds)) (.d (.tuple es)) M Q := fun A F H va vb Qv S ra rb hQ => by
  cases ra with
  | tup h1 r1 =>
    cases rb with
    | tup h2 r2 =>
      have l1 := (of_dpAll (A := A) r1).len
      have l2 := (of_dpAll (A := A) r2).len
      simp at l1 l2
      refine .inr (.inr (.inl ⟨_, _, _, _, rfl, rfl, Same.seqT S.sub h1, Same.seqT S.sub h2, by omega, fun e => ?_, fun e1 e2 => ?_, fun e1 e2 p hp => goes_tup S hQ hp ?_ hq⟩))
      · subst e
        cases r1
        exact hQ _ M A F H _ hq S (ALe.refl _) (Same.refl _) (Dv.tup h2 r2)
      · subst e2
        cases r2
        exact hQ _ M A F H _ hq S (ALe.refl _) (Same.refl _) (by rw [List.append_nil]; exact Dv.tup h1 r1)
      · rw [List.map_append]
        exact (of_dpAll r1).app (of_dpAll r2)
theorem add_str {i j : Str} (hz : i.length + j.length ≤ sizeLine) (hq : Q (.d (.str (i ++ j))) M) : BopR G (rAdd4 G.K) (.d (.str i)) (.d (.str j)) M Q := fun A F H va vb Qv S ra rb hQ => by
  cases ra; cases rb
  exact .inr (.inr (.inr ⟨i, j, rfl, rfl, hz, hQ _ M A F H _ hq S (ALe.refl _) (Same.refl _) (Dv.str _)⟩))
theorem ev_sub (h : EvX G a Γ M (fun ra Ma => EvX G b Γ Ma (fun rb Mb => ∃ i j, ra = .d (.int i) ∧ rb = .d (.int j) ∧ Q (.d (.int (i - j))) Mb) R) R) : EvX G (.BinOp a .Sub b pos) Γ M Q R :=
  ev_op (fun X hX => op_sub) fun A F σ H Qv S L hQ hR => h A F σ H Qv S L (fun r M1 A1 F1 H1 v hb S1 a1 f1 r1 => hQ r M1 A1 F1 H1 v (fun A F σ H Qv S L hQ hR => hb A F σ H Qv S L (fun r' M1 A1 F1 H1 v hb S1 a1 f1 r1 => by
    obtain ⟨i, j, rfl, rfl, q⟩ := hb
    exact hQ _ M1 A1 F1 H1 v (bop_I0 (g := fun i j => i - j) q) S1 a1 f1 r1) hR) S1 a1 f1 r1) hR
end
/-- weaken what is wanted -/
theorem EvX.imp {G : Sx} {e : Expr} {Γ : Ec} {M : Sto} {Q Q' : QE} {R : QR} (h : EvX G e Γ M Q R) (hq : ∀ r M', Q r M' → Q' r M') : EvX G e Γ M Q' R :=
  fun A F σ H Qv S L hQ hR => h A F σ H Qv S L (fun r M1 A1 F1 H1 v q => hQ r M1 A1 F1 H1 v (hq r M1 q)) hR
section
variable {G : Sx} {Γ : Ec} {M : Sto} {Q : QE} {R : QR} {pos : Pos} {a b : Expr}
theorem ev_opI {op : Operator} {C : Int → Int → Prop} {g : Int → Int → Int} (ho : ∀ X, G.Has X → OpR X (binaryOp op) (rI C fun i j => .int (g i j)))
    (h : EvX G a Γ M (fun ra Ma => EvX G b Γ Ma (fun rb Mb => ∃ i j, ra = .d (.int i) ∧ rb = .d (.int j) ∧ C i j ∧ Q (.d (.int (g i j))) Mb) R) R) : EvX G (.BinOp a op b pos) Γ M Q R :=
  ev_op ho (h.imp fun ra Ma h => h.imp fun rb Mb ⟨i, j, e1, e2, c, q⟩ => by subst e1 e2; exact bop_I c q)
theorem ev_mul (h : EvX G a Γ M (fun ra Ma => EvX G b Γ Ma (fun rb Mb => ∃ i j, ra = .d (.int i) ∧ rb = .d (.int j) ∧ CMulX i j ∧ Q (.d (.int (i * j))) Mb) R) R) : EvX G (.BinOp a .Mult b pos) Γ M Q R := ev_opI (g := fun i j => i * j) (fun X hX => op_mulX) h
theorem ev_mod (h : EvX G a Γ M (fun ra Ma => EvX G b Γ Ma (fun rb Mb => ∃ i j, ra = .d (.int i) ∧ rb = .d (.int j) ∧ 0 < j ∧ Q (.d (.int (i % j))) Mb) R) R) : EvX G (.BinOp a .Mod b pos) Γ M Q R := ev_opI (C := fun _ j => 0 < j) (g := fun i j => i % j) (fun X hX => op_mod) h
theorem ev_fdiv (h : EvX G a Γ M (fun ra Ma => EvX G b Γ Ma (fun rb Mb => ∃ i j, ra = .d (.int i) ∧ rb = .d (.int j) ∧ CDivW i j ∧ Q (.d (.int (i / j))) Mb) R) R) : EvX G (.BinOp a .FloorDiv b pos) Γ M Q R := ev_opI (g := fun i j => i / j) (fun X hX => op_fdivW) h
theorem ev_pow (h : EvX G a Γ M (fun ra Ma => EvX G b Γ Ma (fun rb Mb => ∃ i j, ra = .d (.int i) ∧ rb = .d (.int j) ∧ CPow i j ∧ Q (.d (.int (i ^ j.toNat))) Mb) R) R) : EvX G (.BinOp a .Pow b pos) Γ M Q R := ev_opI (g := fun i j => i ^ j.toNat) (fun X hX => op_pow) h
theorem ev_neg (h : EvX G a Γ M (fun ra Ma => ∃ i, ra = .d (.int i) ∧ Q (.d (.int (-i))) Ma) R) : EvX G (.UnaryOp .USub a pos) Γ M Q R := fun A F σ H Qv S L hQ hR =>
  tS_of (fun X hX => pe_un un_neg (pe_S hX a)) (h A F σ H _ S L (fun r M1 A1 F1 H1 v ⟨i, e, q⟩ S1 a1 f1 r1 => by
    subst e; cases r1
    exact ⟨i, rfl, hQ _ M1 A1 F1 H1 _ q S1 a1 f1 (Dv.int _)⟩) hR)
def rCmpB (p : Int → Int → Bool) : R2 := rI0 fun i j => .bl (p i j)
theorem ev_cmpI {op : CmpOp} {p : Int → Int → Bool} (ho : ∀ X, G.Has X → OpR X (compareOp op) (rI0 fun i j => .bl (p i j))) (hm : behindInMarks op b = false)
    (h : EvX G a Γ M (fun ra Ma => EvX G b Γ Ma (fun rb Mb => ∃ i j, ra = .d (.int i) ∧ rb = .d (.int j) ∧ Q (.d (.bool (p i j))) Mb) R) R) : EvX G (.Compare a [op] [b] pos) Γ M Q R :=
  ev_cmp ho (h.imp fun ra Ma h => h.imp fun rb Mb ⟨i, j, e1, e2, q⟩ => by subst e1 e2; exact bop_B0 q) hm
theorem evt_cmpI {op : CmpOp} {p : Int → Int → Bool} {Q : Bool → Sto → Prop} (ho : ∀ X, G.Has X → OpR X (compareOp op) (rI0 fun i j => .bl (p i j))) (hm : behindInMarks op b = false)
    (h : EvX G a Γ M (fun ra Ma => EvX G b Γ Ma (fun rb Mb => ∃ i j, ra = .d (.int i) ∧ rb = .d (.int j) ∧ Q (p i j) Mb) R) R) : EvT G (.Compare a [op] [b] pos) Γ M Q R :=
  evt_cmp ho (h.imp fun ra Ma h => h.imp fun rb Mb ⟨i, j, e1, e2, q⟩ => by subst e1 e2; exact bop_B0 ⟨_, rfl, q⟩) hm
theorem ev_lt (h : EvX G a Γ M (fun ra Ma => EvX G b Γ Ma (fun rb Mb => ∃ i j, ra = .d (.int i) ∧ rb = .d (.int j) ∧ Q (.d (.bool (decide (i < j)))) Mb) R) R) : EvX G (.Compare a [.Lt] [b] pos) Γ M Q R := ev_cmpI (fun X hX => op_lt) (nomark _) h
theorem ev_le (h : EvX G a Γ M (fun ra Ma => EvX G b Γ Ma (fun rb Mb => ∃ i j, ra = .d (.int i) ∧ rb = .d (.int j) ∧ Q (.d (.bool (decide (i ≤ j)))) Mb) R) R) : EvX G (.Compare a [.LtE] [b] pos) Γ M Q R := ev_cmpI (fun X hX => op_le) (nomark _) h
theorem ev_gt (h : EvX G a Γ M (fun ra Ma => EvX G b Γ Ma (fun rb Mb => ∃ i j, ra = .d (.int i) ∧ rb = .d (.int j) ∧ Q (.d (.bool (decide (j < i)))) Mb) R) R) : EvX G (.Compare a [.Gt] [b] pos) Γ M Q R := ev_cmpI (fun X hX => op_gt) (nomark _) h
theorem ev_ge (h : EvX G a Γ M (fun ra Ma => EvX G b Γ Ma (fun rb Mb => ∃ i j, ra = .d (.int i) ∧ rb = .d (.int j) ∧ Q (.d (.bool (decide (j ≤ i)))) Mb) R) R) : EvX G (.Compare a [.GtE] [b] pos) Γ M Q R := ev_cmpI (fun X hX => op_ge) (nomark _) h
theorem evt_lt {Q : Bool → Sto → Prop} (h : EvX G a Γ M (fun ra Ma => EvX G b Γ Ma (fun rb Mb => ∃ i j, ra = .d (.int i) ∧ rb = .d (.int j) ∧ Q (decide (i < j)) Mb) R) R) : EvT G (.Compare a [.Lt] [b] pos) Γ M Q R := evt_cmpI (fun X hX => op_lt) (nomark _) h
theorem evt_le {Q : Bool → Sto → Prop} (h : EvX G a Γ M (fun ra Ma => EvX G b Γ Ma (fun rb Mb => ∃ i j, ra = .d (.int i) ∧ rb = .d (.int j) ∧ Q (decide (i ≤ j)) Mb) R) R) : EvT G (.Compare a [.LtE] [b] pos) Γ M Q R := evt_cmpI (fun X hX => op_le) (nomark _) h
theorem evt_gt {Q : Bool → Sto → Prop} (h : EvX G a Γ M (fun ra Ma => EvX G b Γ Ma (fun rb Mb => ∃ i j, ra = .d (.int i) ∧ rb = .d (.int j) ∧ Q (decide (j < i)) Mb) R) R) : EvT G (.Compare a [.Gt] [b] pos) Γ M Q R := evt_cmpI (fun X hX => op_gt) (nomark _) h
theorem evt_ge {Q : Bool → Sto → Prop} (h : EvX G a Γ M (fun ra Ma => EvX G b Γ Ma (fun rb Mb => ∃ i j, ra = .d (.int i) ∧ rb = .d (.int j) ∧ Q (decide (j ≤ i)) Mb) R) R) : EvT G (.Compare a [.GtE] [b] pos) Γ M Q R := evt_cmpI (fun X hX => op_ge) (nomark _) h
theorem bop_eqD {neg : Bool} {ra rb : Im} {x y : Dt} (ha : AsD M ra x) (hb : AsD M rb y) (sx : SeqAt.shaped x = true) (sy : SeqAt.shaped y = true) (hq : Q (.d (.bool (if neg then !PyData.eqv x y else PyData.eqv x y))) M) : BopR G (if neg then rNeD G.K else rEqD G.K) ra rb M Q := fun A F H va vb Qv S ra rb hQ => by
  cases neg with
  | true => exact ⟨x, y, (ha.dp S ra).toDp _ (SeqAt.canLay_of_shaped sx), (hb.dp S rb).toDp _ (SeqAt.canLay_of_shaped sy), sx, sy, hQ _ M A F H _ hq S (ALe.refl _) (Same.refl _) (Dv.bl _)⟩
  | false => exact ⟨x, y, (ha.dp S ra).toDp _ (SeqAt.canLay_of_shaped sx), (hb.dp S rb).toDp _ (SeqAt.canLay_of_shaped sy), sx, sy, hQ _ M A F H _ hq S (ALe.refl _) (Same.refl _) (Dv.bl _)⟩
theorem ev_eq (h : EvX G a Γ M (fun ra Ma => EvX G b Γ Ma (fun rb Mb => ∃ x y, AsD Mb ra x ∧ AsD Mb rb y ∧ SeqAt.shaped x = true ∧ SeqAt.shaped y = true ∧ Q (.d (.bool (PyData.eqv x y))) Mb) R) R) : EvX G (.Compare a [.Eq] [b] pos) Γ M Q R :=
  ev_cmp (fun X hX => by rw [← hX.K]; exact op_eqD (by have := hX.un; omega)) (h.imp fun ra Ma h => h.imp fun rb Mb ⟨x, y, h1, h2, s1, s2, q⟩ => bop_eqD (neg := false) h1 h2 s1 s2 q) (nomark _)
theorem ev_ne (h : EvX G a Γ M (fun ra Ma => EvX G b Γ Ma (fun rb Mb => ∃ x y, AsD Mb ra x ∧ AsD Mb rb y ∧ SeqAt.shaped x = true ∧ SeqAt.shaped y = true ∧ Q (.d (.bool (!PyData.eqv x y))) Mb) R) R) : EvX G (.Compare a [.NotEq] [b] pos) Γ M Q R :=
  ev_cmp (fun X hX => by rw [← hX.K]; exact op_neD (by have := hX.un; omega)) (h.imp fun ra Ma h => h.imp fun rb Mb ⟨x, y, h1, h2, s1, s2, q⟩ => bop_eqD (neg := true) h1 h2 s1 s2 q) (nomark _)
theorem evt_eq {Q : Bool → Sto → Prop} (h : EvX G a Γ M (fun ra Ma => EvX G b Γ Ma (fun rb Mb => ∃ x y, AsD Mb ra x ∧ AsD Mb rb y ∧ SeqAt.shaped x = true ∧ SeqAt.shaped y = true ∧ Q (PyData.eqv x y) Mb) R) R) : EvT G (.Compare a [.Eq] [b] pos) Γ M Q R :=
  evt_cmp (fun X hX => by rw [← hX.K]; exact op_eqD (by have := hX.un; omega)) (h.imp fun ra Ma h => h.imp fun rb Mb ⟨x, y, h1, h2, s1, s2, q⟩ => bop_eqD (neg := false) h1 h2 s1 s2 ⟨_, rfl, q⟩) (nomark _)
theorem evt_ne {Q : Bool → Sto → Prop} (h : EvX G a Γ M (fun ra Ma => EvX G b Γ Ma (fun rb Mb => ∃ x y, AsD Mb ra x ∧ AsD Mb rb y ∧ SeqAt.shaped x = true ∧ SeqAt.shaped y = true ∧ Q (!PyData.eqv x y) Mb) R) R) : EvT G (.Compare a [.NotEq] [b] pos) Γ M Q R :=
  evt_cmp (fun X hX => by rw [← hX.K]; exact op_neD (by have := hX.un; omega)) (h.imp fun ra Ma h => h.imp fun rb Mb ⟨x, y, h1, h2, s1, s2, q⟩ => bop_eqD (neg := true) h1 h2 s1 s2 ⟨_, rfl, q⟩) (nomark _)
theorem evt_in {Q : Bool → Sto → Prop} (hm : behindInMarks .In b = false) (h : EvX G a Γ M (fun ra Ma => EvX G b Γ Ma (fun rb Mb => ∃ x ds, AsD Mb ra x ∧ AsD Mb rb (.list ds) ∧ SeqAt.shaped x = true ∧ SeqAt.shaped (.list ds) = true ∧ Q (ds.any fun y => PyData.eqv y x) Mb) R) R) : EvT G (.Compare a [.In] [b] pos) Γ M Q R := by
  refine evt_cmp (r := rInD G.K) (fun X hX => by rw [← hX.K]; exact op_inD (by have := hX.un; omega)) (h.imp fun ra Ma h => h.imp fun rb Mb ⟨x, ds, h1, h2, s1, s2, q⟩ => ?_) hm
  intro A F H va vb Qv S r1 r2 hQ
  exact ⟨x, ds, (h1.dp S r1).toDp _ (SeqAt.canLay_of_shaped s1), (h2.dp S r2).toDp _ (SeqAt.canLay_of_shaped s2), s1, s2, hQ _ Mb A F H _ ⟨_, rfl, q⟩ S (ALe.refl _) (Same.refl _) (Dv.bl _)⟩
theorem evt_notin {Q : Bool → Sto → Prop} (hm : behindInMarks .NotIn b = false) (h : EvX G a Γ M (fun ra Ma => EvX G b Γ Ma (fun rb Mb => ∃ x ds, AsD Mb ra x ∧ AsD Mb rb (.list ds) ∧ SeqAt.shaped x = true ∧ SeqAt.shaped (.list ds) = true ∧ Q (!ds.any fun y => PyData.eqv y x) Mb) R) R) : EvT G (.Compare a [.NotIn] [b] pos) Γ M Q R := by
  refine evt_cmp (r := rNotInD G.K) (fun X hX => by rw [← hX.K]; exact op_notInD (by have := hX.un; omega)) (h.imp fun ra Ma h => h.imp fun rb Mb ⟨x, ds, h1, h2, s1, s2, q⟩ => ?_) hm
  intro A F H va vb Qv S r1 r2 hQ
  exact ⟨x, ds, (h1.dp S r1).toDp _ (SeqAt.canLay_of_shaped s1), (h2.dp S r2).toDp _ (SeqAt.canLay_of_shaped s2), s1, s2, hQ _ Mb A F H _ ⟨_, rfl, q⟩ S (ALe.refl _) (Same.refl _) (Dv.bl _)⟩
end
end DX

namespace DX
open PySem PySem.Spec PyProof.Rows L2

section
variable {G : Sx} {Γ : Ec} {M : Sto} {Q : Bool → Sto → Prop} {R : QR} {pos : Pos} {a b c : Expr} {rest : List Expr}
theorem EvT.imp {e : Expr} {Q' : Bool → Sto → Prop} (h : EvT G e Γ M Q R) (hq : ∀ r M', Q r M' → Q' r M') : EvT G e Γ M Q' R :=
  fun A F σ H Qv S L hQ hR => h A F σ H Qv S L (fun r M1 A1 F1 H1 q => hQ r M1 A1 F1 H1 (hq r M1 q)) hR
theorem evt_w {e : Expr} (h : EvW G e Γ M Q R) : EvT G e Γ M Q R := fun A F σ H Qv S L hQ hR =>
  tST_of (fun X hX => (pw_S hX e).pt) (h A F σ H Qv S L hQ hR)
theorem evw_and1 (h : EvT G a Γ M Q R) : EvW G (.BoolOp .And [a] pos) Γ M Q R := fun A F σ H Qv S L hQ hR =>
  tSW_of (fun X hX => pw_and1 (pt_S hX a)) (h A F σ H Qv S L hQ hR)
theorem evw_or1 (h : EvT G a Γ M Q R) : EvW G (.BoolOp .Or [a] pos) Γ M Q R := fun A F σ H Qv S L hQ hR =>
  tSW_of (fun X hX => pw_or1 (pt_S hX a)) (h A F σ H Qv S L hQ hR)
theorem evw_and (h : EvT G a Γ M (fun c M1 => (c = true → EvW G (.BoolOp .And (b :: rest) pos) Γ M1 Q R) ∧ (c = false → Q false M1)) R) : EvW G (.BoolOp .And (a :: b :: rest) pos) Γ M Q R := fun A F σ H Qv S L hQ hR =>
  tSW_of (fun X hX => pw_and (pt_S hX a) (pw_S hX _)) (h A F σ H _ S L (fun c M1 A1 F1 H1 q S1 a1 f1 => by
    cases c with
    | true => exact iteT (q.1 rfl A1 F1 σ H1 Qv S1 (L.mono a1 f1) (fun r M2 A2 F2 H2 q2 S2 a2 f2 => hQ r M2 A2 F2 H2 q2 S2 (a1.trans a2) (f1.trans f2)) (hR.mono a1 f1))
    | false => exact iteF (hQ false M1 A1 F1 H1 (q.2 rfl) S1 a1 f1)) hR)
theorem evw_or (h : EvT G a Γ M (fun c M1 => (c = false → EvW G (.BoolOp .Or (b :: rest) pos) Γ M1 Q R) ∧ (c = true → Q true M1)) R) : EvW G (.BoolOp .Or (a :: b :: rest) pos) Γ M Q R := fun A F σ H Qv S L hQ hR =>
  tSW_of (fun X hX => pw_or (pt_S hX a) (pw_S hX _)) (h A F σ H _ S L (fun c M1 A1 F1 H1 q S1 a1 f1 => by
    cases c with
    | false => exact iteF (q.1 rfl A1 F1 σ H1 Qv S1 (L.mono a1 f1) (fun r M2 A2 F2 H2 q2 S2 a2 f2 => hQ r M2 A2 F2 H2 q2 S2 (a1.trans a2) (f1.trans f2)) (hR.mono a1 f1))
    | true => exact iteT (hQ true M1 A1 F1 H1 (q.2 rfl) S1 a1 f1)) hR)
theorem evt_not (h : EvT G a Γ M (fun c M1 => Q (!c) M1) R) : EvT G (.UnaryOp .Not a pos) Γ M Q R := fun A F σ H Qv S L hQ hR =>
  tST_of (fun X hX => pt_not (pt_S hX a)) (h A F σ H _ S L (fun c M1 A1 F1 H1 q S1 a1 f1 => hQ _ M1 A1 F1 H1 q S1 a1 f1) hR)
abbrev PlainT (e : Expr) : Prop := ∀ env whole, isTrue e env whole = (do let v ← whole; standAt e.pos; holding [v] (truthy v))
theorem evt_val {e : Expr} (he : PlainT e) (h : EvX G e Γ M (fun r M1 => ∃ c, r = .d (.bool c) ∧ Q c M1) R) : EvT G e Γ M Q R := fun A F σ H Qv S L hQ hR =>
  tST_of (fun X hX => pt_val (pe_S hX e) (he _)) (h A F σ H _ S L (fun r M1 A1 F1 H1 v ⟨c, e, q⟩ S1 a1 f1 r1 => by
    subst e; cases r1
    exact ⟨c, rfl, hQ _ M1 A1 F1 H1 q S1 a1 f1⟩) hR)
inductive Tru (M : Sto) : Im → Bool → Prop
  | non : Tru M (.d .none) false
  | bl (b : Bool) : Tru M (.d (.bool b)) b
  | int (i : Int) : Tru M (.d (.int i)) (i != 0)
  | str (y : Str) (h : y.length ≤ sizeLine) : Tru M (.d (.str y)) ((y.length : Int) != 0)
  | lst {r : Im} {xs : List Im} (h : AsL M r xs) : Tru M r (!xs.isEmpty)
  | tup (ds : List Dt) : Tru M (.d (.tuple ds)) (!ds.isEmpty)
theorem isEmpty_len {α β : Type} {xs : List α} {ys : List β} (h : xs.length = ys.length) : xs.isEmpty = ys.isEmpty := by
  cases xs <;> cases ys <;> simp at h ⊢
theorem evt_truth {e : Expr} (he : PlainT e) (h : EvX G e Γ M (fun r M1 => ∃ c, Tru M1 r c ∧ Q c M1) R) : EvT G e Γ M Q R := fun A F σ H Qv S L hQ hR =>
  tST_of (t := fun σ H Q => tS G e σ H fun x H' => ∃ k, TruV G.K x H' k ∧ Q k H') (fun X hX => by rw [← hX.K]; exact pt_truth (pe_S hX e) (he _)) (h A F σ H _ S L (fun r M1 A1 F1 H1 v ⟨c, t, q⟩ S1 a1 f1 r1 => by
    have fin := hQ _ M1 A1 F1 H1 q S1 a1 f1
    cases t with
    | non => cases r1; exact ⟨_, rfl, fin⟩
    | bl b => cases r1; exact ⟨_, rfl, fin⟩
    | int i => cases r1; exact ⟨_, rfl, fin⟩
    | str y h => cases r1; exact ⟨_, ⟨h, rfl⟩, fin⟩
    | lst h =>
      obtain ⟨a, vs, rfl, hs, rs⟩ := h.sq S1 r1
      exact ⟨_, .inl ⟨vs, hs, by rw [isEmpty_len rs.len]⟩, fin⟩
    | tup ds =>
      cases r1 with
      | tup hs ha =>
        have := (of_dpAll (A := A1) ha).len
        simp at this
        exact ⟨_, .inr (.inl ⟨_, Same.seqT S1.sub hs, by rw [isEmpty_len this]⟩), fin⟩) hR)
def imNone : Im → Bool
  | .d .none => true
  | _ => false
theorem imr_none {K : KW} {A : List Addr} {F : Hp} {r : Im} {v : V} (h : ImR K A F r v) : decide (v = V.non) = imNone r := by
  cases r with
  | p k => obtain ⟨a, _, rfl⟩ := h; rfl
  | d x => cases x <;> cases h <;> rfl
theorem evt_isN {j : Nat} {p2 : Pos} (h : EvX G a Γ M (fun r M1 => Q (imNone r) M1) R) : EvT G (.Compare a [.Is] [.Constant .none j p2] pos) Γ M Q R := fun A F σ H Qv S L hQ hR =>
  tST_of (fun X hX => pt_cmp (pc_isN (pe_S hX a))) (h A F σ H _ S L (fun r M1 A1 F1 H1 v q S1 a1 f1 r1 => ⟨_, rfl, by rw [imr_none r1]; exact hQ _ M1 A1 F1 H1 q S1 a1 f1⟩) hR)
theorem evt_notN {j : Nat} {p2 : Pos} (h : EvX G a Γ M (fun r M1 => Q (!imNone r) M1) R) : EvT G (.Compare a [.IsNot] [.Constant .none j p2] pos) Γ M Q R := fun A F σ H Qv S L hQ hR =>
  tST_of (fun X hX => pt_cmp (pc_notN (pe_S hX a))) (h A F σ H _ S L (fun r M1 A1 F1 H1 v q S1 a1 f1 r1 => ⟨_, rfl, by rw [imr_none r1]; exact hQ _ M1 A1 F1 H1 q S1 a1 f1⟩) hR)
end
section
variable {G : Sx} {Γ : Ec} {M : Sto} {Q : QE} {R : QR} {pos : Pos} {a b c : Expr} {rest : List Expr}
theorem ev_isN {j : Nat} {p2 : Pos} (h : EvX G a Γ M (fun r M1 => Q (.d (.bool (imNone r))) M1) R) : EvX G (.Compare a [.Is] [.Constant .none j p2] pos) Γ M Q R := fun A F σ H Qv S L hQ hR =>
  tS_of (fun X hX => pe_cmp (pc_isN (pe_S hX a))) (h A F σ H _ S L (fun r M1 A1 F1 H1 v q S1 a1 f1 r1 => by show Qv (.bl (decide (v = V.non))) H1; rw [imr_none r1]; exact hQ _ M1 A1 F1 H1 _ q S1 a1 f1 (Dv.bl _)) hR)
theorem ev_one {op : BoolOp} (h : EvX G a Γ M Q R) : EvX G (.BoolOp op [a] pos) Γ M Q R := fun A F σ H Qv S L hQ hR =>
  tS_of (fun X hX => pe_one (pe_S hX a)) (h A F σ H Qv S L hQ hR)
theorem ev_and (h : EvX G a Γ M (fun r M1 => ∃ c, r = .d (.bool c) ∧ (c = true → EvX G (.BoolOp .And (b :: rest) pos) Γ M1 Q R) ∧ (c = false → Q (.d (.bool false)) M1)) R) : EvX G (.BoolOp .And (a :: b :: rest) pos) Γ M Q R := fun A F σ H Qv S L hQ hR =>
  tS_of (fun X hX => pe_and (pe_S hX a) (pe_S hX _)) (h A F σ H _ S L (fun r M1 A1 F1 H1 v ⟨c, e, q⟩ S1 a1 f1 r1 => by
    subst e; cases r1
    refine ⟨c, rfl, ?_⟩
    cases c with
    | true => exact iteT (q.1 rfl A1 F1 σ H1 Qv S1 (L.mono a1 f1) (hQ.mono a1 f1) (hR.mono a1 f1))
    | false => exact iteF (hQ _ M1 A1 F1 H1 _ (q.2 rfl) S1 a1 f1 (Dv.bl _))) hR)
theorem ev_or (h : EvX G a Γ M (fun r M1 => ∃ c, r = .d (.bool c) ∧ (c = false → EvX G (.BoolOp .Or (b :: rest) pos) Γ M1 Q R) ∧ (c = true → Q (.d (.bool true)) M1)) R) : EvX G (.BoolOp .Or (a :: b :: rest) pos) Γ M Q R := fun A F σ H Qv S L hQ hR =>
  tS_of (fun X hX => pe_or (pe_S hX a) (pe_S hX _)) (h A F σ H _ S L (fun r M1 A1 F1 H1 v ⟨c, e, q⟩ S1 a1 f1 r1 => by
    subst e; cases r1
    refine ⟨c, rfl, ?_⟩
    cases c with
    | false => exact iteF (q.1 rfl A1 F1 σ H1 Qv S1 (L.mono a1 f1) (hQ.mono a1 f1) (hR.mono a1 f1))
    | true => exact iteT (hQ _ M1 A1 F1 H1 _ (q.2 rfl) S1 a1 f1 (Dv.bl _))) hR)
theorem ev_not (h : EvX G a Γ M (fun r M1 => ∃ c, r = .d (.bool c) ∧ Q (.d (.bool (!c))) M1) R) : EvX G (.UnaryOp .Not a pos) Γ M Q R := fun A F σ H Qv S L hQ hR =>
  tS_of (fun X hX => pe_not (pe_S hX a)) (h A F σ H _ S L (fun r M1 A1 F1 H1 v ⟨c, e, q⟩ S1 a1 f1 r1 => by
    subst e; cases r1
    exact ⟨c, rfl, hQ _ M1 A1 F1 H1 _ q S1 a1 f1 (Dv.bl _)⟩) hR)
theorem ev_ifx (h : EvT G c Γ M (fun k M1 => (k = true → EvX G a Γ M1 Q R) ∧ (k = false → EvX G b Γ M1 Q R)) R) : EvX G (.IfExp c a b pos) Γ M Q R := fun A F σ H Qv S L hQ hR =>
  tS_of (fun X hX => pe_ifExp (pt_S hX c) (pe_S hX a) (pe_S hX b)) (h A F σ H _ S L (fun k M1 A1 F1 H1 q S1 a1 f1 => by
    cases k with
    | true => exact iteT (q.1 rfl A1 F1 σ H1 Qv S1 (L.mono a1 f1) (hQ.mono a1 f1) (hR.mono a1 f1))
    | false => exact iteF (q.2 rfl A1 F1 σ H1 Qv S1 (L.mono a1 f1) (hQ.mono a1 f1) (hR.mono a1 f1))) hR)
/-- a test as a value: a comparison -/
theorem ev_chain {op op' : CmpOp} {p p' : Int → Int → Bool} (ho : ∀ X, G.Has X → OpR X (compareOp op) (rI0 fun i j => .bl (p i j))) (ho' : ∀ X, G.Has X → OpR X (compareOp op') (rI0 fun i j => .bl (p' i j)))
    (hpe : ∀ X, G.Has X → PE X (.Compare a [op, op'] [b, c] pos) (tChain (rI0 fun i j => .bl (p i j)) (rI0 fun i j => .bl (p' i j)) (tS G a) (tS G b) (tS G c)))
    (h : EvX G a Γ M (fun ra Ma => EvX G b Γ Ma (fun rb Mb => ∃ i j, ra = .d (.int i) ∧ rb = .d (.int j) ∧ (p i j = true → EvX G c Γ Mb (fun rc Mc => ∃ k, rc = .d (.int k) ∧ Q (.d (.bool (p' j k))) Mc) R) ∧ (p i j = false → Q (.d (.bool false)) Mb)) R) R) :
    EvX G (.Compare a [op, op'] [b, c] pos) Γ M Q R := by
  intro A F σ H Qv S L hQ hR
  refine tS_of hpe (h A F σ H _ S L (fun ra Ma A1 F1 H1 va hb S1 a1 f1 r1 => ?_) hR)
  refine hb A1 F1 σ H1 _ S1 (L.mono a1 f1) (fun rb Mb A2 F2 H2 vb hr S2 a2 f2 r2 => ?_) (hR.mono a1 f1)
  obtain ⟨i, j, rfl, rfl, h1, h2⟩ := hr
  cases r1; cases r2
  refine ⟨i, j, rfl, rfl, p i j, rfl, ?_⟩
  cases e : p i j with
  | true =>
    refine iteT (h1 e A2 F2 σ H2 _ S2 (L.mono (a1.trans a2) (f1.trans f2)) (fun rc Mc A3 F3 H3 vc q S3 a3 f3 r3 => ?_) (hR.mono (a1.trans a2) (f1.trans f2)))
    obtain ⟨k, rfl, q⟩ := q
    cases r3
    exact ⟨j, k, rfl, rfl, hQ _ Mc A3 F3 H3 _ q S3 ((a1.trans a2).trans a3) ((f1.trans f2).trans f3) (Dv.bl _)⟩
  | false => exact iteF (hQ _ Mb A2 F2 H2 _ (h2 e) S2 (a1.trans a2) (f1.trans f2) (Dv.bl _))

theorem ev_ix (hs : PlainIx b) (h : EvX G a Γ M (fun ra Ma => EvX G b Γ Ma (fun rb Mb => BopR G (rIx G.K) ra rb Mb Q) R) R) : EvX G (.Subscript a b pos) Γ M Q R := fun A F σ H Qv S L hQ hR =>
  tS_of (fun X hX => by rw [← hX.K]; exact pe_ix ix_seq (pe_S hX a) (pe_S hX b) hs) (two_ev h S L hQ hR)
theorem paired_get {α β : Type} {R : α → β → Prop} : ∀ {xs : List α} {ys : List β}, Paired R xs ys → ∀ {j : Nat} {x : α}, xs[j]? = some x → ∃ y, ys[j]? = some y ∧ R x y
  | _, _, .nil, _, _, e => by simp at e
  | _, _, .cons r t, 0, x, e => by simp at e; subst e; exact ⟨_, rfl, r⟩
  | _, _, .cons r t, j + 1, x, e => by
    obtain ⟨v, e1, e2⟩ := paired_get t (j := j) (x := x) (by simpa using e)
    exact ⟨v, by simpa using e1, e2⟩
theorem ix_at {α β : Type} {R : α → β → Prop} {xs : List α} {ys : List β} (h : Paired R xs ys) {i : Int} {x : α} (e : atI xs i = some x) : ∃ y, atI ys i = some y ∧ R x y := by
  unfold atI at e ⊢
  rw [← Paired.length h]
  obtain ⟨j, hj, e⟩ := Option.bind_eq_some_iff.mp e
  rw [hj]
  exact paired_get h e
theorem ix_lst {r x : Im} {xs : List Im} {i : Int} (hl : AsL M r xs) (hi : atI xs i = some x) (hq : Q x M) : BopR G (rIx G.K) r (.d (.int i)) M Q := fun A F H va vb Qv S ra rb hQ => by
  obtain ⟨p, vs, rfl, hs, rs⟩ := hl.sq S ra
  obtain ⟨v, e, rv⟩ := ix_at rs hi
  cases rb
  exact .inl ⟨p, vs, i, v, rfl, rfl, hs, e, hQ _ M A F H v hq S (ALe.refl _) (Same.refl _) rv⟩
theorem atI_map {α β : Type} (f : α → β) (xs : List α) (i : Int) : atI (xs.map f) i = (atI xs i).map f := by
  unfold atI
  rw [List.length_map]
  cases ixN xs.length i with
  | none => rfl
  | some j => simp
theorem ix_tup {x : Dt} {ds : List Dt} {i : Int} (hi : atI ds i = some x) (hq : Q (.d x) M) : BopR G (rIx G.K) (.d (.tuple ds)) (.d (.int i)) M Q := fun A F H va vb Qv S ra rb hQ => by
  cases ra with
  | tup h1 r1 =>
    obtain ⟨v, e, rv⟩ := ix_at (of_dpAll (A := A) r1) (i := i) (x := .d x) (by rw [atI_map, hi]; rfl)
    cases rb
    exact .inr (.inl ⟨_, _, i, v, rfl, rfl, Same.seqT S.sub h1, e, hQ _ M A F H v hq S (ALe.refl _) (Same.refl _) rv⟩)
theorem ix_strI {z : Str} {i : Int} {c : Nat} (hz : z.length ≤ sizeLine) (hi : atI z.cps.toList i = some c) (hq : Q (.d (.str ⟨#[c]⟩)) M) : BopR G (rIx G.K) (.d (.str z)) (.d (.int i)) M Q := fun A F H va vb Qv S ra rb hQ => by
  cases ra; cases rb
  exact .inr (.inr ⟨z, i, c, rfl, rfl, hz, hi, hQ _ M A F H _ hq S (ALe.refl _) (Same.refl _) (Dv.str _)⟩)
def cutL {α : Type} (xs : List α) (lo hi : Option Int) : List α := (xs.drop (HT.sIx xs.length 0 lo)).take (HT.sIx xs.length xs.length hi - HT.sIx xs.length 0 lo)
theorem cutL_map {α β : Type} (f : α → β) (xs : List α) (lo hi : Option Int) : cutL (xs.map f) lo hi = (cutL xs lo hi).map f := by
  unfold cutL
  rw [List.length_map, List.map_take, List.map_drop]
theorem imsR_cut {K : KW} {A : List Addr} {F : Hp} {rs : List Im} {vs : List V} (h : ImsR K A F rs vs) (lo hi : Option Int) : ImsR K A F (cutL rs lo hi) (cutV vs lo hi) := by
  unfold cutL cutV
  rw [h.len]
  exact (h.drop _).take _
end
section
variable (G : Sx)
def tSO (e : Option Expr) : TO := fun σ H Q => ∀ X, G.Has X → ∀ pins s, Inv X pins σ H s → wpAny (model X.prog X.w) X.A (evalPart e X.env) (fun u s' => ∃ o H', Inv X pins σ H' s' ∧ IsPart u o ∧ Q o H') X.xe s
def EvO (e : Option Expr) (Γ : Ec) (M : Sto) (Q : Option Int → Sto → Prop) (R : QR) : Prop :=
  ∀ A F σ H (Qv : Option Int → Hp → Prop), StO G.kw A M F H → SlG G A F Γ σ →
    (∀ o M' A' F' H', Q o M' → StO G.kw A' M' F' H' → ALe A A' → Same F F' → Qv o H') → Flies G A F R σ → tSO G e σ H Qv
end
section
variable {G : Sx} {Γ : Ec} {M : Sto} {Q : QE} {R : QR} {pos p2 : Pos} {a b c : Expr} {lo hi : Option Expr}
theorem po_S {X : Cx} (hX : G.Has X) (e : Option Expr) : PO X e (tSO G e) := ⟨fun pins s σ H Q I h => h X hX pins s I⟩
theorem evo_none {Q : Option Int → Sto → Prop} (hq : Q none M) : EvO G none Γ M Q R := fun A F σ H Qv S L hQ hR X hX pins s I =>
  po_none.run pins s σ H Qv I (hQ none M A F H hq S (ALe.refl _) (Same.refl _))
theorem evo_some {Q : Option Int → Sto → Prop} (h : EvX G a Γ M (fun r M1 => ∃ i, r = .d (.int i) ∧ Q (some i) M1) R) : EvO G (some a) Γ M Q R := fun A F σ H Qv S L hQ hR X hX pins s I =>
  (po_some (pe_S hX a)).run pins s σ H Qv I (h A F σ H _ S L (fun r M1 A1 F1 H1 v ⟨i, e, q⟩ S1 a1 f1 r1 => by
    subst e; cases r1
    exact ⟨i, rfl, hQ _ M1 A1 F1 H1 q S1 a1 f1⟩) hR)
def SlcR (G : Sx) (r : Im) (lo hi : Option Int) (M : Sto) (Q : QE) : Prop :=
  ∀ A F H v Qv, StO G.kw A M F H → ImR G.kw A F r v → Goes G A F Q Qv → (rSlL G.K v lo hi H Qv ∨ (rSlA G.K v lo hi H Qv ∨ rSlS v lo hi H Qv))
theorem ev_slice (h : EvX G a Γ M (fun r M1 => EvO G lo Γ M1 (fun l M2 => EvO G hi Γ M2 (fun u M3 => SlcR G r l u M3 Q) R) R) R) : EvX G (.Subscript a (.Slice lo hi none p2) pos) Γ M Q R := by
  intro A F σ H Qv S L hQ hR
  refine tS_of (t := tSl (fun x l u H Q => rSlL G.K x l u H Q ∨ (rSlA G.K x l u H Q ∨ rSlS x l u H Q)) (tS G a) (tSO G lo) (tSO G hi)) (fun X hX => by rw [← hX.K]; exact pe_slice (sl_list.or (sl_tupA.or sl_str)) (pe_S hX a) (po_S hX lo) (po_S hX hi)) ?_
  refine h A F σ H _ S L (fun r M1 A1 F1 H1 v h1 S1 a1 f1 r1 => ?_) hR
  refine h1 A1 F1 σ H1 _ S1 (L.mono a1 f1) (fun l M2 A2 F2 H2 h2 S2 a2 f2 => ?_) (hR.mono a1 f1)
  refine h2 A2 F2 σ H2 _ S2 (L.mono (a1.trans a2) (f1.trans f2)) (fun u M3 A3 F3 H3 h3 S3 a3 f3 => ?_) (hR.mono (a1.trans a2) (f1.trans f2))
  exact h3 A3 F3 H3 v Qv S3 (r1.mono (a2.trans a3) (f2.trans f3)) (hQ.mono ((a1.trans a2).trans a3) ((f1.trans f2).trans f3))
theorem slc_lst {r : Im} {ds : List Dt} {l u : Option Int} (hl : AsL M r (ds.map .d)) (hq : Q (.d (.list (cutL ds l u))) M) : SlcR G r l u M Q := fun A F H v Qv S rv hQ => by
  obtain ⟨p, vs, rfl, hs, rs⟩ := hl.sq S rv
  exact .inl ⟨p, vs, rfl, hs, fun q hp => goes_lst S hQ hp (by rw [← cutL_map]; exact imsR_cut rs l u) hq⟩
theorem slc_lstP {r : Im} {xs : List Im} {l u : Option Int} {c : Cel} (hx : c.its = some (cutL xs l u)) (hl : AsL M r xs) (hq : Q (.p M.length) (M ++ [c])) : SlcR G r l u M Q := fun A F H v Qv S rv hQ => by
  obtain ⟨p, vs, rfl, hs, rs⟩ := hl.sq S rv
  exact .inl ⟨p, vs, rfl, hs, fun q hp => goes_lstP S hQ hp hx (imsR_cut rs l u) hq⟩
theorem slc_str {z : Str} {l u : Option Int} (hz : z.length ≤ sizeLine) (hq : Q (.d (.str (cutS z l u))) M) : SlcR G (.d (.str z)) l u M Q := fun A F H v Qv S rv hQ => by
  cases rv
  exact .inr (.inr ⟨z, rfl, hz, hQ _ M A F H _ hq S (ALe.refl _) (Same.refl _) (Dv.str _)⟩)
abbrev PlainA (e : Expr) (es : List Expr) : Prop := ∀ env, starEach (e :: es) env = (false, eval e env) :: starEach es env
theorem eva_nil {Q : List Im → Sto → Prop} (hq : Q [] M) : EvA G [] Γ M Q R := fun A F σ H Qv S L hQ hR =>
  tSA_of (fun X hX => pa_nil) (hQ [] M A F H [] hq S (ALe.refl _) (Same.refl _) .nil)
theorem eva_cons {es : List Expr} {Q : List Im → Sto → Prop} (hs : PlainA a es) (h : EvX G a Γ M (fun r M1 => EvA G es Γ M1 (fun rs M2 => Q (r :: rs) M2) R) R) : EvA G (a :: es) Γ M Q R := fun A F σ H Qv S L hQ hR =>
  tSA_of (fun X hX => pa_cons (pe_S hX a) (pa_S hX es) (hs _)) (h A F σ H _ S L (fun r M1 A1 F1 H1 v h1 S1 a1 f1 r1 =>
    h1 A1 F1 σ H1 _ S1 (L.mono a1 f1) (fun rs M2 A2 F2 H2 vs q S2 a2 f2 r2 => hQ _ M2 A2 F2 H2 _ q S2 (a1.trans a2) (f1.trans f2) (.cons (r1.mono a2 f2) r2)) (hR.mono a1 f1)) hR)
theorem EvA.imp {es : List Expr} {Q Q' : List Im → Sto → Prop} (h : EvA G es Γ M Q R) (hq : ∀ r M', Q r M' → Q' r M') : EvA G es Γ M Q' R :=
  fun A F σ H Qv S L hQ hR => h A F σ H Qv S L (fun r M1 A1 F1 H1 v q => hQ r M1 A1 F1 H1 v (hq r M1 q)) hR
/-- all items are data -/
def AllD : List Im → List Dt → Prop
  | [], [] => True
  | .d x :: r, y :: s => x = y ∧ AllD r s
  | _, _ => False
theorem AllD.eq : ∀ {rs : List Im} {ds : List Dt}, AllD rs ds → rs = ds.map .d
  | [], [], _ => rfl
  | .d x :: r, y :: s, h => by obtain ⟨rfl, h⟩ := h; rw [AllD.eq h]; rfl
theorem ev_lst {es : List Expr} (h : EvA G es Γ M (fun rs M1 => rs.length ≤ sizeLine ∧ ∃ ds, AllD rs ds ∧ Q (.d (.list ds)) M1) R) : EvX G (.List es pos) Γ M Q R := fun A F σ H Qv S L hQ hR =>
  tS_of (fun X hX => pe_lst (pa_S hX es)) (h A F σ H _ S L (fun rs M1 A1 F1 H1 vs ⟨hz, ds, e, q⟩ S1 a1 f1 r1 => by
    refine ⟨by rw [← r1.len]; exact hz, fun p hp => goes_lst S1 (hQ.mono a1 f1) hp ?_ q⟩
    rw [← e.eq]; exact r1) hR)
theorem ev_lstP {es : List Expr} (h : EvA G es Γ M (fun rs M1 => rs.length ≤ sizeLine ∧ ∃ c : Cel, c.its = some rs ∧ Q (.p M1.length) (M1 ++ [c])) R) : EvX G (.List es pos) Γ M Q R := fun A F σ H Qv S L hQ hR =>
  tS_of (fun X hX => pe_lst (pa_S hX es)) (h A F σ H _ S L (fun rs M1 A1 F1 H1 vs ⟨hz, c, hx, q⟩ S1 a1 f1 r1 =>
    ⟨by rw [← r1.len]; exact hz, fun p hp => goes_lstP S1 (hQ.mono a1 f1) hp hx r1 q⟩) hR)
theorem ev_tup {es : List Expr} {k : Nat} (h : EvA G es Γ M (fun rs M1 => rs.length ≤ sizeLine ∧ ∃ ds, AllD rs ds ∧ Q (.d (.tuple ds)) M1) R) : EvX G (.Tuple es k pos) Γ M Q R := fun A F σ H Qv S L hQ hR =>
  tS_of (fun X hX => pe_tup (pa_S hX es)) (h A F σ H _ S L (fun rs M1 A1 F1 H1 vs ⟨hz, ds, e, q⟩ S1 a1 f1 r1 => by
    refine ⟨by rw [← r1.len]; exact hz, fun p hp => goes_tup S1 (hQ.mono a1 f1) hp ?_ q⟩
    rw [← e.eq]; exact r1) hR)
end

abbrev DSp := List Im → Sto → QE → QR → Prop
/-- a promise over data -/
def spOf (K : PySem.W.Frag) (w : World) (S : DSp) : Sp := fun vs H Q E => ∃ z A M F rs Qd Rd, StO ⟨K, w, z⟩ A M F H ∧ ImsR ⟨K, w, z⟩ A F rs vs ∧ S rs M Qd Rd ∧
  (∀ r M' A' F' H' v, Qd r M' → StO ⟨K, w, z⟩ A' M' F' H' → ALe A A' → Same F F' → ImR ⟨K, w, z⟩ A' F' r v → Q v H') ∧
  (∀ C fs M' A' F' H', Rd C fs M' → StO ⟨K, w, z⟩ A' M' F' H' → ALe A A' → Same F F' → FlyE ⟨K, w, z⟩ F' H' C fs fun v d => E v d H')
/-- the def x stands in the module and keeps the promise S -/
structure DefAt (P : Program) (w : World) (K : PySem.W.Frag) (mg : Str → Option Value) (base : Heap) (k : Nat) (x : Str) (ps : List Str) (S : DSp) : Prop where
  ex : ∃ f fd, FnOk P w K mg base (L2.CX P w) k f fd ps (spOf K w S) ∧ mg x = some (.ref f) ∧ PySem.W.keepIn K (.ref f) = true ∧ Binds K fd ps []
section
variable {X : Cx} {CX : CXT} {k : Nat} {f : Addr} {fd : FuncData} {ps : List Str} {sp : Sp} {dvs : List V} {ds : List Value} {E : L2.St → XK} {x : Str} {p pos : Pos}
theorem pe_call0S (F : FnOk X.prog X.w X.K X.mg X.base CX k f fd ps sp) (hr : Room k X.A) (hg : Gl X x) (hm : X.mg x = some (.ref f)) (hk : PySem.W.keepIn X.K (.ref f) = true) (hb : Binds X.K fd ps ds) (hd : Vals dvs ds) (hx : ∀ σ, PassesAt CX X σ (E σ))
    (hdb : (x == ("__debug__" : Str)) = false := by decide) : PE X (.Call (.Name x p) [] [] pos) (tCallSD sp dvs E tNil) := by
  refine ⟨fun pins s σ H Q I h => ?_⟩
  refine wpAny_Call_Name_kw (ld_glob I hg hm ?_ hdb)
  exact PySem.W.callWith_K0 I.kIn hk (run_fnSD (us := []) F hr hb hd (hx σ) I .nil h)
end
section
variable {G : Sx} {Γ : Ec} {M : Sto} {Q : QE} {R : QR} {pos p2 : Pos} {a : Expr} {es : List Expr} {k : Nat} {x : Str} {ps : List Str} {S : DSp}
abbrev PlainAs (es : List Expr) : Prop := ∀ env pos, (backTo pos (starEach es env)).any (·.1) = false
theorem ev_call (h0 : G.hot = none) (D : DefAt G.P G.w G.K G.mg G.base k x ps S) (hk : k ≤ G.k) (hg : G.sc.names.lookup x = some .globalImplicit) (hs : PlainA a es) (hpl : PlainAs es)
    (h : EvA G (a :: es) Γ M (fun rs M1 => S rs M1 Q R) R) (hdb : (x == ("__debug__" : Str)) = false := by decide) : EvX G (.Call (.Name x p2) (a :: es) [] pos) Γ M Q R := by
  intro A F σ H Qv S0 L hQ hR
  obtain ⟨f, fd, hF, hm, hkp, hb⟩ := D.ex
  refine tS_of (t := tCallSD (spOf G.K G.w S) [] (WE G.W) (tSA G (a :: es))) (fun X hX => ?_) ?_
  · have tk := hX.tk
    refine pe_callSD (CX := L2.CX X.prog X.w) (k := k) (f := f) (fd := fd) (ps := ps) (ds := []) (by rw [hX.prog, hX.w, hX.K, hX.mg, hX.base]; exact hF) ((hX.room h0).mono hk) (gl_of hX hg) (by rw [hX.mg]; exact hm) (by rw [hX.K]; exact hkp) (by rw [hX.K]; exact hb) .nil (fun σ => passAt tk σ) (pa_S hX _) hdb (hs _) (hpl _ _)
  · refine h A F σ H _ S0 L (fun rs M1 A1 F1 H1 vs q S1 a1 f1 r1 => ?_) hR
    rw [List.append_nil]
    exact ⟨G.z, A1, M1, F1, rs, Q, R, S1, r1, q, (hQ.mono a1 f1), fun C fs M' A' F' H' q S' a' f' => hR C fs M' A' F' H' q S' (a1.trans a') (f1.trans f')⟩
theorem ev_call0 (h0 : G.hot = none) (D : DefAt G.P G.w G.K G.mg G.base k x ps S) (hk : k ≤ G.k) (hg : G.sc.names.lookup x = some .globalImplicit) (h : S [] M Q R) (hdb : (x == ("__debug__" : Str)) = false := by decide) : EvX G (.Call (.Name x p2) [] [] pos) Γ M Q R := by
  intro A F σ H Qv S0 L hQ hR
  obtain ⟨f, fd, hF, hm, hkp, hb⟩ := D.ex
  refine tS_of (t := tCallSD (spOf G.K G.w S) [] (WE G.W) tNil) (fun X hX => ?_) ?_
  · have tk := hX.tk
    exact pe_call0S (CX := L2.CX X.prog X.w) (k := k) (f := f) (fd := fd) (ps := ps) (ds := []) (by rw [hX.prog, hX.w, hX.K, hX.mg, hX.base]; exact hF) ((hX.room h0).mono hk) (gl_of hX hg) (by rw [hX.mg]; exact hm) (by rw [hX.K]; exact hkp) (by rw [hX.K]; exact hb) .nil (fun σ => passAt tk σ) hdb
  · exact ⟨G.z, A, M, F, [], Q, R, S0, .nil, h, hQ, hR⟩
/-- a builtin's reading over data -/
def CalR (G : Sx) (r : List V → Hp → VK → Prop) (rs : List Im) (M : Sto) (Q : QE) : Prop :=
  ∀ A F H vs Qv, StO G.kw A M F H → ImsR G.kw A F rs vs → Goes G A F Q Qv → r vs H Qv
theorem ev_callB {id : String} {r : List V → Hp → VK → Prop} (hc : ∀ X, G.Has X → CallR X (.builtin id) r) (hv : bootBuiltins x = some (.builtin id)) (hm : G.mg x = none) (hg : G.sc.names.lookup x = some .globalImplicit) (hs : PlainA a es) (hpl : PlainAs es)
    (h : EvA G (a :: es) Γ M (fun rs M1 => CalR G r rs M1 Q) R) (hn : x ≠ "__name__" := by decide) (hdb : (x == ("__debug__" : Str)) = false := by decide) : EvX G (.Call (.Name x p2) (a :: es) [] pos) Γ M Q R := fun A F σ H Qv S L hQ hR =>
  tS_of (fun X hX => pe_callB (hc X hX) (gl_of hX hg) (by rw [hX.mg]; exact hm) hv (pa_S hX _) hn hdb (hs _) (hpl _ _)) (h A F σ H _ S L (fun rs M1 A1 F1 H1 vs q S1 a1 f1 r1 => q A1 F1 H1 vs Qv S1 r1 (hQ.mono a1 f1)) hR)
theorem ev_callTy {T : String} {r : List V → Hp → VK → Prop} (hc : ∀ X, G.Has X → CallR X (.type T) r) (hv : bootBuiltins x = some (.type T)) (hm : G.mg x = none) (hg : G.sc.names.lookup x = some .globalImplicit) (hs : PlainA a es) (hpl : PlainAs es)
    (h : EvA G (a :: es) Γ M (fun rs M1 => CalR G r rs M1 Q) R) (hn : x ≠ "__name__" := by decide) (hdb : (x == ("__debug__" : Str)) = false := by decide) : EvX G (.Call (.Name x p2) (a :: es) [] pos) Γ M Q R := fun A F σ H Qv S L hQ hR =>
  tS_of (fun X hX => pe_callTy (hc X hX) (gl_of hX hg) (by rw [hX.mg]; exact hm) hv (pa_S hX _) hn hdb (hs _) (hpl _ _)) (h A F σ H _ S L (fun rs M1 A1 F1 H1 vs q S1 a1 f1 r1 => q A1 F1 H1 vs Qv S1 r1 (hQ.mono a1 f1)) hR)
inductive LenOf (M : Sto) : Im → Nat → Prop
  | lst {r : Im} {xs : List Im} (h : AsL M r xs) : LenOf M r xs.length
  | tup (ds : List Dt) : LenOf M (.d (.tuple ds)) ds.length
  | str (z : Str) (h : z.length ≤ sizeLine) : LenOf M (.d (.str z)) z.length
theorem ev_len (hm : G.mg "len" = none) (hg : G.sc.names.lookup ("len" : Str) = some .globalImplicit) (hs : PlainA a []) (h : EvX G a Γ M (fun r M1 => ∃ n, LenOf M1 r n ∧ Q (.d (.int n)) M1) R) : EvX G (.Call (.Name "len" p2) [a] [] pos) Γ M Q R := by
  refine ev_callB (r := fun xs H Q => ∃ x n, xs = [x] ∧ LenV G.K x H n ∧ Q (.int n) H) (fun X hX => by rw [← hX.K]; exact call_len) PySem.boot_len hm hg hs (fun _ _ => rfl) (eva_cons hs (h.imp fun r M1 ⟨n, hl, q⟩ => eva_nil ?_))
  intro A F H vs Qv S rv hQ
  cases rv with
  | cons r1 t =>
    cases t
    have fin : ∀ v : V, Qv (.int n) H := fun _ => hQ _ M1 A F H _ q S (ALe.refl _) (Same.refl _) (Dv.int _)
    cases hl with
    | lst h =>
      obtain ⟨a, vs, rfl, hs, rs⟩ := h.sq S r1
      exact ⟨_, _, rfl, .inl ⟨vs, hs, rs.len⟩, fin (.int 0)⟩
    | tup ds =>
      cases r1 with
      | tup hs ha =>
        have := (of_dpAll (A := A) ha).len
        simp at this
        exact ⟨_, _, rfl, .inr ⟨_, Same.seqT S.sub hs, this⟩, fin (.int 0)⟩
    | str z h => cases r1; exact ⟨_, _, rfl, ⟨h, rfl⟩, fin (.int 0)⟩
theorem ev_intof (hm : G.mg "int" = none) (hg : G.sc.names.lookup ("int" : Str) = some .globalImplicit) (hs : PlainA a []) (hv : bootBuiltins ("int" : Str) = some (.type "int")) (h : EvX G a Γ M (fun r M1 => (∃ i, r = .d (.int i) ∧ Q (.d (.int i)) M1) ∨ ∃ b : Bool, r = .d (.bool b) ∧ Q (.d (.int (if b then 1 else 0))) M1) R) : EvX G (.Call (.Name "int" p2) [a] [] pos) Γ M Q R := by
  refine ev_callTy (fun X hX => call_int1) hv hm hg hs (fun _ _ => rfl) (eva_cons hs (h.imp fun r M1 hh => eva_nil ?_))
  intro A F H vs Qv S rv hQ
  cases rv with
  | cons r1 t =>
    cases t
    rcases hh with ⟨i, rfl, q⟩ | ⟨b, rfl, q⟩
    · cases r1; exact .inl ⟨i, rfl, hQ _ M1 A F H _ q S (ALe.refl _) (Same.refl _) (Dv.int _)⟩
    · cases r1; exact .inr ⟨b, rfl, hQ _ M1 A F H _ q S (ALe.refl _) (Same.refl _) (Dv.int _)⟩
/-- list(xs) -/
theorem ev_listof (hm : G.mg "list" = none) (hg : G.sc.names.lookup ("list" : Str) = some .globalImplicit) (hs : PlainA a []) (hv : bootBuiltins ("list" : Str) = some (.type "list"))
    (h : EvX G a Γ M (fun r M1 => (∃ ds, (AsL M1 r (ds.map .d) ∨ r = .d (.tuple ds)) ∧ Q (.d (.list ds)) M1) ∨ ∃ xs c, AsL M1 r xs ∧ c.its = some xs ∧ Q (.p M1.length) (M1 ++ [c])) R) : EvX G (.Call (.Name "list" p2) [a] [] pos) Γ M Q R := by
  refine ev_callTy (r := fun xs H Q => ∃ p ys, xs = [.ref p] ∧ (SqL G.K H p ys ∨ SqT G.K H p ys) ∧ ∀ l, H l = none → Q (.ref l) (upd H l (.lst ys))) (fun X hX => by rw [← hX.K]; exact call_list_of) hv hm hg hs (fun _ _ => rfl) (eva_cons hs (h.imp fun r M1 hh => eva_nil ?_))
  intro A F H vs Qv S rv hQ
  cases rv with
  | cons r1 t =>
    cases t
    rcases hh with ⟨ds, hl | rfl, q⟩ | ⟨xs, c, hl, hx, q⟩
    · obtain ⟨a, vs, rfl, hs, rs⟩ := hl.sq S r1
      exact ⟨_, _, rfl, .inl hs, fun l hp => goes_lst S hQ hp rs q⟩
    · cases r1 with
      | tup hs ha => exact ⟨_, _, rfl, .inr (Same.seqT S.sub hs), fun l hp => goes_lst S hQ hp (of_dpAll ha) q⟩
    · obtain ⟨a, vs, rfl, hs, rs⟩ := hl.sq S r1
      exact ⟨_, _, rfl, .inl hs, fun l hp => goes_lstP S hQ hp hx rs q⟩
/-- tuple(xs) -/
theorem ev_tupleof (hm : G.mg "tuple" = none) (hg : G.sc.names.lookup ("tuple" : Str) = some .globalImplicit) (hs : PlainA a []) (hv : bootBuiltins ("tuple" : Str) = some (.type "tuple"))
    (h : EvX G a Γ M (fun r M1 => ∃ ds, (AsL M1 r (ds.map .d) ∨ r = .d (.tuple ds)) ∧ Q (.d (.tuple ds)) M1) R) : EvX G (.Call (.Name "tuple" p2) [a] [] pos) Γ M Q R := by
  refine ev_callTy (r := fun xs H Q => ∃ p ys, xs = [.ref p] ∧ ((SqL G.K H p ys ∧ ∀ l, H l = none → Q (.ref l) (upd H l (.tup ys))) ∨ (SqT G.K H p ys ∧ Q (.ref p) H))) (fun X hX => by rw [← hX.K]; exact call_tuple_of) hv hm hg hs (fun _ _ => rfl) (eva_cons hs (h.imp fun r M1 hh => eva_nil ?_))
  intro A F H vs Qv S rv hQ
  cases rv with
  | cons r1 t =>
    cases t
    obtain ⟨ds, hl | rfl, q⟩ := hh
    · obtain ⟨a, vs, rfl, hs, rs⟩ := hl.sq S r1
      exact ⟨_, _, rfl, .inl ⟨hs, fun l hp => goes_tup S hQ hp rs q⟩⟩
    · cases r1 with
      | tup hs ha => exact ⟨_, _, rfl, .inr ⟨Same.seqT S.sub hs, hQ _ M1 A F H _ q S (ALe.refl _) (Same.refl _) (Dv.tup hs ha)⟩⟩
end
end DX

namespace DX
open PySem PySem.Spec PyProof.Rows L2

section
variable {G : Sx} {Γ : Ec} {M : Sto} {R : QR} {pos p2 : Pos} {tg a b c : Expr} {Q : List Im → (Sto → Prop) → Sto → Prop}
theorem jok_list {A : List Addr} {F : Hp} {r : Im} {xs : List Im} {v : V} {p : Addr} (hv : ImR G.kw A F r v) (e : v = .ref p) : JOk G (Itl G.K p) xs (fun M' => AsL M' r xs) A F := by
  intro i M' A' F' H' S a f hl
  obtain ⟨q, vs, e', hs, rs⟩ := hl.sq S (hv.mono a f)
  rw [e] at e'; cases e'
  refine ⟨fun x hx => ?_, fun hle => ⟨vs, hs, by rw [← rs.len]; exact hle⟩⟩
  obtain ⟨w, hw, rw'⟩ := paired_get rs hx
  refine ⟨⟨vs, w, hs, hw⟩, fun v H'' hy => ?_⟩
  obtain ⟨rfl, hy⟩ := hy
  have := hy vs hs
  rw [hw] at this; cases this
  exact ⟨F', S, Same.refl _, rw'⟩
/-- a list -/
theorem evi_list (h : EvX G a Γ M (fun r M1 => ∃ xs, AsL M1 r xs ∧ Q xs (fun M' => AsL M' r xs) M1) R) : EvI G tg a Γ M Q R := fun A F σ H Rk S L hQ hR =>
  iS_of (t := iList G.K (tS G a)) (fun X hX => by rw [← hX.K]; exact pi_list (pe_S hX a)) (h A F σ H _ S L (fun r M1 A1 F1 H1 v ⟨xs, hl, q⟩ S1 a1 f1 r1 => by
    obtain ⟨p, vs, e, hs, rs⟩ := hl.sq S1 r1
    exact ⟨p, e, ⟨vs, hs⟩, hQ _ xs _ M1 A1 F1 H1 q S1 a1 f1 (jok_list r1 e)⟩) hR)
/-- a tuple -/
theorem evi_tup (h : EvX G a Γ M (fun r M1 => ∃ ds, r = .d (.tuple ds) ∧ Q (ds.map .d) (fun _ => True) M1) R) : EvI G tg a Γ M Q R := fun A F σ H Rk S L hQ hR =>
  iS_of (t := iTup G.K (tS G a)) (fun X hX => by rw [← hX.K]; exact pi_tup (pe_S hX a)) (h A F σ H _ S L (fun r M1 A1 F1 H1 v ⟨ds, e, q⟩ S1 a1 f1 r1 => by
    subst e
    cases r1 with
    | tup hs ha =>
      refine ⟨_, rfl, ⟨_, Same.seqT S1.sub hs⟩, hQ _ _ _ M1 A1 F1 H1 q S1 a1 f1 ?_⟩
      intro i M' A' F' H' S' a' f' _
      have hs' := Same.seqT (f'.trans S'.sub) hs
      have rs := (of_dpAll (A := A') (DvAll.mono f' ha))
      refine ⟨fun x hx => ?_, fun hle => ⟨_, hs', by rw [← rs.len]; exact hle⟩⟩
      obtain ⟨w, hw, rw'⟩ := paired_get rs hx
      refine ⟨⟨_, w, hs', hw⟩, fun v H'' hy => ?_⟩
      obtain ⟨rfl, hy⟩ := hy
      have := hy _ hs'
      rw [hw] at this; cases this
      exact ⟨F', S', Same.refl _, rw'⟩) hR)
/-- the ints lo, lo + 1, .. -/
def intsL (lo : Int) (n : Nat) : List Im := (List.range n).map fun (i : Nat) => Im.d (.int (lo + (i : Int)))
theorem intsL_get {lo : Int} {n i : Nat} {x : Im} (h : (intsL lo n)[i]? = some x) : i < n ∧ x = .d (.int (lo + (i : Int))) := by
  unfold intsL at h
  rw [List.getElem?_map] at h
  cases e : (List.range n)[i]? with
  | none => rw [e] at h; cases h
  | some j =>
    rw [e] at h
    obtain ⟨h1, h2⟩ := List.getElem?_eq_some_iff.mp e
    simp at h1 h2
    subst h2
    exact ⟨h1, by simpa using h.symm⟩
theorem jok_range {A : List Addr} {F : Hp} (lo : Int) (n : Nat) : JOk G (Itr lo n) (intsL lo n) (fun _ => True) A F := by
  intro i M' A' F' H' S a f _
  refine ⟨fun x hx => ?_, fun hle => (show n ≤ i by simpa [intsL] using hle)⟩
  obtain ⟨h1, rfl⟩ := intsL_get hx
  refine ⟨h1, fun v H'' hy => ?_⟩
  obtain ⟨rfl, rfl⟩ := hy
  exact ⟨F', S, Same.refl _, Dv.int _⟩
theorem evi_range (hm : G.mg "range" = none) (hg : G.sc.names.lookup ("range" : Str) = some .globalImplicit) (hs : PlainA a [])
    (h : EvX G a Γ M (fun r M1 => ∃ j : Int, r = .d (.int j) ∧ -(2 ^ 62) ≤ j ∧ j < 2 ^ 62 ∧ Q (intsL 0 j.toNat) (fun _ => True) M1) R) : EvI G tg (.Call (.Name "range" p2) [a] [] pos) Γ M Q R := fun A F σ H Rk S L hQ hR =>
  iS_of (fun X hX => pi_range1 (gl_of hX hg) (by rw [hX.mg]; exact hm) (pa_cons (pe_S hX a) pa_nil (hs _)) (hs _)) (h A F σ H _ S L (fun r M1 A1 F1 H1 v ⟨j, e, h1, h2, q⟩ S1 a1 f1 r1 => by
    subst e; cases r1
    exact ⟨j, rfl, h1, h2, hQ _ _ _ M1 A1 F1 H1 q S1 a1 f1 (jok_range 0 _)⟩) hR)
theorem evi_range2 (hm : G.mg "range" = none) (hg : G.sc.names.lookup ("range" : Str) = some .globalImplicit) (hs : PlainA a [b]) (hs2 : PlainA b [])
    (h : EvX G a Γ M (fun r M1 => EvX G b Γ M1 (fun r2 M2 => ∃ i j : Int, r = .d (.int i) ∧ r2 = .d (.int j) ∧ (-(2 ^ 62) ≤ i ∧ i < 2 ^ 62 ∧ -(2 ^ 62) ≤ j ∧ j < 2 ^ 62) ∧ Q (intsL i (j - i).toNat) (fun _ => True) M2) R) R) : EvI G tg (.Call (.Name "range" p2) [a, b] [] pos) Γ M Q R := fun A F σ H Rk S L hQ hR =>
  iS_of (fun X hX => pi_range2 (gl_of hX hg) (by rw [hX.mg]; exact hm) (pa_cons (pe_S hX a) (pa_cons (pe_S hX b) pa_nil (hs2 _)) (hs _)) ((hs _).trans (by rw [hs2]; rfl)) (hs2 _)) (h A F σ H _ S L (fun r M1 A1 F1 H1 v h1 S1 a1 f1 r1 =>
    h1 A1 F1 σ H1 _ S1 (L.mono a1 f1) (fun r2 M2 A2 F2 H2 v2 ⟨i, j, e1, e2, hb, q⟩ S2 a2 f2 r2 => by
      subst e1 e2; cases r1; cases r2
      exact ⟨i, j, rfl, hb, hQ _ _ _ M2 A2 F2 H2 q S2 (a1.trans a2) (f1.trans f2) (jok_range i _)⟩) (hR.mono a1 f1)) hR)
/-- reversed(list) -/
theorem evi_rev (hm : G.mg "reversed" = none) (hg : G.sc.names.lookup ("reversed" : Str) = some .globalImplicit) (hs : PlainA a [])
    (h : EvX G a Γ M (fun r M1 => ∃ xs ok, AsL M1 r xs ∧ (∀ M', ok M' → AsL M' r xs) ∧ Q xs.reverse ok M1) R) : EvI G tg (.Call (.Name "reversed" p2) [a] [] pos) Γ M Q R := fun A F σ H Rk S L hQ hR =>
  iS_of (t := iRev G.K (tCons (tS G a) tNil)) (fun X hX => by rw [← hX.K]; exact pi_reversed (gl_of hX hg) (by rw [hX.mg]; exact hm) (pa_cons (pe_S hX a) pa_nil (hs _)) (hs _)) (h A F σ H _ S L (fun r M1 A1 F1 H1 v ⟨xs, ok, hl, hok, q⟩ S1 a1 f1 r1 => by
    obtain ⟨p, vs, e, hs, rs⟩ := hl.sq S1 r1
    refine ⟨p, vs, by rw [e], hs, hQ _ _ _ M1 A1 F1 H1 q S1 a1 f1 ?_⟩
    intro i M' A' F' H' S a f hl'
    have hl' := hok M' hl'
    obtain ⟨q, ws, e', hs', rs'⟩ := hl'.sq S (r1.mono a f)
    rw [e] at e'; cases e'
    have hlen : vs.length = ws.length := by rw [← rs.len, rs'.len]
    refine ⟨fun x hx => ?_, fun hle => by show vs.length ≤ i; rw [← rs.len]; simpa using hle⟩
    have hi : i < xs.length := by
      have := (List.getElem?_eq_some_iff.mp hx).1
      simpa using this
    rw [List.getElem?_reverse hi] at hx
    obtain ⟨w, hw, rw'⟩ := paired_get rs' hx
    have hn : xs.length = vs.length := rs.len
    rw [hn] at hw
    refine ⟨⟨by omega, ws, w, hs', hw⟩, fun v H'' hy => ?_⟩
    obtain ⟨rfl, hy⟩ := hy
    have := hy ws hs'
    rw [hw] at this; cases this
    exact ⟨F', S, Same.refl _, rw'⟩) hR)
end

section
variable {G : Sx} {Γ : Ec} {M : Sto} {P : Pst} {pos p2 : Pos} {e : Expr} {st : Stmt} {sts : List Stmt}
/-- an exception of an expression of a statement -/
abbrev Pst.rx (P : Pst) (Γ : Ec) : QR := fun C fs M => P.ex C fs Γ M
theorem Lands.flies {A : List Addr} {F : Hp} {D : Ends} {σ : L2.St} (h : Lands G A F P D) (L : SlG G A F Γ σ) : Flies G A F (P.rx Γ) σ := fun C fs M' A' F' H' q S a f => h.ex C fs Γ M' A' F' σ H' q S (L.mono a f) (a.n _) f
theorem xs_nil (h : P.nx Γ M) : ExS G [] Γ M P := fun A F σ H D S L hn hD =>
  sSs_of (fun X hX => pss_nil) (hD.nx Γ M A F σ H h S L (ALn.refl _ _) (Same.refl _))
theorem Lands.seq {A : List Addr} {F : Hp} {D : Ends} {N : Ec → Sto → Prop} {nx : L2.St → Hp → Prop} (h : Lands G A F P D)
    (hn : ∀ Γ' M' A' F' σ' H', N Γ' M' → StO G.kw A' M' F' H' → SlG G A' F' Γ' σ' → ALn G.n A A' → Same F F' → nx σ' H') : Lands G A F { P with nx := N } { D with nx := nx } := ⟨hn, h.rt, h.bk, h.ct, h.ex⟩
theorem xs_cons (h : ExX G st Γ M { P with nx := fun Γ' M' => ExS G sts Γ' M' P }) : ExS G (st :: sts) Γ M P := fun A F σ H D S L hn hD =>
  sSs_of (fun X hX => pss_cons (ps_S hX st) (pss_S hX sts)) (h A F σ H _ S L hn (hD.seq fun Γ' M' A' F' σ' H' q S' L' a f =>
    q A' F' σ' H' D S' L' (by rw [← S'.len]; exact a.len (by rw [S.len]; exact hn)) (hD.mono a f)))
theorem xs_one (h : ExX G st Γ M P) : ExS G [st] Γ M P := fun A F σ H D S L hn hD =>
  sSs_of (fun X hX => pss_one (ps_S hX st)) (h A F σ H D S L hn hD)
theorem x_pass (h : P.nx Γ M) : ExX G (.Pass pos) Γ M P := fun A F σ H D S L hn hD => sS_of (fun X hX => ps_pass) (hD.nx Γ M A F σ H h S L (ALn.refl _ _) (Same.refl _))
theorem x_break (h : P.bk Γ M) : ExX G (.Break pos) Γ M P := fun A F σ H D S L hn hD => sS_of (fun X hX => ps_break) (hD.bk Γ M A F σ H h S L (ALn.refl _ _) (Same.refl _))
theorem x_cont (h : P.ct Γ M) : ExX G (.Continue pos) Γ M P := fun A F σ H D S L hn hD => sS_of (fun X hX => ps_continue) (hD.ct Γ M A F σ H h S L (ALn.refl _ _) (Same.refl _))
theorem x_ret (h : EvX G e Γ M P.rt (P.rx Γ)) : ExX G (.Return (some e) pos) Γ M P := fun A F σ H D S L hn hD =>
  sS_of (fun X hX => ps_ret (pe_S hX e)) (h A F σ H D.rt S L (fun r M1 A1 F1 H1 v q S1 a1 f1 r1 => hD.rt r M1 A1 F1 H1 v q S1 r1 (a1.n _) f1) (hD.flies L))
theorem x_retN (h : P.rt (.d .none) M) : ExX G (.Return none pos) Γ M P := fun A F σ H D S L hn hD =>
  sS_of (fun X hX => ps_retN) (hD.rt _ M A F H .non h S Dv.non (ALn.refl _ _) (Same.refl _))
abbrev PlainS (e : Expr) (tgt : Option Expr) (l : Nat) : Prop := ∀ env, swapsWith e tgt l env = pure false
theorem x_expr (hs : PlainS e none pos.line) (h : EvX G e Γ M (fun _ M1 => P.nx Γ M1) (P.rx Γ)) : ExX G (.Expr e pos) Γ M P := fun A F σ H D S L hn hD =>
  sS_of (fun X hX => ps_expr (pe_S hX e) (hs _)) (h A F σ H _ S L (fun r M1 A1 F1 H1 v q S1 a1 f1 r1 => hD.nx Γ M1 A1 F1 σ H1 q S1 (L.mono a1 f1) (a1.n _) f1) (hD.flies L))
/-- x = e -/
theorem x_set {i : Nat} {x : Str} (hh : NoHot G i) (hi : G.N[i]? = some x) (hx : Loc G.sc x) (hf : G.fn x = true ∨ G.sc.names.lookup x = some .local) (hs : PlainS e (some (.Name x p2)) pos.line)
    (h : EvX G e Γ M (fun r M1 => P.nx (Γ.set i (some r)) M1) (P.rx Γ)) : ExX G (.Assign [.Name x p2] e pos) Γ M P := fun A F σ H D S L hn hD =>
  sS_of (fun X hX => ps_set hX.nd (by rw [hX.N]; exact hi) (by rw [hX.sc]; exact hx) (pe_S hX e) (hs _) (by rw [hX.fn, hX.sc]; exact hf)) (h A F σ H _ S L (fun r M1 A1 F1 H1 v q S1 a1 f1 r1 =>
    hD.nx _ M1 A1 F1 _ H1 q S1 ((L.mono a1 f1).set r1 i hh) (a1.n _) f1) (hD.flies L))
theorem x_if {c : Expr} {t f : List Stmt} (h : EvT G c Γ M (fun k M1 => (k = true → ExS G t Γ M1 P) ∧ (k = false → ExS G f Γ M1 P)) (P.rx Γ)) : ExX G (.If c t f pos) Γ M P := fun A F σ H D S L hn hD =>
  sS_of (fun X hX => ps_if (pt_S hX c) (pss_S hX t) (pss_S hX f)) (h A F σ H _ S L (fun k M1 A1 F1 H1 q S1 a1 f1 => by
    have hn1 : G.n ≤ M1.length := by rw [← S1.len]; exact Nat.le_trans (by rw [S.len]; exact hn) a1.len
    cases k with
    | true => exact iteT (q.1 rfl A1 F1 σ H1 D S1 (L.mono a1 f1) hn1 (hD.mono (a1.n _) f1))
    | false => exact iteF (q.2 rfl A1 F1 σ H1 D S1 (L.mono a1 f1) hn1 (hD.mono (a1.n _) f1))) (hD.flies L))
/-- x += e, ints -/
theorem x_augI {i : Nat} (hh : NoHot G i) {op : Operator} {f : Int → Int → Int} {x : Str} {k : Int} (ho : ∀ X, G.Has X → PIp X op (ipI f)) (hi : G.N[i]? = some x) (hx : Loc G.sc x) (hf : G.fn x = true ∨ G.sc.names.lookup x = some .local) (hΓ : Γ[i]? = some (some (.d (.int k))))
    (h : EvX G e Γ M (fun r M1 => ∃ j, r = .d (.int j) ∧ P.nx (Γ.set i (some (.d (.int (f k j))))) M1) (P.rx Γ)) : ExX G (.AugAssign (.Name x p2) op e pos) Γ M P := fun A F σ H D S L hn hD => by
  obtain ⟨v, ev, rv⟩ := L.2 i _ hΓ
  cases rv
  exact sS_of (fun X hX => ps_aug hX.nd (by rw [hX.N]; exact hi) (by rw [hX.sc]; exact hx) (pe_S hX e) (ho X hX) (by rw [hX.fn, hX.sc]; exact hf)) ⟨_, ev, h A F σ H _ S L (fun r M1 A1 F1 H1 v ⟨j, e, q⟩ S1 a1 f1 r1 => by
    subst e; cases r1
    exact ⟨k, j, rfl, rfl, hD.nx _ M1 A1 F1 _ H1 q S1 ((L.mono a1 f1).set (r := .d (.int (f k j))) (Dv.int _) i hh) (a1.n _) f1⟩) (hD.flies L)⟩

theorem evg_name {i : Nat} {x : Str} {r : Im} {Q : Ec → Sto → Prop} (hh : NoHot G i) (hi : G.N[i]? = some x) (hx : Loc G.sc x) (hf : G.fn x = true ∨ G.sc.names.lookup x = some .local) (h : Q (Γ.set i (some r)) M) : EvG G (.Name x pos) r Γ M Q := fun A F σ H v Qv S L rv hQ =>
  gS_of (fun X hX => pg_name hX.nd (by rw [hX.N]; exact hi) (by rw [hX.sc]; exact hx) (by rw [hX.fn, hX.sc]; exact hf)) (hQ _ M A F _ H h S (L.set rv i hh) (ALe.refl _) (Same.refl _))
def EvGs (G : Sx) (ts : List Expr) (rs : List Im) (Γ : Ec) (M : Sto) (Q : Ec → Sto → Prop) : Prop :=
  ∀ A F σ H vs (Qv : L2.St → Hp → Prop), StO G.kw A M F H → SlG G A F Γ σ → ImsR G.kw A F rs vs →
    (∀ Γ' M' A' F' σ' H', Q Γ' M' → StO G.kw A' M' F' H' → SlG G A' F' Γ' σ' → ALe A A' → Same F F' → Qv σ' H') → gSs G ts vs σ H Qv
theorem evgs_nil {Q : Ec → Sto → Prop} (h : Q Γ M) : EvGs G [] [] Γ M Q := fun A F σ H vs Qv S L rv hQ => by
  cases rv
  exact gSs_of (fun X hX => pgs_nil) ⟨rfl, hQ Γ M A F σ H h S L (ALe.refl _) (Same.refl _)⟩
theorem evgs_cons {t : Expr} {ts : List Expr} {r : Im} {rs : List Im} {Q : Ec → Sto → Prop} (hs : ∀ env, (assignEach (t :: ts) env).map (·.2) = assign t env :: (assignEach ts env).map (·.2)) (h : EvG G t r Γ M (fun Γ1 M1 => EvGs G ts rs Γ1 M1 Q)) : EvGs G (t :: ts) (r :: rs) Γ M Q := fun A F σ H vs Qv S L rv hQ => by
  cases rv with
  | cons r1 r2 =>
    exact gSs_of (fun X hX => pgs_cons (pg_S hX t) (pgs_S hX ts) (hs _)) ⟨_, _, rfl, h A F σ H _ _ S L r1 fun Γ1 M1 A1 F1 σ1 H1 q S1 L1 a1 f1 =>
      q A1 F1 σ1 H1 _ Qv S1 L1 (ImsR.mono a1 f1 r2) fun Γ2 M2 A2 F2 σ2 H2 q S2 L2 a2 f2 => hQ Γ2 M2 A2 F2 σ2 H2 q S2 L2 (a1.trans a2) (f1.trans f2)⟩
/-- (a, b, ..) takes a tuple of that length -/
theorem evg_tup {ts : List Expr} {k : Nat} {ds : List Dt} {n : Nat} {Q : Ec → Sto → Prop} (h0 : G.hot = none) (hn : ∀ env, (assignEach ts env).length = n) (hst : ∀ env, (assignEach ts env).findIdx? (·.1) = none) (hl : ds.length = n)
    (h : EvGs G ts (ds.map .d) Γ M Q) : EvG G (.Tuple ts k pos) (.d (.tuple ds)) Γ M Q := fun A F σ H v Qv S L rv hQ => by
  cases rv with
  | tup hs ha =>
    have rs := of_dpAll (A := A) ha
    have := rs.len
    simp at this
    exact gS_of (t := gTup G.K n (gSs G ts)) (fun X hX => by rw [← hX.K]; exact pg_tup (hX.calm h0) (pgs_S hX ts) (hn _) (hst _)) ⟨_, _, rfl, Same.seqT S.sub hs, by omega, h A F σ H _ Qv S L rs hQ⟩
/-- target = e -/
theorem x_asg {tg : Expr} (hs : ∀ env, swapsWithSole [tg] e pos.line env = pure false) (hw : ∀ env, swappedStores [tg] e env = pure none) (h1 : ∀ env, (assignEach [tg] env).map (·.2) = [assign tg env])
    (h : EvX G e Γ M (fun r M1 => EvG G tg r Γ M1 P.nx) (P.rx Γ)) : ExX G (.Assign [tg] e pos) Γ M P := fun A F σ H D S L hn hD =>
  sS_of (fun X hX => ps_asg (pe_S hX e) (pg_S hX tg) (hs _) (hw _) (h1 _)) (h A F σ H _ S L (fun r M1 A1 F1 H1 v q S1 a1 f1 r1 =>
    q A1 F1 σ H1 v _ S1 (L.mono a1 f1) r1 fun Γ2 M2 A2 F2 σ2 H2 q2 S2 L2 a2 f2 => hD.nx Γ2 M2 A2 F2 σ2 H2 q2 S2 L2 ((a1.trans a2).n _) (f1.trans f2)) (hD.flies L))

/-- Γ' knows all that Γ says -/
def Fo : Ec → Ec → Prop
  | [], [] => True
  | none :: a, _ :: b => Fo a b
  | some x :: a, y :: b => y = some x ∧ Fo a b
  | _, _ => False
theorem Fo.sl {K : KW} {A : List Addr} {F : Hp} : ∀ {Γ Γ' : Ec}, Fo Γ Γ' → Γ.length = Γ'.length ∧ ∀ (i : Nat) (r : Im), Γ[i]? = some (some r) → Γ'[i]? = some (some r)
  | [], [], _ => ⟨rfl, fun i r h => h⟩
  | none :: a, y :: b, h => by
    obtain ⟨h1, h2⟩ := Fo.sl (K := K) (A := A) (F := F) (Γ := a) (Γ' := b) h
    refine ⟨by simp [h1], fun i r e => ?_⟩
    cases i with
    | zero => simp at e
    | succ i => exact h2 i r (by simpa using e)
  | some x :: a, y :: b, h => by
    obtain ⟨rfl, h⟩ := h
    obtain ⟨h1, h2⟩ := Fo.sl (K := K) (A := A) (F := F) (Γ := a) (Γ' := b) h
    refine ⟨by simp [h1], fun i r e => ?_⟩
    cases i with
    | zero => simpa using e
    | succ i => exact h2 i r (by simpa using e)
theorem Sl.weak {K : KW} {A : List Addr} {F : Hp} {Γ Γ' : Ec} {σ : L2.St} (h : Fo Γ Γ') (L : Sl K A F Γ' σ) : Sl K A F Γ σ := by
  obtain ⟨h1, h2⟩ := Fo.sl (K := K) (A := A) (F := F) h
  exact ⟨by rw [L.1, h1], fun i r e => L.2 i r (h2 i r e)⟩
theorem Fo.refl : ∀ Γ : Ec, Fo Γ Γ
  | [] => trivial
  | none :: r => Fo.refl r
  | some x :: r => ⟨rfl, Fo.refl r⟩
theorem Sl.cut {K : KW} {A : List Addr} {F : Hp} {Γ : Ec} {σ : L2.St} {n : Nat} (hb : EcB n Γ) (L : Sl K A F Γ σ) : Sl K (A.take n) F Γ σ := ⟨L.1, fun i r e => by
  obtain ⟨v, e1, r1⟩ := L.2 i r e
  exact ⟨v, e1, ImR.cut (hb r (List.mem_of_getElem? e)) r1⟩⟩
theorem SlH.weak {K : KW} {hot : Option Hot} {Γ Γ' : Ec} {A : List Addr} {F : Hp} {σ : L2.St} (h : Fo Γ Γ') (L : SlH K hot A F Γ' σ) : SlH K hot A F Γ σ := L.re (Same.refl _) (Sl.weak h L.sl)
theorem SlH.cut {K : KW} {hot : Option Hot} {A : List Addr} {F : Hp} {Γ : Ec} {σ : L2.St} {n : Nat} (hb : EcB n Γ) (L : SlH K hot A F Γ σ) : SlH K hot (A.take n) F Γ σ := L.re (Same.refl _) (Sl.cut hb L.sl)
/-- the state (Γ, M) may be seen as (Γ', M') -/
structure Se (n : Nat) (Γ : Ec) (M : Sto) (Γ' : Ec) (M' : Sto) : Prop where
  fo : Fo Γ' Γ
  cut : ∃ L, M = M' ++ L
  sb : StoB M'.length M'
  eb : EcB M'.length Γ'
  n : n ≤ M'.length
theorem take_aln {n m : Nat} {A : List Addr} (h : n ≤ m) : ALn n A (A.take m) := fun k a hk e => by
  rw [List.getElem?_take, if_pos (by omega)]; exact e
theorem xs_see {Γ' : Ec} {M' : Sto} (hs : Se G.n Γ M Γ' M') (h : ExS G sts Γ' M' P) : ExS G sts Γ M P := fun A F σ H D S L hn hD => by
  obtain ⟨L', rfl⟩ := hs.cut
  exact h (A.take M'.length) F σ H D (S.trim hs.sb) ((L.weak hs.fo).cut hs.eb) hs.n (hD.mono (take_aln hs.n) (Same.refl _))
/-- only names are forgotten -/
theorem xs_fo {Γ' : Ec} (hs : Fo Γ' Γ) (h : ExS G sts Γ' M P) : ExS G sts Γ M P := fun A F σ H D S L hn hD => h A F σ H D S (L.weak hs) hn hD

/-- the body's context: the store's floor is at the loop's start -/
abbrev Sx.at (G : Sx) (n : Nat) : Sx := { G with n := n }
theorem Sx.Has.at {X : Cx} (h : G.Has X) (n : Nat) : (G.at n).Has X := ⟨h.prog, h.w, h.K, h.mg, h.base, h.N, h.sc, h.nd, h.room, h.un, h.calm, h.po, h.tk, h.fn, h.top, h.hot⟩
theorem Sx.Has.unat {X : Cx} {n : Nat} (h : (G.at n).Has X) : G.Has X := ⟨h.prog, h.w, h.K, h.mg, h.base, h.N, h.sc, h.nd, h.room, h.un, h.calm, h.po, h.tk, h.fn, h.top, h.hot⟩
theorem sSs_at {n : Nat} {D : Ends} {σ : L2.St} {H : Hp} (h : sSs (G.at n) sts D σ H) : sSs G sts D σ H := fun X hX pins s I => h X (hX.at n) pins s I
theorem gS_at {n : Nat} {tg : Expr} {v : V} {σ : L2.St} {H : Hp} {Q : L2.St → Hp → Prop} (h : gS (G.at n) tg v σ H Q) : gS G tg v σ H Q := fun X hX pins s u I r => h X (hX.at n) pins s u I r
/-- what stands at a turn's end, seen as the invariant's -/
def Turns (n : Nat) (J : Ec → Sto → Prop) : Ec → Sto → Prop := fun Γ M => (∃ Γ', Fo Γ' Γ ∧ J Γ' M) ∨ ∃ Γ' M', Se n Γ M Γ' M' ∧ J Γ' M'
theorem Turns.land {n : Nat} {J : Ec → Sto → Prop} {A : List Addr} {F H : Hp} {σ : L2.St} (h : Turns n J Γ M) (S : StO G.kw A M F H) (L : SlG G A F Γ σ) : ∃ Γ' M' A', J Γ' M' ∧ StO G.kw A' M' F H ∧ SlG G A' F Γ' σ ∧ ALn n A A' := by
  rcases h with ⟨Γ', fo, j⟩ | ⟨Γ', M', se, j⟩
  · exact ⟨Γ', M, A, j, S, L.weak fo, ALn.refl _ _⟩
  · obtain ⟨X', rfl⟩ := se.cut
    exact ⟨Γ', M', _, j, S.trim se.sb, (L.weak se.fo).cut se.eb, take_aln se.n⟩
theorem ale_of_n {n : Nat} {A1 A2 A3 : List Addr} (h1 : ALe A1 A2) (h2 : ALn n A2 A3) (hl : A1.length ≤ n) : ALe A1 A3 := fun k a e => h2 k a (Nat.lt_of_lt_of_le (List.getElem?_eq_some_iff.mp e).1 hl) (h1 k a e)
theorem x_for {tg iter : Expr} {body : List Stmt} (h0 : G.hot = none) (hs : ∀ env x, foldedSetIterable iter env x = pure x)
    (h : EvI G tg iter Γ M (fun xs ok M1 => ∃ J : Nat → Ec → Sto → Prop, J 0 Γ M1 ∧
      (∀ (i : Nat) x Γ' M', xs[i]? = some x → J i Γ' M' → ok M' ∧ EvG (G.at M1.length) tg x Γ' M' (fun Γ2 M2 => ExS (G.at M1.length) body Γ2 M2 { P with nx := Turns M1.length (J (i + 1)), ct := Turns M1.length (J (i + 1)), bk := P.nx })) ∧
      (∀ Γ' M', J xs.length Γ' M' → ok M' ∧ P.nx Γ' M')) (P.rx Γ)) : ExX G (.For tg iter body [] pos) Γ M P := by
  intro A F σ H D S L hn hD
  refine sS_of (fun X hX => ps_for (tb := sSs G body) (g := gS G tg) hX.po (hX.calm h0) (pi_S hX tg iter) (pg_S hX tg) (pss_S hX body) (hs _)) ?_
  refine h A F σ H _ S L (fun K xs ok M1 A1 F1 H1 ⟨J, j0, step, fin⟩ S1 a1 f1 jk => ?_) (hD.flies L)
  refine ⟨fun i m σ' H' => m = xs.length - i ∧ i ≤ xs.length ∧ ∃ Γ' M' A' F', J i Γ' M' ∧ StO G.kw A' M' F' H' ∧ SlG G A' F' Γ' σ' ∧ ALe A1 A' ∧ Same F1 F',
    ⟨xs.length, rfl, Nat.zero_le _, Γ, M1, A1, F1, j0, S1, L.mono a1 f1, ALe.refl _, Same.refl _⟩, ?_⟩
  rintro i m σ' H' ⟨rfl, hi, Γ', M', A', F', ji, S', L', a', f'⟩
  by_cases hlt : i < xs.length
  · have hx : xs[i]? = some xs[i] := List.getElem?_eq_getElem hlt
    obtain ⟨okM, hg⟩ := step i _ Γ' M' hx ji
    obtain ⟨go, yl⟩ := (jk i M' A' F' H' S' a' f' okM).1 _ hx
    refine .inr ⟨go, fun σ3 H3 => xs.length - (i + 1) = xs.length - (i + 1) ∧ i + 1 ≤ xs.length ∧ ∃ Γ' M' A' F', J (i + 1) Γ' M' ∧ StO G.kw A' M' F' H3 ∧ SlG G A' F' Γ' σ3 ∧ ALe A1 A' ∧ Same F1 F', fun σ3 H3 q => ⟨xs.length - (i + 1), by omega, q⟩, fun v H'' hy => ?_⟩
    obtain ⟨F'', S'', f'', rv⟩ := yl v H'' hy
    refine gS_at (n := M1.length) (hg A' F'' σ' H'' v _ S'' (L'.mono (ALe.refl _) f'') rv fun Γ2 M2 A2 F2 σ2 H2 q S2 L2 a2 f2 => sSs_at (n := M1.length) ?_)
    have a12 : ALe A1 A2 := a'.trans a2
    have f12 : Same F1 F2 := (f'.trans f'').trans f2
    have n12 : M1.length ≤ M2.length := by rw [← S1.len, ← S2.len]; exact a12.len
    have up : ∀ {A3 : List Addr}, ALn M1.length A2 A3 → ALe A1 A3 := fun {A3} a3 => ale_of_n a12 a3 (by rw [S1.len]; exact Nat.le_refl _)
    have turn : ∀ Γ3 M3 A3 F3 σ3 H3, Turns M1.length (J (i + 1)) Γ3 M3 → StO G.kw A3 M3 F3 H3 → SlG G A3 F3 Γ3 σ3 → ALn M1.length A2 A3 → Same F2 F3 →
        xs.length - (i + 1) = xs.length - (i + 1) ∧ i + 1 ≤ xs.length ∧ ∃ Γ' M' A' F', J (i + 1) Γ' M' ∧ StO G.kw A' M' F' H3 ∧ SlG G A' F' Γ' σ3 ∧ ALe A1 A' ∧ Same F1 F' := by
      intro Γ3 M3 A3 F3 σ3 H3 tn S3 L3 a3 f3
      obtain ⟨Γ4, M4, A4, j4, S4, L4, a4⟩ := tn.land S3 L3
      exact ⟨rfl, hlt, Γ4, M4, A4, F3, j4, S4, L4, up (a3.trans a4), f12.trans f3⟩
    exact q A2 F2 σ2 H2 _ S2 L2 n12 ⟨turn, fun r M3 A3 F3 H3 v p S3 r3 a3 f3 => hD.rt r M3 A3 F3 H3 v p S3 r3 ((a1.trans (up a3)).n _) (f1.trans (f12.trans f3)),
      fun Γ3 M3 A3 F3 σ3 H3 p S3 L3 a3 f3 => hD.nx Γ3 M3 A3 F3 σ3 H3 p S3 L3 ((a1.trans (up a3)).n _) (f1.trans (f12.trans f3)), turn,
      fun C fs Γ3 M3 A3 F3 σ3 H3 p S3 L3 a3 f3 => hD.ex C fs Γ3 M3 A3 F3 σ3 H3 p S3 L3 ((a1.trans (up a3)).n _) (f1.trans (f12.trans f3))⟩
  · have ei : i = xs.length := by omega
    subst ei
    obtain ⟨okM, p⟩ := fin Γ' M' ji
    exact .inl ⟨(jk _ M' A' F' H' S' a' f' okM).2 (Nat.le_refl _), hD.nx Γ' M' A' F' σ' H' p S' L' ((a1.trans a').n _) (f1.trans f')⟩
theorem x_while {c : Expr} {body : List Stmt} (J : Nat → Ec → Sto → Prop) (m0 : Nat) (h0 : J m0 Γ M)
    (h : ∀ m Γ' M', J m Γ' M' → EvT G c Γ' M' (fun b M2 => (b = true → ExS (G.at M.length) body Γ' M2 { P with nx := Turns M.length (fun Γ3 M3 => ∃ m', m' < m ∧ J m' Γ3 M3), ct := Turns M.length (fun Γ3 M3 => ∃ m', m' < m ∧ J m' Γ3 M3), bk := P.nx }) ∧ (b = false → P.nx Γ' M2)) (P.rx Γ')) :
    ExX G (.While c body [] pos) Γ M P := by
  intro A F σ H D S L hn hD
  refine sS_of (fun X hX => ps_while hX.po (pt_S hX c) (pss_S hX body)) ?_
  refine ⟨fun m σ' H' => ∃ Γ' M' A' F', J m Γ' M' ∧ StO G.kw A' M' F' H' ∧ SlG G A' F' Γ' σ' ∧ ALe A A' ∧ Same F F', ⟨m0, Γ, M, A, F, h0, S, L, ALe.refl _, Same.refl _⟩, ?_⟩
  rintro m σ' H' ⟨Γ', M', A', F', jm, S', L', a', f'⟩
  refine h m Γ' M' jm A' F' σ' H' _ S' L' (fun b M2 A2 F2 H2 q S2 a2 f2 => ?_) ((hD.mono (a'.n _) f').flies L')
  have a12 : ALe A A2 := a'.trans a2
  have f12 : Same F F2 := f'.trans f2
  cases b with
  | false => exact iteF (hD.nx Γ' M2 A2 F2 σ' H2 (q.2 rfl) S2 (L'.mono a2 f2) (a12.n _) f12)
  | true =>
    have n12 : M.length ≤ M2.length := by rw [← S.len, ← S2.len]; exact a12.len
    have up : ∀ {A3 : List Addr}, ALn M.length A2 A3 → ALe A A3 := fun {A3} a3 => ale_of_n a12 a3 (by rw [S.len]; exact Nat.le_refl _)
    have turn : ∀ Γ3 M3 A3 F3 σ3 H3, Turns M.length (fun Γ3 M3 => ∃ m', m' < m ∧ J m' Γ3 M3) Γ3 M3 → StO G.kw A3 M3 F3 H3 → SlG G A3 F3 Γ3 σ3 → ALn M.length A2 A3 → Same F2 F3 →
        ∃ m', m' < m ∧ ∃ Γ' M' A' F', J m' Γ' M' ∧ StO G.kw A' M' F' H3 ∧ SlG G A' F' Γ' σ3 ∧ ALe A A' ∧ Same F F' := by
      intro Γ3 M3 A3 F3 σ3 H3 tn S3 L3 a3 f3
      obtain ⟨Γ4, M4, A4, ⟨m', hm, j4⟩, S4, L4, a4⟩ := tn.land S3 L3
      exact ⟨m', hm, Γ4, M4, A4, F3, j4, S4, L4, up (a3.trans a4), f12.trans f3⟩
    refine iteT ⟨fun σ3 H3 => ∃ m', m' < m ∧ ∃ Γ' M' A' F', J m' Γ' M' ∧ StO G.kw A' M' F' H3 ∧ SlG G A' F' Γ' σ3 ∧ ALe A A' ∧ Same F F', fun σ3 H3 q => q, sSs_at (n := M.length) ?_⟩
    exact q.1 rfl A2 F2 σ' H2 _ S2 (L'.mono a2 f2) n12 ⟨turn, fun r M3 A3 F3 H3 v p S3 r3 a3 f3 => hD.rt r M3 A3 F3 H3 v p S3 r3 ((up a3).n _) (f12.trans f3),
      fun Γ3 M3 A3 F3 σ3 H3 p S3 L3 a3 f3 => hD.nx Γ3 M3 A3 F3 σ3 H3 p S3 L3 ((up a3).n _) (f12.trans f3), turn,
      fun C fs Γ3 M3 A3 F3 σ3 H3 p S3 L3 a3 f3 => hD.ex C fs Γ3 M3 A3 F3 σ3 H3 p S3 L3 ((up a3).n _) (f12.trans f3)⟩
end

section
variable {P : Program} {w : World} {K : PySem.W.Frag} {mg : Str → Option Value} {base : Heap}
abbrev defG (P : Program) (w : World) (K : PySem.W.Frag) (mg : Str → Option Value) (base : Heap) (N : List Str) (sc : Scope) (k n : Nat) (W : WX) (z : Hp) : Sx :=
  { P := P, w := w, K := K, mg := mg, base := base, N := N, sc := sc, k := k, W := W, fn := fun _ => true, n := n, top := true, z := z, hot := none }
/-- what is handed back, seen over the store as the caller knows it -/
def Backs (n : Nat) (Q : QE) : QE := fun r M => Q r M ∨ ∃ M' L, M = M' ++ L ∧ StoB M'.length M' ∧ ImB M'.length r ∧ n ≤ M'.length ∧ Q r M'
def BacksX (n : Nat) (R : QR) : Addr → List (Str × Dt) → Ec → Sto → Prop := fun C fs _ M => R C fs M ∨ ∃ M' L, M = M' ++ L ∧ StoB M'.length M' ∧ n ≤ M'.length ∧ R C fs M'
theorem Backs.land {K : KW} {n : Nat} {Q : QE} {r : Im} {M : Sto} {A : List Addr} {F H : Hp} {v : V} (h : Backs n Q r M) (S : StO K A M F H) (rv : ImR K A F r v) : ∃ M' A', Q r M' ∧ StO K A' M' F H ∧ ImR K A' F r v ∧ ALn n A A' := by
  rcases h with h | ⟨M2, L, rfl, hb2, hr2, hn, q⟩
  · exact ⟨M, A, h, S, rv, ALn.refl _ _⟩
  · exact ⟨M2, _, q, S.trim hb2, ImR.cut hr2 rv, take_aln hn⟩
theorem BacksX.land {K : KW} {n : Nat} {R : QR} {C : Addr} {fs : List (Str × Dt)} {Γ : Ec} {M : Sto} {A : List Addr} {F H : Hp} (h : BacksX n R C fs Γ M) (S : StO K A M F H) : ∃ M' A', R C fs M' ∧ StO K A' M' F H ∧ ALn n A A' := by
  rcases h with h | ⟨M2, L, rfl, hb2, hn, q⟩
  · exact ⟨M, A, h, S, ALn.refl _ _⟩
  · exact ⟨M2, _, q, S.trim hb2, take_aln hn⟩
/-- a def's end: nothing is handed back but what D asks of the heap -/
theorem def_core {x qual : Str} {st : Stmt} {f : Addr} {fd : FuncData} {N ps : List Str} {k : Nat} {sp : Sp} (Fu : Fun K x qual st f fd) (Sc : FnScope N ps (defScope st))
    (len : ∀ vs H Q E, sp vs H Q E → vs.length = ps.length)
    (body : ∀ vs H Q E, sp vs H Q E → ∃ z n A M F rs, StO ⟨K, w, z⟩ A M F H ∧ ImsR ⟨K, w, z⟩ A F rs vs ∧ n ≤ M.length ∧ ∃ P' : Pst,
      ExS (defG P w K mg base N (defScope st) k n (fun cls d _ H => E cls d H) z) (defBody st) (rs.map some ++ List.replicate (N.length - rs.length) none) M P' ∧
      Lands (defG P w K mg base N (defScope st) k n (fun cls d _ H => E cls d H) z) A F P' { nx := fun _ H' => Q .non H', rt := Q }) :
    FnOk P w K mg base (L2.CX P w) (k + 1) f fd ps sp := by
  refine Fu.okX Sc (fun vs H Q E h => len vs H Q E h) (fun cdv A0 outer s H vs Q E hr h => ?_)
  obtain ⟨z, n, A, M, F, rs, S1, r1, hn, P', hb, hL⟩ := body vs H Q E h
  refine ⟨sSs (defG P w K mg base N (defScope st) k n (fun cls d _ H => E cls d H) z) (defBody st), pss_S ⟨rfl, rfl, rfl, rfl, rfl, rfl, rfl, Sc.nd, fun _ => hr, (Nat.lt_of_le_of_lt (by show _ + 200 ≤ _ + 16 * k + 200; exact Nat.add_le_add_right (Nat.le_add_right _ _) _) hr.un), fun _ => rfl, passes_of (K := fun e s'' => L2.CX P w outer H s E e s'') rfl, takes_of rfl rfl rfl rfl, rfl, (fun _ => ⟨rfl, rfl⟩), fun _ e => by cases e⟩ _, ?_⟩
  refine hb A F (L2.start N vs) H _ S1 ?_ hn hL
  refine ⟨by simp [L2.start, r1.len], fun i r e => ?_, (fun _ _ e => by cases e), fun _ _ e => by cases e⟩
  have hi : i < rs.length := by
    by_cases h : i < rs.length
    · exact h
    · rw [List.getElem?_append_right (by simpa using h)] at e
      have := List.mem_of_getElem? e
      simp at this
  rw [List.getElem?_append_left (by simpa using hi), List.getElem?_map] at e
  obtain ⟨q, hq, e⟩ := Option.map_eq_some_iff.mp e
  cases e
  obtain ⟨v, hv, rv⟩ := paired_get r1 hq
  refine ⟨v, ?_, rv⟩
  unfold L2.start
  rw [List.getElem?_append_left (by have := r1.len; simp; omega), List.getElem?_map, hv]
  rfl
theorem def_ok {x qual : Str} {st : Stmt} {f : Addr} {fd : FuncData} {N ps : List Str} {k : Nat} {S : DSp} (Fu : Fun K x qual st f fd) (Sc : FnScope N ps (defScope st)) (len : ∀ rs M Q R, S rs M Q R → rs.length = ps.length)
    (body : ∀ (W : WX) z rs M Q R, S rs M Q R → StoB M.length M → (∀ r ∈ rs, ImB M.length r) →
      ExS (defG P w K mg base N (defScope st) k M.length W z) (defBody st) (rs.map some ++ List.replicate (N.length - rs.length) none) M { nx := fun _ M' => Backs M.length Q (.d .none) M', rt := Backs M.length Q, ex := BacksX M.length R }) :
    FnOk P w K mg base (L2.CX P w) (k + 1) f fd ps (spOf K w S) := by
  refine def_core Fu Sc (fun vs H Q E h => ?_) (fun vs H Q E h => ?_)
  · obtain ⟨z, A, M, F, rs, Qd, Rd, S1, r1, hs, _⟩ := h
    rw [← r1.len]
    exact len _ _ _ _ hs
  · obtain ⟨z, A, M, F, rs, Qd, Rd, S1, r1, hs, hQ, hE⟩ := h
    refine ⟨z, M.length, A, M, F, rs, S1, r1, Nat.le_refl _, _, body _ z rs M Qd Rd hs S1.bd (fun r hr => by obtain ⟨v, q⟩ := paired_left r1 r hr; rw [← S1.len]; exact q.bd), ?_⟩
    have cutA : ∀ {A' : List Addr}, ALn M.length A A' → ALe A A' := fun {A'} a k x e => a k x (by rw [← S1.len]; exact (List.getElem?_eq_some_iff.mp e).1) e
    refine ⟨?_, ?_, fun _ _ _ _ _ _ q => q.elim, fun _ _ _ _ _ _ q => q.elim, ?_⟩
    · intro Γ' M' A' F' σ' H' q S' L' a f
      obtain ⟨M2, A2, q, S2, r2, a2⟩ := q.land S' (v := .non) Dv.non
      exact hQ _ M2 A2 F' H' .non q S2 (cutA (a.trans a2)) f r2
    · intro r M' A' F' H' v q S' rv a f
      obtain ⟨M2, A2, q, S2, r2, a2⟩ := q.land S' rv
      exact hQ r M2 A2 F' H' v q S2 (cutA (a.trans a2)) f r2
    · intro C fs Γ' M' A' F' σ' H' q S' L' a f
      obtain ⟨M2, A2, q, S2, a2⟩ := BacksX.land (Γ := Γ') q S'
      exact hE C fs M2 A2 F' H' q S2 (cutA (a.trans a2)) f
end
end DX

namespace DX
open PySem PySem.Spec PyProof.Rows L2

/-- a list's cell of data alone, as data -/
def Cel.dat : Cel → Option Dt
  | .dl ds => some (.list ds)
  | _ => none
theorem StO.dat {K : KW} {A : List Addr} {F H : Hp} {M : Sto} (S : StO K A M F H) {k : Nat} {a : Addr} {c : Cel} {x : Dt} (ea : A[k]? = some a) (hk : M[k]? = some c) (hx : c.dat = some x) :
    F a = none ∧ ∃ o, H a = some o ∧ Dv K (upd F a o) (.ref a) x := by
  have h := S.cel k a c ea hk
  cases c with
  | dl ds =>
    cases hx
    obtain ⟨hF, vs, hH, rs⟩ := h
    exact ⟨hF, _, hH, dp_lst (dpAll_of rs) hF⟩
  | _ => cases hx
/-- a dict's cell, locked, as data -/
theorem StO.dic {K : KW} {A : List Addr} {F H : Hp} {M : Sto} (S : StO K A M F H) {k : Nat} {a : Addr} {kvs : List (Dt × Dt)} (ea : A[k]? = some a) (hk : M[k]? = some (.dd kvs)) :
    F a = none ∧ ∃ u, H a = some u ∧ Mut (some u) ∧ ∀ o, Dv K (upd F a (.frz o u)) (.ref a) (.dict kvs) ∧ StO K A (M.set k .dead) (upd F a (.frz o u)) (upd H a (.frz o u)) := by
  obtain ⟨hF, u, hH, rs⟩ := S.cel k a _ ea hk
  refine ⟨hF, u, hH, by rcases rs with ⟨ws, rfl, _⟩ | ⟨ws, rfl, _⟩ <;> trivial, fun o => ⟨?_, ?_⟩⟩
  · rcases rs with ⟨ws, rfl, p⟩ | ⟨ws, rfl, p⟩
    · exact .dK upd_same (DvK.mono (same_updF hF) (dvK_of p))
    · exact .dN upd_same (DvN.mono (same_updF hF) (dvN_of p))
  · have S1 : StO K A (M.set k .dead) F (upd H a (.frz o u)) := S.write ea hF trivial
    have := S1.freeze (k := k) ea hF (o := .frz o u) upd_same
    rwa [List.set_set] at this
section
variable {G : Sx} {A : List Addr} {F H : Hp} {M : Sto} {Q : QE} {Qv : VK}
theorem goes_frz (S : StO G.kw A M F H) (hQ : Goes G A F Q Qv) : Goes G A F (fun r M1 => ∃ c x, r = .p M.length ∧ M1 = M ++ [c] ∧ c.dat = some x ∧ Q (.d x) M) Qv := by
  rintro r M1 A1 F1 H1 v ⟨c, x, rfl, rfl, hx, q⟩ S1 a1 f1 ⟨p, e, rfl⟩
  obtain ⟨hF, o, hH, rs⟩ := S1.dat e (c := c) (by simp) hx
  have S2 := S1.freeze e hF hH
  rw [show (M ++ [c]).set M.length .dead = M ++ [.dead] by rw [List.set_append_right _ _ (Nat.le_refl _)]; simp] at S2
  have S3 := S2.trim S.bd
  exact hQ _ M _ _ _ _ q S3 (fun k a e => by
    rw [List.getElem?_take, if_pos (by rw [← S.len]; exact (List.getElem?_eq_some_iff.mp e).1)]
    exact a1 k a e) (f1.trans (same_updF hF)) rs
end
/-- a name's cell turned into data -/
def fzI (k : Nat) (x : Dt) : Im → Im
  | .d y => .d y
  | .p j => if j = k then .d x else .p j
theorem fzI_same (k : Nat) (x : Dt) : fzI k x (.p k) = .d x := by simp [fzI]
theorem fzI_ne {k j : Nat} (x : Dt) (h : ¬ j = k) : fzI k x (.p j) = .p j := by simp [fzI, h]
def fzE (k : Nat) (x : Dt) (Γ : Ec) : Ec := Γ.map fun o => o.map (fzI k x)
section
variable {G : Sx} {Γ : Ec} {M : Sto} {P : Pst} {sts : List Stmt} {R : QR} {Q : QE} {e : Expr}
theorem sl_fz {A : List Addr} {F H : Hp} {σ : L2.St} {k : Nat} {c : Cel} {x : Dt} (S : StO G.kw A M F H) (L : SlG G A F Γ σ) (hk : M[k]? = some c) (hx : c.dat = some x) :
    ∃ a o, A[k]? = some a ∧ F a = none ∧ H a = some o ∧ SlG G A (upd F a o) (fzE k x Γ) σ := by
  have hl : k < A.length := by rw [S.len]; exact (List.getElem?_eq_some_iff.mp hk).1
  have ha : A[k]? = some A[k] := List.getElem?_eq_getElem hl
  obtain ⟨hF, o, hH, rs⟩ := S.dat ha hk hx
  refine ⟨A[k], o, ha, hF, hH, ⟨by simp [fzE, L.1], fun i r e => ?_, L.3, (L.re (same_updF hF) (Sl.mono (ALe.refl _) (same_updF hF) L.sl)).4⟩⟩
  unfold fzE at e
  rw [List.getElem?_map] at e
  obtain ⟨o', ho, e⟩ := Option.map_eq_some_iff.mp e
  cases o' with
  | none => cases e
  | some r0 =>
    cases e
    obtain ⟨v, e1, r1⟩ := L.2 i r0 ho
    refine ⟨v, e1, ?_⟩
    cases r0 with
    | d y => exact Dv.mono (same_updF hF) r1
    | p j =>
      obtain ⟨b, eb, rfl⟩ := r1
      by_cases hj : j = k
      · subst hj
        rw [fzI_same]
        rw [ha] at eb; cases eb
        exact rs
      · rw [fzI_ne _ hj]
        exact ⟨b, eb, rfl⟩
/-- from here on the cell k is data -/
theorem xs_fz (k : Nat) {c : Cel} (x : Dt) (hk : M[k]? = some c) (hx : c.dat = some x) (h : ExS G sts (fzE k x Γ) (M.set k .dead) P) : ExS G sts Γ M P := fun A F σ H D S L hn hD => by
  obtain ⟨a, o, ha, hF, hH, L'⟩ := sl_fz S L hk hx
  exact h A _ σ H D (S.freeze ha hF hH) L' (by simpa using hn) (hD.mono (ALn.refl _ _) (same_updF hF))
theorem sl_fzd {A : List Addr} {F F' : Hp} {σ : L2.St} {k : Nat} {a : Addr} {x : Dt} (L : SlG G A F Γ σ) (ha : A[k]? = some a) (hf : Same F F') (hx : Dv G.kw F' (.ref a) x) : SlG G A F' (fzE k x Γ) σ := by
  refine ⟨by simp [fzE, L.1], fun i r e => ?_, L.3, (L.re hf (Sl.mono (ALe.refl _) hf L.sl)).4⟩
  unfold fzE at e
  rw [List.getElem?_map] at e
  obtain ⟨o', ho, e⟩ := Option.map_eq_some_iff.mp e
  cases o' with
  | none => cases e
  | some r0 =>
    cases e
    obtain ⟨v, e1, r1⟩ := L.2 i r0 ho
    refine ⟨v, e1, ?_⟩
    cases r0 with
    | d y => exact Dv.mono hf r1
    | p j =>
      obtain ⟨b, eb, rfl⟩ := r1
      by_cases hj : j = k
      · subst hj
        rw [fzI_same]
        rw [ha] at eb; cases eb
        exact hx
      · rw [fzI_ne _ hj]
        exact ⟨b, eb, rfl⟩
/-- from here on the dict k is data -/
theorem xs_fzD (k : Nat) {kvs : List (Dt × Dt)} (hk : M[k]? = some (.dd kvs)) (h : ExS G sts (fzE k (.dict kvs) Γ) (M.set k .dead) P) : ExS G sts Γ M P := fun A F σ H D S L hn hD X hX pins s I => by
  have hl : k < A.length := by rw [S.len]; exact (List.getElem?_eq_some_iff.mp hk).1
  have ha : A[k]? = some A[k] := List.getElem?_eq_getElem hl
  obtain ⟨hF, u, hH, mu, hd⟩ := S.dic ha hk
  obtain ⟨o, I2⟩ := I.lock hH mu
  exact h A _ σ _ D (hd o).2 (sl_fzd L ha (same_updF hF) (hd o).1) (by simpa using hn) (hD.mono (ALn.refl _ _) (same_updF hF)) X hX pins s I2
end
theorem AsL.app {M L : Sto} {r : Im} {xs : List Im} (h : AsL M r xs) : AsL (M ++ L) r xs := by
  cases h with
  | d ds => exact .d ds
  | p h hx => exact .p (by rw [List.getElem?_append_left (List.getElem?_eq_some_iff.mp h).1]; exact h) hx
theorem AsD.app {M L : Sto} {r : Im} {x : Dt} (h : AsD M r x) : AsD (M ++ L) r x := by
  cases h with
  | d ds => exact .d _
  | p h => exact .p (by rw [List.getElem?_append_left (List.getElem?_eq_some_iff.mp h).1]; exact h)
theorem map_d_inj : ∀ {ds es : List Dt}, ds.map Im.d = es.map Im.d → ds = es
  | [], [], _ => rfl
  | [], _ :: _, h => by simp at h
  | _ :: _, [], h => by simp at h
  | d :: ds, e :: es, h => by
    rw [List.map_cons, List.map_cons] at h
    injection h with h1 h2
    injection h1 with h1
    rw [h1, map_d_inj h2]
/-- one item more -/
def pushC : Cel → Im → Cel
  | .dl ds, .d x => .dl (ds ++ [x])
  | .dl ds, .p j => .lst (ds.map .d ++ [.p j])
  | .lst xs, r => .lst (xs ++ [r])
  | c, _ => c
theorem pushC_its {c : Cel} {xs : List Im} (h : c.its = some xs) (r : Im) : (pushC c r).its = some (xs ++ [r]) := by
  cases c <;> simp only [Cel.its] at h <;> cases h
  · cases r <;> simp [pushC, Cel.its]
  · rfl

def wipeE (Γ : Ec) : List Nat → Ec
  | [] => Γ
  | v :: vs => (wipeE Γ vs).set v none
theorem Sl.unset {K : KW} {A : List Addr} {F : Hp} {Γ : Ec} {σ : L2.St} (L : Sl K A F Γ σ) (i : Nat) : Sl K A F (Γ.set i none) (σ.set i none) := by
  refine ⟨by simp [L.1], fun j r e => ?_⟩
  by_cases hj : i = j
  · subst hj
    have := List.mem_of_getElem? e
    have hi : i < Γ.length := by
      have := (List.getElem?_eq_some_iff.mp e).1
      simpa using this
    rw [List.getElem?_set_self hi] at e
    cases e
  · rw [List.getElem?_set_ne hj] at e
    obtain ⟨v, h1, h2⟩ := L.2 j r e
    exact ⟨v, by rw [List.getElem?_set_ne hj]; exact h1, h2⟩
theorem Sl.wipe {K : KW} {A : List Addr} {F : Hp} {Γ : Ec} {σ : L2.St} (L : Sl K A F Γ σ) : ∀ vs : List Nat, Sl K A F (wipeE Γ vs) (L2.wipe σ vs)
  | [] => L
  | v :: vs => (Sl.wipe L vs).unset v
theorem SlH.wipe {K : KW} {hot : Option Hot} {A : List Addr} {F : Hp} {Γ : Ec} {σ : L2.St} (h0 : hot = none) (L : SlH K hot A F Γ σ) (vs : List Nat) : SlH K hot A F (wipeE Γ vs) (L2.wipe σ vs) := SlH.of (Sl.wipe L.sl vs) h0
theorem wipe_set {x : Option V} {i : Nat} : ∀ {vs : List Nat} {σ : L2.St}, i ∈ vs → L2.wipe (σ.set i x) vs = L2.wipe σ vs
  | v :: vs, σ, h => by
    by_cases hv : i ∈ vs
    · unfold L2.wipe; rw [wipe_set hv]
    · have e : i = v := by rcases List.mem_cons.mp h with z | z; exact z; exact absurd z hv
      subst e
      have out : ∀ vs : List Nat, i ∉ vs → L2.wipe (σ.set i x) vs = (L2.wipe σ vs).set i x := by
        intro vs
        induction vs with
        | nil => intro _; rfl
        | cons w ws ih =>
          intro hn
          have h1 : i ∉ ws := fun z => hn (List.mem_cons_of_mem _ z)
          have h2 : i ≠ w := fun z => hn (by rw [z]; exact List.mem_cons_self)
          unfold L2.wipe
          rw [ih h1, List.set_comm _ _ h2]
      unfold L2.wipe
      rw [out vs hv, List.set_set]
theorem wipe_idem (σ : L2.St) : ∀ vs : List Nat, L2.wipe (L2.wipe σ vs) vs = L2.wipe σ vs := by
  have h : ∀ vs ws : List Nat, (∀ v ∈ vs, v ∈ ws) → L2.wipe (L2.wipe σ vs) ws = L2.wipe σ ws := by
    intro vs
    induction vs with
    | nil => intro ws _; rfl
    | cons v vs ih =>
      intro ws h
      show L2.wipe ((L2.wipe σ vs).set v none) ws = _
      rw [wipe_set (h v List.mem_cons_self)]
      exact ih ws fun w hw => h w (List.mem_cons_of_mem _ hw)
  exact fun vs => h vs vs fun _ h => h
/-- a block's context -/
abbrev Sx.blk (G : Sx) (scope : Scope) : Sx := { G with sc := L2.relS scope G.sc, W := fun _ _ _ _ => False, fn := fun x => scope.names.lookup x == some .cell, top := false }
theorem Sx.Has.blk {G : Sx} {X : Cx} (h0 : G.hot = none) (h : G.Has X) (s : Shared) (H : Hp) (scope : Scope) (C : Addr) (cl : List (Str × Addr)) (fp : List Addr) : (G.blk scope).Has (X.blk s H scope (compEnvC scope cl C X.env) fp) :=
  ⟨h.prog, h.w, h.K, h.mg, h.base, h.N, by show L2.relS scope X.env.scope = L2.relS scope G.sc; rw [h.sc], h.nd, fun e => h.room (h0), h.un, fun e => h.calm h0, PassesOwn.never, takes0, rfl, (fun z => nomatch z), fun z e => by rw [show G.hot = none from h0] at e; cases e⟩
/-- a target of names of a block -/
def TgOk (G : Sx) (tg : Expr) (vs : List Nat) (T : Im → Ec → (Ec → Prop) → Prop) : Prop :=
  (∀ r Γ (Qd Qd' : Ec → Prop), (∀ Γ', Qd Γ' → Qd' Γ') → T r Γ Qd → T r Γ Qd') ∧ ∃ g : TG, (∀ X, G.Has X → PG X tg g) ∧ ∀ r Γ Qd A M F σ H v (Qv : L2.St → Hp → Prop), T r Γ Qd → StO G.kw A M F H → SlG G A F Γ σ → ImR G.kw A F r v →
    (∀ Γ' σ', Qd Γ' → SlG G A F Γ' σ' → L2.wipe σ' vs = L2.wipe σ vs → Qv σ' H) → g v σ H Qv
theorem tg_name {G : Sx} {i : Nat} {x : Str} {pos : Pos} {vs : List Nat} (hh : NoHot G i) (hi : G.N[i]? = some x) (hx : Loc G.sc x) (hf : G.fn x = true ∨ G.sc.names.lookup x = some .local) (hv : i ∈ vs) : TgOk G (.Name x pos) vs (fun r Γ Qd => Qd (Γ.set i (some r))) :=
  ⟨fun _ _ _ _ h q => h _ q, gName i, fun X hX => pg_name hX.nd (by rw [hX.N]; exact hi) (by rw [hX.sc]; exact hx) (by rw [hX.fn, hX.sc]; exact hf), fun r Γ Qd A M F σ H v Qv q S L rv hQ => hQ _ _ q (L.set rv i hh) (wipe_set hv)⟩
/-- a clause's tests -/
def EvTs (G : Sx) (tt : TT) (Γ : Ec) (M : Sto) (Q : Bool → Sto → Prop) : Prop :=
  ∀ A F σ H (Qv : Bool → Hp → Prop), StO G.kw A M F H → SlG G A F Γ σ → (∀ b M' A' F' H', Q b M' → StO G.kw A' M' F' H' → ALe A A' → Same F F' → Qv b H') → tt σ H Qv
abbrev NoX : QR := fun _ _ _ => False
theorem evts_nil {G : Sx} {Γ : Ec} {M : Sto} {Q : Bool → Sto → Prop} (h : Q true M) : EvTs G tYes Γ M Q := fun A F σ H Qv S L hQ => hQ true M A F H h S (ALe.refl _) (Same.refl _)
theorem evts_one {G : Sx} {c : Expr} {Γ : Ec} {M : Sto} {Q : Bool → Sto → Prop} (h : EvT G c Γ M Q NoX) : EvTs G (tST G c) Γ M Q := fun A F σ H Qv S L hQ => h A F σ H Qv S L hQ fun _ _ _ _ _ _ q => q.elim
def TurnsM (n : Nat) (J : Sto → Prop) : Sto → Prop := fun M => J M ∨ ∃ M' L, M = M' ++ L ∧ StoB M'.length M' ∧ n ≤ M'.length ∧ J M'
theorem TurnsM.land {K : KW} {n : Nat} {J : Sto → Prop} {M : Sto} {A : List Addr} {F H : Hp} (h : TurnsM n J M) (S : StO K A M F H) : ∃ M' A', J M' ∧ StO K A' M' F H ∧ ALn n A A' := by
  rcases h with h | ⟨M2, L, rfl, hb2, hn, q⟩
  · exact ⟨M, A, h, S, ALn.refl _ _⟩
  · exact ⟨M2, _, q, S.trim hb2, take_aln hn⟩
section
variable {G : Sx} {Γ : Ec} {M : Sto} {R : QR} {Q : QE} {elt tg iter : Expr} {ifs : List Expr} {scope : Scope} {pos : Pos} {own : List (Str × Nat)} {T : Im → Ec → (Ec → Prop) → Prop} {tt : TT}
/-- how a comprehension's list ends: as a cell, or as data -/
def LcEnd (M1 : Sto) (Q : QE) (M' : Sto) : Prop :=
  Q (.p M1.length) M' ∨ (∃ c x, M' = M1 ++ [c] ∧ c.dat = some x ∧ Q (.d x) M1) ∨ ∃ c x, M'[M1.length]? = some c ∧ c.dat = some x ∧ Q (.d x) (M'.set M1.length .dead)
theorem LcEnd.land {M1 M' : Sto} {A1 A' : List Addr} {F1 F' H1 H' : Hp} {D : Addr} {Qv : VK} (h : LcEnd M1 Q M') (S1 : StO G.kw A1 M1 F1 H1) (S' : StO G.kw A' M' F' H') (a' : ALe (A1 ++ [D]) A') (f' : Same F1 F') (hQ : Goes G A1 F1 Q Qv) : Qv (.ref D) H' := by
  have kD : (A1 ++ [D])[M1.length]? = some D := by rw [← S1.len]; simp
  have eD := a' _ _ kD
  have a1' : ALe A1 A' := (ALe.app _ _).trans a'
  rcases h with h | ⟨c, x, rfl, hx, q⟩ | ⟨c, x, hk, hx, q⟩
  · exact hQ _ M' A' F' H' _ h S' a1' f' ⟨D, eD, rfl⟩
  · obtain ⟨hF, o, hH, rs⟩ := S'.dat eD (c := c) (by simp) hx
    have S2 := S'.freeze eD hF hH
    rw [show (M1 ++ [c]).set M1.length .dead = M1 ++ [.dead] by rw [List.set_append_right _ _ (Nat.le_refl _)]; simp] at S2
    have S3 := S2.trim S1.bd
    exact hQ _ M1 _ _ _ _ q S3 (fun k a e => by
      rw [List.getElem?_take, if_pos (by rw [← S1.len]; exact (List.getElem?_eq_some_iff.mp e).1)]
      exact a1' k a e) (f'.trans (same_updF hF)) rs
  · obtain ⟨hF, o, hH, rs⟩ := S'.dat eD hk hx
    exact hQ _ _ A' _ _ _ q (S'.freeze eD hF hH) a1' (f'.trans (same_updF hF)) rs
theorem lc_core {g : TG} (h0 : G.hot = none) (hgd : ∀ r Γ Qd A M F σ H v (Qv : L2.St → Hp → Prop), T r Γ Qd → StO G.kw A M F H → SlG G A F Γ σ → ImR G.kw A F r v →
      (∀ Γ' σ', Qd Γ' → SlG G A F Γ' σ' → L2.wipe σ' (own.map (·.2)) = L2.wipe σ (own.map (·.2)) → Qv σ' H) → g v σ H Qv)
    (h : EvI G tg iter Γ M (fun xs ok M1 => ∃ J : Nat → Sto → Prop, J 0 (M1 ++ [.dl []]) ∧
      (∀ (i : Nat) x M', xs[i]? = some x → J i M' → ok M' ∧ T x (wipeE Γ (own.map (·.2))) (fun Γ2 => EvTs (G.blk scope) tt Γ2 M' (fun b M2 =>
        (b = true → EvX (G.blk scope) elt Γ2 M2 (fun y M3 => ∃ c acc, M3[M1.length]? = some c ∧ c.its = some acc ∧ acc.length < sizeLine ∧ TurnsM (M1.length + 1) (J (i + 1)) (M3.set M1.length (pushC c y))) NoX) ∧
        (b = false → TurnsM (M1.length + 1) (J (i + 1)) M2)))) ∧
      (∀ M', J xs.length M' → ok M' ∧ LcEnd M1 Q M')) R)
    {A : List Addr} {F : Hp} {σ : L2.St} {H : Hp} {Qv : VK} (S : StO G.kw A M F H) (L : SlG G A F Γ σ) (hQ : Goes G A F Q Qv) (hR : Flies G A F R σ) :
    tLc (iS G tg iter) g tt (tS (G.blk scope) elt) (own.map (·.2)) σ H Qv := by
  refine h A F σ H _ S L (fun K xs ok M1 A1 F1 H1 ⟨J, j0, step, fin⟩ S1 a1 f1 jk => ?_) hR
  intro D hD
  have SD := cell_lst S1 hD (c := .dl []) (vs := []) (xs := []) rfl .nil
  have aD : ALe A1 (A1 ++ [D]) := ALe.app _ _
  have kD : (A1 ++ [D])[M1.length]? = some D := by rw [← S1.len]; simp
  refine ⟨fun i m H' => m = xs.length - i ∧ i ≤ xs.length ∧ ∃ M' A' F', J i M' ∧ StO G.kw A' M' F' H' ∧ ALe (A1 ++ [D]) A' ∧ Same F1 F',
    ⟨xs.length, rfl, Nat.zero_le _, _, _, F1, j0, SD, ALe.refl _, Same.refl _⟩, ?_⟩
  rintro i m H' ⟨rfl, hi, M', A', F', ji, S', a', f'⟩
  by_cases hlt : i < xs.length
  · have hx : xs[i]? = some xs[i] := List.getElem?_eq_getElem hlt
    obtain ⟨okM, hg⟩ := step i _ M' hx ji
    obtain ⟨go, yl⟩ := (jk i M' A' F' H' S' (aD.trans a') f' okM).1 _ hx
    refine .inr ⟨go, fun H3 => xs.length - (i + 1) = xs.length - (i + 1) ∧ i + 1 ≤ xs.length ∧ ∃ M' A' F', J (i + 1) M' ∧ StO G.kw A' M' F' H3 ∧ ALe (A1 ++ [D]) A' ∧ Same F1 F', fun H3 q => ⟨xs.length - (i + 1), by omega, q⟩, fun v H'' hy => ?_⟩
    obtain ⟨F'', S'', f'', rv⟩ := yl v H'' hy
    refine hgd _ _ _ A' M' F'' _ H'' v _ hg S'' ((SlH.wipe h0 L _).mono ((a1.trans aD).trans a') (f1.trans (f'.trans f''))) rv fun Γ2 σ2 q L2' hw => ⟨by rw [hw, wipe_idem], ?_⟩
    have turn : ∀ {A3 : List Addr} {M3 : Sto} {F3 H3 : Hp}, TurnsM (M1.length + 1) (J (i + 1)) M3 → StO G.kw A3 M3 F3 H3 → ALe (A1 ++ [D]) A3 → Same F1 F3 →
        xs.length - (i + 1) = xs.length - (i + 1) ∧ i + 1 ≤ xs.length ∧ ∃ M' A' F', J (i + 1) M' ∧ StO G.kw A' M' F' H3 ∧ ALe (A1 ++ [D]) A' ∧ Same F1 F' := by
      intro A3 M3 F3 H3 tn S3 a3 f3
      obtain ⟨M4, A4, j4, S4, a4⟩ := tn.land S3
      exact ⟨rfl, hlt, M4, A4, F3, j4, S4, ale_of_n a3 a4 (by simp [S1.len]), f3⟩
    refine q A' F'' σ2 H'' _ S'' L2' fun b M2 A2 F2 H2 q2 S2 a2 f2 => ?_
    have a02 := a'.trans a2
    have f02 := (f'.trans f'').trans f2
    cases b with
    | false => exact iteF (turn (q2.2 rfl) S2 a02 f02)
    | true =>
      refine iteT (q2.1 rfl A2 F2 σ2 H2 _ S2 (L2'.mono a2 f2) (fun y M3 A3 F3 H3 yv q3 S3 a3 f3 ry => ?_) fun _ _ _ _ _ _ q => q.elim)
      obtain ⟨c, acc, hacc, hx, hz, tn⟩ := q3
      have k3 : A3[M1.length]? = some D := (a02.trans a3) _ _ kD
      obtain ⟨hF, vs, hH, rs⟩ := S3.lst k3 hacc hx
      refine ⟨vs, hH, by rw [← rs.len]; exact hz, turn tn (S3.write k3 hF (by unfold CelR; rw [Cel.its_gen (pushC_its hx y)]; exact ⟨hF, vs ++ [yv], upd_same, rs.app (.cons ry .nil)⟩)) (a02.trans a3) (f02.trans f3)⟩
  · have ei : i = xs.length := by omega
    subst ei
    obtain ⟨okM, p⟩ := fin M' ji
    exact .inl ⟨(jk _ M' A' F' H' S' (aD.trans a') f' okM).2 (Nat.le_refl _), p.land S1 S' a' f' (hQ.mono a1 f1)⟩
end
end DX

namespace DX
open PySem PySem.Spec PyProof.Rows L2

theorem getLast_app {M : Sto} {c : Cel} : (M ++ [c])[M.length]? = some c := by simp
theorem setLast_app {M : Sto} {c c' : Cel} : (M ++ [c]).set M.length c' = M ++ [c'] := by
  rw [List.set_append_right _ _ (Nat.le_refl _)]; simp
theorem filter_snoc {α : Type} {xs : List α} {p : α → Bool} {i : Nat} {x : α} (h : xs[i]? = some x) : (xs.take (i + 1)).filter p = (xs.take i).filter p ++ (if p x then [x] else []) := by
  rw [List.take_add_one, h, List.filter_append]
  by_cases e : p x = true <;> simp [e]
theorem EvTs.imp {G : Sx} {tt : TT} {Γ : Ec} {M : Sto} {Q Q' : Bool → Sto → Prop} (h : EvTs G tt Γ M Q) (hq : ∀ b M', Q b M' → Q' b M') : EvTs G tt Γ M Q' := fun A F σ H Qv S L hQ => h A F σ H Qv S L fun b M' A' F' H' q => hQ b M' A' F' H' (hq b M' q)
theorem celR_its {K : KW} {A : List Addr} {F H : Hp} {a : Addr} {c : Cel} {xs : List Im} (hx : c.its = some xs) (h : CelG K A F H a (.lst xs)) : CelR K A F H a c := by unfold CelR; rw [Cel.its_gen hx]; exact h
section
variable {G : Sx} {Γ : Ec} {M : Sto} {R : QR} {Q : QE} {P : Pst} {o e i : Expr} {pos apos cpos : Pos}
abbrev PlainB (o : Expr) (name : Str) : Prop := ∀ env, attributeBase o name env (eval o env) = eval o env
theorem ev_append (hb : PlainB o "append") (hs : PlainA e []) (hline : (apos.endLine == cpos.line) = true)
    (h : EvX G o Γ M (fun ro M1 => ∃ k c1 xs1, ro = .p k ∧ M1[k]? = some c1 ∧ c1.its = some xs1 ∧ EvX G e Γ M1 (fun re M2 => ∃ c xs, M2[k]? = some c ∧ c.its = some xs ∧ xs.length < sizeLine ∧ Q (.d .none) (M2.set k (pushC c re))) R) R) :
    EvX G (.Call (.Attribute o "append" apos) [e] [] cpos) Γ M Q R := by
  intro A F σ H Qv S L hQ hR
  refine tS_of (t := tBM G.K "list" rAppend (tS G o) (tCons (tS G e) tNil)) (fun X hX => by
    rw [← hX.K]
    exact pe_bm PySem.F.plainAttrs_list PySem.F.slot_list_append PySem.F.type_list_append mt_append (pe_S hX o) (pa_cons (pe_S hX e) pa_nil (hs _)) (hb _) (by rw [hs]; rfl) hline (hs _) rfl) ?_
  refine h A F σ H _ S L (fun ro M1 A1 F1 H1 v ⟨k, c1, xs1, e1, hk, hx1, h2⟩ S1 a1 f1 r1 => ?_) hR
  subst e1
  obtain ⟨a, ea, rfl⟩ := r1
  obtain ⟨hF, vs, hH, rs⟩ := S1.lst ea hk hx1
  refine ⟨.inl ⟨rfl, _, SqL.of hH⟩, ?_⟩
  refine h2 A1 F1 σ H1 _ S1 (L.mono a1 f1) (fun re M2 A2 F2 H2 w ⟨c, xs, hk2, hx, hz, q⟩ S2 a2 f2 r2 => ?_) (hR.mono a1 f1)
  obtain ⟨hF2, vs2, hH2, rs2⟩ := S2.lst (a2 k a ea) hk2 hx
  exact ⟨a, vs2, w, rfl, rfl, hH2, by rw [← rs2.len]; exact hz, hQ _ _ A2 F2 _ _ q (S2.write (a2 k a ea) hF2 (by unfold CelR; rw [Cel.its_gen (pushC_its hx re)]; exact ⟨hF2, vs2 ++ [w], upd_same, rs2.app (.cons r2 .nil)⟩)) (a1.trans a2) (f1.trans f2) Dv.non⟩
theorem ev_pop (hb : PlainB o "pop") (hline : (apos.endLine == cpos.line) = true)
    (h : EvX G o Γ M (fun ro M1 => ∃ k c xs x c', ro = .p k ∧ M1[k]? = some c ∧ c.its = some (xs ++ [x]) ∧ c'.its = some xs ∧ Q x (M1.set k c')) R) : EvX G (.Call (.Attribute o "pop" apos) [] [] cpos) Γ M Q R := by
  intro A F σ H Qv S L hQ hR
  refine tS_of (t := tBM0 G.K "list" rPop (tS G o)) (fun X hX => by
    rw [← hX.K]
    exact pe_bm0 PySem.F.plainAttrs_list PySem.F.slot_list_pop PySem.F.type_list_pop mt_pop (pe_S hX o) (hb _) hline) ?_
  refine h A F σ H _ S L (fun ro M1 A1 F1 H1 v ⟨k, c, xs, x, c', e1, hk, hx, hx', q⟩ S1 a1 f1 r1 => ?_) hR
  subst e1
  obtain ⟨a, ea, rfl⟩ := r1
  obtain ⟨hF, vs, hH, rs⟩ := S1.lst ea hk hx
  obtain ⟨y, hy, ry⟩ := paired_get rs (j := xs.length) (x := x) (by simp)
  have hl := rs.len
  simp at hl
  refine ⟨.inl ⟨rfl, _, SqL.of hH⟩, a, vs, y, rfl, rfl, hH, by rw [← hl]; simpa using hy, ?_⟩
  refine hQ _ _ A1 F1 _ _ q (S1.write ea hF (celR_its hx' ⟨hF, vs.dropLast, upd_same, ?_⟩)) a1 f1 ry
  have := rs.take xs.length
  rw [List.take_left] at this
  rw [List.dropLast_eq_take, ← hl]
  simpa using this
/-- o[i] = e -/
theorem x_setItem (ha : ∀ v env, assign (.Subscript o i pos) env v = (do
      let ov ← holding [v] (eval o env)
      let iv ← holding [v, ov] (eval i env)
      standAt pos
      holding [v, ov, iv] (setItem ov iv v)
      release [v, ov, iv] [])) (hs : ∀ env, swapsWithSole [.Subscript o i pos] e cpos.line env = pure false) (hw : ∀ env, swappedStores [.Subscript o i pos] e env = pure none) (h1 : ∀ env, (assignEach [.Subscript o i pos] env).map (·.2) = [assign (.Subscript o i pos) env])
    (h : EvX G e Γ M (fun re M1 => EvX G o Γ M1 (fun ro M2 => EvX G i Γ M2 (fun ri M3 => ∃ k c xs z j c', ro = .p k ∧ ri = .d (.int z) ∧ M3[k]? = some c ∧ c.its = some xs ∧ ixN xs.length z = some j ∧ c'.its = some (xs.set j re) ∧ P.nx Γ (M3.set k c')) (P.rx Γ)) (P.rx Γ)) (P.rx Γ)) :
    ExX G (.Assign [.Subscript o i pos] e cpos) Γ M P := by
  intro A F σ H D S L hn hD
  refine sS_of (fun X hX => ps_asg (pe_S hX e) (pg_sub (pe_S hX o) (pe_S hX i) set_list (fun v => ha v _)) (hs _) (hw _) (h1 _)) ?_
  refine h A F σ H _ S L (fun re M1 A1 F1 H1 v h2 S1 a1 f1 r1 => ?_) (hD.flies L)
  refine h2 A1 F1 σ H1 _ S1 (L.mono a1 f1) (fun ro M2 A2 F2 H2 w h3 S2 a2 f2 r2 => ?_) ((hD.flies L).mono a1 f1)
  refine h3 A2 F2 σ H2 _ S2 (L.mono (a1.trans a2) (f1.trans f2)) (fun ri M3 A3 F3 H3 z q S3 a3 f3 r3 => ?_) ((hD.flies L).mono (a1.trans a2) (f1.trans f2))
  obtain ⟨k, c, xs, zi, j, c', rfl, rfl, hk, hx, hj, hx', q⟩ := q
  obtain ⟨a, ea, rfl⟩ := r2
  cases r3
  obtain ⟨hF, vs, hH, rs⟩ := S3.lst (a3 k a ea) hk hx
  have aa := (a1.trans a2).trans a3
  have ff := (f1.trans f2).trans f3
  exact ⟨a, vs, zi, j, rfl, rfl, hH, by rw [← rs.len]; exact hj, hD.nx _ _ A3 F3 _ _ q (S3.write (a3 k a ea) hF (by unfold CelR; rw [Cel.its_gen hx']; exact ⟨hF, _, upd_same, rs.set (r1.mono (a2.trans a3) (f2.trans f3)) j⟩)) (L.mono aa ff) (aa.n _) ff⟩
def tyD : Dt → String
  | .none => "NoneType"
  | .bool _ => "bool"
  | .int _ => "int"
  | .str _ => "str"
  | .list _ => "list"
  | .tuple _ => "tuple"
  | .dict _ => "dict"
def notDic : Dt → Bool
  | .dict _ => false
  | _ => true
inductive TyI (M : Sto) : Im → String → Prop
  | d (x : Dt) (h : notDic x = true) : TyI M (.d x) (tyD x)
  | p {k : Nat} {c : Cel} {xs : List Im} (h : M[k]? = some c) (hx : c.its = some xs) : TyI M (.p k) "list"
theorem TyI.tyX {A : List Addr} {F H : Hp} {r : Im} {v : V} {T : String} (t : TyI M r T) (S : StO G.kw A M F H) (hv : ImR G.kw A F r v) : TyX G.K H v (.type T) := by
  cases t with
  | p h hx =>
    obtain ⟨a, ea, rfl⟩ := hv
    obtain ⟨_, vs, hH, _⟩ := S.lst ea h hx
    exact .base (.lst hH)
  | d x h =>
    cases x with
    | none => cases hv; exact .base .non
    | bool b => cases hv; exact .base (.bl _)
    | int b => cases hv; exact .base (.int _)
    | str b => cases hv; exact .base (.str _)
    | dict b => cases h
    | list ds =>
      cases hv with
      | lst hs ha =>
        rcases Same.seq S.sub hs with (h | ⟨o, h⟩) | ⟨o, its, n, h, hc, _⟩
        · exact .base (.lst h)
        · exact .base (.frz h)
        · exact .kList h hc
    | tuple ds =>
      cases hv with
      | tup hs ha =>
        rcases Same.seqT S.sub hs with (h | ⟨o, h⟩) | ⟨o, its, n, h, hc, _⟩
        · exact .base (.tup h)
        · exact .fTuple h
        · exact .kTuple h hc
theorem ev_isi {a : Expr} {T : Str} {Tn : String} {p2 p3 : Pos} (hm : G.mg "isinstance" = none) (hg : G.sc.names.lookup ("isinstance" : Str) = some .globalImplicit) (hmT : G.mg T = none) (hgT : G.sc.names.lookup T = some .globalImplicit) (hvT : bootBuiltins T = some (.type Tn))
    (hv : bootBuiltins ("isinstance" : Str) = some (.builtin "isinstance")) (hs : PlainA a [.Name T p3]) (hn : T ≠ "__name__") (hd : (T == ("__debug__" : Str)) = false)
    (h : EvX G a Γ M (fun r M1 => ∃ t b, TyI M1 r t ∧ kitB t Tn = some b ∧ Q (.d (.bool b)) M1) R) : EvX G (.Call (.Name "isinstance" p2) [a, .Name T p3] [] pos) Γ M Q R := by
  intro A F σ H Qv S L hQ hR
  refine tS_of (t := tCB (rIsi G.K) (tCons (tS G a) (tCons (tC (.ty Tn)) tNil))) (fun X hX => by
    rw [← hX.K]
    exact pe_callB call_isi (gl_of hX hg) (by rw [hX.mg]; exact hm) hv (pa_cons (pe_S hX a) (pa_cons (pe_bltn (gl_of hX hgT) (by rw [hX.mg]; exact hmT) hvT rfl hn hd) pa_nil) (hs _)) (by decide) (by decide) (hs _) rfl) ?_
  refine h A F σ H _ S L (fun r M1 A1 F1 H1 v ⟨t, b, ht, hk, q⟩ S1 a1 f1 r1 => ?_) hR
  exact ⟨v, .ty Tn, .type t, .type Tn, b, rfl, .ty _, ht.tyX S1 r1, kit_ty hk, hQ _ M1 A1 F1 H1 _ q S1 a1 f1 (Dv.bl _)⟩
end
end DX

namespace DX
open PySem PySem.Spec PyProof.Rows L2

def imsD : List Im → Option (List Dt)
  | [] => some []
  | .d x :: r => match imsD r with
    | some ds => some (x :: ds)
    | none => none
  | .p _ :: _ => none
def kvsD : List (Dt × Im) → Option (List (Dt × Dt))
  | [] => some []
  | (k, .d x) :: r => match kvsD r with
    | some ds => some ((k, x) :: ds)
    | none => none
  | (_, .p _) :: _ => none
theorem imsD_eq : ∀ {rs : List Im} {ds : List Dt}, imsD rs = some ds → rs = ds.map .d
  | [], ds, h => by cases h; rfl
  | .d x :: r, ds, h => by
    simp only [imsD] at h
    cases e : imsD r with
    | none => rw [e] at h; cases h
    | some ds' => rw [e] at h; cases h; rw [imsD_eq e]; rfl
  | .p _ :: _, ds, h => by cases h
theorem kvsD_eq : ∀ {rs : List (Dt × Im)} {ds : List (Dt × Dt)}, kvsD rs = some ds → rs = ds.map fun p => (p.1, .d p.2)
  | [], ds, h => by cases h; rfl
  | (k, .d x) :: r, ds, h => by
    simp only [kvsD] at h
    cases e : kvsD r with
    | none => rw [e] at h; cases h
    | some ds' => rw [e] at h; cases h; rw [kvsD_eq e]; rfl
  | (_, .p _) :: _, ds, h => by cases h
def lstC (xs : List Im) : Cel := match imsD xs with
  | some ds => .dl ds
  | none => .lst xs
def dctC (kvs : List (Dt × Im)) : Cel := match kvsD kvs with
  | some ds => .dd ds
  | none => .dct kvs
theorem lstC_gen (xs : List Im) : (lstC xs).gen = .lst xs := by
  unfold lstC
  split
  · rename_i ds e; rw [imsD_eq e]; rfl
  · rfl
theorem dctC_gen (kvs : List (Dt × Im)) : (dctC kvs).gen = .dct kvs := by
  unfold dctC
  split
  · rename_i ds e; rw [kvsD_eq e]; rfl
  · rfl
def fzC (k : Nat) (x : Dt) : Cel → Cel
  | .lst xs => lstC (xs.map (fzI k x))
  | .dct kvs => dctC (kvs.map fun p => (p.1, fzI k x p.2))
  | .ins C fs => .ins C (fs.map fun p => (p.1, fzI k x p.2))
  | c => c
def fzM (k : Nat) (x : Dt) (M : Sto) : Sto := (M.map (fzC k x)).set k .dead
theorem fzM_eq (k : Nat) (x : Dt) (M : Sto) : fzM k x M = (M.set k .dead).map (fzC k x) := by
  unfold fzM; rw [List.map_set]; rfl
section
variable {K : KW} {A : List Addr} {F H : Hp} {k : Nat} {a : Addr} {x : Dt} (ha : A[k]? = some a) (hx : Dv K F (.ref a) x)
include ha hx
theorem im_fz {r : Im} {v : V} (h : ImR K A F r v) : ImR K A F (fzI k x r) v := by
  cases r with
  | d y => exact h
  | p j =>
    obtain ⟨b, eb, rfl⟩ := h
    by_cases hj : j = k
    · subst hj
      rw [fzI_same]
      rw [ha] at eb; cases eb
      exact hx
    · rw [fzI_ne _ hj]; exact ⟨b, eb, rfl⟩
theorem ims_fz : ∀ {rs : List Im} {vs : List V}, ImsR K A F rs vs → ImsR K A F (rs.map (fzI k x)) vs := by
  intro rs vs h
  induction h with
  | nil => exact .nil
  | cons h t ih => exact .cons (im_fz ha hx h) ih
theorem dic_fz {b : Addr} {o : HO} {kvs : List (Dt × Im)} (h : DicR K F (ImR K A F) b o kvs) : DicR K F (ImR K A F) b o (kvs.map fun p => (p.1, fzI k x p.2)) := by
  rcases h with ⟨ws, e, p⟩ | ⟨ws, e, p⟩
  · refine .inl ⟨ws, e, ?_⟩
    clear e
    induction p with
    | nil => exact .nil
    | cons h t ih => exact .cons ⟨h.1, im_fz ha hx h.2⟩ ih
  · refine .inr ⟨ws, e, ?_⟩
    clear e
    induction p with
    | nil => exact .nil
    | cons h t ih => exact .cons ⟨h.1, h.2.1, h.2.2.1, im_fz ha hx h.2.2.2⟩ ih
theorem sto_fz {M : Sto} (S : StO K A M F H) : StO K A (M.map (fzC k x)) F H := by
  refine ⟨S.sub, by rw [List.length_map]; exact S.len, S.nd, S.there, fun j b c' e1 e2 => ?_, S.fr, S.fd, S.zf⟩
  rw [List.getElem?_map] at e2
  obtain ⟨c, ec, rfl⟩ := Option.map_eq_some_iff.mp e2
  have h := S.cel j b c e1 ec
  cases c with
  | lst xs =>
    obtain ⟨h1, vs, h2, h3⟩ := h
    unfold fzC CelR
    rw [lstC_gen]
    exact ⟨h1, vs, h2, ims_fz ha hx h3⟩
  | dct kvs =>
    obtain ⟨h1, o, h2, h3⟩ := h
    unfold fzC CelR
    rw [dctC_gen]
    exact ⟨h1, o, h2, dic_fz ha hx h3⟩
  | ins C fs =>
    obtain ⟨h1, dx, ws, h2, h3⟩ := h
    refine ⟨h1, dx, ws, h2, ?_⟩
    clear h2 ec e2
    induction h3 with
    | nil => exact .nil
    | cons h t ih => exact .cons ⟨h.1, im_fz ha hx h.2⟩ ih
  | _ => exact h
end
section
variable {G : Sx} {Γ : Ec} {M : Sto} {sts : List Stmt} {P : Pst}
theorem xs_fzMl (k : Nat) {ds : List Dt} (hk : M[k]? = some (.dl ds)) (h : ExS G sts (fzE k (.list ds) Γ) (fzM k (.list ds) M) P) : ExS G sts Γ M P := fun A F σ H D S L hn hD => by
  obtain ⟨a, o, ha, hF, hH, L'⟩ := sl_fz S L hk (x := .list ds) rfl
  obtain ⟨hF', o', hH', dv⟩ := S.dat ha hk (x := .list ds) rfl
  rw [hH] at hH'; cases hH'
  refine h A _ σ H D ?_ L' (by simpa [fzM] using hn) (hD.mono (ALn.refl _ _) (same_updF hF))
  rw [fzM_eq]
  exact sto_fz ha dv (S.freeze ha hF hH)
theorem xs_fzMd (k : Nat) {kvs : List (Dt × Dt)} (hk : M[k]? = some (.dd kvs)) (h : ExS G sts (fzE k (.dict kvs) Γ) (fzM k (.dict kvs) M) P) : ExS G sts Γ M P := fun A F σ H D S L hn hD X hX pins s I => by
  have hl : k < A.length := by rw [S.len]; exact (List.getElem?_eq_some_iff.mp hk).1
  have ha : A[k]? = some A[k] := List.getElem?_eq_getElem hl
  obtain ⟨hF, u, hH, mu, hd⟩ := S.dic ha hk
  obtain ⟨o, I2⟩ := I.lock hH mu
  refine h A _ σ _ D ?_ (sl_fzd L ha (same_updF hF) (hd o).1) (by simpa [fzM] using hn) (hD.mono (ALn.refl _ _) (same_updF hF)) X hX pins s I2
  rw [fzM_eq]
  exact sto_fz ha (hd o).1 (hd o).2
/-- several cells, one behind the other -/
def fzW : List Nat → Ec → Sto → (Ec → Sto → Prop) → Prop
  | [], Γ, M, K => K Γ M
  | k :: ks, Γ, M, K => match M[k]? with
    | some (.dl ds) => fzW ks (fzE k (.list ds) Γ) (fzM k (.list ds) M) K
    | some (.dd kvs) => fzW ks (fzE k (.dict kvs) Γ) (fzM k (.dict kvs) M) K
    | _ => False
theorem xs_fzW : ∀ (ks : List Nat) {Γ : Ec} {M : Sto}, fzW ks Γ M (fun Γ' M' => ExS G sts Γ' M' P) → ExS G sts Γ M P
  | [], _, _, h => h
  | k :: ks, Γ, M, h => by
    unfold fzW at h
    split at h
    · exact xs_fzMl k (by assumption) (xs_fzW ks h)
    · exact xs_fzMd k (by assumption) (xs_fzW ks h)
    · exact h.elim
theorem fzW_imp {K K' : Ec → Sto → Prop} (hk : ∀ Γ M, K Γ M → K' Γ M) : ∀ (ks : List Nat) {Γ : Ec} {M : Sto}, fzW ks Γ M K → fzW ks Γ M K'
  | [], _, _, h => hk _ _ h
  | k :: ks, Γ, M, h => by
    unfold fzW at h ⊢
    split
    · rename_i e; rw [e] at h; exact fzW_imp hk ks h
    · rename_i e; rw [e] at h; exact fzW_imp hk ks h
    · rename_i h1 h2
      split at h
      · exact h1 _ (by assumption)
      · exact h2 _ (by assumption)
      · exact h
end
end DX

namespace DX
open PySem PySem.Spec PyProof.Rows L2

/-- what is raised, by its class's name -/
abbrev RX := Str → List (Str × Dt) → Sto → Prop
structure Ps where
  rt : Im → Sto → Prop
  bk : Ec → Sto → Prop := fun _ _ => False
  ct : Ec → Sto → Prop := fun _ _ => False
  ex : Str → List (Str × Dt) → Ec → Sto → Prop := fun _ _ _ _ => False
abbrev Ps.rx (P : Ps) (Γ : Ec) : RX := fun C fs M => P.ex C fs Γ M
/-- a def's promise: over data alone, or over the store -/
inductive FnSp where
  | pure (S : List Dt → (Dt → Prop) → (Str → List (Str × Dt) → Prop) → Prop)
  | gen (S : List Im → Sto → QE → RX → Prop)
structure FnE where
  name : Str
  sp : FnSp
  df : List Dt
/-- a class of exceptions: the names of what isinstance says yes to, and no to; its attributes -/
structure Xc where
  name : Str
  sup : List Str
  non : List Str
  fl : List Str := []
structure Ev where
  fs : List FnE
  cs : List (Str × Dt) := []
  xs : List Xc := []
  hot : Option (Str × List (Str × Dt)) := none
/-- x is a class under c -/
def Ev.isx (V : Ev) (x c : Str) : Option Bool := match V.xs.find? fun y => decide (y.name = x) with
  | some y => if y.sup.contains c then some true else if y.non.contains c then some false else none
  | none => none
inductive Bo where
  | add | sub | mul | fdiv | mod | pow
inductive Co where
  | eq | ne | lt | le | gt | ge | isIn | notIn
inductive Bi where
  | len | int | list | tuple | isi (T : String)
/-- builtins of data -/
inductive Bf where
  | ord | chr | abs | all | any | sum | min | max | str
inductive N where
  | slot (i : Nat) | int (i : Int) | bool (b : Bool) | non | str (s : Str) | glob (j : Nat)
  | bin (op : Bo) (own : Bool) (a b : N) | neg (a : N) | not (a : N)
  | cmp (op : Co) (a b : N) | isN (a : N) | isNN (a : N)
  | and (a b : N) | or (a b : N) | ife (c a b : N)
  | call (j : Nat) (as : N) | bi (f : Bi) (own : Bool) (as : N)
  | lst (own : Bool) (as : N) | tup (as : N) | ix (a i : N) | slc (own : Bool) (a lo hi : N)
  | lcp (own : Bool) (elt tg it cond : N) (vs : List (Str × Nat)) | lc (own : Bool) (elt tg it cond : N) (vs : List (Str × Nat))
  | app (o e : N) | pop (o : N) | ext (o e : N)
  | cm (own dict : Bool) (tg it cond body : N) (vs : List (Str × Nat)) | cfor (tg it cond body : N) (vs : List Nat) | yl (a : N) | yd (k v : N)
  | dnew | dcp (own : Bool) (a : N) | ddisp (own : Bool) (as : N) | dget (o k : N) | dget2 (o k x : N) | dsetd (o k x : N)
  | chain (op op' : Co) (a b c : N) | eqd (ne : Bool) (a b : N) | mink (mx : Bool) (j : Nat) (a : N) | bf (f : Bf) (as : N) | sortk (own : Bool) (j : Nat) (a : N) | sort (own : Bool) (a : N)
  | nil | cons (a r : N)
  | walk (a : N) | range (a : N) | range2 (a b : N) | range3 (a b c : N) | rev (a : N) | items (a : N) | vals (a : N)
  | tslot (i : Nat) | ttup (k : Nat) (ts : N) | tlst (k : Nat) (ts : N) | tix (o i : N)
  | set (i : Nat) (e : N) | aug (i : Nat) (e : N) | asg (t e : N) | expr (e : N) | ret (e : N) | retN | pas | brk | cont
  | ite (c t f : N) | for_ (tg it body : N) | while_ (c body : N)
  | abs | raise (c : Str) | try_ (b : N) (c : Str) (i : Option Nat) (u : N) | isE (c : Str) | efld (f : Str)
  | fz (i : Nat) | fzl | drop (is : List Nat) | trim (n : Nat) | join (a : N)
def N.tl : N → N
  | .cons _ r => r
  | n => n
def N.hd : N → N
  | .cons a _ => a
  | n => n
abbrev WE := Ec → Sto → QE → RX → Prop
abbrev WT := Ec → Sto → (Bool → Sto → Prop) → RX → Prop
abbrev WA := Ec → Sto → (List Im → Sto → Prop) → RX → Prop
abbrev WO := Ec → Sto → (Option Int → Sto → Prop) → RX → Prop
abbrev WI := Ec → Sto → (List Im → (Sto → Prop) → Sto → Prop) → RX → Prop
abbrev WG := Im → Ec → Sto → (Ec → Sto → Prop) → RX → Prop
abbrev WGs := List Im → Ec → Sto → (Ec → Sto → Prop) → RX → Prop
abbrev WS := Nat → Ec → Sto → (Ec → Sto → Prop) → Ps → Prop
structure Mn where
  e : WE := fun _ _ _ _ => False
  t : WT := fun _ _ _ _ => False
  a : WA := fun _ _ _ _ => False
  o : WO := fun _ _ _ _ => False
  i : WI := fun _ _ _ _ => False
  g : WG := fun _ _ _ _ _ => False
  gs : WGs := fun _ _ _ _ _ => False
  s : WS := fun _ _ _ _ _ => False

def keyB (a b : Dt) : Bool := match nkD a, nkD b with
  | some x, some y => NestedKey.beq x y
  | _, _ => false
def atomK : Dt → Bool
  | .int _ => true
  | .str _ => true
  | _ => false
def tupK (d : Dt) : Bool := match d with
  | .tuple _ => match nkD d with
    | some k => decide (k.depth ≤ 8)
    | none => false
  | _ => false
def dGet {α : Type} (kvs : List (Dt × α)) (k : Dt) : Option α := (kvs.find? fun p => keyB p.1 k).map (·.2)
def dPut {α : Type} (kvs : List (Dt × α)) (k : Dt) (v : α) : List (Dt × α) := if (dGet kvs k).isSome then kvs.map (fun p => if keyB p.1 k then (p.1, v) else p) else kvs ++ [(k, v)]
def dDel {α : Type} (kvs : List (Dt × α)) (k : Dt) : List (Dt × α) := kvs.filter fun p => !keyB p.1 k
/-- the key is of the kind of the keys -/
def kindOk {α : Type} (kvs : List (Dt × α)) (k : Dt) : Bool := (atomK k && kvs.all fun p => atomK p.1) || (tupK k && kvs.all fun p => tupK p.1)
def Cel.kvs : Cel → Option (List (Dt × Im))
  | .dd kvs => some (kvs.map fun p => (p.1, .d p.2))
  | .dct kvs => some kvs
  | _ => none
/-- a dict's pairs -/
def dicI (M : Sto) : Im → Option (List (Dt × Im))
  | .d (.dict kvs) => some (kvs.map fun p => (p.1, .d p.2))
  | .d _ => none
  | .p k => match M[k]? with
    | some c => c.kvs
    | _ => none
/-- a list's items as data -/
def asLD (M : Sto) : Im → Option (List Dt)
  | .d (.list ds) => some ds
  | .d _ => none
  | .p k => match M[k]? with
    | some (.dl ds) => some ds
    | _ => none
def asLI (M : Sto) : Im → Option (List Im)
  | .d (.list ds) => some (ds.map .d)
  | .d _ => none
  | .p k => match M[k]? with
    | some c => c.its
    | _ => none
/-- data, those of a cell too -/
def asD (M : Sto) : Im → Option Dt
  | .d x => some x
  | .p k => match M[k]? with
    | some c => c.dat
    | _ => none
/-- a new list -/
def outL (own : Bool) (ds : List Dt) (M : Sto) (Q : QE) : Prop := match own with
  | true => Q (.p M.length) (M ++ [.dl ds])
  | false => Q (.d (.list ds)) M
def addW (own : Bool) (ra rb : Im) (M : Sto) (Q : QE) : Prop := match ra, rb with
  | .d (.int i), .d (.int j) => Q (.d (.int (i + j))) M
  | .d (.str x), .d (.str y) => x.length + y.length ≤ sizeLine ∧ Q (.d (.str (x ++ y))) M
  | .d (.tuple x), .d (.tuple y) => x.length + y.length ≤ sizeLine ∧ Q (.d (.tuple (x ++ y))) M
  | ra, rb => match asLD M ra, asLD M rb with
    | some x, some y => x.length + y.length ≤ sizeLine ∧ outL own (x ++ y) M Q
    | _, _ => match own, asLI M ra, asLI M rb with
      | true, some x, some y => x.length + y.length ≤ sizeLine ∧ Q (.p M.length) (M ++ [.lst (x ++ y)])
      | _, _, _ => False
def binW (op : Bo) (own : Bool) (ra rb : Im) (M : Sto) (Q : QE) : Prop := match op with
  | .add => addW own ra rb M Q
  | .sub => match ra, rb with
    | .d (.int i), .d (.int j) => Q (.d (.int (i - j))) M
    | _, _ => False
  | .mul => match ra, rb with
    | .d (.int i), .d (.int j) => CMulX i j ∧ Q (.d (.int (i * j))) M
    | .d (.tuple xs), .d (.int k) => (xs ≠ [] ∧ 2 ≤ k ∧ k ≤ 1000 ∧ xs.length ≤ 1000) ∧ Q (.d (.tuple (List.replicate k.toNat xs).flatten)) M
    | _, _ => False
  | .fdiv => match ra, rb with
    | .d (.int i), .d (.int j) => CDivW i j ∧ Q (.d (.int (i / j))) M
    | _, _ => False
  | .mod => match ra, rb with
    | .d (.int i), .d (.int j) => 0 < j ∧ Q (.d (.int (i % j))) M
    | _, _ => False
  | .pow => match ra, rb with
    | .d (.int i), .d (.int j) => CPow i j ∧ Q (.d (.int (i ^ j.toNat))) M
    | _, _ => False
/-- data without dicts, not too deep -/
def good (x : Dt) : Bool := x.plain && decide (x.depth ≤ 100)
def ltOk (x y : Dt) : Bool := PySem.W.alike x y && good x && !(match x with
  | .none => true
  | _ => false)
/-- x == y -/
def eqW (x y : Dt) (K : Bool → Prop) : Prop := match x, y with
  | .int i, .int j => K (decide (i = j))
  | .str a, .str b => K (decide (a = b))
  | x, y => good x = true ∧ good y = true ∧ K (PyData.eqv x y)
/-- x < y -/
def ltW (x y : Dt) (K : Bool → Prop) : Prop := match x, y with
  | .int i, .int j => K (decide (i < j))
  | x, y => ltOk x y = true ∧ K (PySem.W.dataLt x y)
def leW (x y : Dt) (K : Bool → Prop) : Prop := match x, y with
  | .int i, .int j => K (decide (i ≤ j))
  | x, y => ltOk x y = true ∧ K (!PySem.W.dataLt y x)
def gtW (x y : Dt) (K : Bool → Prop) : Prop := match x, y with
  | .int i, .int j => K (decide (j < i))
  | x, y => ltOk x y = true ∧ K (PySem.W.dataLt y x)
def geW (x y : Dt) (K : Bool → Prop) : Prop := match x, y with
  | .int i, .int j => K (decide (j ≤ i))
  | x, y => ltOk x y = true ∧ K (!PySem.W.dataLt x y)
def inW (x y : Dt) (K : Bool → Prop) : Prop := match y with
  | .list ds => good x = true ∧ good (.list ds) = true ∧ K (ds.any fun y => PyData.eqv y x)
  | .tuple ds => good x = true ∧ good (.list ds) = true ∧ K (ds.any fun y => PyData.eqv y x)
  | .str z => match x with
    | .str s => s.length = 1 ∧ K (decide (s.cps.getD 0 0 ∈ z.cps.toList))
    | _ => False
  | _ => False
/-- a key in a dict -/
def dinW (ra : Im) (kvs : List (Dt × Im)) (K : Bool → Prop) : Prop := match ra with
  | .d key => kindOk kvs key = true ∧ K (dGet kvs key).isSome
  | _ => False
def cmpW0 (op : Co) (ra rb : Im) (M : Sto) (Q : Bool → Sto → Prop) : Prop := match asD M ra, asD M rb with
  | some x, some y => match op with
    | .eq => eqW x y fun b => Q b M
    | .ne => eqW x y fun b => Q (!b) M
    | .lt => ltW x y fun b => Q b M
    | .le => leW x y fun b => Q b M
    | .gt => gtW x y fun b => Q b M
    | .ge => geW x y fun b => Q b M
    | .isIn => inW x y fun b => Q b M
    | .notIn => inW x y fun b => Q (!b) M
  | _, _ => False
def cmpW (op : Co) (ra rb : Im) (M : Sto) (Q : Bool → Sto → Prop) : Prop := match op with
  | .isIn => match dicI M rb with
    | some kvs => dinW ra kvs fun b => Q b M
    | none => cmpW0 .isIn ra rb M Q
  | .notIn => match dicI M rb with
    | some kvs => dinW ra kvs fun b => Q (!b) M
    | none => cmpW0 .notIn ra rb M Q
  | op => cmpW0 op ra rb M Q
def lenD (x : Dt) (K : Nat → Prop) : Prop := match x with
  | .list ds => K ds.length
  | .tuple ds => K ds.length
  | .str s => s.length ≤ sizeLine ∧ K s.length
  | _ => False
def lenW0 (r : Im) (M : Sto) (K : Nat → Prop) : Prop := match r with
  | .d x => lenD x K
  | .p k => match M[k]? with
    | some (.dl ds) => K ds.length
    | some (.lst xs) => K xs.length
    | _ => False
def truD (x : Dt) (K : Bool → Prop) : Prop := match x with
  | .bool b => K b
  | .int i => K (i != 0)
  | .none => K false
  | .str s => s.length ≤ sizeLine ∧ K ((s.length : Int) != 0)
  | .list ds => K (!ds.isEmpty)
  | .tuple ds => K (!ds.isEmpty)
  | _ => False
def truW0 (r : Im) (M : Sto) (K : Bool → Prop) : Prop := match r with
  | .d x => truD x K
  | .p k => match M[k]? with
    | some (.dl ds) => K (!ds.isEmpty)
    | some (.lst xs) => K (!xs.isEmpty)
    | _ => False
def lenW (r : Im) (M : Sto) (K : Nat → Prop) : Prop := match dicI M r with
  | some kvs => K kvs.length
  | none => lenW0 r M K
def truW (r : Im) (M : Sto) (K : Bool → Prop) : Prop := match dicI M r with
  | some kvs => K (!kvs.isEmpty)
  | none => truW0 r M K
def tyW (r : Im) (M : Sto) : Option String := match r with
  | .d x => if notDic x then some (tyD x) else none
  | .p k => match M[k]? with
    | some (.dl _) => some "list"
    | some (.lst _) => some "list"
    | _ => none
/-- dict(d), keys ints or texts: as a cell, or locked as data -/
def dcpW (own : Bool) (r : Im) (M : Sto) (Q : QE) : Prop := match dicI M r with
  | some kvs => (kvs.all fun p => atomK p.1) = true ∧ (match own with
    | true => Q (.p M.length) (M ++ [dctC kvs])
    | false => match kvsD kvs with
      | some ds => Q (.d (.dict ds)) M
      | none => False)
  | none => False
/-- pairs told one behind the other -/
def unfl : List Im → Option (List (Dt × Im))
  | [] => some []
  | .d k :: v :: r => match unfl r with
    | some kvs => some ((k, v) :: kvs)
    | none => none
  | _ => none
def putI (kvs : List (Dt × Im)) : List (Dt × Im) := kvs.foldl (fun d p => dPut d p.1 p.2) []
def dispW (own : Bool) (k : Nat) (rs : List Im) (M : Sto) (Q : QE) : Prop := match unfl rs with
  | some kvs => ((kvs.all fun p => atomK p.1) && Nat.ble kvs.length 15) = true ∧ (match M[k]? with
    | some (.dd []) => (match own with
      | true => Q (.p k) (M.set k (dctC (putI kvs)))
      | false => match kvsD (putI kvs) with
        | some ds => Q (.d (.dict ds)) (M.set k .dead)
        | none => False)
    | _ => False)
  | none => False
def biW (f : Bi) (own : Bool) (rs : List Im) (M : Sto) (Q : QE) : Prop := match rs with
  | [r] => match f with
    | .len => lenW r M fun n => Q (.d (.int n)) M
    | .int => match r with
      | .d (.int i) => Q (.d (.int i)) M
      | .d (.bool b) => Q (.d (.int (if b then 1 else 0))) M
      | _ => False
    | .list => match r with
      | .d (.tuple ds) => outL own ds M Q
      | r => match asLD M r with
        | some ds => outL own ds M Q
        | none => match dicI M r with
          | some kvs => outL own (kvs.map fun p : Dt × Im => p.1) M Q
          | none => match own, asLI M r with
            | true, some xs => Q (.p M.length) (M ++ [.lst xs])
            | _, _ => False
    | .tuple => match r with
      | .d (.tuple ds) => Q (.d (.tuple ds)) M
      | r => match asLD M r with
        | some ds => Q (.d (.tuple ds)) M
        | none => False
    | .isi T => match tyW r M with
      | some t => match kitB t T with
        | some b => Q (.d (.bool b)) M
        | none => False
      | none => False
  | _ => False
/-- data whose truth is plain -/
def trOk (x : Dt) : Bool := match x with
  | .none => true
  | .bool _ => true
  | .int _ => true
  | .str s => decide (s.length ≤ sizeLine)
  | _ => false
def trOks : List Dt → Bool
  | [] => true
  | x :: r => trOk x && trOks r
/-- what is walked, as a list of data -/
def srcL (M : Sto) (r : Im) : Option (List Dt) := match asLD M r with
  | some ds => some ds
  | none => match dicI M r with
    | some kvs => some (kvs.map (·.1))
    | none => none
def bfW (f : Bf) (ds : List Dt) (K : Dt → Prop) : Prop := match f, ds with
  | .ord, [.str x] => x.length = 1 ∧ K (.int (x.cps.getD 0 0 : Nat))
  | .chr, [.int i] => 0 ≤ i ∧ i ≤ 1114111 ∧ K (.str ⟨#[i.toNat]⟩)
  | .abs, [.int i] => K (.int (if i < 0 then -i else i))
  | .all, [.list xs] => trOks xs = true ∧ K (.bool (xs.all PyData.truthy))
  | .all, [.tuple xs] => trOks xs = true ∧ K (.bool (xs.all PyData.truthy))
  | .any, [.list xs] => trOks xs = true ∧ K (.bool (xs.any PyData.truthy))
  | .any, [.tuple xs] => trOks xs = true ∧ K (.bool (xs.any PyData.truthy))
  | .sum, [.list xs] => ∃ ns : List Int, xs = ns.map .int ∧ K (.int ns.sum)
  | .min, [.list xs] => ∃ ns : List Int, xs = ns.map .int ∧ 0 < ns.length ∧ ∀ m, m ∈ ns → (∀ y, y ∈ ns → m ≤ y) → K (.int m)
  | .max, [.list xs] => ∃ ns : List Int, xs = ns.map .int ∧ 0 < ns.length ∧ ∀ m, m ∈ ns → (∀ y, y ∈ ns → y ≤ m) → K (.int m)
  | .min, [.int i, .int j] => K (.int (if j < i then j else i))
  | .max, [.int i, .int j] => K (.int (if j > i then j else i))
  | .str, [.int i] => i.natAbs.log2 < 1920 ∧ K (.str (toString i))
  | .str, [.str s] => K (.str s)
  | _, _ => False
/-- keys that can be sorted -/
def sortOk (ks : List Dt) : Prop := PySem.W.AllAlike ks ∧ PySem.W.Sortable ks ∧ ∀ d ∈ ks, d.depth ≤ 100
def sortW (own : Bool) (sp : FnSp) (df : List Dt) (r : Im) (M : Sto) (Q : QE) : Prop := match srcL M r, sp, df with
  | some ds, .pure S, [] => ∃ kf : Dt → Dt, (∀ d ∈ ds, S [d] (fun y => y = kf d) (fun _ _ => False)) ∧ sortOk (ds.map kf) ∧ outL own (ds.mergeSort (PySem.W.dataLe false kf)) M Q
  | _, _, _ => False
/-- n ints from lo by steps of d -/
def stepL (lo d : Int) (n : Nat) : List Im := (List.range n).map fun (i : Nat) => Im.d (.int (lo + (i : Int) * d))
/-- the items as data, where all are -/
def allDt : List Im → Option (List Dt)
  | [] => some []
  | .d x :: r => match allDt r with
    | some ds => some (x :: ds)
    | none => none
  | .p _ :: _ => none
def argDt (M : Sto) : List Im → Option (List Dt)
  | [] => some []
  | r :: rs => match asD M r, argDt M rs with
    | some x, some ds => some (x :: ds)
    | _, _ => none
def noPtr : List Im → Bool
  | [] => true
  | .d _ :: r => noPtr r
  | .p _ :: _ => false
/-- data that stand by themselves -/
def scalar : Dt → Bool
  | .none => true
  | .bool _ => true
  | .int _ => true
  | .str _ => true
  | _ => false
def callW (S : FnSp) (rs : List Im) (M : Sto) (Q : QE) (R : RX) : Prop := match S with
  | .gen S => S rs M Q R
  | .pure S => match argDt M rs with
    | some ds => match noPtr rs with
      | true => S ds (fun x => Q (.d x) M) fun C fs => R C fs M
      | false => S ds (fun x => scalar x = true ∧ Q (.d x) M) fun C fs => fs = [] ∧ R C [] M
    | none => False
def lstW (own : Bool) (rs : List Im) (M : Sto) (Q : QE) : Prop := rs.length ≤ sizeLine ∧ match allDt rs with
  | some ds => outL own ds M Q
  | none => match own with
    | true => Q (.p M.length) (M ++ [.lst rs])
    | false => False
def atD {α : Type} (ds : List α) (z : Int) : Option α := (ixN ds.length z).bind fun j => ds[j]?
def ixD (x : Dt) (rb : Im) (K : Dt → Prop) : Prop := match x, rb with
  | .list ds, .d (.int z) => match atD ds z with
    | some x => K x
    | none => False
  | .tuple ds, .d (.int z) => match atD ds z with
    | some x => K x
    | none => False
  | .str s, .d (.int z) => s.length ≤ sizeLine ∧ match atD s.cps.toList z with
    | some c => K (.str ⟨#[c]⟩)
    | none => False
  | _, _ => False
def ixW0 (ra rb : Im) (M : Sto) (Q : QE) : Prop := match ra with
  | .d x => ixD x rb fun y => Q (.d y) M
  | .p k => match M[k]?, rb with
    | some (.dl ds), .d (.int z) => match atD ds z with
      | some x => Q (.d x) M
      | none => False
    | some (.lst xs), .d (.int z) => match atD xs z with
      | some x => Q x M
      | none => False
    | _, _ => False
/-- what d[key] is -/
def dixW (kvs : List (Dt × Im)) (rb : Im) (K : Im → Prop) : Prop := match rb with
  | .d key => kindOk kvs key = true ∧ match dGet kvs key with
    | some r => K r
    | none => False
  | _ => False
def ixW (ra rb : Im) (M : Sto) (Q : QE) : Prop := match dicI M ra with
  | some kvs => dixW kvs rb fun r => Q r M
  | none => ixW0 ra rb M Q
def slcW (own : Bool) (r : Im) (lo hi : Option Int) (M : Sto) (Q : QE) : Prop := match r with
  | .d (.str z) => z.length ≤ sizeLine ∧ Q (.d (.str (cutS z lo hi))) M
  | .d (.tuple ds) => Q (.d (.tuple (cutL ds lo hi))) M
  | r => match asLD M r with
    | some ds => outL own (cutL ds lo hi) M Q
    | none => False
/-- an item more for the k-th cell -/
def pushW (k : Nat) (y : Im) (M : Sto) (K : Sto → Prop) : Prop := match M[k]? with
  | some (.dl ds) => ds.length < sizeLine ∧ K (M.set k (pushC (.dl ds) y))
  | some (.lst xs) => xs.length < sizeLine ∧ K (M.set k (pushC (.lst xs) y))
  | _ => False
/-- a list grows by another's items -/
def extW (k : Nat) (r : Im) (M : Sto) (K : Sto → Prop) : Prop := match M[k]? with
  | some (.dl ds) => match asLD M r with
    | some es => ds.length + es.length ≤ sizeLine ∧ K (M.set k (.dl (ds ++ es)))
    | none => match asLI M r with
      | some ys => ds.length + ys.length ≤ sizeLine ∧ K (M.set k (.lst (ds.map .d ++ ys)))
      | none => False
  | some (.lst xs) => match asLI M r with
    | some ys => xs.length + ys.length ≤ sizeLine ∧ K (M.set k (.lst (xs ++ ys)))
    | none => False
  | _ => False
/-- xs without its last item, and this -/
def lastOf {α : Type} : List α → Option (List α × α)
  | [] => none
  | x :: r => match lastOf r with
    | none => some ([], x)
    | some (i, y) => some (x :: i, y)
def popW (k : Nat) (M : Sto) (Q : QE) : Prop := match M[k]? with
  | some (.dl ds) => ∃ i x, ds = i ++ [x] ∧ Q (.d x) (M.set k (.dl i))
  | some (.lst xs) => ∃ i x, xs = i ++ [x] ∧ Q x (M.set k (.lst i))
  | _ => False
def setW0 (ro ri re : Im) (M : Sto) (K : Sto → Prop) : Prop := match ro, ri with
  | .p k, .d (.int z) => match M[k]?, re with
    | some (.dl ds), .d x => match ixN ds.length z with
      | some j => K (M.set k (.dl (ds.set j x)))
      | none => False
    | some (.lst xs), r => match ixN xs.length z with
      | some j => K (M.set k (.lst (xs.set j r)))
      | none => False
    | _, _ => False
  | _, _ => False
/-- d[key] = r -/
def setC (c : Cel) (key : Dt) (r : Im) : Cel := match c, r with
  | .dd kvs, .d x => .dd (dPut kvs key x)
  | .dd kvs, r => .dct (dPut (kvs.map fun p => (p.1, Im.d p.2)) key r)
  | .dct kvs, r => .dct (dPut kvs key r)
  | c, _ => c
def dsetW (k : Nat) (key : Dt) (r : Im) (M : Sto) (K : Sto → Prop) : Prop := match M[k]? with
  | some c => match c.kvs with
    | some kvs => kindOk kvs key = true ∧ kvs.length < sizeLine ∧ K (M.set k (setC c key r))
    | none => False
  | none => False
def setW (ro ri re : Im) (M : Sto) (K : Sto → Prop) : Prop := match dicI M ro with
  | some _ => match ro, ri with
    | .p k, .d key => dsetW k key re M K
    | _, _ => False
  | none => setW0 ro ri re M K
/-- d.get(k), d.get(k, x), d.setdefault(k, x) -/
def dgetW (ro rk rx : Im) (M : Sto) (Q : QE) : Prop := match dicI M ro with
  | some kvs => match rk with
    | .d key => kindOk kvs key = true ∧ match dGet kvs key with
      | some r => Q r M
      | none => Q rx M
    | _ => False
  | none => False
def dsetdW (ro rk rx : Im) (M : Sto) (Q : QE) : Prop := match dicI M ro with
  | some kvs => match ro, rk with
    | .p k, .d key => kindOk kvs key = true ∧ kvs.length < sizeLine ∧ match dGet kvs key with
      | some r => Q r M
      | none => dsetW k key rx M fun M' => Q rx M'
    | _, _ => False
  | none => False
def isDic (M : Sto) (r : Im) (K : Prop) : Prop := match dicI M r with
  | some _ => K
  | none => False
abbrev NoXn : RX := fun _ _ _ => False
def lcEnd (own : Bool) (k : Nat) (M : Sto) (Q : QE) : Prop := match own with
  | true => Q (.p k) M
  | false => match M[k]? with
    | some (.dl ds) => Q (.d (.list ds)) (M.set k .dead)
    | _ => False
/-- a comprehension's end; M1: the store ahead of it -/
def cmEnd (own : Bool) (M1 : Sto) (Q : QE) (M : Sto) : Prop := match own with
  | true => Q (.p M1.length) M
  | false => match M[M1.length]? with
    | some (.dl ds) => (M = M1 ++ [.dl ds] ∧ Q (.d (.list ds)) M1) ∨ Q (.d (.list ds)) (M.set M1.length .dead)
    | some (.dd kvs) => (M = M1 ++ [.dd kvs] ∧ Q (.d (.dict kvs)) M1) ∨ Q (.d (.dict kvs)) (M.set M1.length .dead)
    | _ => False
def cmNew : Bool → Cel
  | true => .dd []
  | false => .dl []
/-- no pointer beyond n -/
def imb (n : Nat) : Im → Bool
  | .d _ => true
  | .p k => Nat.blt k n
def imbs (n : Nat) : List Im → Bool
  | [] => true
  | x :: r => imb n x && imbs n r
def celb (n : Nat) : Cel → Bool
  | .dead => true
  | .dl _ => true
  | .dd _ => true
  | .lst xs => imbs n xs
  | .dct kvs => imbs n (kvs.map (·.2))
  | .ins _ fs => imbs n (fs.map (·.2))
def stob (n : Nat) : Sto → Bool
  | [] => true
  | c :: M => celb n c && stob n M
def ecb (n : Nat) : Ec → Bool
  | [] => true
  | none :: r => ecb n r
  | some x :: r => imb n x && ecb n r
def unsetE : List Nat → Ec → Ec
  | [], Γ => Γ
  | i :: is, Γ => unsetE is (Γ.set i none)

def ttupW (k : Nat) (gs : WGs) : WG := fun r Γ M Q R => match r with
  | .d (.tuple ds) => ds.length = k ∧ gs (ds.map .d) Γ M Q R
  | _ => False
def tlstW (k : Nat) (gs : WGs) : WG := fun r Γ M Q R => match asLD M r with
  | some ds => ds.length = k ∧ gs (ds.map .d) Γ M Q R
  | none => False
def revW (r : Im) (M : Sto) (Q : List Im → (Sto → Prop) → Sto → Prop) : Prop := match r with
  | .d (.list ds) => Q (ds.reverse.map .d) (fun _ => True) M
  | .p k => match M[k]? with
    | some (.dl ds) => Q (ds.reverse.map .d) (fun M' => M'[k]? = some (.dl ds)) M
    | _ => False
  | _ => False
def wlkW (r : Im) (M : Sto) (Q : List Im → (Sto → Prop) → Sto → Prop) : Prop := match r with
  | .d (.list ds) => Q (ds.map .d) (fun _ => True) M
  | .d (.tuple ds) => Q (ds.map .d) (fun _ => True) M
  | .d (.str s) => Q (s.cps.toList.map fun c => .d (.str ⟨#[c]⟩)) (fun _ => True) M
  | .d (.dict kvs) => Q (kvs.map fun p => .d p.1) (fun _ => True) M
  | .p k => match M[k]? with
    | some (.dl ds) => Q (ds.map .d) (fun M' => M'[k]? = some (.dl ds)) M
    | some (.lst xs) => Q xs (fun M' => M'[k]? = some (.lst xs)) M
    | _ => False
  | _ => False
/-- the k-th cell is a list -/
def lstAt (k : Nat) (M : Sto) (K : Prop) : Prop := match M[k]? with
  | some (.dl _) => K
  | some (.lst _) => K
  | _ => False
/-- behind a suite its name is gone -/
def hotE : Option Nat → Ec → Ec
  | some i, Γ => Γ.set i none
  | none, Γ => Γ
def hotB : Option Nat → Ec → Bool
  | some i, Γ => Nat.blt i Γ.length
  | none, _ => true
def nodK : List (Dt × Dt) → Bool
  | [] => true
  | p :: r => !(r.any fun q => keyB q.1 p.1) && nodK r
/-- data that are told to be like themselves, of nesting below n -/
def eqd : Nat → Dt → Bool
  | 0, _ => false
  | n + 1, x => (good x && PyData.eqv x x) || match x with
    | .list ds => ds.all (eqd n)
    | .dict kvs => (kvs.all fun p => atomK p.1) && (nodK kvs && kvs.all fun p => eqd n p.2)
    | _ => false
/-- .. on top: lists, and dicts for == -/
def eqdT (ne : Bool) (x : Dt) : Bool := match x with
  | .list ds => ds.all (eqd 50)
  | .dict kvs => !ne && ((kvs.all fun p => atomK p.1) && (nodK kvs && kvs.all fun p => eqd 50 p.2))
  | _ => false
/-- a == b, a != b of data with dicts that are alike -/
def eqdW (ne : Bool) (ra rb : Im) (M : Sto) (Q : Bool → Sto → Prop) : Prop := match asD M ra, asD M rb with
  | some x, some y => (x = y ∧ eqdT ne x = true) ∧ Q (!ne) M
  | _, _ => False
/-- the item whose key comes first -/
def bestK (b : Dt → Dt → Bool) (kf : Dt → Dt) (x : Dt) (ds : List Dt) : Dt := ds.foldl (fun m y => if b (kf y) (kf m) then y else m) x
def ltB (x y : Dt) : Bool := PySem.W.dataLt x y
def gtB (x y : Dt) : Bool := PySem.W.dataLt y x
def mxN : Bool → Str
  | true => "max"
  | false => "min"
/-- min, max with a key -/
def minkW (mx : Bool) (sp : FnSp) (df : List Dt) (r : Im) (M : Sto) (Q : QE) : Prop := match asLD M r, sp, df with
  | some (x :: rest), .pure S, [] => ∃ kf : Dt → Dt, (∀ d ∈ x :: rest, S [d] (fun y => y = kf d) (fun _ _ => False)) ∧ (∀ x' ∈ x :: rest, ∀ y ∈ x :: rest, ltOk (kf x') (kf y) = true) ∧ Q (.d (bestK (if mx then gtB else ltB) kf x rest)) M
  | _, _, _ => False
def guardB : Bool → Prop → Prop
  | true, p => p
  | false, _ => False
def sem : Ev → N → Mn
  | V, .slot i =>
    let e : WE := fun Γ M Q _ => match Γ[i]? with
      | some (some r) => Q r M
      | _ => False
    { e := e, t := fun Γ M Q R => e Γ M (fun r M1 => truW r M1 fun b => Q b M1) R, o := fun Γ M Q R => e Γ M (fun r M1 => match r with
      | .d (.int i) => Q (some i) M1
      | _ => False) R }
  | V, .int i =>
    { e := fun _ M Q _ => Q (.d (.int i)) M, o := fun _ M Q _ => Q (some i) M }
  | V, .bool b =>
    { e := fun _ M Q _ => Q (.d (.bool b)) M, t := fun _ M Q _ => Q b M }
  | V, .non =>
    { e := fun _ M Q _ => Q (.d .none) M }
  | V, .str s =>
    { e := fun _ M Q _ => Q (.d (.str s)) M }
  | V, .glob j =>
    { e := fun _ M Q _ => match V.cs[j]? with
      | some c => Q (.d c.2) M
      | none => False }
  | V, .bin op own a b =>
    let e : WE := fun Γ M Q R => (sem V a).e Γ M (fun ra M1 => (sem V b).e Γ M1 (fun rb M2 => binW op own ra rb M2 Q) R) R
    { e := e, t := fun Γ M Q R => e Γ M (fun r M1 => truW r M1 fun b => Q b M1) R, o := fun Γ M Q R => e Γ M (fun r M1 => match r with
      | .d (.int i) => Q (some i) M1
      | _ => False) R }
  | V, .neg a =>
    let e : WE := fun Γ M Q R => (sem V a).e Γ M (fun ra M1 => match ra with
      | .d (.int i) => Q (.d (.int (-i))) M1
      | _ => False) R
    { e := e, o := fun Γ M Q R => e Γ M (fun r M1 => match r with
      | .d (.int i) => Q (some i) M1
      | _ => False) R }
  | V, .not a =>
    { e := fun Γ M Q R => (sem V a).e Γ M (fun ra M1 => match ra with
      | .d (.bool c) => Q (.d (.bool (!c))) M1
      | _ => False) R, t := fun Γ M Q R => (sem V a).t Γ M (fun c M1 => Q (!c) M1) R }
  | V, .cmp op a b =>
    let t : WT := fun Γ M Q R => (sem V a).e Γ M (fun ra M1 => (sem V b).e Γ M1 (fun rb M2 => cmpW op ra rb M2 Q) R) R
    { t := t, e := fun Γ M Q R => t Γ M (fun b M1 => Q (.d (.bool b)) M1) R }
  | V, .isN a =>
    let t : WT := fun Γ M Q R => (sem V a).e Γ M (fun r M1 => Q (imNone r) M1) R
    { t := t, e := fun Γ M Q R => t Γ M (fun b M1 => Q (.d (.bool b)) M1) R }
  | V, .isNN a =>
    { t := fun Γ M Q R => (sem V a).e Γ M (fun r M1 => Q (!imNone r) M1) R }
  | V, .and a b =>
    { t := fun Γ M Q R => (sem V a).t Γ M (fun c M1 => (c = true → (sem V b).t Γ M1 Q R) ∧ (c = false → Q false M1)) R, e := fun Γ M Q R => (sem V a).e Γ M (fun r M1 => match r with
                    | .d (.bool c) => (c = true → (sem V b).e Γ M1 Q R) ∧ (c = false → Q (.d (.bool false)) M1)
                    | _ => False) R }
  | V, .or a b =>
    { t := fun Γ M Q R => (sem V a).t Γ M (fun c M1 => (c = false → (sem V b).t Γ M1 Q R) ∧ (c = true → Q true M1)) R, e := fun Γ M Q R => (sem V a).e Γ M (fun r M1 => match r with
                    | .d (.bool c) => (c = false → (sem V b).e Γ M1 Q R) ∧ (c = true → Q (.d (.bool true)) M1)
                    | _ => False) R }
  | V, .ife c a b =>
    { e := fun Γ M Q R => (sem V c).t Γ M (fun k M1 => (k = true → (sem V a).e Γ M1 Q R) ∧ (k = false → (sem V b).e Γ M1 Q R)) R }
  | V, .call j as =>
    let e : WE := fun Γ M Q R => match V.fs[j]? with
      | some f => (sem V as).a Γ M (fun rs M1 => callW f.sp (rs ++ f.df.map .d) M1 Q R) R
      | none => False
    { e := e, t := fun Γ M Q R => e Γ M (fun r M1 => truW r M1 fun b => Q b M1) R, o := fun Γ M Q R => e Γ M (fun r M1 => match r with
      | .d (.int i) => Q (some i) M1
      | _ => False) R }
  | V, .bi f own as =>
    let e : WE := fun Γ M Q R => (sem V as).a Γ M (fun rs M1 => biW f own rs M1 Q) R
    { e := e, t := fun Γ M Q R => e Γ M (fun r M1 => truW r M1 fun b => Q b M1) R, o := fun Γ M Q R => e Γ M (fun r M1 => match r with
      | .d (.int i) => Q (some i) M1
      | _ => False) R }
  | V, .chain op op' a b c =>
    let t : WT := fun Γ M Q R => (sem V a).e Γ M (fun ra M1 => (sem V b).e Γ M1 (fun rb M2 => cmpW op ra rb M2 fun k M3 => (k = true → (sem V c).e Γ M3 (fun rc M4 => cmpW op' rb rc M4 Q) R) ∧ (k = false → Q false M3)) R) R
    { t := t, e := fun Γ M Q R => t Γ M (fun b M1 => Q (.d (.bool b)) M1) R }
  | V, .bf f as =>
    let e : WE := fun Γ M Q R => (sem V as).a Γ M (fun rs M1 => match argDt M1 rs with
      | some ds => bfW f ds fun d => Q (.d d) M1
      | none => False) R
    { e := e, t := fun Γ M Q R => e Γ M (fun r M1 => truW r M1 fun b => Q b M1) R, o := fun Γ M Q R => e Γ M (fun r M1 => match r with
      | .d (.int i) => Q (some i) M1
      | _ => False) R }
  | V, .dnew =>
    { e := fun _ M Q _ => Q (.p M.length) (M ++ [.dd []]) }
  | V, .ddisp own as =>
    { e := fun Γ M Q R => (sem V as).a Γ (M ++ [.dd []]) (fun rs M1 => dispW own M.length rs M1 Q) R }
  | V, .dcp own a =>
    { e := fun Γ M Q R => (sem V a).e Γ M (fun r M1 => dcpW own r M1 Q) R }
  | V, .dget o k =>
    { e := fun Γ M Q R => (sem V o).e Γ M (fun ro M1 => isDic M1 ro ((sem V k).e Γ M1 (fun rk M2 => dgetW ro rk (.d .none) M2 Q) R)) R }
  | V, .dget2 o k x =>
    { e := fun Γ M Q R => (sem V o).e Γ M (fun ro M1 => isDic M1 ro ((sem V k).e Γ M1 (fun rk M2 => (sem V x).e Γ M2 (fun rx M3 => dgetW ro rk rx M3 Q) R) R)) R }
  | V, .dsetd o k x =>
    { e := fun Γ M Q R => (sem V o).e Γ M (fun ro M1 => isDic M1 ro ((sem V k).e Γ M1 (fun rk M2 => (sem V x).e Γ M2 (fun rx M3 => dsetdW ro rk rx M3 Q) R) R)) R }
  | V, .eqd ne a b =>
    let t : WT := fun Γ M Q R => (sem V a).e Γ M (fun ra M1 => (sem V b).e Γ M1 (fun rb M2 => eqdW ne ra rb M2 Q) R) R
    { t := t, e := fun Γ M Q R => t Γ M (fun b M1 => Q (.d (.bool b)) M1) R }
  | V, .mink mx j a =>
    { e := fun Γ M Q R => match V.fs[j]? with
      | some f => (sem V a).e Γ M (fun r M1 => minkW mx f.sp f.df r M1 Q) R
      | none => False }
  | V, .sortk own j a =>
    { e := fun Γ M Q R => match V.fs[j]? with
      | some f => (sem V a).e Γ M (fun r M1 => sortW own f.sp f.df r M1 Q) R
      | none => False }
  | V, .sort own a =>
    { e := fun Γ M Q R => (sem V a).e Γ M (fun r M1 => match srcL M1 r with
      | some ds => sortOk ds ∧ outL own (ds.mergeSort (PySem.W.dataLe false id)) M1 Q
      | none => False) R }
  | V, .lst own as =>
    { e := fun Γ M Q R => (sem V as).a Γ M (fun rs M1 => lstW own rs M1 Q) R }
  | V, .tup as =>
    { e := fun Γ M Q R => (sem V as).a Γ M (fun rs M1 => rs.length ≤ sizeLine ∧ match allDt rs with
      | some ds => Q (.d (.tuple ds)) M1
      | none => False) R }
  | V, .ix a i =>
    let e : WE := fun Γ M Q R => (sem V a).e Γ M (fun ra M1 => (sem V i).e Γ M1 (fun rb M2 => ixW ra rb M2 Q) R) R
    { e := e, t := fun Γ M Q R => e Γ M (fun r M1 => truW r M1 fun b => Q b M1) R, o := fun Γ M Q R => e Γ M (fun r M1 => match r with
      | .d (.int i) => Q (some i) M1
      | _ => False) R }
  | V, .slc own a lo hi =>
    { e := fun Γ M Q R => (sem V a).e Γ M (fun r M1 => (sem V lo).o Γ M1 (fun l M2 => (sem V hi).o Γ M2 (fun u M3 => slcW own r l u M3 Q) R) R) R }
  | V, .lcp own elt tg it cond vs =>
    { e := fun Γ M Q R => (sem V it).i Γ M (fun xs ok M1 => xs.length ≤ sizeLine ∧ ∃ (fI : Im → Dt) (pI : Im → Bool),
      (∀ x ∈ xs, ∀ acc, (sem V tg).g x (wipeE Γ (vs.map (·.2))) (M1 ++ [.dl acc]) (fun Γ2 M2 => (sem V cond).t Γ2 M2 (fun b M3 => b = pI x ∧ M3 = M1 ++ [.dl acc] ∧
        (b = true → (sem V elt).e Γ2 (M1 ++ [.dl acc]) (fun y M4 => y = .d (fI x) ∧ M4 = M1 ++ [.dl acc]) NoXn)) NoXn) NoXn) ∧
      (∀ acc, ok (M1 ++ [.dl acc])) ∧ outL own ((xs.filter pI).map fI) M1 Q) R }
  | V, .lc own elt tg it cond vs =>
    { e := fun Γ M Q R => (sem V it).i Γ M (fun xs ok M1 => ∃ J : Nat → Sto → Prop, J 0 (M1 ++ [.dl []]) ∧
      (∀ (i : Nat) x M', xs[i]? = some x → J i M' → ok M' ∧ (sem V tg).g x (wipeE Γ (vs.map (·.2))) M' (fun Γ2 M2 => (sem V cond).t Γ2 M2 (fun b M3 =>
        (b = true → (sem V elt).e Γ2 M3 (fun y M4 => pushW M1.length y M4 fun M5 => TurnsM (M1.length + 1) (J (i + 1)) M5) NoXn) ∧
        (b = false → TurnsM (M1.length + 1) (J (i + 1)) M3)) NoXn) NoXn) ∧
      (∀ M', J xs.length M' → ok M' ∧ lcEnd own M1.length M' Q)) R }
  | V, .yl a =>
    { s := fun k Γ M K _ => (sem V a).e Γ M (fun y M1 => pushW k y M1 fun M2 => K Γ M2) NoXn }
  | V, .yd a b =>
    { s := fun k Γ M K _ => (sem V a).e Γ M (fun rk M1 => (sem V b).e Γ M1 (fun rv M2 => match rk with
      | .d key => dsetW k key rv M2 fun M3 => K Γ M3
      | _ => False) NoXn) NoXn }
  | V, .cfor tg it cond body vs =>
    { s := fun k Γ M K P => (sem V it).i Γ M (fun xs ok M1 => Nat.blt k M1.length = true ∧ ∃ J : Nat → Sto → Prop, J 0 M1 ∧
      (∀ (i : Nat) x M', xs[i]? = some x → J i M' → ok M' ∧ (sem V tg).g x (wipeE Γ vs) M' (fun Γ2 M2 => (sem V cond).t Γ2 M2 (fun b M3 =>
        (b = true → (sem V body).s k Γ2 M3 (fun _ M4 => TurnsM M1.length (J (i + 1)) M4) P) ∧ (b = false → TurnsM M1.length (J (i + 1)) M3)) NoXn) NoXn) ∧
      (∀ M', J xs.length M' → ok M' ∧ K Γ M')) NoXn }
  | V, .cm own dict tg it cond body vs =>
    { e := fun Γ M Q R => (sem V it).i Γ M (fun xs ok M1 => ∃ J : Nat → Sto → Prop, J 0 (M1 ++ [cmNew dict]) ∧
      (∀ (i : Nat) x M', xs[i]? = some x → J i M' → ok M' ∧ (sem V tg).g x (wipeE Γ (vs.map (·.2))) M' (fun Γ2 M2 => (sem V cond).t Γ2 M2 (fun b M3 =>
        (b = true → (sem V body).s M1.length Γ2 M3 (fun _ M4 => TurnsM (M1.length + 1) (J (i + 1)) M4) { rt := fun _ _ => False }) ∧ (b = false → TurnsM (M1.length + 1) (J (i + 1)) M3)) NoXn) NoXn) ∧
      (∀ M', J xs.length M' → ok M' ∧ cmEnd own M1 Q M')) R }
  | V, .app o e =>
    { e := fun Γ M Q R => (sem V o).e Γ M (fun ro M1 => match ro with
      | .p k => lstAt k M1 ((sem V e).e Γ M1 (fun re M2 => pushW k re M2 fun M3 => Q (.d .none) M3) R)
      | _ => False) R }
  | V, .ext o e =>
    { e := fun Γ M Q R => (sem V o).e Γ M (fun ro M1 => match ro with
      | .p k => lstAt k M1 ((sem V e).e Γ M1 (fun re M2 => extW k re M2 fun M3 => Q (.d .none) M3) R)
      | _ => False) R }
  | V, .pop o =>
    { e := fun Γ M Q R => (sem V o).e Γ M (fun ro M1 => match ro with
      | .p k => popW k M1 Q
      | _ => False) R }
  | V, .nil =>
    { a := fun _ M Q _ => Q [] M, o := fun _ M Q _ => Q none M, t := fun _ M Q _ => Q true M, gs := fun rs Γ M Q _ => match rs with
      | [] => Q Γ M
      | _ => False, s := fun _ Γ M K _ => K Γ M }
  | V, .cons a r =>
    { a := fun Γ M Q R => (sem V a).e Γ M (fun ra M1 => (sem V r).a Γ M1 (fun rs M2 => Q (ra :: rs) M2) R) R, gs := fun rs Γ M Q R => match rs with
                     | x :: xs => (sem V a).g x Γ M (fun Γ1 M1 => (sem V r).gs xs Γ1 M1 Q R) R
                     | [] => False, s := fun n Γ M K P => (sem V a).s n Γ M (fun Γ1 M1 => (sem V r).s n Γ1 M1 K P) P }
  | V, .walk a =>
    { i := fun Γ M Q R => (sem V a).e Γ M (fun r M1 => wlkW r M1 Q) R }
  | V, .range a =>
    { i := fun Γ M Q R => (sem V a).e Γ M (fun r M1 => match r with
      | .d (.int j) => (-(2 ^ 62) ≤ j ∧ j < 2 ^ 62) ∧ Q (intsL 0 j.toNat) (fun _ => True) M1
      | _ => False) R }
  | V, .range2 a b =>
    { i := fun Γ M Q R => (sem V a).e Γ M (fun ra M1 => (sem V b).e Γ M1 (fun rb M2 => match ra, rb with
      | .d (.int i), .d (.int j) => (-(2 ^ 62) ≤ i ∧ i < 2 ^ 62 ∧ -(2 ^ 62) ≤ j ∧ j < 2 ^ 62) ∧ Q (intsL i (j - i).toNat) (fun _ => True) M2
      | _, _ => False) R) R }
  | V, .range3 a b c =>
    { i := fun Γ M Q R => (sem V a).e Γ M (fun ra M1 => (sem V b).e Γ M1 (fun rb M2 => (sem V c).e Γ M2 (fun rc M3 => match ra, rb, rc with
      | .d (.int i), .d (.int j), .d (.int k) => ∃ n : Nat, RgC i j k n ∧ Q (stepL i k n) (fun _ => True) M3
      | _, _, _ => False) R) R) R }
  | V, .rev a =>
    { i := fun Γ M Q R => (sem V a).e Γ M (fun r M1 => revW r M1 Q) R }
  | V, .items a =>
    { i := fun Γ M Q R => (sem V a).e Γ M (fun r M1 => match r with
      | .d (.dict kvs) => Q (kvs.map fun p => .d (.tuple [p.1, p.2])) (fun _ => True) M1
      | _ => False) R }
  | V, .vals a =>
    { i := fun Γ M Q R => (sem V a).e Γ M (fun r M1 => match r with
      | .d (.dict kvs) => Q (kvs.map fun p => .d p.2) (fun _ => True) M1
      | _ => False) R }
  | V, .tslot i =>
    { g := fun r Γ M Q _ => Q (Γ.set i (some r)) M }
  | V, .ttup k ts =>
    { g := ttupW k (sem V ts).gs }
  | V, .tlst k ts =>
    { g := tlstW k (sem V ts).gs }
  | V, .tix o i =>
    { g := fun r Γ M Q R => (sem V o).e Γ M (fun ro M1 => (sem V i).e Γ M1 (fun ri M2 => setW ro ri r M2 fun M3 => Q Γ M3) R) R }
  | V, .set i e =>
    { s := fun _ Γ M K P => (sem V e).e Γ M (fun r M1 => K (Γ.set i (some r)) M1) (P.rx Γ) }
  | V, .aug i e =>
    { s := fun _ Γ M K P => match Γ[i]? with
      | some (some (.d (.int k))) => (sem V e).e Γ M (fun r M1 => match r with
        | .d (.int j) => K (Γ.set i (some (.d (.int (k + j))))) M1
        | _ => False) (P.rx Γ)
      | _ => False }
  | V, .asg t e =>
    { s := fun _ Γ M K P => (sem V e).e Γ M (fun r M1 => (sem V t).g r Γ M1 K (P.rx Γ)) (P.rx Γ) }
  | V, .expr e =>
    { s := fun _ Γ M K P => (sem V e).e Γ M (fun _ M1 => K Γ M1) (P.rx Γ) }
  | V, .ret e =>
    { s := fun _ Γ M _ P => (sem V e).e Γ M P.rt (P.rx Γ) }
  | V, .retN =>
    { s := fun _ _ M _ P => P.rt (.d .none) M }
  | V, .pas =>
    { s := fun _ Γ M K _ => K Γ M }
  | V, .brk =>
    { s := fun _ Γ M _ P => P.bk Γ M }
  | V, .cont =>
    { s := fun _ Γ M _ P => P.ct Γ M }
  | V, .ite c t f =>
    { s := fun n Γ M K P => (sem V c).t Γ M (fun k M1 => (k = true → (sem V t).s n Γ M1 K P) ∧ (k = false → (sem V f).s n Γ M1 K P)) (P.rx Γ) }
  | V, .for_ tg it body =>
    { s := fun n Γ M K P => (sem V it).i Γ M (fun xs ok M1 => ∃ J : Nat → Ec → Sto → Prop, J 0 Γ M1 ∧
      (∀ (i : Nat) x Γ' M', xs[i]? = some x → J i Γ' M' → ok M' ∧ (sem V tg).g x Γ' M' (fun Γ2 M2 => (sem V body).s M1.length Γ2 M2 (Turns M1.length (J (i + 1))) { P with ct := Turns M1.length (J (i + 1)), bk := K }) NoXn) ∧
      (∀ Γ' M', J xs.length Γ' M' → ok M' ∧ K Γ' M')) (P.rx Γ) }
  | V, .while_ c body =>
    { s := fun n Γ M K P => ∃ (J : Nat → Ec → Sto → Prop) (m0 : Nat), J m0 Γ M ∧ ∀ m Γ' M', J m Γ' M' → (sem V c).t Γ' M' (fun b M2 =>
      (b = true → (sem V body).s M.length Γ' M2 (Turns M.length (fun Γ3 M3 => ∃ m', m' < m ∧ J m' Γ3 M3)) { P with ct := Turns M.length (fun Γ3 M3 => ∃ m', m' < m ∧ J m' Γ3 M3), bk := K }) ∧
      (b = false → K Γ' M2)) (P.rx Γ') }
  | V, .join a =>
    { s := fun n Γ M K P => ∃ K' : Ec → Sto → Prop, (sem V a).s n Γ M K' P ∧ ∀ Γ' M', K' Γ' M' → K Γ' M' }
  | _, .abs => {}
  | _, .raise c =>
    { s := fun _ Γ M _ P => P.ex c [] Γ M }
  | V, .try_ b c i u =>
    { s := fun n Γ M K P => (sem V b).s n Γ M K { P with ex := fun x fs Γ1 M1 => match V.isx x c with
      | some true => guardB (hotB i Γ1) ((sem { V with hot := some (x, fs) } u).s n (hotE i Γ1) M1 (fun Γ2 M2 => K (hotE i Γ2) M2) { rt := P.rt, bk := fun Γ2 M2 => P.bk (hotE i Γ2) M2, ct := fun Γ2 M2 => P.ct (hotE i Γ2) M2 })
      | some false => P.ex x fs Γ1 M1
      | none => False } }
  | V, .isE c =>
    let t : WT := fun _ M Q _ => match V.hot with
      | some h => match V.isx h.1 c with
        | some b => Q b M
        | none => False
      | none => False
    { t := t, e := fun Γ M Q R => t Γ M (fun b M1 => Q (.d (.bool b)) M1) R }
  | V, .efld f =>
    { e := fun _ M Q _ => match V.hot with
      | some h => match h.2.lookup f with
        | some x => match V.xs.find? fun y => decide (y.name = h.1) with
          | some y => y.fl.contains f = true ∧ Q (.d x) M
          | none => False
        | none => False
      | none => False }
  | V, .fz i =>
    { s := fun _ Γ M K _ => match Γ[i]? with
      | some (some (.p k)) => match M[k]? with
        | some (.dl ds) => K (fzE k (.list ds) Γ) (M.set k .dead)
        | some (.dd kvs) => K (fzE k (.dict kvs) Γ) (M.set k .dead)
        | _ => K Γ M
      | _ => K Γ M }
  | _, .fzl =>
    { s := fun _ Γ M K _ => ∃ ks : List Nat, fzW ks Γ M K }
  | V, .drop is =>
    { s := fun _ Γ M K _ => K (unsetE is Γ) M }
  | V, .trim m =>
    { s := fun n Γ M K _ => (Nat.ble n m && (Nat.ble m M.length && (ecb m Γ && stob m (M.take m)))) = true ∧ K Γ (M.take m) }
end DX

namespace DX
open PySem PySem.Spec PyProof.Rows L2

mutual
theorem Dv.kz {K : PySem.W.Frag} {w : World} {z z' : Hp} {F : Hp} : ∀ {v : V} {d : Dt}, Dv ⟨K, w, z⟩ F v d → Dv ⟨K, w, z'⟩ F v d
  | _, _, .non => .non
  | _, _, .bl _ => .bl _
  | _, _, .int i => .int i
  | _, _, .str x => .str x
  | _, _, .lst h ha => .lst h (DvAll.kz ha)
  | _, _, .tup h ha => .tup h (DvAll.kz ha)
  | _, _, .dK h ha => .dK h (DvK.kz ha)
  | _, _, .dN h ha => .dN h (DvN.kz ha)
theorem DvAll.kz {K : PySem.W.Frag} {w : World} {z z' : Hp} {F : Hp} : ∀ {vs : List V} {ds : List Dt}, DvAll ⟨K, w, z⟩ F vs ds → DvAll ⟨K, w, z'⟩ F vs ds
  | _, _, .nil => .nil
  | _, _, .cons h ha => .cons (Dv.kz h) (DvAll.kz ha)
theorem DvK.kz {K : PySem.W.Frag} {w : World} {z z' : Hp} {F : Hp} : ∀ {ws : List (Key × V)} {kvs : List (Dt × Dt)}, DvK ⟨K, w, z⟩ F ws kvs → DvK ⟨K, w, z'⟩ F ws kvs
  | _, _, .nil => .nil
  | _, _, .cons h ha => .cons (Dv.kz h) (DvK.kz ha)
theorem DvN.kz {K : PySem.W.Frag} {w : World} {z z' : Hp} {F : Hp} : ∀ {ws : List (NestedKey × Addr × V)} {kvs : List (Dt × Dt)}, DvN ⟨K, w, z⟩ F ws kvs → DvN ⟨K, w, z'⟩ F ws kvs
  | _, _, .nil => .nil
  | _, _, .cons h h2 h3 h4 ha => .cons (Dv.kz h) h2 h3 (Dv.kz h4) (DvN.kz ha)
end
theorem FlyE.kz {K : PySem.W.Frag} {w : World} {z z' : Hp} (hz : ∀ a, z' a = none → z a = none) {F H : Hp} {C : Addr} {fs : List (Str × Dt)} {E : Value → Option Addr → Prop} (h : FlyE ⟨K, w, z⟩ F H C fs E) : FlyE ⟨K, w, z'⟩ F H C fs E :=
  ⟨h.1, fun e d vs h0 h1 h2 => h.2 e d vs (hz d h0) h1 (Paired.imp h2 fun _ _ q => ⟨q.1, q.2.kz⟩)⟩
theorem dv_scalar {K K' : KW} {F F' : Hp} {v : V} {x : Dt} (h : scalar x = true) (d : Dv K F v x) : Dv K' F' v x := by
  cases d <;> first | (cases h; done) | constructor

/-- a def's promise over data alone -/
def spPure (K : PySem.W.Frag) (w : World) (mg : Str → Option Value) (S : List Dt → (Dt → Prop) → (Str → List (Str × Dt) → Prop) → Prop) : Sp := fun vs H Q E =>
  ∃ z F ds Qd Rd, StO ⟨K, w, z⟩ [] [] F H ∧ DvAll ⟨K, w, z⟩ F vs ds ∧ S ds Qd Rd ∧
  (∀ x F' H' v, Qd x → StO ⟨K, w, z⟩ [] [] F' H' → Same F F' → Dv ⟨K, w, z⟩ F' v x → Q v H') ∧
  (∀ x C fs F' H', mg x = some (.ref C) → Rd x fs → StO ⟨K, w, z⟩ [] [] F' H' → Same F F' → FlyE ⟨K, w, z⟩ F' H' C fs fun v d => E v d H')
def spGen (K : PySem.W.Frag) (w : World) (mg : Str → Option Value) (S : List Im → Sto → QE → RX → Prop) : Sp := fun vs H Q E =>
  ∃ z A M F rs Qd Rd, StO ⟨K, w, z⟩ A M F H ∧ ImsR ⟨K, w, z⟩ A F rs vs ∧ S rs M Qd Rd ∧
  (∀ r M' A' F' H' v, Qd r M' → StO ⟨K, w, z⟩ A' M' F' H' → ALe A A' → Same F F' → ImR ⟨K, w, z⟩ A' F' r v → Q v H') ∧
  (∀ x C fs M' A' F' H', mg x = some (.ref C) → Rd x fs M' → StO ⟨K, w, z⟩ A' M' F' H' → ALe A A' → Same F F' → FlyE ⟨K, w, z⟩ F' H' C fs fun v d => E v d H')
def spFn (K : PySem.W.Frag) (w : World) (mg : Str → Option Value) : FnSp → Sp
  | .pure S => spPure K w mg S
  | .gen S => spGen K w mg S
/-- the def stands in the module and keeps its promise -/
structure DefOk (P : Program) (w : World) (K : PySem.W.Frag) (mg : Str → Option Value) (base : Heap) (k : Nat) (g : FnE) : Prop where
  ex : ∃ k' f fd ps dvs ds, FnOk P w K mg base (L2.CX P w) k' f fd ps (spFn K w mg g.sp) ∧ k' ≤ k ∧ mg g.name = some (.ref f) ∧ PySem.W.keepIn K (.ref f) = true ∧ Binds K fd ps ds ∧ Vals dvs ds ∧ ∀ z F, DvAll ⟨K, w, z⟩ F dvs g.df
theorem DefOk.up {P : Program} {w : World} {K : PySem.W.Frag} {mg : Str → Option Value} {base : Heap} {j k : Nat} {g : FnE} (h : DefOk P w K mg base j g) (hk : j ≤ k) : DefOk P w K mg base k g := by
  obtain ⟨k', f, fd, ps, dvs, ds, h1, h2, h3⟩ := h.ex
  exact ⟨k', f, fd, ps, dvs, ds, h1, Nat.le_trans h2 hk, h3⟩
/-- what is raised, by the classes' places -/
def Sx.lx (G : Sx) (R : RX) : QR := fun C fs M => ∃ x, G.mg x = some (.ref C) ∧ R x fs M

section
variable {K : PySem.W.Frag} {w : World} {z : Hp} {A : List Addr} {M : Sto} {F H : Hp}
open Classical in
/-- the callee's outer frame -/
noncomputable def zIn (z : Hp) (A B : List Addr) (F H : Hp) : Hp := fun a => if a ∈ A ∧ F a = none ∧ a ∉ B then H a else z a
open Classical in
noncomputable def fIn (B : List Addr) (F H : Hp) : Hp := fun a => if a ∈ B then H a else F a
open Classical in
noncomputable def fOut (B : List Addr) (F2 : Hp) : Hp := fun a => if a ∈ B then none else F2 a
theorem frame_in (S : StO ⟨K, w, z⟩ A M F H) {B : List Addr} (hB : ∀ a ∈ B, a ∈ A ∧ F a = none) : StO ⟨K, w, zIn z A B F H⟩ [] [] (fIn B F H) H := by
  refine ⟨fun a o e => ?_, rfl, List.nodup_nil, fun a ha => by simp at ha, fun k a c e => by simp at e, fun a o e => ?_, fun a ha => by simp at ha, fun a o e => ?_⟩
  · unfold fIn at e
    split at e
    · exact e
    · exact S.sub a o e
  · simp only [zIn] at e
    split at e
    · exact e
    · exact S.fr a o e
  · simp only [zIn] at e
    unfold fIn
    split at e
    · rename_i h
      rw [if_neg h.2.2]; exact h.2.1
    · have hF := S.zf a o e
      by_cases h : a ∈ B
      · have := S.fd a (hB a h).1
        dsimp only at this
        rw [this] at e; cases e
      · rw [if_neg h]; exact hF
theorem zIn_none (S : StO ⟨K, w, z⟩ A M F H) (B : List Addr) : ∀ a, zIn z A B F H a = none → z a = none := fun a e => by
  unfold zIn at e
  split at e
  · rename_i h; exact S.fd a h.1
  · exact e
theorem same_fIn {B : List Addr} (hB : ∀ a ∈ B, a ∈ A ∧ F a = none) : Same F (fIn B F H) := fun a o e => by
  unfold fIn
  rw [if_neg (fun h => by rw [(hB a h).2] at e; cases e)]; exact e
theorem frame_out (S : StO ⟨K, w, z⟩ A M F H) {B : List Addr} (hB : ∀ a ∈ B, a ∈ A ∧ F a = none) {F2 H2 : Hp} (S2 : StO ⟨K, w, zIn z A B F H⟩ [] [] F2 H2) (f2 : Same (fIn B F H) F2) :
    StO ⟨K, w, z⟩ A M (fOut B F2) H2 ∧ Same F (fOut B F2) := by
  have zA : ∀ a, a ∈ A → F a = none → a ∉ B → zIn z A B F H a = H a := fun a h1 h2 h3 => by unfold zIn; rw [if_pos ⟨h1, h2, h3⟩]
  have zO : ∀ a o, z a = some o → zIn z A B F H a = some o := fun a o e => by
    unfold zIn
    rw [if_neg (fun h => by have := S.fd a h.1; dsimp only at this; rw [this] at e; cases e)]; exact e
  have hH : ∀ a, a ∈ A → ∀ o, H a = some o → H2 a = some o := fun a ha o e => by
    by_cases hb : a ∈ B
    · exact S2.sub a o (f2 a o (by unfold fIn; rw [if_pos hb]; exact e))
    · cases hF : F a with
      | none => exact S2.fr a o (by show zIn z A B F H a = some o; rw [zA a ha hF hb]; exact e)
      | some u =>
        have := S.sub a u hF
        rw [e] at this; cases this
        exact S2.sub a _ (f2 a _ (by unfold fIn; rw [if_neg hb]; exact hF))
  have hn : ∀ a, a ∈ A → F a = none → fOut B F2 a = none := fun a ha hF => by
    unfold fOut
    by_cases hb : a ∈ B
    · rw [if_pos hb]
    · rw [if_neg hb]
      cases e : H a with
      | none => exact absurd e (S.there a ha)
      | some o => exact S2.zf a o (by show zIn z A B F H a = some o; rw [zA a ha hF hb]; exact e)
  have hf : Same F (fOut B F2) := fun a o e => by
    have hb : a ∉ B := fun h => by rw [(hB a h).2] at e; cases e
    unfold fOut
    rw [if_neg hb]
    exact f2 a o (by unfold fIn; rw [if_neg hb]; exact e)
  refine ⟨⟨fun a o e => ?_, S.len, S.nd, fun a ha => ?_, fun k a c e1 e2 => ?_, fun a o e => S2.fr a o (zO a o e), S.fd, fun a o e => ?_⟩, hf⟩
  · unfold fOut at e
    split at e
    · cases e
    · exact S2.sub a o e
  · cases e : H a with
    | none => exact absurd e (S.there a ha)
    | some o => rw [hH a ha o e]; simp
  · have ha : a ∈ A := List.mem_of_getElem? e1
    exact CelR.mono (ALe.refl _) hf (hn a ha) (hH a ha) (S.cel k a c e1 e2)
  · unfold fOut
    split
    · rfl
    · exact S2.zf a o (zO a o e)
/-- the cells that stand among the arguments -/
def ptrA (A : List Addr) : List Im → List Addr
  | [] => []
  | .d _ :: r => ptrA A r
  | .p k :: r => (A[k]?).toList ++ ptrA A r
theorem ptrA_ok (S : StO ⟨K, w, z⟩ A M F H) : ∀ {rs : List Im} {ds : List Dt}, argDt M rs = some ds → ∀ a ∈ ptrA A rs, a ∈ A ∧ F a = none
  | [], _, _, a, h => by simp [ptrA] at h
  | .d x :: r, ds, e, a, h => by
    simp only [argDt, asD] at e
    cases e2 : argDt M r with
    | none => rw [e2] at e; cases e
    | some ds' => exact ptrA_ok S e2 a h
  | .p k :: r, ds, e, a, h => by
    simp only [argDt, asD] at e
    cases e1 : M[k]? with
    | none => rw [e1] at e; cases e
    | some c =>
      rw [e1] at e
      dsimp only at e
      cases e2 : c.dat with
      | none => rw [e2] at e; cases e
      | some x =>
        rw [e2] at e
        skip
        cases e3 : argDt M r with
        | none => rw [e3] at e; cases e
        | some ds' =>
          unfold ptrA at h
          rcases List.mem_append.mp h with h | h
          · have ea : A[k]? = some a := by
              cases q : A[k]? with
              | none => rw [q] at h; simp at h
              | some b => rw [q] at h; simp at h; rw [h]
            exact ⟨List.mem_of_getElem? ea, (S.dat ea e1 e2).1⟩
          · exact ptrA_ok S e3 a h
theorem argDt_dv (S : StO ⟨K, w, z⟩ A M F H) {B : List Addr} {z' : Hp} (hB : ∀ a ∈ B, a ∈ A ∧ F a = none) : ∀ {rs : List Im} {ds : List Dt} {vs : List V}, argDt M rs = some ds → (∀ a ∈ ptrA A rs, a ∈ B) → ImsR ⟨K, w, z⟩ A F rs vs → DvAll ⟨K, w, z'⟩ (fIn B F H) vs ds
  | [], _, _, e, _, h => by cases h; cases e; exact .nil
  | .d x :: r, ds, _, e, hb, h => by
    cases h with
    | cons h1 h2 =>
      simp only [argDt, asD] at e
      cases e2 : argDt M r with
      | none => rw [e2] at e; cases e
      | some ds' =>
        rw [e2] at e; cases e
        exact .cons (Dv.kz (Dv.mono (same_fIn hB) h1)) (argDt_dv S hB e2 hb h2)
  | .p k :: r, ds, _, e, hb, h => by
    cases h with
    | cons h1 h2 =>
      simp only [argDt, asD] at e
      cases e1 : M[k]? with
      | none => rw [e1] at e; cases e
      | some c =>
        rw [e1] at e
        dsimp only at e
        cases e2 : c.dat with
        | none => rw [e2] at e; cases e
        | some x =>
          rw [e2] at e
          skip
          cases e3 : argDt M r with
          | none => rw [e3] at e; cases e
          | some ds' =>
            rw [e3] at e; cases e
            obtain ⟨a, ea, rfl⟩ := h1
            obtain ⟨_, o, hH, dv⟩ := S.dat ea e1 e2
            have ha : a ∈ B := hb a (by unfold ptrA; rw [ea]; simp)
            refine .cons (Dv.kz (Dv.mono ?_ dv)) (argDt_dv S hB e3 (fun b h => hb b (by unfold ptrA; exact List.mem_append_right _ h)) h2)
            intro b u e
            by_cases hba : b = a
            · subst hba
              rw [upd_same] at e; cases e
              unfold fIn; rw [if_pos ha]; exact hH
            · rw [upd_ne hba] at e
              exact same_fIn hB b u e
theorem ptrA_none : ∀ {rs : List Im}, noPtr rs = true → ptrA A rs = []
  | [], _ => rfl
  | .d _ :: r, h => ptrA_none (rs := r) h
  | .p _ :: _, h => by cases h
end
section
variable {G : Sx}
/-- a call keeps the caller's reading -/
theorem call_sp {S : FnSp} {rs : List Im} {M : Sto} {Q : QE} {R : RX} (h : callW S rs M Q R) {A : List Addr} {F H : Hp} {σ : L2.St} {vs : List V} {Qv : VK} {E : XK} (S0 : StO G.kw A M F H) (rv : ImsR G.kw A F rs vs) (hQ : Goes G A F Q Qv)
    (hE : ∀ C fs M' A' F' H', G.lx R C fs M' → StO G.kw A' M' F' H' → ALe A A' → Same F F' → FlyE G.kw F' H' C fs fun v d => E v d H') : spFn G.K G.w G.mg S vs H Qv E := by
  cases S with
  | gen S => exact ⟨G.z, A, M, F, rs, Q, R, S0, rv, h, hQ, fun x C fs M' A' F' H' hx q S' a f => hE C fs M' A' F' H' ⟨x, hx, q⟩ S' a f⟩
  | pure S =>
    simp only [callW] at h
    cases e : argDt M rs with
    | none => rw [e] at h; exact h.elim
    | some ds =>
      rw [e] at h
      dsimp only at h
      have hB := ptrA_ok S0 e
      refine ⟨zIn G.z A (ptrA A rs) F H, fIn (ptrA A rs) F H, ds, ?_⟩
      cases hn : noPtr rs with
      | true =>
        rw [hn] at h
        have eB : ptrA A rs = [] := ptrA_none hn
        have eo : ∀ F2 : Hp, fOut (ptrA A rs) F2 = F2 := fun F2 => by funext a; unfold fOut; rw [eB]; simp
        refine ⟨_, _, frame_in S0 hB, argDt_dv S0 hB e (fun a h => h) rv, h, fun x F' H' v q S2 f2 dv => ?_, fun x C fs F' H' hx q S2 f2 => ?_⟩
        · obtain ⟨S3, f3⟩ := frame_out S0 hB S2 f2
          rw [eo] at S3 f3
          exact hQ _ _ _ _ _ _ q S3 (ALe.refl _) f3 dv.kz
        · obtain ⟨S3, f3⟩ := frame_out S0 hB S2 f2
          rw [eo] at S3 f3
          exact (hE C fs _ _ _ _ ⟨x, hx, q⟩ S3 (ALe.refl _) f3).kz (zIn_none S0 _)
      | false =>
        rw [hn] at h
        refine ⟨_, _, frame_in S0 hB, argDt_dv S0 hB e (fun a h => h) rv, h, fun x F' H' v q S2 f2 dv => ?_, fun x C fs F' H' hx q S2 f2 => ?_⟩
        · obtain ⟨S3, f3⟩ := frame_out S0 hB S2 f2
          exact hQ _ _ _ _ _ _ q.2 S3 (ALe.refl _) f3 (dv_scalar q.1 dv)
        · obtain ⟨S3, f3⟩ := frame_out S0 hB S2 f2
          obtain ⟨rfl, q⟩ := q
          have := hE C [] _ _ _ _ ⟨x, hx, q⟩ S3 (ALe.refl _) f3
          exact ⟨this.1, fun e => absurd rfl e⟩
variable {Γ : Ec} {M : Sto} {Q : QE} {R : RX} {pos p2 : Pos} {a : Expr} {es : List Expr} {g : FnE}
theorem flies_lx {A : List Addr} {F : Hp} {σ : L2.St} (hR : Flies G A F (G.lx R) σ) {A1 : List Addr} {F1 : Hp} (a1 : ALe A A1) (f1 : Same F F1) : ∀ C fs M' A' F' H', G.lx R C fs M' → StO G.kw A' M' F' H' → ALe A1 A' → Same F1 F' → FlyE G.kw F' H' C fs fun v d => L2.WE G.W σ v d H' :=
  fun C fs M' A' F' H' q S a f => hR C fs M' A' F' H' q S (a1.trans a) (f1.trans f)
theorem dfs_ims {A : List Addr} {F : Hp} {dvs : List V} {ds : List Dt} (h : DvAll G.kw F dvs ds) : ImsR G.kw A F (ds.map .d) dvs := of_dpAll h
theorem n_call (h0 : G.hot = none) (D : DefOk G.P G.w G.K G.mg G.base G.k g) (hg : G.sc.names.lookup g.name = some .globalImplicit) (hs : PlainA a es) (hpl : PlainAs es)
    (h : EvA G (a :: es) Γ M (fun rs M1 => callW g.sp (rs ++ g.df.map .d) M1 Q R) (G.lx R)) (hdb : (g.name == ("__debug__" : Str)) = false) : EvX G (.Call (.Name g.name p2) (a :: es) [] pos) Γ M Q (G.lx R) := by
  intro A F σ H Qv S0 L hQ hR
  obtain ⟨k, f, fd, ps, dvs, ds, hF, hk, hm, hkp, hb, hd, hdv⟩ := D.ex
  refine tS_of (t := tCallSD (spFn G.K G.w G.mg g.sp) dvs (L2.WE G.W) (tSA G (a :: es))) (fun X hX => ?_) ?_
  · have tk := hX.tk
    refine pe_callSD (CX := L2.CX X.prog X.w) (k := k) (f := f) (fd := fd) (ps := ps) (ds := ds) (by rw [hX.prog, hX.w, hX.K, hX.mg, hX.base]; exact hF) ((hX.room h0).mono hk) (gl_of hX hg) (by rw [hX.mg]; exact hm) (by rw [hX.K]; exact hkp) (by rw [hX.K]; exact hb) hd (fun σ => passAt tk σ) (pa_S hX _) hdb (hs _) (hpl _ _)
  · refine h A F σ H _ S0 L (fun rs M1 A1 F1 H1 vs q S1 a1 f1 r1 => ?_) hR
    exact call_sp (σ := σ) q S1 (r1.app (dfs_ims (hdv G.z F1))) (hQ.mono a1 f1) (flies_lx hR a1 f1)
theorem n_call0 (h0 : G.hot = none) (D : DefOk G.P G.w G.K G.mg G.base G.k g) (hg : G.sc.names.lookup g.name = some .globalImplicit) (h : callW g.sp (g.df.map .d) M Q R) (hdb : (g.name == ("__debug__" : Str)) = false) : EvX G (.Call (.Name g.name p2) [] [] pos) Γ M Q (G.lx R) := by
  intro A F σ H Qv S0 L hQ hR
  obtain ⟨k, f, fd, ps, dvs, ds, hF, hk, hm, hkp, hb, hd, hdv⟩ := D.ex
  refine tS_of (t := tCallSD (spFn G.K G.w G.mg g.sp) dvs (L2.WE G.W) tNil) (fun X hX => ?_) ?_
  · have tk := hX.tk
    exact pe_call0S (CX := L2.CX X.prog X.w) (k := k) (f := f) (fd := fd) (ps := ps) (ds := ds) (by rw [hX.prog, hX.w, hX.K, hX.mg, hX.base]; exact hF) ((hX.room h0).mono hk) (gl_of hX hg) (by rw [hX.mg]; exact hm) (by rw [hX.K]; exact hkp) (by rw [hX.K]; exact hb) hd (fun σ => passAt tk σ) hdb
  · exact call_sp (σ := σ) h S0 (dfs_ims (hdv G.z F)) hQ (flies_lx hR (ALe.refl _) (Same.refl _))
end
end DX

namespace DX
open PySem PySem.Spec PyProof.Rows L2

theorem readsAll_of {h : Heap} : ∀ {us : List Value} {ds : List Dt}, Paired (fun d u => ∃ as, Reads h u d as) ds us → ∃ as, ReadsAll h us ds as
  | _, _, .nil => ⟨_, .nil⟩
  | _, _, .cons ⟨_, r⟩ t => by
    obtain ⟨_, q⟩ := readsAll_of t
    exact ⟨_, .cons r q⟩
section
variable {X : Cx} {pins : List (Addr × Obj)} {σ : L2.St} {H : Hp} {s : Shared} {z : Hp}
theorem pairs_split {knd : KeyKind X.prog X.w Key} : ∀ {es : List DictEntry} {vs : List (Key × Value)}, Pairs knd es vs → Paired (fun (e : DictEntry) (p : Key × Value) => knd.is p.1 e.key = true ∧ e.val = p.2) es vs
  | _, _, .nil => .nil
  | _, _, .cons h1 h2 t => .cons ⟨h1, h2⟩ (pairs_split t)
mutual
theorem Dv.reads (I : Inv X pins σ H s) : ∀ {d : Dt} {v : V} {u : Value}, Dv ⟨X.K, X.w, z⟩ H v d → RelV v u → ∃ as, Reads s.heap u d as
  | _, _, _, .non, r => by cases r; exact ⟨_, Reads.none⟩
  | _, _, _, .bl b, r => by cases r; exact ⟨_, Reads.bool b⟩
  | _, _, _, .int i, r => by obtain ⟨t, rfl⟩ := r; exact ⟨_, Reads.int i t⟩
  | _, _, _, .str x, r => by obtain ⟨t, rfl⟩ := r; exact ⟨_, Reads.str x t⟩
  | _, _, _, .lst hs ha, r => by
    cases r
    obtain ⟨its, rv, ⟨o, n, ho, hc, _, hd⟩, _⟩ := I.list hs
    obtain ⟨as, hr⟩ := DvAll.reads I ha rv
    exact ⟨_, Reads.list ho hc hd hr⟩
  | _, _, _, .tup hs ha, r => by
    cases r
    obtain ⟨its, rv, ⟨o, ho, hc, n, hd⟩, _⟩ := I.tuple hs
    obtain ⟨as, hr⟩ := DvAll.reads I ha rv
    exact ⟨_, Reads.tuple ho hc hd hr⟩
  | _, _, _, .dK hs ha, r => by
    cases r
    obtain ⟨_, _, _, vs, kv, o, es, ep, ho, hc, hd, _, hp, _⟩ := I.hok _ _ hs
    obtain ⟨⟨as, h1⟩, bs, h2⟩ := DvK.reads I ha kv (pairs_split hp)
    exact ⟨_, Reads.dict ho hc.1 hd h1 h2⟩
  | _, _, _, .dN hs ha, r => by
    cases r
    obtain ⟨_, ⟨_, _, _, xs, pr, o, es, ep, ho, hc, hd, he⟩, _⟩ := I.hok _ _ hs
    obtain ⟨⟨as, h1⟩, bs, h2⟩ := DvN.reads I ha pr
    refine ⟨_, Reads.dict ho hc.1 hd (as := as) (bs := bs) ?_ ?_⟩
    · rw [he, List.map_map]; exact h1
    · rw [he, List.map_map]; exact h2
theorem DvAll.reads (I : Inv X pins σ H s) : ∀ {ds : List Dt} {vs : List V} {us : List Value}, DvAll ⟨X.K, X.w, z⟩ H vs ds → Vals vs us → ∃ as, ReadsAll s.heap us ds as
  | _, _, _, .nil, r => by cases r; exact ⟨_, ReadsAll.nil⟩
  | _, _, _, .cons h1 h2, r => by
    cases r with
    | cons r1 r2 =>
      obtain ⟨as, q1⟩ := Dv.reads I h1 r1
      obtain ⟨bs, q2⟩ := DvAll.reads I h2 r2
      exact ⟨_, ReadsAll.cons q1 q2⟩
theorem DvK.reads (I : Inv X pins σ H s) : ∀ {kvs : List (Dt × Dt)} {ws : List (Key × V)} {vs : List (Key × Value)} {es : List DictEntry}, DvK ⟨X.K, X.w, z⟩ H ws kvs → KV ws vs → Paired (fun (e : DictEntry) (p : Key × Value) => (mixKind X.prog X.w).is p.1 e.key = true ∧ e.val = p.2) es vs →
    (∃ as, ReadsAll s.heap (es.map (·.key)) (kvs.map (·.1)) as) ∧ ∃ bs, ReadsAll s.heap (es.map (·.val)) (kvs.map (·.2)) bs
  | _, _, _, _, .nil, r, p => by cases r; cases p; exact ⟨⟨_, .nil⟩, _, .nil⟩
  | _, _, _, _, .cons (k := k) h1 h2, r, p => by
    cases r with
    | cons r1 r2 =>
      cases p with
      | @cons e0 _ _ _ p1 p2 =>
        obtain ⟨⟨as, q1⟩, bs, q2⟩ := DvK.reads I h2 r2 p2
        obtain ⟨cs, q3⟩ := Dv.reads I h1 r1.2
        have e1 := p1.1
        rw [← r1.1] at e1
        have hk : ∃ as, Reads s.heap e0.key (kD k) as := by
          rcases keyIs_shape (k := k) e1 with ⟨i, t, hk, hv⟩ | ⟨i, t, hk, hv⟩
          · subst hk; rw [hv]; exact ⟨_, Reads.int i t⟩
          · subst hk; rw [hv]; exact ⟨_, Reads.str i t⟩
        obtain ⟨ds, q4⟩ := hk
        rw [← p1.2] at q3
        exact ⟨⟨_, .cons q4 q1⟩, _, .cons q3 q2⟩
theorem DvN.reads (I : Inv X pins σ H s) : ∀ {kvs : List (Dt × Dt)} {ws : List (NestedKey × Addr × V)} {xs : List (NestedKey × Addr × Value)}, DvN ⟨X.K, X.w, z⟩ H ws kvs → Paired (fun (p : NestedKey × Addr × V) (q : NestedKey × Addr × Value) => p.1 = q.1 ∧ p.2.1 = q.2.1 ∧ RelV p.2.2 q.2.2) ws xs →
    (∃ as, ReadsAll s.heap (xs.map fun x => Value.ref x.2.1) (kvs.map (·.1)) as) ∧ ∃ bs, ReadsAll s.heap (xs.map fun x => x.2.2) (kvs.map (·.2)) bs
  | _, _, _, .nil, r => by cases r; exact ⟨⟨_, .nil⟩, _, .nil⟩
  | _, _, _, .cons h1 h2 h3 h4 h5, r => by
    cases r with
    | cons r1 r2 =>
      obtain ⟨⟨as, q1⟩, bs, q2⟩ := DvN.reads I h5 r2
      obtain ⟨cs, q3⟩ := Dv.reads I h4 r1.2.2
      obtain ⟨ds, q4⟩ := Dv.reads I h1 (u := .ref _) rfl
      rw [show (Value.ref _) = Value.ref _ from congrArg Value.ref r1.2.1] at q4
      exact ⟨⟨_, .cons q4 q1⟩, _, .cons q3 q2⟩
end
end
theorem good_of {x : Dt} (h : good x = true) : x.plain = true ∧ x.depth ≤ 100 := by
  unfold good at h
  rw [Bool.and_eq_true] at h
  exact ⟨h.1, of_decide_eq_true h.2⟩
section
variable {X : Cx} {z : Hp}
abbrev kzX (X : Cx) (z : Hp) : KW := ⟨X.K, X.w, z⟩
def rDD (K : KW) (C : Dt → Dt → Prop) (f : Dt → Dt → Bool) : R2 := fun x y H Q => ∃ d e, Dv K H x d ∧ Dv K H y e ∧ C d e ∧ Q (.bl (f d e)) H
theorem op_dd {op : Value → Value → Sem Value} {C : Dt → Dt → Prop} {f : Dt → Dt → Bool}
    (h : ∀ (s : Shared) (a b : Value) (da db : Dt) (as bs : List Addr) (Q : Value → Shared → Prop), Reads s.heap a da as → Reads s.heap b db bs → C da db → Q (.bool (f da db)) s → wpAny (model X.prog X.w) X.A (op a b) Q X.xe s) : OpR X op (rDD (kzX X z) C f) := by
  intro pins s σ H x y v u Q I rx ry h'
  obtain ⟨d, e, hd, he, c, q⟩ := h'
  obtain ⟨as, r1⟩ := Dv.reads I hd rx
  obtain ⟨bs, r2⟩ := Dv.reads I he ry
  exact h s v u d e as bs _ r1 r2 c ⟨.bl _, H, I, rfl, q⟩
theorem min_le_100 {x y : Dt} {A : Nat} (h : x.depth ≤ 100) (hu : A + 200 < cLine) : A + min x.depth y.depth < cLine := by omega
variable (hu : X.A.units + 200 < cLine)
include hu
theorem op_eqP : OpR X (compareOp .Eq) (rDD (kzX X z) (fun x y => good x = true ∧ good y = true) fun x y => PyData.eqv x y) :=
  op_dd fun s a b da db as bs Q r1 r2 c q => SeqAt.eq_plain r1 r2 (good_of c.1).1 (good_of c.2).1 (min_le_100 (good_of c.1).2 hu) q
theorem op_neP : OpR X (compareOp .NotEq) (rDD (kzX X z) (fun x y => good x = true ∧ good y = true) fun x y => !PyData.eqv x y) :=
  op_dd fun s a b da db as bs Q r1 r2 c q => SeqAt.ne_plain r1 r2 (good_of c.1).1 (good_of c.2).1 (min_le_100 (good_of c.1).2 hu) q
theorem ltOk_of {x y : Dt} (h : ltOk x y = true) : PySem.W.alike x y = true ∧ x ≠ .none ∧ x.depth ≤ 100 := by
  unfold ltOk at h
  rw [Bool.and_eq_true, Bool.and_eq_true] at h
  refine ⟨h.1.1, fun e => ?_, (good_of h.1.2).2⟩
  subst e; simp at h
theorem op_ltP : OpR X (compareOp .Lt) (rDD (kzX X z) (fun x y => ltOk x y = true) fun x y => PySem.W.dataLt x y) :=
  op_dd fun s a b da db as bs Q r1 r2 c q => PySem.W.lt_data r1 r2 (ltOk_of hu c).1 (ltOk_of hu c).2.1 (min_le_100 (ltOk_of hu c).2.2 hu) q
theorem op_leP : OpR X (compareOp .LtE) (rDD (kzX X z) (fun x y => ltOk x y = true) fun x y => !PySem.W.dataLt y x) :=
  op_dd fun s a b da db as bs Q r1 r2 c q => PySem.W.le_data r1 r2 (ltOk_of hu c).1 (ltOk_of hu c).2.1 (min_le_100 (ltOk_of hu c).2.2 hu) q
theorem op_gtP : OpR X (compareOp .Gt) (rDD (kzX X z) (fun x y => ltOk x y = true) fun x y => PySem.W.dataLt y x) :=
  op_dd fun s a b da db as bs Q r1 r2 c q => PySem.W.gt_data r1 r2 (ltOk_of hu c).1 (ltOk_of hu c).2.1 (min_le_100 (ltOk_of hu c).2.2 hu) q
theorem op_geP : OpR X (compareOp .GtE) (rDD (kzX X z) (fun x y => ltOk x y = true) fun x y => !PySem.W.dataLt x y) :=
  op_dd fun s a b da db as bs Q r1 r2 c q => PySem.W.ge_data r1 r2 (ltOk_of hu c).1 (ltOk_of hu c).2.1 (min_le_100 (ltOk_of hu c).2.2 hu) q
def inOk (x y : Dt) : Prop := good x = true ∧ ∃ ds, (y = .list ds ∨ y = .tuple ds) ∧ good (.list ds) = true
def inB (x y : Dt) : Bool := match y with
  | .list ds => ds.any fun y => PyData.eqv y x
  | .tuple ds => ds.any fun y => PyData.eqv y x
  | _ => false
theorem op_inP : OpR X (compareOp .In) (rDD (kzX X z) inOk inB) :=
  op_dd fun s a b da db as bs Q r1 r2 c q => by
    obtain ⟨hx, ds, hy, hd⟩ := c
    have h1 := good_of hd
    have h2 := good_of hx
    have hp : PyData.plainAll ds = true := by have := h1.1; simpa [PyData.plain] using this
    rcases hy with rfl | rfl
    · exact SeqAt.in_list_data r2 r1 hp h2.1 (by omega) q
    · exact SeqAt.in_tuple_data r2 r1 hp h2.1 (by omega) q
theorem op_notInP : OpR X (compareOp .NotIn) (rDD (kzX X z) inOk fun x y => !inB x y) :=
  op_dd fun s a b da db as bs Q r1 r2 c q => by
    obtain ⟨hx, ds, hy, hd⟩ := c
    have h1 := good_of hd
    have h2 := good_of hx
    have hp : PyData.plainAll ds = true := by have := h1.1; simpa [PyData.plain] using this
    rcases hy with rfl | rfl
    · exact SeqAt.notIn_list_data r2 r1 hp h2.1 (by omega) q
    · exact SeqAt.notIn_tuple_data r2 r1 hp h2.1 (by omega) q
end
theorem asLD_L {M : Sto} {r : Im} {ds : List Dt} (h : asLD M r = some ds) : AsL M r (ds.map .d) := by
  cases r with
  | d x => cases x <;> simp only [asLD] at h <;> cases h; exact .d _
  | p k =>
    simp only [asLD] at h
    split at h
    · rename_i ds' e; cases h; exact .p e rfl
    · cases h
theorem asLI_L {M : Sto} {r : Im} {xs : List Im} (h : asLI M r = some xs) : AsL M r xs := by
  cases r with
  | d x => cases x <;> simp only [asLI] at h <;> cases h; exact .d _
  | p k =>
    simp only [asLI] at h
    split at h
    · rename_i c e; exact .p e h
    · cases h
theorem asD_D {M : Sto} {r : Im} {x : Dt} (h : asD M r = some x) : AsD M r x := by
  cases r with
  | d x => cases h; exact .d _
  | p k =>
    simp only [asD] at h
    split at h
    · rename_i c e
      cases c <;> simp only [Cel.dat] at h <;> cases h
      exact .p e
    · cases h
section
variable {G : Sx} {M : Sto} {Q : QE}
theorem add_out {own : Bool} {ra rb : Im} {x y : List Dt} (ha : AsL M ra (x.map .d)) (hb : AsL M rb (y.map .d)) (hz : x.length + y.length ≤ sizeLine) (h : outL own (x ++ y) M Q) : BopR G (rAdd4 G.K) ra rb M Q := by
  cases own with
  | true => exact add_lstP (c := .dl (x ++ y)) (by simp [Cel.its]) ha hb (by simpa using hz) h
  | false => exact add_lst ha hb hz h
theorem add_ok {own : Bool} {ra rb : Im} (h : addW own ra rb M Q) : BopR G (rAdd4 G.K) ra rb M Q := by
  unfold addW at h
  split at h
  · exact add_int h
  · exact add_str h.1 h.2
  · exact add_tup h.1 h.2
  · split at h
    · rename_i x y e1 e2
      exact add_out (asLD_L e1) (asLD_L e2) h.1 h.2
    · split at h
      · rename_i x y e1 e2
        exact add_lstP rfl (asLI_L e1) (asLI_L e2) h.1 h.2
      · exact h.elim
theorem dd_ok {f : Dt → Dt → Bool} {C : Dt → Dt → Prop} {ra rb : Im} {x y : Dt} {K : Bool → Sto → Prop} (ha : AsD M ra x) (hb : AsD M rb y) (hc : C x y) (h : K (f x y) M) : BopR G (rDD G.kw C f) ra rb M (fun rc Mc => ∃ c, rc = .d (.bool c) ∧ K c Mc) := fun A F H va vb Qv S ra rb hQ =>
  ⟨x, y, ha.dp S ra, hb.dp S rb, hc, hQ _ M A F H _ ⟨_, rfl, h⟩ S (ALe.refl _) (Same.refl _) (Dv.bl _)⟩
theorem len_d (ds : List Dt) : LenOf M (.d (.list ds)) ds.length := by have := LenOf.lst (M := M) (AsL.d ds); rwa [List.length_map] at this
theorem tru_d (ds : List Dt) : Tru M (.d (.list ds)) (!ds.isEmpty) := by
  have := Tru.lst (M := M) (AsL.d ds)
  have em : (!(ds.map Im.d).isEmpty) = !ds.isEmpty := by cases ds <;> rfl
  rwa [em] at this
theorem lenW_ok {r : Im} {K : Nat → Prop} (h : lenW0 r M K) : ∃ n, LenOf M r n ∧ K n := by
  cases r with
  | d x =>
    cases x <;> simp only [lenW0, lenD] at h
    all_goals first | exact h.elim | skip
    · exact ⟨_, .str _ h.1, h.2⟩
    · exact ⟨_, len_d _, h⟩
    · exact ⟨_, .tup _, h⟩
  | p k =>
    simp only [lenW0] at h
    split at h
    · rename_i ds e
      exact ⟨_, by have := LenOf.lst (M := M) (.p e (c := .dl ds) rfl); rwa [List.length_map] at this, h⟩
    · rename_i xs e
      exact ⟨_, .lst (.p e (c := .lst xs) rfl), h⟩
    · exact h.elim
theorem truW_ok {r : Im} {K : Bool → Prop} (h : truW0 r M K) : ∃ c, Tru M r c ∧ K c := by
  have em : ∀ ds : List Dt, (!(ds.map Im.d).isEmpty) = !ds.isEmpty := fun ds => by cases ds <;> rfl
  cases r with
  | d x =>
    cases x <;> simp only [truW0, truD] at h
    all_goals first | exact h.elim | skip
    · exact ⟨_, .non, h⟩
    · exact ⟨_, .bl _, h⟩
    · exact ⟨_, .int _, h⟩
    · exact ⟨_, .str _ h.1, h.2⟩
    · exact ⟨_, tru_d _, h⟩
    · exact ⟨_, .tup _, h⟩
  | p k =>
    simp only [truW0] at h
    split at h
    · rename_i ds e
      exact ⟨_, by have := Tru.lst (M := M) (.p e (c := .dl ds) rfl); rwa [em] at this, h⟩
    · rename_i xs e
      exact ⟨_, .lst (.p e (c := .lst xs) rfl), h⟩
    · exact h.elim
theorem tyW_ok {r : Im} {t : String} (h : tyW r M = some t) : TyI M r t := by
  cases r with
  | d x =>
    simp only [tyW] at h
    split at h
    · rename_i hn; cases h; exact .d x hn
    · cases h
  | p k =>
    simp only [tyW] at h
    split at h
    · rename_i e; cases h; exact .p e rfl
    · rename_i e; cases h; exact .p e rfl
    · cases h
theorem atd_im {ds : List Dt} {z : Int} {x : Dt} (e : atD ds z = some x) : atI (ds.map Im.d) z = some (.d x) := by
  rw [atI_map]
  rw [show atI ds z = some x from e]; rfl
theorem ix_ok {ra rb : Im} (h : ixW0 ra rb M Q) : BopR G (rIx G.K) ra rb M Q := by
  cases ra with
  | d x =>
    simp only [ixW0] at h
    unfold ixD at h
    split at h
    · split at h
      · rename_i e; exact ix_lst (.d _) (atd_im e) h
      · exact h.elim
    · split at h
      · rename_i e; exact ix_tup e h
      · exact h.elim
    · obtain ⟨hz, h⟩ := h
      split at h
      · rename_i e; exact ix_strI hz e h
      · exact h.elim
    · exact h.elim
  | p k =>
    simp only [ixW0] at h
    split at h
    · rename_i e
      split at h
      · rename_i e2; exact ix_lst (.p e rfl) (atd_im e2) h
      · exact h.elim
    · rename_i e
      split at h
      · rename_i e2; exact ix_lst (.p e rfl) e2 h
      · exact h.elim
    · exact h.elim
theorem slc_tup {ds : List Dt} {l u : Option Int} (hq : Q (.d (.tuple (cutL ds l u))) M) : SlcR G (.d (.tuple ds)) l u M Q := fun A F H v Qv S rv hQ => by
  cases rv with
  | tup hs ha =>
    have rs := imsR_cut (of_dpAll (A := A) ha) l u
    rw [cutL_map] at rs
    have hl := (of_dpAll (A := A) ha).len
    rw [List.length_map] at hl
    refine .inr (.inl ⟨_, _, rfl, Same.seqT S.sub hs, fun ⟨e1, e2⟩ => ?_, fun _ p hp => goes_tup S hQ hp rs hq⟩)
    rw [← hl] at e1 e2
    have : cutL ds l u = ds := by
      unfold cutL
      rw [e1, e2, List.drop_zero, Nat.sub_zero, List.take_length]
    rw [this] at hq
    exact hQ _ M A F H _ hq S (ALe.refl _) (Same.refl _) (Dv.tup hs ha)
theorem slc_ok {own : Bool} {r : Im} {l u : Option Int} (h : slcW own r l u M Q) : SlcR G r l u M Q := by
  unfold slcW at h
  split at h
  · exact slc_str h.1 h.2
  · exact slc_tup h
  · split at h
    · rename_i ds e
      cases own with
      | true => exact slc_lstP (c := .dl (cutL ds l u)) (by rw [cutL_map]; rfl) (asLD_L e) h
      | false => exact slc_lst (asLD_L e) h
    · exact h.elim
end
end DX

namespace DX
open PySem PySem.Spec PyProof.Rows L2

theorem tupK_nk {d : Dt} (h : tupK d = true) : ∃ k, nkD d = some k ∧ k.depth ≤ 8 := by
  unfold tupK at h
  split at h
  · split at h
    · rename_i k e; exact ⟨k, e, of_decide_eq_true h⟩
    · cases h
  · cases h
theorem atom_kD {d : Dt} (h : atomK d = true) : ∃ k, d = kD k := by
  cases d <;> first | (cases h; done) | exact ⟨.inl _, rfl⟩ | exact ⟨.inr _, rfl⟩
theorem kD_tup {k : Key} (h : tupK (kD k) = true) : False := by
  cases k <;> cases h
theorem keyB_kD (a b : Key) : keyB (kD a) (kD b) = decide (a = b) := by
  cases a <;> cases b <;> simp [keyB, kD, nkD, NestedKey.beq]
theorem keyB_nk {a b : Dt} {x y : NestedKey} (ha : nkD a = some x) (hb : nkD b = some y) : keyB a b = decide (x = y) := by
  unfold keyB
  rw [ha, hb, NestedKey.decide_eq]
theorem Cel.kvs_gen {c : Cel} {xs : List (Dt × Im)} (h : c.kvs = some xs) : c.gen = .dct xs := by
  cases c <;> simp only [Cel.kvs] at h <;> cases h <;> rfl
/-- r is a dict of these pairs that can be read -/
inductive DicOf (M : Sto) : Im → List (Dt × Im) → Prop
  | d (kvs : List (Dt × Dt)) : DicOf M (.d (.dict kvs)) (kvs.map fun p => (p.1, .d p.2))
  | p {k : Nat} {c : Cel} {kvs : List (Dt × Im)} (h : M[k]? = some c) (hx : c.kvs = some kvs) : DicOf M (.p k) kvs
theorem DicOf.dic {K : KW} {A : List Addr} {F H : Hp} {M : Sto} {r : Im} {kvs : List (Dt × Im)} (h : DicOf M r kvs) (S : StO K A M F H) {v : V} (hv : ImR K A F r v) : ∃ a o, v = .ref a ∧ Rd H a o ∧ DicR K F (ImR K A F) a o kvs := by
  cases h with
  | d kvs =>
    cases hv with
    | dK hd ha => exact ⟨_, _, rfl, .inr ⟨_, S.sub _ _ hd⟩, .inl ⟨_, rfl, of_dvK ha⟩⟩
    | dN hd ha => exact ⟨_, _, rfl, .inr ⟨_, S.sub _ _ hd⟩, .inr ⟨_, rfl, of_dvN ha⟩⟩
  | p hk hx =>
    obtain ⟨a, ea, rfl⟩ := hv
    have hc := S.cel _ a _ ea hk
    unfold CelR at hc
    rw [Cel.kvs_gen hx] at hc
    obtain ⟨_, o, hH, D⟩ := hc
    exact ⟨a, o, rfl, .inl hH, D⟩
theorem dicI_of {M : Sto} {r : Im} {kvs : List (Dt × Im)} (h : dicI M r = some kvs) : DicOf M r kvs := by
  cases r with
  | d x => cases x <;> simp only [dicI] at h <;> cases h; exact .d _
  | p k =>
    simp only [dicI] at h
    split at h
    · rename_i c e; exact .p e h
    · cases h
section
variable {X : Cx} {pins : List (Addr × Obj)} {σ : L2.St} {H : Hp} {s : Shared} {z : Hp}
mutual
/-- data that are a key -/
theorem nk_is (I : Inv X pins σ H s) : ∀ {d : Dt} {k : NestedKey} {v : V} {u : Value}, nkD d = some k → Dv ⟨X.K, X.w, z⟩ H v d → RelV v u → NestedIs s.heap k u
  | .none, k, _, _, e, .non, r => by cases e; cases r; exact .none
  | .int i, k, _, _, e, .int _, r => by cases e; obtain ⟨t, rfl⟩ := r; exact .int _ _
  | .str x, k, _, _, e, .str _, r => by cases e; obtain ⟨t, rfl⟩ := r; exact .text _ _
  | .bool b, _, _, _, e, _, _ => by cases e
  | .list _, _, _, _, e, _, _ => by cases e
  | .dict _, _, _, _, e, _, _ => by cases e
  | .tuple xs, k, _, _, e, .tup hs ha, r => by
    simp only [nkD, Option.map_eq_some_iff] at e
    obtain ⟨ks, e, rfl⟩ := e
    cases r
    obtain ⟨its, rv, ⟨o, ho, hc, n, hd⟩, _⟩ := I.tuple hs
    exact .tup ho hc hd (by simpa using nks_are I e ha rv)
theorem nks_are (I : Inv X pins σ H s) : ∀ {ds : List Dt} {ks : List NestedKey} {vs : List V} {us : List Value}, nkAll ds = some ks → DvAll ⟨X.K, X.w, z⟩ H vs ds → Vals vs us → NestedAll s.heap ks us
  | [], _, _, _, e, .nil, r => by cases e; cases r; exact .nil
  | d :: ds, _, _, _, e, .cons h1 h2, r => by
    simp only [nkAll] at e
    split at e
    · rename_i k ks e1 e2
      cases e
      cases r with
      | cons r1 r2 => exact .cons (nk_is I e1 h1 r1) (nks_are I e2 h2 r2)
    · cases e
end
/-- what tuple keys stand for -/
abbrev TRel (K : KW) (F : Hp) (R : Im → V → Prop) (p : Dt × Im) (q : NestedKey × Addr × Value) : Prop := (nkD p.1 = some q.1 ∧ q.1.depth ≤ 8 ∧ Dv K F (.ref q.2.1) p.1) ∧ ∃ v, R p.2 v ∧ RelV v q.2.2
theorem paired_nil_left {α β : Type} {R : α → β → Prop} {ys : List β} (h : Paired R [] ys) : ys = [] := by cases h; rfl
theorem paired_two {α β γ : Type} {R : α → β → Prop} {S : β → γ → Prop} {T : α → γ → Prop} (f : ∀ a b c, R a b → S b c → T a c) : ∀ {l : List α} {m : List β} {n : List γ}, Paired R l m → Paired S m n → Paired T l n
  | _, _, _, .nil, h => by cases h; exact .nil
  | _, _, _, .cons h t, h' => by
    cases h' with
    | cons h1 t1 => exact .cons (f _ _ _ h h1) (paired_two f t t1)
theorem tviewN (I : Inv X pins σ H s) {F : Hp} (hF : Same F H) {R : Im → V → Prop} {a : Addr} {ws : List (NestedKey × Addr × V)} {kvs : List (Dt × Im)} (e : Rd H a (dN X.w a ws)) (p : Paired (fun (p : Dt × Im) (q : NestedKey × Addr × V) => Dv ⟨X.K, X.w, z⟩ F (.ref q.2.1) p.1 ∧ nkD p.1 = some q.1 ∧ q.1.depth ≤ 8 ∧ R p.2 q.2.2) kvs ws) :
    ∃ xs : List (NestedKey × Addr × Value), (a == sysModules) = false ∧ xs.length ≤ sizeLine ∧ s.heap.DictOfH (nestedKind X.prog X.w) a xs ∧ Paired (TRel ⟨X.K, X.w, z⟩ F R) kvs xs := by
  obtain ⟨hs, hz, hn, xs, pr, o, es, ep, ho, hc, hd, he⟩ := (e.ok I.hok).1
  have hl : xs.length = ws.length := pr.length.symm
  have hkeys : xs.map (·.1) = ws.map (·.1) := by
    clear he hn hz p hl e
    induction pr with
    | nil => rfl
    | cons h _ ih => rw [List.map_cons, List.map_cons, ih, h.1]
  have rel : Paired (TRel ⟨X.K, X.w, z⟩ F R) kvs xs := paired_two (fun p q r h1 h2 => by
    obtain ⟨d1, d2, d3, d4⟩ := h1
    obtain ⟨k1, k2, k3⟩ := h2
    refine ⟨⟨by rw [← k1]; exact d2, by rw [← k1]; exact d3, by rw [← k2]; exact d1⟩, _, d4, k3⟩) p pr
  refine ⟨xs, hs, by rw [hl]; exact hz.1, ⟨o, es, ep, ho, hc, hd, he, fun x hx => ?_, by rw [hkeys]; exact hn⟩, rel⟩
  obtain ⟨i, hi⟩ := List.getElem?_of_mem hx
  have hil : i < kvs.length := by
    have := (List.getElem?_eq_some_iff.mp hi).1
    rw [rel.length]; exact this
  obtain ⟨y, hy, ⟨h1, h2, h3⟩, _⟩ := paired_get rel (List.getElem?_eq_getElem hil)
  rw [hi] at hy; cases hy
  exact ⟨nk_is I h1 (Dv.mono hF h3) (u := .ref x.2.1) rfl, h2⟩
/-- a dict whose keys are tuples, as the library sees it -/
theorem tview (I : Inv X pins σ H s) {F : Hp} (hF : Same F H) {R : Im → V → Prop} {a : Addr} {o : HO} {kvs : List (Dt × Im)} (e : Rd H a o) (D : DicR ⟨X.K, X.w, z⟩ F R a o kvs) (hk : kvs.all (fun p => tupK p.1) = true) :
    ∃ xs : List (NestedKey × Addr × Value), (a == sysModules) = false ∧ xs.length ≤ sizeLine ∧ s.heap.DictOfH (nestedKind X.prog X.w) a xs ∧ Paired (TRel ⟨X.K, X.w, z⟩ F R) kvs xs := by
  rcases D with ⟨ws, rfl, p⟩ | ⟨ws, rfl, p⟩
  · have hn : kvs = [] := by
      cases p with
      | nil => rfl
      | cons h t =>
        exfalso
        rw [List.all_cons, Bool.and_eq_true] at hk
        have := hk.1
        rw [h.1] at this
        exact kD_tup this
    subst hn
    have := paired_nil_left p
    subst this
    obtain ⟨_, hs, vs, kv, o, es, ep, ho, hc, hd, _, hp, _⟩ := dk_rd I.hok e
    cases kv
    refine ⟨[], hs, Nat.zero_le _, ⟨o, es, ep, ho, hc, hd, ?_, fun x h => absurd h (by simp), by simp⟩, .nil⟩
    generalize es.toList = l at hp
    cases hp; rfl
  · exact tviewN I hF e p
/-- what is found -/
inductive RelG (R : Im → V → Prop) : Option Im → Option Value → Prop
  | none : RelG R none none
  | some {r : Im} {v : V} {u : Value} : R r v → RelV v u → RelG R (some r) (some u)
theorem tfind {K : KW} {F : Hp} {R : Im → V → Prop} {key : Dt} {k : NestedKey} (hk : nkD key = some k) : ∀ {kvs : List (Dt × Im)} {xs : List (NestedKey × Addr × Value)}, Paired (TRel K F R) kvs xs → RelG R (dGet kvs key) ((atKey xs k).map (·.2))
  | _, _, .nil => .none
  | _, _, .cons (a := p) (b := q) h t => by
    have e := keyB_nk h.1.1 hk
    unfold dGet atKey
    rw [List.find?_cons, List.find?_cons, e]
    cases e2 : decide (q.1 = k) with
    | true =>
      obtain ⟨v, h1, h2⟩ := h.2
      exact .some h1 h2
    | false => exact tfind hk t
theorem afind {R : Im → V → Prop} (k : Key) : ∀ {kvs : List (Dt × Im)} {ws : List (Key × V)}, Paired (fun (p : Dt × Im) (q : Key × V) => p.1 = kD q.1 ∧ R p.2 q.2) kvs ws → (dGet kvs (kD k) = none ∧ valV ws k = none) ∨ ∃ r v, dGet kvs (kD k) = some r ∧ valV ws k = some v ∧ R r v
  | _, _, .nil => .inl ⟨rfl, rfl⟩
  | _, _, .cons (a := p) (b := q) h t => by
    have e : keyB p.1 (kD k) = decide (q.1 = k) := by rw [h.1]; exact keyB_kD _ _
    unfold dGet valV
    rw [List.find?_cons, List.find?_cons, e]
    cases e2 : decide (q.1 = k) with
    | true => exact .inr ⟨_, _, rfl, rfl, h.2⟩
    | false => exact afind k t
theorem kV_of {K : KW} {F : Hp} {k : Key} {v : V} (h : Dv K F v (kD k)) : v = kV k := by
  cases k <;> cases h <;> rfl
theorem ref_of_tup {K : KW} {F : Hp} {d : Dt} {v : V} (ht : tupK d = true) (h : Dv K F v d) : ∃ b, v = .ref b := by
  cases h <;> first | exact ⟨_, rfl⟩ | cases ht
theorem kind_cases {kvs : List (Dt × Im)} {key : Dt} (h : kindOk kvs key = true) : (∃ k, key = kD k) ∧ kvs.all (fun p => atomK p.1) = true ∨ tupK key = true ∧ kvs.all (fun p => tupK p.1) = true := by
  unfold kindOk at h
  rw [Bool.or_eq_true, Bool.and_eq_true, Bool.and_eq_true] at h
  rcases h with ⟨h1, h2⟩ | ⟨h1, h2⟩
  · exact .inl ⟨atom_kD h1, h2⟩
  · exact .inr ⟨h1, h2⟩
/-- a dict with atoms for keys -/
theorem aview (I : Inv X pins σ H s) {F : Hp} {R : Im → V → Prop} {a : Addr} {o : HO} {kvs : List (Dt × Im)} (e : Rd H a o) (D : DicR ⟨X.K, X.w, z⟩ F R a o kvs) (hk : kvs.all (fun p => atomK p.1) = true) : ∃ ws, o = .dK ws ∧ Paired (fun (p : Dt × Im) (q : Key × V) => p.1 = kD q.1 ∧ R p.2 q.2) kvs ws := by
  rcases D with ⟨ws, e, p⟩ | ⟨ws, rfl, p⟩
  · exact ⟨ws, e, p⟩
  · exfalso
    have hn := (e.ok I.hok).1.2.1.2
    cases p with
    | nil => exact hn rfl
    | cons h t =>
      rw [List.all_cons, Bool.and_eq_true] at hk
      have h1 := h.1
      have h2 := hk.1
      revert h1 h2
      generalize (_ : Dt × Im).1 = y
      intro h1 h2
      cases h1 <;> cases h2

variable {A : Around} {E : Value → Shared → Prop} {F : Hp} {R : Im → V → Prop} {a : Addr} {o : HO} {kvs : List (Dt × Im)} {key : Dt} {kv : V} {u : Value}
theorem dic_in {Q : Value → Shared → Prop} (hu : A.units + 20 < cLine) (I : Inv X pins σ H s) (hF : Same F H) (e : Rd H a o) (D : DicR ⟨X.K, X.w, z⟩ F R a o kvs) (hk : kindOk kvs key = true) (dk : Dv ⟨X.K, X.w, z⟩ H kv key) (ru : RelV kv u)
    (h : ∀ s', Inv X pins σ H s' → Q (.bool (dGet kvs key).isSome) s') : wpAny (model X.prog X.w) A (compareOp .In u (.ref a)) Q E s := by
  rcases kind_cases hk with ⟨⟨k, rfl⟩, ha⟩ | ⟨ht, ha⟩
  · obtain ⟨ws, rfl, p⟩ := aview I e D ha
    have ek := kV_of dk
    subst ek
    refine d_in (by omega) I (.inl ⟨ws, k, e, rfl, rfl⟩) ru fun s' I' => ?_
    rcases afind k p with ⟨e1, e2⟩ | ⟨r, v, e1, e2, _⟩
    · rw [e2]; rw [e1] at h; exact h s' I'
    · rw [e2]; rw [e1] at h; exact h s' I'
  · obtain ⟨b, rfl⟩ := ref_of_tup ht dk
    cases ru
    obtain ⟨k, hk, hd⟩ := tupK_nk ht
    obtain ⟨xs, hs, hz, dd, rel⟩ := tview I hF e D ha
    refine wpAny_in_heap (knd := nestedKind X.prog X.w) (show A.units + 1 + 8 < cLine by omega) ⟨nk_is I hk dk (u := .ref b) rfl, hd⟩ hs dd ?_
    have g := tfind (R := R) hk rel
    have e3 : (atKey xs k).isSome = (dGet kvs key).isSome := by
      have e4 : (atKey xs k).isSome = ((atKey xs k).map (·.2)).isSome := by cases atKey xs k <;> rfl
      rw [e4]
      generalize dGet kvs key = q1 at g
      generalize (atKey xs k).map (·.2) = q2 at g
      cases g <;> rfl
    rw [e3]
    exact h _ (I.tok _)
theorem dic_get {Q : Value → Shared → Prop} (hu : A.units + 20 < cLine) (I : Inv X pins σ H s) (hF : Same F H) (e : Rd H a o) (D : DicR ⟨X.K, X.w, z⟩ F R a o kvs) (hk : kindOk kvs key = true) (dk : Dv ⟨X.K, X.w, z⟩ H kv key) (ru : RelV kv u) {r : Im} (hr : dGet kvs key = some r)
    (h : ∀ v w' s', R r v → RelV v w' → Inv X pins σ H s' → Q w' s') : wpAny (model X.prog X.w) A (getItem (.ref a) u) Q E s := by
  rcases kind_cases hk with ⟨⟨k, rfl⟩, ha⟩ | ⟨ht, ha⟩
  · obtain ⟨ws, rfl, p⟩ := aview I e D ha
    have ek := kV_of dk
    subst ek
    rcases afind k p with ⟨e1, e2⟩ | ⟨r', v, e1, e2, rv⟩
    · rw [hr] at e1; cases e1
    · rw [hr] at e1; cases e1
      exact d_getItem (by omega) I (.inl ⟨ws, k, e, rfl, e2.symm⟩) ru fun w' s' I' rw' => h v w' s' rv rw' I'
  · obtain ⟨b, rfl⟩ := ref_of_tup ht dk
    cases ru
    obtain ⟨k, hk, hd⟩ := tupK_nk ht
    obtain ⟨xs, hs, hz, dd, rel⟩ := tview I hF e D ha
    have g := tfind (R := R) hk rel
    rw [hr] at g
    generalize hg : (atKey xs k).map (·.2) = q at g
    cases g with
    | some rv rw' =>
      obtain ⟨p, hp, hp2⟩ := Option.map_eq_some_iff.mp hg
      refine wpAny_getItem_heap (knd := nestedKind X.prog X.w) (show A.units + 1 + 8 < cLine by omega) ⟨nk_is I hk dk (u := .ref b) rfl, hd⟩ dd hp ?_
      rw [hp2]
      exact h _ _ _ rv rw' (I.tok _)
/-- d.get(k), d.get(k, x) -/
theorem dic_get1 {Q : Value → Shared → Prop} (hu : A.units + 20 < cLine) (I : Inv X pins σ H s) (hF : Same F H) (e : Rd H a o) (D : DicR ⟨X.K, X.w, z⟩ F R a o kvs) (hk : kindOk kvs key = true) (dk : Dv ⟨X.K, X.w, z⟩ H kv key) (ru : RelV kv u)
    (h1 : ∀ r v w' s', dGet kvs key = some r → R r v → RelV v w' → Inv X pins σ H s' → Q w' s') (h2 : dGet kvs key = none → ∀ s', Inv X pins σ H s' → Q .none s') : wpAny (model X.prog X.w) A (call (.builtin "dict.get") [.ref a, u]) Q E s := by
  rcases kind_cases hk with ⟨⟨k, rfl⟩, ha⟩ | ⟨ht, ha⟩
  · obtain ⟨ws, rfl, p⟩ := aview I e D ha
    have ek := kV_of dk
    subst ek
    refine d_get1 (by omega) I (.inl ⟨ws, k, e, rfl, rfl⟩) ru fun w' s' I' rw' => ?_
    rcases afind k p with ⟨e1, e2⟩ | ⟨r, v, e1, e2, rv⟩
    · rw [e2] at rw'
      cases (show w' = Value.none from rw')
      exact h2 e1 s' I'
    · rw [e2] at rw'; exact h1 r v w' s' e1 rv rw' I'
  · obtain ⟨b, rfl⟩ := ref_of_tup ht dk
    cases ru
    obtain ⟨k, hk, hd⟩ := tupK_nk ht
    obtain ⟨xs, hs, hz, dd, rel⟩ := tview I hF e D ha
    refine call_meetsIn PySem.F.slot_dict_get dd.typeIs PySem.F.entry_dict_get (PySem.F.args_dict_get_2 _ _) (meetsH_dict_get (nestedKind X.prog X.w) a b hs) ⟨show A.units + 1 + 8 < cLine by omega, k, xs, ⟨nk_is I hk dk (u := .ref b) rfl, hd⟩, dd, ?_⟩
    have g := tfind (R := R) hk rel
    generalize hq1 : dGet kvs key = q1 at g
    generalize (atKey xs k).map (·.2) = q2 at g
    cases g with
    | none => exact h2 hq1 _ (I.tok _)
    | some rv rw' => exact h1 _ _ _ _ hq1 rv rw' (I.tok _)
theorem dic_get2 {Q : Value → Shared → Prop} {x : Value} (hu : A.units + 20 < cLine) (I : Inv X pins σ H s) (hF : Same F H) (e : Rd H a o) (D : DicR ⟨X.K, X.w, z⟩ F R a o kvs) (hk : kindOk kvs key = true) (dk : Dv ⟨X.K, X.w, z⟩ H kv key) (ru : RelV kv u) {vx : V} (rx : RelV vx x)
    (h1 : ∀ r v w' s', dGet kvs key = some r → R r v → RelV v w' → Inv X pins σ H s' → Q w' s') (h2 : dGet kvs key = none → ∀ w' s', RelV vx w' → Inv X pins σ H s' → Q w' s') : wpAny (model X.prog X.w) A (call (.builtin "dict.get") [.ref a, u, x]) Q E s := by
  rcases kind_cases hk with ⟨⟨k, rfl⟩, ha⟩ | ⟨ht, ha⟩
  · obtain ⟨ws, rfl, p⟩ := aview I e D ha
    have ek := kV_of dk
    subst ek
    refine d_get2 (by omega) I (.inl ⟨ws, k, e, rfl, rfl⟩) ru rx fun w' s' I' rw' => ?_
    rcases afind k p with ⟨e1, e2⟩ | ⟨r, v, e1, e2, rv⟩
    · rw [e2] at rw'
      exact h2 e1 w' s' rw' I'
    · rw [e2] at rw'; exact h1 r v w' s' e1 rv rw' I'
  · obtain ⟨b, rfl⟩ := ref_of_tup ht dk
    cases ru
    obtain ⟨k, hk, hd⟩ := tupK_nk ht
    obtain ⟨xs, hs, hz, dd, rel⟩ := tview I hF e D ha
    refine call_meetsIn PySem.F.slot_dict_get dd.typeIs PySem.F.entry_dict_get (PySem.F.args_dict_get_3 _ _ _) (meetsH_dict_get_default (nestedKind X.prog X.w) a b hs x) ⟨show A.units + 1 + 8 < cLine by omega, k, xs, ⟨nk_is I hk dk (u := .ref b) rfl, hd⟩, dd, ?_⟩
    have g := tfind (R := R) hk rel
    generalize hq1 : dGet kvs key = q1 at g
    generalize (atKey xs k).map (·.2) = q2 at g
    cases g with
    | none => exact h2 hq1 _ _ rx (I.tok _)
    | some rv rw' => exact h1 _ _ _ _ hq1 rv rw' (I.tok _)

theorem aput {k : Key} {r : Im} {v : V} (rv : R r v) {kvs : List (Dt × Im)} {ws : List (Key × V)} (p : Paired (fun (p : Dt × Im) (q : Key × V) => p.1 = kD q.1 ∧ R p.2 q.2) kvs ws) : Paired (fun (p : Dt × Im) (q : Key × V) => p.1 = kD q.1 ∧ R p.2 q.2) (dPut kvs (kD k) r) (putK ws k v) := by
  have hany : (ws.any fun kv => decide (kv.1 = k)) = (dGet kvs (kD k)).isSome := by
    induction p with
    | nil => rfl
    | cons h t ih =>
      rename_i p q _ _
      have e : keyB p.1 (kD k) = decide (q.1 = k) := by rw [h.1]; exact keyB_kD _ _
      rw [List.any_cons]
      unfold dGet
      rw [List.find?_cons, e]
      cases decide (q.1 = k) with
      | true => rfl
      | false => exact ih
  unfold dPut putK
  rw [hany]
  cases (dGet kvs (kD k)).isSome with
  | true =>
    rw [if_pos rfl, if_pos rfl]
    clear hany
    induction p with
    | nil => exact .nil
    | cons h t ih =>
      rename_i p q _ _
      rw [List.map_cons, List.map_cons]
      refine .cons ?_ ih
      have e : keyB p.1 (kD k) = decide (q.1 = k) := by rw [h.1]; exact keyB_kD _ _
      by_cases e2 : q.1 = k
      · rw [if_pos (by rw [e]; exact decide_eq_true e2), if_pos e2]; exact ⟨h.1, rv⟩
      · rw [if_neg (by rw [e, decide_eq_false e2]; decide), if_neg e2]; exact h
  | false =>
    rw [if_neg (by decide), if_neg (by decide)]
    clear hany
    induction p with
    | nil => exact .cons ⟨rfl, rv⟩ .nil
    | cons h t ih => exact .cons h ih
theorem tput {K : KW} {key : Dt} {k : NestedKey} {b : Addr} {r : Im} {v : V} {w : Value} (hk : nkD key = some k) (hd : k.depth ≤ 8) (dk : Dv K F (.ref b) key) (rv : R r v) (rw' : RelV v w) {kvs : List (Dt × Im)} {xs : List (NestedKey × Addr × Value)} (p : Paired (TRel K F R) kvs xs) :
    Paired (TRel K F R) (dPut kvs key r) (storedH xs k b w) := by
  have hany : (atKey xs k).isSome = (dGet kvs key).isSome := by
    have g := tfind (R := R) hk p
    have e4 : (atKey xs k).isSome = ((atKey xs k).map (·.2)).isSome := by cases atKey xs k <;> rfl
    rw [e4]
    generalize dGet kvs key = q1 at g
    generalize (atKey xs k).map (·.2) = q2 at g
    cases g <;> rfl
  unfold dPut storedH
  rw [hany]
  cases (dGet kvs key).isSome with
  | true =>
    rw [if_pos rfl, if_pos rfl]
    clear hany
    induction p with
    | nil => exact .nil
    | cons h t ih =>
      rename_i p q _ _
      rw [List.map_cons, List.map_cons]
      refine .cons ?_ ih
      have e : keyB p.1 key = decide (q.1 = k) := keyB_nk h.1.1 hk
      unfold putAt
      by_cases e2 : q.1 = k
      · rw [if_pos (by rw [e]; exact decide_eq_true e2), if_pos e2]; exact ⟨h.1, v, rv, rw'⟩
      · rw [if_neg (by rw [e, decide_eq_false e2]; decide), if_neg e2]; exact h
  | false =>
    rw [if_neg (by decide), if_neg (by decide)]
    clear hany
    induction p with
    | nil => exact .cons ⟨⟨hk, hd, dk⟩, v, rv, rw'⟩ .nil
    | cons h t ih => exact .cons h ih
/-- the pairs told twice -/
theorem tsplit {K : KW} {kvs : List (Dt × Im)} {xs : List (NestedKey × Addr × Value)} (p : Paired (TRel K F R) kvs xs) : ∃ ws : List (NestedKey × Addr × V), ws.map (·.1) = xs.map (·.1) ∧ ws.length = xs.length ∧
    Paired (fun (p : NestedKey × Addr × V) (q : NestedKey × Addr × Value) => p.1 = q.1 ∧ p.2.1 = q.2.1 ∧ RelV p.2.2 q.2.2) ws xs ∧ Paired (fun (p : Dt × Im) (q : NestedKey × Addr × V) => Dv K F (.ref q.2.1) p.1 ∧ nkD p.1 = some q.1 ∧ q.1.depth ≤ 8 ∧ R p.2 q.2.2) kvs ws := by
  induction p with
  | nil => exact ⟨[], rfl, rfl, .nil, .nil⟩
  | cons h t ih =>
    rename_i p q _ _
    obtain ⟨ws, h1, h2, h3, h4⟩ := ih
    obtain ⟨⟨k1, k2, k3⟩, v, k4, k5⟩ := h
    exact ⟨(q.1, q.2.1, v) :: ws, by rw [List.map_cons, List.map_cons, h1], by rw [List.length_cons, List.length_cons, h2], .cons ⟨rfl, rfl, k5⟩ h3, .cons ⟨k3, k1, k2, k4⟩ h4⟩
theorem ndic_ok {P : Program} {w : World} {H' : Hp} {h' : Heap} {ws : List (NestedKey × Addr × V)} {xs : List (NestedKey × Addr × Value)} (hs : (a == sysModules) = false) (hz : ws.length ≤ sizeLine) (hne : ws ≠ []) (hn : (ws.map (·.1)).Nodup)
    (p : Paired (fun (p : NestedKey × Addr × V) (q : NestedKey × Addr × Value) => p.1 = q.1 ∧ p.2.1 = q.2.1 ∧ RelV p.2.2 q.2.2) ws xs) (dd : h'.DictOfH (nestedKind P w) a xs) : ObjOk P w H' h' a (dN w a ws) := by
  obtain ⟨o, es, ep, ho, hc, hd, he, _, _⟩ := dd
  refine ⟨⟨hs, ⟨hz, hne⟩, hn, xs, p, o, es, ep, ho, hc, hd, he⟩, ⟨o, ho⟩, fun h1 h2 ⟨a1, a2, a3, xs', a4, o', es', ep', b1, b2, b3, b4⟩ k => ⟨a1, a2, a3, xs', a4, o', es', ep', k _ b1, b2, b3, b4⟩⟩
theorem put_len {α : Type} {kvs : List (Dt × α)} {key : Dt} {r : α} : (dPut kvs key r).length ≤ kvs.length + 1 := by
  unfold dPut
  split <;> simp
theorem put_ne {α : Type} {kvs : List (Dt × α)} {key : Dt} {r : α} : dPut kvs key r ≠ [] := by
  unfold dPut
  split
  · rename_i h
    intro e
    rw [List.map_eq_nil_iff] at e
    subst e
    cases h
  · simp
theorem dic_set {Q : Unit → Shared → Prop} {w : Value} {r : Im} {v : V} (hu : A.units + 20 < cLine) (I : Inv X pins σ H s) (hF : Same F H) (e : H a = some o) (D : DicR ⟨X.K, X.w, z⟩ F R a o kvs) (hk : kindOk kvs key = true) (dk : Dv ⟨X.K, X.w, z⟩ F kv key) (ru : RelV kv u) (hz : kvs.length < sizeLine) (rv : R r v) (rw' : RelV v w)
    (h : ∀ o' s', Inv X pins σ (upd H a o') s' → DicR ⟨X.K, X.w, z⟩ F R a o' (dPut kvs key r) → Q () s') : wpAny (model X.prog X.w) A (setItem (.ref a) u w) Q E s := by
  rcases kind_cases hk with ⟨⟨k, rfl⟩, ha⟩ | ⟨ht, ha⟩
  · obtain ⟨ws, rfl, p⟩ := aview I (.inl e) D ha
    have ek := kV_of dk
    subst ek
    exact d_setItem (by omega) I (DPut.k e (by rw [← p.length]; exact hz)) ru rw' fun s' I' => h _ s' I' (.inl ⟨_, rfl, aput rv p⟩)
  · obtain ⟨b, rfl⟩ := ref_of_tup ht dk
    cases ru
    obtain ⟨k, hk, hd⟩ := tupK_nk ht
    obtain ⟨xs, hs, hzx, dd, rel⟩ := tview I hF (.inl e) D ha
    refine wpAny_setItem_heap (knd := nestedKind X.prog X.w) (show A.units + 1 + 8 < cLine by omega) ⟨nk_is I hk (Dv.mono hF dk) (u := .ref b) rfl, hd⟩ dd (fun h' dd' hb => ?_) hzx
    have rel' := tput hk hd dk rv rw' rel
    obtain ⟨ws, e1, e2, p1, p2⟩ := tsplit rel'
    have hl : ws.length = (dPut kvs key r).length := by rw [e2, rel'.length]
    have hn : (ws.map (·.1)).Nodup := by rw [e1]; exact dd'.nodup
    have hex : ∃ q, h'.get? a = some q := let ⟨q, _, _, hq, _⟩ := dd'; ⟨q, hq⟩
    have mu : Mut (H a) := by
      rw [e]
      rcases D with ⟨_, rfl, _⟩ | ⟨_, rfl, _⟩ <;> exact True.intro
    refine h (dN X.w a ws) _ (d_write I mu hb hex (ndic_ok hs (by rw [hl]; exact Nat.le_trans put_len hz) (fun e => ?_) hn p1 dd')) (.inr ⟨ws, rfl, p2⟩)
    rw [e] at hl
    exact put_ne (List.eq_nil_of_length_eq_zero hl.symm)
/-- x in d, x not in d -/
theorem dic_notIn {Q : Value → Shared → Prop} (hu : A.units + 20 < cLine) (I : Inv X pins σ H s) (hF : Same F H) (e : Rd H a o) (D : DicR ⟨X.K, X.w, z⟩ F R a o kvs) (hk : kindOk kvs key = true) (dk : Dv ⟨X.K, X.w, z⟩ H kv key) (ru : RelV kv u)
    (h : ∀ s', Inv X pins σ H s' → Q (.bool (!(dGet kvs key).isSome)) s') : wpAny (model X.prog X.w) A (compareOp .NotIn u (.ref a)) Q E s := by
  rcases kind_cases hk with ⟨⟨k, rfl⟩, ha⟩ | ⟨ht, ha⟩
  · obtain ⟨ws, rfl, p⟩ := aview I e D ha
    have ek := kV_of dk
    subst ek
    refine d_notIn (by omega) I (.inl ⟨ws, k, e, rfl, rfl⟩) ru fun s' I' => ?_
    rcases afind k p with ⟨e1, e2⟩ | ⟨r, v, e1, e2, _⟩
    · rw [e2]; rw [e1] at h; exact h s' I'
    · rw [e2]; rw [e1] at h; exact h s' I'
  · obtain ⟨b, rfl⟩ := ref_of_tup ht dk
    cases ru
    obtain ⟨k, hk, hd⟩ := tupK_nk ht
    obtain ⟨xs, hs, hz, dd, rel⟩ := tview I hF e D ha
    refine wpAny_notIn_heap (knd := nestedKind X.prog X.w) (show A.units + 1 + 8 < cLine by omega) ⟨nk_is I hk dk (u := .ref b) rfl, hd⟩ hs dd ?_
    have g := tfind (R := R) hk rel
    have e3 : (atKey xs k).isSome = (dGet kvs key).isSome := by
      have e4 : (atKey xs k).isSome = ((atKey xs k).map (·.2)).isSome := by cases atKey xs k <;> rfl
      rw [e4]
      generalize dGet kvs key = q1 at g
      generalize (atKey xs k).map (·.2) = q2 at g
      cases g <;> rfl
    rw [e3]
    exact h _ (I.tok _)
end
end DX

namespace DX
open PySem PySem.Spec PyProof.Rows L2

def notStar : Expr → Bool
  | .Starred .. => false
  | _ => true
theorem notStar_A {e : Expr} (h : notStar e = true) (es : List Expr) : PlainA e es := fun env => by
  cases e <;> first | rfl | cases h
theorem notStar_As : ∀ {es : List Expr}, es.all notStar = true → PlainAs es
  | [], _, env, pos => rfl
  | e :: es, h, env, pos => by
    rw [List.all_cons, Bool.and_eq_true] at h
    rw [notStar_A h.1 es env]
    show (false || (backTo pos (starEach es env)).any (·.1)) = false
    rw [notStar_As h.2 env pos]; rfl
theorem notStar_each {t : Expr} (h : notStar t = true) (ts : List Expr) : ∀ env, (assignEach (t :: ts) env).map (·.2) = assign t env :: (assignEach ts env).map (·.2) := fun env => by
  cases t <;> first | rfl | cases h
theorem notStar_find : ∀ {ts : List Expr}, ts.all notStar = true → ∀ env, (assignEach ts env).findIdx? (·.1) = none
  | [], _, env => rfl
  | t :: ts, h, env => by
    rw [List.all_cons, Bool.and_eq_true] at h
    have ih := notStar_find h.2 env
    have e : assignEach (t :: ts) env = (false, assign t env) :: assignEach ts env := by
      have h1 := h.1
      cases t <;> first | rfl | cases h1
    rw [e, List.findIdx?_cons, ih]; rfl
theorem assignEach_len : ∀ (ts : List Expr) env, (assignEach ts env).length = ts.length
  | [], env => rfl
  | t :: ts, env => by
    have e : (assignEach (t :: ts) env).length = (assignEach ts env).length + 1 := by cases t <;> rfl
    rw [e, assignEach_len ts env]; rfl
def notSlice : Expr → Bool
  | .Slice .. => false
  | _ => true
theorem notSlice_ix {e : Expr} (h : notSlice e = true) : PlainIx e := fun o i => by
  cases e <;> first | rfl | cases h
def plT : Expr → Bool
  | .UnaryOp .Not _ _ => false
  | .BoolOp .. => false
  | .IfExp .. => false
  | .Compare .. => false
  | _ => true
theorem plT_ok {e : Expr} (h : plT e = true) : PlainT e := fun env whole => by
  cases e with
  | UnaryOp op x p => cases op <;> first | rfl | cases h
  | _ => first | rfl | cases h
def notComp : Expr → Bool
  | .ListComp .. => false
  | .SetComp .. => false
  | .DictComp .. => false
  | _ => true
theorem notComp_S {e : Expr} (h : notComp e = true) (t : Option Expr) (l : Nat) (env : Env) : swapsWith e t l env = pure false := by
  cases e <;> first | rfl | cases h
def notSuper : Expr → Bool
  | .Call (.Name x _) [] [] _ => !(x == "super")
  | _ => true
theorem notSuper_B {o : Expr} (h : notSuper o = true) (name : Str) : PlainB o name := fun env => by
  unfold attributeBase
  split
  · rename_i x p pos
    have hx : (x != ("super" : Str)) = true := by
      have h' : (!(x == ("super" : Str))) = true := h
      exact h'
    rw [hx]; rfl
  · rfl
def notSetE : Expr → Bool
  | .Set .. => false
  | _ => true
theorem notSet_F {e : Expr} (h : notSetE e = true) (env : Env) (x : Value) : foldedSetIterable e env x = pure x := by
  unfold foldedSetIterable
  cases e <;> first | rfl | cases h

structure Ck where
  N : List Str
  sc : Scope
  fn : Str → Bool
  bl : List Str
  hot : Option (Option Nat) := none
  top : Bool := true
/-- nothing is being handled -/
def cal (C : Ck) : Bool := C.hot.isNone
def hotOk (C : Ck) (i : Nat) : Bool := match C.hot with
  | some (some j) => !(Nat.beq i j)
  | _ => true
def dbg (x : Str) : Bool := x == ("__debug__" : Str)
def visb (sc : Scope) (x : Str) : Bool := match sc.names.lookup x with
  | some .local => true
  | some .cell => true
  | some .free => true
  | _ => false
theorem visb_ok {sc : Scope} {x : Str} (h : visb sc x = true) : Vis sc x := by
  unfold visb at h
  split at h
  · rename_i e; exact .inl e
  · rename_i e; exact .inr (.inl e)
  · rename_i e; exact .inr (.inr e)
  · cases h
def locb (sc : Scope) (x : Str) : Bool := match sc.names.lookup x with
  | some .local => true
  | some .cell => true
  | _ => false
theorem locb_ok {sc : Scope} {x : Str} (h : locb sc x = true) : Loc sc x := by
  unfold locb at h
  split at h
  · rename_i e; exact .inl e
  · rename_i e; exact .inr e
  · cases h
def glb (sc : Scope) (x : Str) : Bool := decide (sc.names.lookup x = some .globalImplicit)
def nmOk (C : Ck) (i : Nat) (x : Str) : Bool := decide (C.N[i]? = some x) && (visb C.sc x && (!(dbg x) && !(x == ("__classdict__" : Str))))
def stOk (C : Ck) (i : Nat) (x : Str) : Bool := decide (C.N[i]? = some x) && (locb C.sc x && ((C.fn x || decide (C.sc.names.lookup x = some .local)) && hotOk C i))
def bltOk (C : Ck) (x : Str) : Bool := glb C.sc x && C.bl.contains x
def Ck.blk (C : Ck) (scope : Scope) : Ck := { N := C.N, sc := L2.relS scope C.sc, fn := fun x => scope.names.lookup x == some .cell, bl := C.bl, hot := C.hot, top := false }
/-- a value that a name of the module or a builtin stands for -/
def NameV (mg : Str → Option Value) (x : Str) : Addr ⊕ String → Prop
  | .inl a => mg x = some (.ref a)
  | .inr T => mg x = none ∧ bootBuiltins x = some (.type T) ∧ x ≠ "__name__"
def clV : Addr ⊕ String → V
  | .inl a => .ref a
  | .inr T => .ty T
def clU : Addr ⊕ String → Value
  | .inl a => .ref a
  | .inr T => .type T
/-- what is known of a class of exceptions -/
structure XFacts (K : PySem.W.Frag) (D : Addr) : Prop where
  kC : PySem.W.keepIn K (.ref D) = true
  tC : PySem.W.typeIn K (.ref D) = some (.type "type")
  ec : ExcC K D
structure XcOk (K : PySem.W.Frag) (mg : Str → Option Value) (y : Xc) : Prop where
  ex : ∃ D, mg y.name = some (.ref D) ∧ XFacts K D ∧ (∀ c ∈ y.sup, ∃ cv, NameV mg c cv ∧ PySem.W.kitOne K (.ref D) (clU cv) = some true ∧ PySem.W.exmOne K (.ref D) (clU cv) = some true) ∧
    (∀ c ∈ y.non, ∃ cv, NameV mg c cv ∧ PySem.W.kitOne K (.ref D) (clU cv) = some false ∧ PySem.W.exmOne K (.ref D) (clU cv) = some false) ∧ (∀ f ∈ y.fl, PySem.W.findIn K (.ref D) f = some none) ∧
    (y.fl = [] → PySem.W.excIn K D [.type "ValueError", .type "Exception", .type "BaseException", .type "object"] "ValueError.__new__" = true)
structure GOk (G : Sx) (V : Ev) (C : Ck) : Prop where
  N : G.N = C.N
  sc : G.sc = C.sc
  fn : G.fn = C.fn
  bl : ∀ x ∈ C.bl, G.mg x = none
  cs : ∀ c ∈ V.cs, ∃ u v, G.mg c.1 = some u ∧ RelV v u ∧ ∀ z F, Dv ⟨G.K, G.w, z⟩ F v c.2
  kk : 2 ≤ G.k
  fs : ∀ g ∈ V.fs, DefOk G.P G.w G.K G.mg G.base (G.k - 2) g
  xs : ∀ y ∈ V.xs, XcOk G.K G.mg y
  h0 : C.hot = none → G.hot = none
  h1 : ∀ i, C.hot = some i → ∃ h x, G.hot = some h ∧ h.i = i ∧ V.hot = some (x, h.fs) ∧ G.mg x = some (.ref h.D) ∧ (h.fs ≠ [] → h.d ≠ none)
  top : C.top = true → G.top = true
theorem GOk.cal {G : Sx} {V : Ev} {C : Ck} (O : GOk G V C) (h : cal C = true) : G.hot = none := O.h0 (by unfold DX.cal at h; simpa using h)
theorem GOk.noHot {G : Sx} {V : Ev} {C : Ck} (O : GOk G V C) {i : Nat} (h : hotOk C i = true) : NoHot G i := fun h' e => by
  cases hc : C.hot with
  | none => rw [O.h0 hc] at e; cases e
  | some j =>
    obtain ⟨h2, x, e2, e3, _⟩ := O.h1 j hc
    rw [e2] at e; cases e
    intro q
    rw [e3] at q
    subst q
    unfold hotOk at h
    rw [hc] at h
    simp at h
theorem GOk.blk {G : Sx} {V : Ev} {C : Ck} (h : GOk G V C) (scope : Scope) : GOk (G.blk scope) V (C.blk scope) := ⟨h.N, by show L2.relS scope G.sc = L2.relS scope C.sc; rw [h.sc], rfl, h.bl, h.cs, h.kk, h.fs, h.xs, h.h0, h.h1, fun z => nomatch z⟩
theorem GOk.at {G : Sx} {V : Ev} {C : Ck} (h : GOk G V C) (n : Nat) : GOk (G.at n) V C := ⟨h.N, h.sc, h.fn, h.bl, h.cs, h.kk, h.fs, h.xs, h.h0, h.h1, h.top⟩
theorem nmOk_ok {G : Sx} {V : Ev} {C : Ck} (O : GOk G V C) {i : Nat} {x : Str} (h : nmOk C i x = true) : G.N[i]? = some x ∧ Vis G.sc x ∧ (x == ("__debug__" : Str)) = false ∧ (x == ("__classdict__" : Str)) = false := by
  unfold nmOk at h
  simp only [Bool.and_eq_true, Bool.not_eq_true'] at h
  obtain ⟨h1, h2, h3, h4⟩ := h
  exact ⟨by rw [O.N]; exact of_decide_eq_true h1, by rw [O.sc]; exact visb_ok h2, h3, h4⟩
theorem stOk_ok {G : Sx} {V : Ev} {C : Ck} (O : GOk G V C) {i : Nat} {x : Str} (h : stOk C i x = true) : G.N[i]? = some x ∧ Loc G.sc x ∧ (G.fn x = true ∨ G.sc.names.lookup x = some .local) ∧ NoHot G i := by
  unfold stOk at h
  simp only [Bool.and_eq_true, Bool.or_eq_true] at h
  obtain ⟨h1, h2, h3, h4⟩ := h
  refine ⟨by rw [O.N]; exact of_decide_eq_true h1, by rw [O.sc]; exact locb_ok h2, ?_, O.noHot h4⟩
  rcases h3 with h3 | h3
  · exact .inl (by rw [O.fn]; exact h3)
  · exact .inr (by rw [O.sc]; exact of_decide_eq_true h3)
theorem glb_ok {G : Sx} {V : Ev} {C : Ck} (O : GOk G V C) {x : Str} (h : glb C.sc x = true) : G.sc.names.lookup x = some .globalImplicit := by rw [O.sc]; exact of_decide_eq_true h
theorem bltOk_ok {G : Sx} {V : Ev} {C : Ck} (O : GOk G V C) {x : Str} (h : bltOk C x = true) : G.sc.names.lookup x = some .globalImplicit ∧ G.mg x = none := by
  unfold bltOk at h
  rw [Bool.and_eq_true] at h
  exact ⟨glb_ok O h.1, O.bl x (by simpa using h.2)⟩

structure Chk where
  e : Ck → Expr → N → Bool
  t : Ck → Expr → N → Bool
  a : Ck → List Expr → N → Bool
  o : Ck → Option Expr → N → Bool
  i : Ck → Expr → Expr → N → Bool
  g : Ck → Expr → N → Bool
  gs : Ck → List Expr → N → Bool
  s : Ck → Stmt → N → Bool
  ss : Ck → List Stmt → N → Bool
def Bo.op : Bo → Operator
  | .add => .Add
  | .sub => .Sub
  | .mul => .Mult
  | .fdiv => .FloorDiv
  | .mod => .Mod
  | .pow => .Pow
def Co.op : Co → CmpOp
  | .eq => .Eq
  | .ne => .NotEq
  | .lt => .Lt
  | .le => .LtE
  | .gt => .Gt
  | .ge => .GtE
  | .isIn => .In
  | .notIn => .NotIn
def arg1 (c : Chk) (C : Ck) (args : List Expr) (as : N) : Bool := match args, as with
  | [a], .cons n .nil => c.e C a n && notStar a
  | _, _ => false
def biArgs (c : Chk) (C : Ck) (f : Bi) (x : Str) (args : List Expr) (as : N) : Bool := match f with
  | .len => (x == "len") && arg1 c C args as
  | .int => (x == "int") && arg1 c C args as
  | .list => (x == "list") && (cal C && arg1 c C args as)
  | .tuple => (x == "tuple") && arg1 c C args as
  | .isi T => (x == "isinstance") && (match args with
    | [a, .Name T' _] => arg1 c C [a] as && (decide (T' = Str.ofString T) && (bltOk C T' && (decide (bootBuiltins T' = some (.type T)) && (!(T' == "__name__") && !(dbg T')))))
    | _ => false)
def Bf.name : Bf → Str
  | .ord => "ord"
  | .chr => "chr"
  | .abs => "abs"
  | .all => "all"
  | .any => "any"
  | .sum => "sum"
  | .min => "min"
  | .max => "max"
  | .str => "str"
def neArgs (c : Chk) (C : Ck) (args : List Expr) (as : N) : Bool := match args with
  | [] => false
  | a :: es => (a :: es).all notStar && c.a C (a :: es) as
def callArgs (c : Chk) (C : Ck) (args : List Expr) (as : N) : Bool := match args with
  | [] => (match as with
    | .nil => true
    | _ => false)
  | a :: es => (a :: es).all notStar && c.a C (a :: es) as
/-- a target's slots are among these -/
def tgIn (vs : List Nat) : N → Bool
  | .tslot i => vs.contains i
  | .ttup _ ts => tgIn vs ts
  | .cons a r => tgIn vs a && tgIn vs r
  | .nil => true
  | _ => false
def ifOk (c : Chk) (C : Ck) (ifs : List Expr) (q : N) : Bool := match ifs, q with
  | [], .nil => true
  | [k], q => c.t C k q
  | _, _ => false
def lcChk (c : Chk) (C : Ck) (elt tg iter : Expr) (ifs : List Expr) (scope : Scope) (n : N) : Bool := match n with
  | .lcp _ a t it q vs => cal C && (blkC C.N C.sc scope vs && (tgIn (vs.map (·.2)) t && (notSetE iter && (c.i C tg iter it && (c.g (C.blk scope) tg t && (c.e (C.blk scope) elt a && ifOk c (C.blk scope) ifs q))))))
  | .lc _ a t it q vs => cal C && (blkC C.N C.sc scope vs && (tgIn (vs.map (·.2)) t && (notSetE iter && (c.i C tg iter it && (c.g (C.blk scope) tg t && (c.e (C.blk scope) elt a && ifOk c (C.blk scope) ifs q))))))
  | _ => false
def stepE (V : Ev) (c : Chk) (C : Ck) (e : Expr) (n : N) : Bool := match e with
  | .Name x _ => match n with
    | .slot i => nmOk C i x
    | .glob j => match V.cs[j]? with
      | some d => decide (d.1 = x) && (glb C.sc x && !(dbg x))
      | none => false
    | _ => false
  | .Constant k _ _ => match k, n with
    | .int i, .int j => decide (i = j)
    | .bool i, .bool j => decide (i = j)
    | .none, .non => true
    | .str i, .str j => decide (i = j)
    | _, _ => false
  | .BinOp l o r _ => match n with
    | .bin op _ a b => decide (op.op = o) && (c.e C l a && c.e C r b)
    | _ => false
  | .UnaryOp .USub x _ => match n with
    | .neg a => c.e C x a
    | _ => false
  | .UnaryOp .Not x _ => match n with
    | .not a => c.e C x a
    | _ => false
  | .Compare l [o] [r] _ => match n with
    | .cmp op a b => decide (op.op = o) && (!(behindInMarks o r) && (c.e C l a && c.e C r b))
    | .eqd ne a b => decide ((if ne then .NotEq else .Eq) = o) && (!(behindInMarks o r) && (c.e C l a && c.e C r b))
    | .isN a => match o, r with
      | .Is, .Constant .none _ _ => c.e C l a
      | _, _ => false
    | _ => false
  | .BoolOp op [x] _ => c.e C x n
  | .BoolOp op (x :: y :: rest) pos => match n with
    | .and a b => match op with
      | .And => c.e C x a && c.e C (.BoolOp .And (y :: rest) pos) b
      | .Or => false
    | .or a b => match op with
      | .Or => c.e C x a && c.e C (.BoolOp .Or (y :: rest) pos) b
      | .And => false
    | _ => false
  | .IfExp q x y _ => match n with
    | .ife k a b => c.t C q k && (c.e C x a && c.e C y b)
    | _ => false
  | .Call (.Name x _) args [] _ => match n with
    | .call j as => match V.fs[j]? with
      | some g => cal C && (decide (g.name = x) && (glb C.sc x && (!(dbg x) && callArgs c C args as)))
      | none => false
    | .bi f _ as => bltOk C x && biArgs c C f x args as
    | _ => false
  | .Call (.Attribute o m apos) args [] cpos => match n with
    | .app a b => (m == "append") && (notSuper o && ((apos.endLine == cpos.line) && (c.e C o a && (match args with
      | [x] => notStar x && c.e C x b
      | _ => false))))
    | .pop a => (m == "pop") && (notSuper o && ((apos.endLine == cpos.line) && (c.e C o a && (match args with
      | [] => true
      | _ => false))))
    | _ => false
  | .List es _ => match n with
    | .lst _ as => c.a C es as
    | _ => false
  | .Tuple es _ _ => match n with
    | .tup as => c.a C es as
    | _ => false
  | .Subscript x (.Slice lo hi none _) _ => match n with
    | .slc _ a l u => c.e C x a && (c.o C lo l && c.o C hi u)
    | _ => false
  | .Subscript x i _ => match n with
    | .ix a b => notSlice i && (c.e C x a && c.e C i b)
    | _ => false
  | .ListComp elt [⟨tg, iter, ifs, 0⟩] scope _ => lcChk c C elt tg iter ifs scope n
  | _ => false
def keyOk (g : FnE) : Bool := match g.sp, g.df with
  | .pure _, [] => true
  | _, _ => false
theorem keyOk_ok {g : FnE} (h : keyOk g = true) : (∃ S, g.sp = .pure S) ∧ g.df = [] := by
  unfold keyOk at h
  split at h
  · rename_i S e1 e2; exact ⟨⟨S, e1⟩, e2⟩
  · cases h
/-- isinstance(e, y), e the exception at hand -/
def isEChk (V : Ev) (C : Ck) (e : Expr) (y : Str) : Bool := match C.hot with
  | some (some i) => match e with
    | .Call (.Name f _) [.Name n _, .Name z _] [] _ => bltOk C f && ((f == "isinstance") && (nmOk C i n && (decide (z = y) && (glb C.sc z && !(dbg z)))))
    | _ => false
  | _ => false
/-- e.f -/
def efldChk (V : Ev) (C : Ck) (e : Expr) (f : Str) : Bool := match C.hot with
  | some (some i) => match e with
    | .Attribute (.Name n _) g _ => nmOk C i n && (decide (g = f) && true)
    | _ => false
  | _ => false
def xcOf (V : Ev) (c : Str) : Option Xc := V.xs.find? fun y => decide (y.name = c)
def pairChk (c : Chk) (C : Ck) : List (Option Expr) → List Expr → N → Bool
  | [], [], .nil => true
  | some k :: ks, v :: vs, .cons a (.cons b r) => c.e C k a && (c.e C v b && pairChk c C ks vs r)
  | _, _, _ => false
def stepX (V : Ev) (c : Chk) (C : Ck) (e : Expr) (n : N) : Bool := match n with
  | .bf f as => match e with
    | .Call (.Name x _) args [] _ => cal C && (bltOk C x && ((x == f.name) && neArgs c C args as))
    | _ => false
  | .sort _ a => match e with
    | .Call (.Name x _) [y] [] _ => cal C && (bltOk C x && ((x == "sorted") && (notStar y && c.e C y a)))
    | _ => false
  | .sortk _ j a => match e with
    | .Call (.Name x _) [z] [⟨some kw, .Name y _, _⟩] _ => match V.fs[j]? with
      | some g => cal C && (keyOk g && (bltOk C x && ((x == "sorted") && ((kw == "key") && (decide (g.name = y) && (glb C.sc y && (!(dbg y) && (notStar z && c.e C z a))))))))
      | none => false
    | _ => false
  | .mink mx j a => match e with
    | .Call (.Name x _) [z] [⟨some kw, .Name y _, _⟩] _ => match V.fs[j]? with
      | some g => cal C && (keyOk g && (bltOk C x && ((x == mxN mx) && ((kw == "key") && (decide (g.name = y) && (glb C.sc y && (!(dbg y) && (notStar z && c.e C z a))))))))
      | none => false
    | _ => false
  | .chain op op' a b d => match e with
    | .Compare l [o, o'] [r, w] _ => decide (op.op = o) && (decide (op'.op = o') && (!(lastMarks [o, o'] [r, w]) && (c.e C l a && (c.e C r b && c.e C w d))))
    | _ => false
  | .dnew => match e with
    | .Dict [] [] _ => true
    | _ => false
  | .ext a b => match e with
    | .Call (.Attribute o m apos) [x] [] cpos => (m == "extend") && (notSuper o && (notStar x && ((apos.endLine == cpos.line) && (c.e C o a && c.e C x b))))
    | _ => false
  | .ddisp _ as => match e with
    | .Dict keys vals _ => Nat.ble 1 keys.length && (Nat.ble keys.length 15 && pairChk c C keys vals as)
    | _ => false
  | .dcp _ a => match e with
    | .Call (.Name x _) [y] [] _ => bltOk C x && ((x == "dict") && (notStar y && c.e C y a))
    | _ => false
  | .isE y => isEChk V C e y
  | .efld f => efldChk V C e f
  | .dget o k => match e with
    | .Call (.Attribute a m apos) [x] [] cpos => (m == "get") && (notSuper a && (notStar x && ((apos.endLine == cpos.line) && (c.e C a o && c.e C x k))))
    | _ => false
  | .dget2 o k y => match e with
    | .Call (.Attribute a m apos) [x, z] [] cpos => (m == "get") && (notSuper a && (notStar x && ((apos.endLine == cpos.line) && (notStar z && (c.e C a o && (c.e C x k && c.e C z y))))))
    | _ => false
  | .dsetd o k y => match e with
    | .Call (.Attribute a m apos) [x, z] [] cpos => (m == "setdefault") && (notSuper a && (notStar x && ((apos.endLine == cpos.line) && (notStar z && (c.e C a o && (c.e C x k && c.e C z y))))))
    | _ => false
  | _ => false
/-- what stands behind a comprehension's first clause -/
def leafChk (c : Chk) (C : Ck) (e : Expr) (b : N) : Bool := match e, b with
  | .ListComp elt _ _ _, .yl a => c.e C elt a
  | .DictComp kx vx _ _ _, .yd a b => c.e C kx a && c.e C vx b
  | _, _ => false
def restChk (c : Chk) (C : Ck) (vs : List Nat) (e : Expr) (rest : List Comprehension) (b : N) : Bool := match rest with
  | [] => leafChk c C e b
  | [⟨tg, iter, ifs, 0⟩] => match b with
    | .cfor t it q b vs1 => (vs1.all fun i => vs.contains i) && (tgIn vs1 t && (notSetE iter && (c.i C tg iter it && (c.g C tg t && (ifOk c C ifs q && leafChk c C e b)))))
    | _ => false
  | _ => false
def cmChk (c : Chk) (C : Ck) (e : Expr) (n : N) : Bool := match n with
  | .cm _ d t it q b vs => cal C && (match e with
    | .ListComp elt (⟨tg, iter, ifs, 0⟩ :: rest) scope _ => !d && (blkC C.N C.sc scope vs && (tgIn (vs.map (·.2)) t && (notSetE iter && (c.i C tg iter it && (c.g (C.blk scope) tg t && (ifOk c (C.blk scope) ifs q && restChk c (C.blk scope) (vs.map (·.2)) e rest b))))))
    | .DictComp kx vx (⟨tg, iter, ifs, 0⟩ :: rest) scope _ => d && (blkC C.N C.sc scope vs && (tgIn (vs.map (·.2)) t && (notSetE iter && (c.i C tg iter it && (c.g (C.blk scope) tg t && (ifOk c (C.blk scope) ifs q && restChk c (C.blk scope) (vs.map (·.2)) e rest b))))))
    | _ => false)
  | _ => false
/-- nodes whose test is by their value -/
def N.plain : N → Bool
  | .slot _ => true
  | .bin .. => true
  | .call .. => true
  | .bi .. => true
  | .ix .. => true
  | .bf .. => true
  | .isE _ => true
  | _ => false
def stepT (c : Chk) (C : Ck) (e : Expr) (n : N) : Bool := match e with
  | .UnaryOp .Not x _ => match n with
    | .not a => c.t C x a
    | _ => false
  | .Compare l [o] [r] _ => match n with
    | .cmp op a b => decide (op.op = o) && (!(behindInMarks o r) && (c.e C l a && c.e C r b))
    | .eqd ne a b => decide ((if ne then .NotEq else .Eq) = o) && (!(behindInMarks o r) && (c.e C l a && c.e C r b))
    | .isN a => match o, r with
      | .Is, .Constant .none _ _ => c.e C l a
      | _, _ => false
    | .isNN a => match o, r with
      | .IsNot, .Constant .none _ _ => c.e C l a
      | _, _ => false
    | _ => false
  | .Compare l [o, o'] [r, w] _ => match n with
    | .chain op op' a b d => decide (op.op = o) && (decide (op'.op = o') && (!(lastMarks [o, o'] [r, w]) && (c.e C l a && (c.e C r b && c.e C w d))))
    | _ => false
  | .BoolOp op [x] _ => c.t C x n
  | .BoolOp op (x :: y :: rest) pos => match n with
    | .and a b => match op with
      | .And => c.t C x a && c.t C (.BoolOp .And (y :: rest) pos) b
      | .Or => false
    | .or a b => match op with
      | .Or => c.t C x a && c.t C (.BoolOp .Or (y :: rest) pos) b
      | .And => false
    | _ => false
  | .Constant (.bool i) _ _ => match n with
    | .bool j => decide (i = j)
    | _ => false
  | e => plT e && (n.plain && c.e C e n)
def stepA (c : Chk) (C : Ck) : List Expr → N → Bool
  | [], .nil => true
  | e :: es, .cons a r => notStar e && (c.e C e a && c.a C es r)
  | _, _ => false
def stepO (c : Chk) (C : Ck) : Option Expr → N → Bool
  | none, .nil => true
  | some e, .int i => c.e C e (.int i)
  | some e, .slot i => c.e C e (.slot i)
  | some e, .bin op w a b => c.e C e (.bin op w a b)
  | some e, .neg a => c.e C e (.neg a)
  | some e, .call j as => c.e C e (.call j as)
  | some e, .bi f w as => c.e C e (.bi f w as)
  | some e, .ix a i => c.e C e (.ix a i)
  | some e, .bf f a => c.e C e (.bf f a)
  | _, _ => false
def isTup : Expr → Bool
  | .Tuple .. => true
  | _ => false
def stepI (c : Chk) (C : Ck) (tg e : Expr) (n : N) : Bool := match n with
  | .items a => match e with
    | .Call (.Attribute o m apos) [] [] cpos => isTup tg && ((m == "items") && (notSuper o && ((apos.endLine == cpos.line) && c.e C o a)))
    | _ => false
  | .vals a => match e with
    | .Call (.Attribute o m apos) [] [] cpos => (m == "values") && (notSuper o && ((apos.endLine == cpos.line) && c.e C o a))
    | _ => false
  | .walk a => c.e C e a
  | .range a => match e with
    | .Call (.Name x _) [y] [] _ => (x == "range") && (bltOk C x && (notStar y && c.e C y a))
    | _ => false
  | .range2 a b => match e with
    | .Call (.Name x _) [y, w] [] _ => (x == "range") && (bltOk C x && (notStar y && (notStar w && (c.e C y a && c.e C w b))))
    | _ => false
  | .range3 a b d => match e with
    | .Call (.Name x _) [y, w, v] [] _ => (x == "range") && (bltOk C x && (notStar y && (notStar w && (notStar v && (c.e C y a && (c.e C w b && c.e C v d))))))
    | _ => false
  | .rev a => match e with
    | .Call (.Name x _) [y] [] _ => (x == "reversed") && (bltOk C x && (notStar y && c.e C y a))
    | _ => false
  | _ => false
def stepG (c : Chk) (C : Ck) (e : Expr) (n : N) : Bool := match n with
  | .tslot i => match e with
    | .Name x _ => stOk C i x
    | _ => false
  | .ttup k ts => match e with
    | .Tuple es _ _ => cal C && (decide (es.length = k) && (es.all notStar && c.gs C es ts))
    | _ => false
  | _ => false
def stepG' (c : Chk) (C : Ck) (e : Expr) (n : N) : Bool := match n with
  | .tlst k ts => match e with
    | .Tuple es _ _ => cal C && (decide (es.length = k) && (es.all notStar && c.gs C es ts))
    | _ => false
  | _ => false
def stepGs (c : Chk) (C : Ck) : List Expr → N → Bool
  | [], .nil => true
  | e :: es, .cons a r => notStar e && (c.g C e a && c.gs C es r)
  | _, _ => false
def lcCell (C : Ck) (x : Str) (e : Expr) : Bool := match e with
  | .ListComp .. => decide (C.sc.names.lookup x = some .cell)
  | _ => false
def lcStmt (c : Chk) (C : Ck) (x : Str) (p : Pos) (e : Expr) (a : N) : Bool := match e with
  | .ListComp elt [⟨tg, iter, ifs, 0⟩] scope lpos => decide (C.sc.kind = .function) && (decide (C.sc.names.lookup x = some .local) && ((p.line == lpos.line) && (!(scope.names.any fun (n, k) => n == x && (k == .local || k == .cell)) && lcChk c C elt tg iter ifs scope a)))
  | _ => false
def cmStmt (c : Chk) (C : Ck) (x : Str) (p : Pos) (e : Expr) (a : N) : Bool := decide (C.sc.kind = .function) && (decide (C.sc.names.lookup x = some .local) && (match e with
  | .ListComp _ _ scope lpos => (p.line == lpos.line) && (!(scope.names.any fun (n, k) => n == x && (k == .local || k == .cell)) && cmChk c C e a)
  | .DictComp _ _ _ scope lpos => (p.line == lpos.line) && (!(scope.names.any fun (n, k) => n == x && (k == .local || k == .cell)) && cmChk c C e a)
  | _ => false))
def stepS0 (c : Chk) (C : Ck) (s : Stmt) (n : N) : Bool := match s with
  | .Assign [.Name x p] e pos => match n with
    | .set i a => stOk C i x && ((c.e C e a && (notComp e || lcCell C x e)) || (lcStmt c C x p e a || cmStmt c C x p e a))
    | _ => false
  | .Assign [.Tuple ts k tp] e pos => match n with
    | .asg t a => c.g C (.Tuple ts k tp) t && (c.e C e a && (match e with
      | .Tuple .. => false
      | e => notComp e))
    | _ => false
  | .Assign [.Subscript o i p] e pos => match n with
    | .asg (.tix a b) v => c.e C e v && (c.e C o a && (c.e C i b && (notSlice i && notComp e)))
    | _ => false
  | .Expr e _ => match n with
    | .expr a => c.e C e a && notComp e
    | _ => false
  | .Return (some e) _ => match n with
    | .ret a => c.e C e a
    | _ => false
  | .Return none _ => match n with
    | .retN => true
    | _ => false
  | .Pass _ => match n with
    | .pas => true
    | _ => false
  | .Break _ => match n with
    | .brk => true
    | _ => false
  | .Continue _ => match n with
    | .cont => true
    | _ => false
  | .If q t f _ => match n with
    | .ite k a b => c.t C q k && (c.ss C t a && c.ss C f b)
    | _ => false
  | .For tg it body [] _ => match n with
    | .for_ t i b => cal C && (notSetE it && (c.g C tg t && (c.i C tg it i && c.ss C body b)))
    | _ => false
  | .While q body [] _ => match n with
    | .while_ k b => c.t C q k && c.ss C body b
    | _ => false
  | _ => false
/-- raise, try -/
def stepSx (V : Ev) (c : Chk) (C : Ck) (s : Stmt) (n : N) : Bool := match n with
  | .abs => true
  | .raise y => match s with
    | .Raise (some (.Call (.Name x _) [.Constant (.str _) _ _] [] _)) none _ => cal C && (decide (x = y) && (glb C.sc x && (!(dbg x) && (match xcOf V y with
      | some z => z.fl.isEmpty
      | none => false))))
    | _ => false
  | .try_ b y i u => match s with
    | .Try body [.ExceptHandler (some (.Name x _)) nm (b0 :: su) _] [] [] _ => cal C && (C.top && (decide (x = y) && ((V.xs.any fun z => z.sup.contains x || z.non.contains x) && (glb C.sc x && (!(dbg x) && (c.ss C body b && (c.ss { C with hot := some i } (b0 :: su) u && (match nm, i with
      | none, none => true
      | some m, some j => decide (C.N[j]? = some m) && decide (C.sc.names.lookup m = some .local)
      | _, _ => false))))))))
    | _ => false
  | _ => false
def stepS (V : Ev) (c : Chk) (C : Ck) (s : Stmt) (n : N) : Bool := match n with
  | .aug i a => match s with
    | .AugAssign (.Name x _) .Add e _ => stOk C i x && c.e C e a
    | _ => false
  | .join a => c.s C s a
  | n => stepS0 c C s n || stepSx V c C s n
def stepSs (c : Chk) (C : Ck) (ss : List Stmt) (n : N) : Bool := match n with
  | .nil => ss.isEmpty
  | .cons (.fz _) r => c.ss C ss r
  | .cons .fzl r => c.ss C ss r
  | .cons (.drop _) r => c.ss C ss r
  | .cons (.trim _) r => c.ss C ss r
  | .cons a r => match ss with
    | s :: rest => c.s C s a && c.ss C rest r
    | [] => false
  | _ => false
def Chk.step (V : Ev) (c : Chk) : Chk := ⟨fun C e n => stepE V c C e n || (stepX V c C e n || cmChk c C e n), stepT c, stepA c, stepO c, stepI c, fun C e n => stepG c C e n || stepG' c C e n, stepGs c, stepS V c, stepSs c⟩
def Chk.zero : Chk := ⟨fun _ _ _ => false, fun _ _ _ => false, fun _ _ _ => false, fun _ _ _ => false, fun _ _ _ _ => false, fun _ _ _ => false, fun _ _ _ => false, fun _ _ _ => false, fun _ _ _ => false⟩
def chk (V : Ev) : Nat → Chk
  | 0 => .zero
  | f + 1 => (chk V f).step V
end DX

namespace DX
open PySem PySem.Spec PyProof.Rows L2

def Sx.lp (G : Sx) (K : Ec → Sto → Prop) (P : Ps) : Pst := { nx := K, rt := P.rt, bk := P.bk, ct := P.ct, ex := fun C fs Γ M => ∃ x, G.mg x = some (.ref C) ∧ P.ex x fs Γ M }
section
variable {G : Sx} {Γ : Ec} {M : Sto} {Q : QE} {R R' : QR}
theorem Flies.imp {A : List Addr} {F : Hp} {σ : L2.St} (h : Flies G A F R' σ) (hr : ∀ C fs M, R C fs M → R' C fs M) : Flies G A F R σ := fun C fs M' A' F' H' q S a f => h C fs M' A' F' H' (hr C fs M' q) S a f
theorem EvX.impR {e : Expr} (h : EvX G e Γ M Q R) (hr : ∀ C fs M, R C fs M → R' C fs M) : EvX G e Γ M Q R' := fun A F σ H Qv S L hQ hR => h A F σ H Qv S L hQ (hR.imp hr)
theorem EvT.impR {e : Expr} {Q : Bool → Sto → Prop} (h : EvT G e Γ M Q R) (hr : ∀ C fs M, R C fs M → R' C fs M) : EvT G e Γ M Q R' := fun A F σ H Qv S L hQ hR => h A F σ H Qv S L hQ (hR.imp hr)
theorem lx_no {C : Addr} {fs : List (Str × Dt)} {M : Sto} (h : G.lx NoXn C fs M) : NoX C fs M := by obtain ⟨_, _, h⟩ := h; exact h
theorem EvA.imp2 {es : List Expr} {Q Q' : List Im → Sto → Prop} (h : EvA G es Γ M Q R) (hq : ∀ r M', Q r M' → Q' r M') : EvA G es Γ M Q' R :=
  fun A F σ H Qv S L hQ hR => h A F σ H Qv S L (fun r M1 A1 F1 H1 v q => hQ r M1 A1 F1 H1 v (hq r M1 q)) hR
theorem EvO.imp {e : Option Expr} {Q Q' : Option Int → Sto → Prop} (h : EvO G e Γ M Q R) (hq : ∀ r M', Q r M' → Q' r M') : EvO G e Γ M Q' R :=
  fun A F σ H Qv S L hQ hR => h A F σ H Qv S L (fun r M1 A1 F1 H1 q => hQ r M1 A1 F1 H1 (hq r M1 q)) hR
theorem EvI.imp {tg e : Expr} {Q Q' : List Im → (Sto → Prop) → Sto → Prop} (h : EvI G tg e Γ M Q R) (hq : ∀ r ok M', Q r ok M' → Q' r ok M') : EvI G tg e Γ M Q' R :=
  fun A F σ H Qv S L hQ hR => h A F σ H Qv S L (fun J xs ok M1 A1 F1 H1 q => hQ J xs ok M1 A1 F1 H1 (hq xs ok M1 q)) hR
theorem EvG.imp {tg : Expr} {r : Im} {Q Q' : Ec → Sto → Prop} (h : EvG G tg r Γ M Q) (hq : ∀ r M', Q r M' → Q' r M') : EvG G tg r Γ M Q' :=
  fun A F σ H v Qv S L rv hQ => h A F σ H v Qv S L rv fun Γ' M' A' F' σ' H' q => hQ Γ' M' A' F' σ' H' (hq Γ' M' q)
theorem EvGs.imp {tg : List Expr} {r : List Im} {Q Q' : Ec → Sto → Prop} (h : EvGs G tg r Γ M Q) (hq : ∀ r M', Q r M' → Q' r M') : EvGs G tg r Γ M Q' :=
  fun A F σ H v Qv S L rv hQ => h A F σ H v Qv S L rv fun Γ' M' A' F' σ' H' q => hQ Γ' M' A' F' σ' H' (hq Γ' M' q)
end

theorem dvAll_app {K : KW} {F : Hp} : ∀ {vs us : List V} {ds es : List Dt}, DvAll K F vs ds → DvAll K F us es → DvAll K F (vs ++ us) (ds ++ es)
  | _, _, _, _, .nil, h => h
  | _, _, _, _, .cons h t, h' => .cons h (dvAll_app t h')
theorem dvAll_rep {K : KW} {F : Hp} {vs : List V} {ds : List Dt} (h : DvAll K F vs ds) : ∀ n : Nat, DvAll K F (List.replicate n vs).flatten (List.replicate n ds).flatten
  | 0 => .nil
  | n + 1 => by
    rw [List.replicate_succ, List.replicate_succ, List.flatten_cons, List.flatten_cons]
    exact dvAll_app h (dvAll_rep h n)
section
variable {G : Sx} {Γ : Ec} {M : Sto} {Q : Bool → Sto → Prop} {R : QR} {pos : Pos} {a b : Expr}
theorem eqW_k {x y : Dt} {K : Bool → Prop} (h : eqW x y K) : (good x = true ∧ good y = true) ∧ K (PyData.eqv x y) := by
  unfold eqW at h
  split at h
  · rename_i i j
    refine ⟨⟨rfl, rfl⟩, ?_⟩
    rw [show PyData.eqv (.int i) (.int j) = decide (i = j) by
      show (i == j) = _
      by_cases e : i = j
      · subst e; simp
      · rw [decide_eq_false e]; exact beq_eq_false_iff_ne.mpr e]
    exact h
  · rename_i i j
    refine ⟨⟨rfl, rfl⟩, ?_⟩
    rw [show PyData.eqv (.str i) (.str j) = decide (i = j) by
      show (i == j) = _
      by_cases e : i = j
      · subst e; simp
      · rw [decide_eq_false e]; exact beq_eq_false_iff_ne.mpr e]
    exact h
  · exact ⟨⟨h.1, h.2.1⟩, h.2.2⟩
theorem ltW_k {x y : Dt} {K : Bool → Prop} (h : ltW x y K) : ltOk x y = true ∧ K (PySem.W.dataLt x y) := by
  unfold ltW at h
  split at h
  · refine ⟨rfl, ?_⟩
    rw [PySem.W.dataLt_int]; exact h
  · exact h
theorem gtW_k {x y : Dt} {K : Bool → Prop} (h : gtW x y K) : ltOk x y = true ∧ K (PySem.W.dataLt y x) := by
  unfold gtW at h
  split at h
  · refine ⟨rfl, ?_⟩
    rw [PySem.W.dataLt_int]; exact h
  · exact h
theorem not_lt_le (i j : Int) : (!decide (j < i)) = decide (i ≤ j) := by
  by_cases e : i ≤ j
  · rw [decide_eq_true e, decide_eq_false (by omega)]; rfl
  · rw [decide_eq_false e, decide_eq_true (by omega)]; rfl
theorem geW_k {x y : Dt} {K : Bool → Prop} (h : geW x y K) : ltOk x y = true ∧ K (!PySem.W.dataLt x y) := by
  unfold geW at h
  split at h
  · refine ⟨rfl, ?_⟩
    rw [PySem.W.dataLt_int, not_lt_le]; exact h
  · exact h
theorem leW_k {x y : Dt} {K : Bool → Prop} (h : leW x y K) : ltOk x y = true ∧ K (!PySem.W.dataLt y x) := by
  unfold leW at h
  split at h
  · refine ⟨rfl, ?_⟩
    rename_i i j
    rw [PySem.W.dataLt_int]
    rw [not_lt_le]; exact h
  · exact h
theorem inW_k {x y : Dt} {K : Bool → Prop} (hy : ∀ z, y ≠ .str z) (h : inW x y K) : inOk x y ∧ K (inB x y) := by
  unfold inW at h
  split at h
  · rename_i ds
    exact ⟨⟨h.1, ds, .inl rfl, h.2.1⟩, h.2.2⟩
  · rename_i ds
    exact ⟨⟨h.1, ds, .inr rfl, h.2.1⟩, h.2.2⟩
  · exact absurd rfl (hy _)
  · exact h.elim
theorem str_one {s : Str} (h : s.length = 1) : s = ⟨#[s.cps.getD 0 0]⟩ := by
  obtain ⟨a⟩ := s
  have h : a.size = 1 := h
  congr 1
  apply Array.ext
  · simpa using h
  · intro i h1 h2
    have : i = 0 := by omega
    subst this
    simp [Array.getD, h]
/-- all that an operator's values can ask -/
def rAll (G : Sx) (op : Value → Value → Sem Value) : R2 := fun x y H Q => ∀ X, G.Has X → ∀ (pins : List (Addr × Obj)) (s : Shared) (σ : L2.St) (v u : Value), Inv X pins σ H s → RelV x v → RelV y u → wpAny (model X.prog X.w) X.A (op v u) (EP X pins σ Q) X.xe s
theorem op_all {op : Value → Value → Sem Value} : ∀ X, G.Has X → OpR X op (rAll G op) := fun X hX pins s σ H x y v u Q I rx ry h => h X hX pins s σ v u I rx ry
theorem bop_all {op : Value → Value → Sem Value} {r : R2} {ra rb : Im} {Q : QE} (ho : ∀ X, G.Has X → OpR X op r) (h : BopR G r ra rb M Q) : BopR G (rAll G op) ra rb M Q := fun A F H va vb Qv S r1 r2 hQ X hX pins s σ v u I rx ry =>
  ho X hX pins s σ H va vb v u Qv I rx ry (h A F H va vb Qv S r1 r2 hQ)
theorem hu_X {X : Cx} (h : G.Has X) : X.A.units + 200 < cLine := by have := h.un; omega
/-- what a comparison's values ask -/
abbrev CmR (G : Sx) (op : CmpOp) (ra rb : Im) (M : Sto) (Q : Bool → Sto → Prop) : Prop := BopR G (rAll G (compareOp op)) ra rb M (fun rc Mc => ∃ c, rc = .d (.bool c) ∧ Q c Mc)
theorem cm_dd {op : CmpOp} {C : Dt → Dt → Prop} {f : Dt → Dt → Bool} {ra rb : Im} {x y : Dt} (ho : ∀ X, G.Has X → OpR X (compareOp op) (rDD (kzX X G.z) C f)) (ha : AsD M ra x) (hb : AsD M rb y) (hc : C x y) (h : Q (f x y) M) : CmR G op ra rb M Q :=
  bop_all (r := rDD G.kw C f) (fun X hX => by have := ho X hX; rw [kzX, hX.K, hX.w] at this; exact this) (dd_ok ha hb hc h)
theorem strOr (y : Dt) : (∃ z, y = .str z) ∨ ∀ z, y ≠ .str z := by
  cases y <;> first | exact .inl ⟨_, rfl⟩ | exact .inr fun z e => (by cases e)
theorem asD_str {x : Im} {z : Str} {A : List Addr} {F H : Hp} {v : V} (h : AsD M x (.str z)) (S : StO G.kw A M F H) (hv : ImR G.kw A F x v) : v = .str z := by
  have := h.dp S hv
  cases this; rfl
theorem cm_sgn {op : CmpOp} {f : Bool → Bool} {ra rb : Im} {x : Dt} {z : Str} (ho : ∀ X : Cx, OpR X (compareOp op) (fun x y H Q => ∃ (c : Nat) (z : Str), x = .str ⟨#[c]⟩ ∧ y = .str z ∧ Q (.bl (f (decide (c ∈ z.cps.toList)))) H)) (ha : AsD M ra x) (hb : AsD M rb (.str z)) (h : inW x (.str z) fun b => Q (f b) M) : CmR G op ra rb M Q := by
  unfold inW at h
  cases x with
  | str s =>
    obtain ⟨h1, h2⟩ := h
    refine bop_all (r := fun x y H Q => ∃ (c : Nat) (z : Str), x = .str ⟨#[c]⟩ ∧ y = .str z ∧ Q (.bl (f (decide (c ∈ z.cps.toList)))) H) (fun X hX => ho X) fun A F H va vb Qv S r1 r2 hQ => ?_
    exact ⟨s.cps.getD 0 0, z, by rw [asD_str ha S r1]; exact congrArg V.str (str_one h1), asD_str hb S r2, hQ _ M A F H _ ⟨_, rfl, h2⟩ S (ALe.refl _) (Same.refl _) (Dv.bl _)⟩
  | _ => exact h.elim
/-- a product -/
theorem mul_ok {own : Bool} {ra rb : Im} {Q : QE} (h : binW .mul own ra rb M Q) : BopR G (rAll G (binaryOp .Mult)) ra rb M Q := by
  simp only [binW] at h
  split at h
  · exact bop_all (fun X hX => op_mulX) (bop_I (g := fun i j => i * j) h.1 h.2)
  · obtain ⟨⟨h1, h2, h3, h4⟩, h5⟩ := h
    refine bop_all (r := rRepT G.K) (fun X hX => by rw [← hX.K]; exact op_repT) fun A F H va vb Qv S r1 r2 hQ => ?_
    cases r2
    cases r1 with
    | tup hs ha =>
      have rs := of_dpAll (A := A) ha
      have hl := rs.len
      rw [List.length_map] at hl
      refine ⟨_, _, _, rfl, rfl, Same.seqT S.sub hs, fun e => h1 ?_, h2, h3, by rw [← hl]; exact h4, fun p hp => ?_⟩
      · rw [e] at hl; exact List.eq_nil_of_length_eq_zero hl
      · refine goes_tup S hQ hp ?_ h5
        exact of_dpAll (dvAll_rep ha _)
  · exact h.elim
theorem cm_ok0 {op : Co} {ra rb : Im} (h : cmpW0 op ra rb M Q) : CmR G op.op ra rb M Q := by
  unfold cmpW0 at h
  split at h
  · rename_i x y e1 e2
    have ha := asD_D e1
    have hb := asD_D e2
    cases op with
    | eq => have h := eqW_k h; exact cm_dd (fun X hX => op_eqP (hu_X hX)) ha hb h.1 h.2
    | ne => have h := eqW_k h; exact cm_dd (fun X hX => op_neP (hu_X hX)) ha hb h.1 h.2
    | lt => have h := ltW_k h; exact cm_dd (fun X hX => op_ltP (hu_X hX)) ha hb h.1 h.2
    | le => have h := leW_k h; exact cm_dd (fun X hX => op_leP (hu_X hX)) ha hb h.1 h.2
    | gt => have h := gtW_k h; exact cm_dd (fun X hX => op_gtP (hu_X hX)) ha hb h.1 h.2
    | ge => have h := geW_k h; exact cm_dd (fun X hX => op_geP (hu_X hX)) ha hb h.1 h.2
    | isIn =>
      rcases strOr y with ⟨z, rfl⟩ | hy
      · exact cm_sgn (f := fun b => b) (op := .In) (fun X => op_in_sign) ha hb h
      · have h := inW_k hy h; exact cm_dd (fun X hX => op_inP (hu_X hX)) ha hb h.1 h.2
    | notIn =>
      rcases strOr y with ⟨z, rfl⟩ | hy
      · exact cm_sgn (f := fun b => !b) (op := .NotIn) (fun X => op_notIn_sign) ha hb h
      · have h := inW_k hy h; exact cm_dd (fun X hX => op_notInP (hu_X hX)) ha hb h.1 h.2
  · exact h.elim
theorem units_20 {X : Cx} (h : G.Has X) : X.A.units + 20 < cLine := by have := h.un; omega
theorem cm_dic {op : CmpOp} {f : Bool → Bool} {ra rb : Im} {kvs : List (Dt × Im)} (ho : ∀ {X : Cx} {pins : List (Addr × Obj)} {σ : L2.St} {H : Hp} {s : Shared} {z : Hp} {E : Value → Shared → Prop} {F : Hp} {R : Im → V → Prop} {a : Addr} {o : HO} {key : Dt} {kv : V} {u : Value} {Q : Value → Shared → Prop}, X.A.units + 20 < cLine → Inv X pins σ H s → Same F H → Rd H a o → DicR ⟨X.K, X.w, z⟩ F R a o kvs → kindOk kvs key = true → Dv ⟨X.K, X.w, z⟩ H kv key → RelV kv u →
      (∀ s', Inv X pins σ H s' → Q (.bool (f (dGet kvs key).isSome)) s') → wpAny (model X.prog X.w) X.A (compareOp op u (.ref a)) Q E s) (hd : DicOf M rb kvs) (h : dinW ra kvs fun b => Q (f b) M) : CmR G op ra rb M Q := fun A F H va vb Qv S r1 r2 hQ X hX pins s σ v u I rv ru => by
  obtain ⟨a, o, rfl, e, D⟩ := hd.dic S r2
  obtain rfl : u = Value.ref a := ru
  unfold dinW at h
  split at h
  · rename_i key
    have ek : G.kw = ⟨X.K, X.w, G.z⟩ := by show (⟨G.K, G.w, G.z⟩ : KW) = _; rw [hX.K, hX.w]
    rw [ek] at D r1
    have dk : Dv ⟨X.K, X.w, G.z⟩ H va key := Dv.mono S.sub r1
    exact ho (units_20 hX) I S.sub e D h.1 dk rv fun s' I' => ⟨.bl _, H, I', rfl, hQ _ M A F H _ ⟨_, rfl, h.2⟩ S (ALe.refl _) (Same.refl _) (Dv.bl _)⟩
  · exact h.elim
theorem cm_ok {op : Co} {ra rb : Im} (h : cmpW op ra rb M Q) : CmR G op.op ra rb M Q := by
  unfold cmpW at h
  split at h
  · split at h
    · rename_i e; exact cm_dic (f := fun b => b) (fun hu I hF e D hk dk ru h => dic_in hu I hF e D hk dk ru h) (dicI_of e) h
    · exact cm_ok0 h
  · split at h
    · rename_i e; exact cm_dic (f := fun b => !b) (fun hu I hF e D hk dk ru h => dic_notIn hu I hF e D hk dk ru h) (dicI_of e) h
    · exact cm_ok0 h
  · exact cm_ok0 h
end
end DX

namespace DX
open PySem PySem.Spec PyProof.Rows L2

theorem frzN {X : Cx} {pins : List (Addr × Obj)} {σ : L2.St} {H : Hp} {s : Shared} {d : Addr} {o : Obj} {ws : List (NestedKey × Addr × V)} (I : Inv X pins σ H s) (h : H d = some (.frz o (dN X.w d ws))) :
    (d == sysModules) = false ∧ s.heap.get? d = some o ∧ o.ExactDict ∧ ∃ (es : Array DictEntry) (ep : Nat), o.data = .dict es ep ∧ es.size = ws.length ∧
      ∀ (i : Nat) (k : NestedKey) (b : Addr) (v : V), ws[i]? = some (k, b, v) → ∃ en : DictEntry, es[i]? = some en ∧ en.key = .ref b ∧ RelV v en.val := by
  obtain ⟨hd, ⟨hs, _, _, xs, pr, o', es, ep, ho, hx, hdt, he⟩, _⟩ := I.hok d _ h
  rw [hd] at ho
  cases ho
  have l1 : es.size = xs.length := by rw [← Array.length_toList, he, List.length_map]
  have l2 : ws.length = xs.length := pr.length
  refine ⟨hs, hd, hx, es, ep, hdt, by omega, fun i k b v hi => ?_⟩
  obtain ⟨q, hq, h1, h2, h3⟩ := paired_get pr hi
  refine ⟨⟨q.1.hash X.w, .ref q.2.1, q.2.2⟩, ?_, congrArg Value.ref h2.symm, h3⟩
  rw [← Array.getElem?_toList, he, List.getElem?_map, hq]
  rfl
def Itkn (w : World) (d : Addr) (o : Obj) (ws : List (NestedKey × Addr × V)) : L2.It :=
  ⟨fun i H => H d = some (.frz o (dN w d ws)) ∧ i < ws.length, fun i H x H' => H' = H ∧ ∃ k b v, ws[i]? = some (k, b, v) ∧ x = .ref b, fun i H => H d = some (.frz o (dN w d ws)) ∧ ws.length ≤ i⟩
def Itvn (w : World) (d : Addr) (o : Obj) (ws : List (NestedKey × Addr × V)) : L2.It :=
  ⟨fun i H => H d = some (.frz o (dN w d ws)) ∧ i < ws.length, fun i H x H' => H' = H ∧ ∃ k b, ws[i]? = some (k, b, x), fun i H => H d = some (.frz o (dN w d ws)) ∧ ws.length ≤ i⟩
def Itin (w : World) (d : Addr) (o : Obj) (ws : List (NestedKey × Addr × V)) : L2.It :=
  ⟨fun i H => H d = some (.frz o (dN w d ws)) ∧ i < ws.length, fun i H x H' => ∃ T k b v, ws[i]? = some (k, b, v) ∧ x = .ref T ∧ H T = none ∧ H' = upd H T (.tup [.ref b, v]), fun i H => H d = some (.frz o (dN w d ws)) ∧ ws.length ≤ i⟩
section
variable {P : Program} {w : World} {K : PySem.W.Frag} {tg : Expr} {d : Addr} {o : Obj} {es : Array DictEntry} {ep : Nat}
theorem turn_keysN {ws : List (NestedKey × Addr × V)} (it : Addr) (hod : o.data = .dict es ep) : Turn P w K tg (Itkn w d o ws) [it] it (fun i h => h.IsKeyIter it d i ws.length ep) where
  mem := by simp
  obj := fun i h st b hb => by
    have e : b = it := by simpa using hb
    subst e
    obtain ⟨oi, e, c, dd⟩ := st
    exact ⟨oi, e, fun v z => by rw [dd] at z; cases z⟩
  keep := fun i h h' st k => st.at fun oi e => k it (by simp) oi e
  item := by
    intro X hP hw hK hc i pins s σ H E I hf st hg
    subst hP hw hK
    obtain ⟨hd, hi⟩ := hg
    obtain ⟨f0, f1, f2, f3, f4, f5⟩ := hf it (by simp)
    obtain ⟨hs, hgd, hx, es', ep', hdt, hsz, ent⟩ := frzN I hd
    obtain ⟨rfl, rfl⟩ := dict_ep hod hdt
    obtain ⟨⟨k, b, v⟩, hkv⟩ : ∃ p, ws[i]? = some p := ⟨ws[i], List.getElem?_eq_getElem hi⟩
    obtain ⟨en, hen, hkey, hv⟩ := ent i k b v hkv
    refine next_key_item st hgd hdt hsz hen fun h' st' sb => ?_
    have I1 : Inv X pins σ H { s with heap := h' } := I.turned (t' := s.toks) (fun b ob hb e => (sb.2 b hb).trans e) f0 f1 f3 f4 f5
    obtain ⟨oi, e, c, dd⟩ := id st'
    exact ⟨en.key, rfl, go_of (s := { s with heap := h' }) e c dd (by decide) ⟨.ref b, H, I1, hkey, ⟨rfl, k, b, v, hkv, rfl⟩, st', fun b hb => (hf b hb).1⟩⟩
  done := by
    intro X hP hw hK hc i pins s σ H E I hf st hg
    subst hP hw hK
    obtain ⟨hd, hi⟩ := hg
    obtain ⟨f0, f1, f2, f3, f4, f5⟩ := hf it (by simp)
    obtain ⟨hs, hgd, hx, es', ep', hdt, hsz, ent⟩ := frzN I hd
    obtain ⟨rfl, rfl⟩ := dict_ep hod hdt
    exact next_key_end (I.ok.hd hc) st hgd hdt hsz hi fun h' eb => ⟨rfl, I.turned (t' := s.toks) (fun b ob hb e => eb b ob hb e) f0 f1 f3 f4 f5⟩
  self := fun A i s Q E st h => by
    refine wpAny_pyIter_slot st.typeIs F.slot_dict_keyiterator_iter (wpAny_call_entry F.slot_dict_keyiterator_iter st.typeIs F.entry_dict_keyiterator_iter ?_ (F.args_dict_keyiterator_iter_1 _))
    show wpAny _ _ (ret (.ref it)) _ _ s
    exact wpAny_pure ⟨_, rfl, "dict_keyiterator", _, st.typeIs, F.slot_dict_keyiterator_next.lookup, h⟩
theorem turn_valsN {ws : List (NestedKey × Addr × V)} (it : Addr) (hod : o.data = .dict es ep) : Turn P w K tg (Itvn w d o ws) [it] it (fun i h => h.IsValIter it d i ws.length ep) where
  mem := by simp
  obj := fun i h st b hb => by
    have e : b = it := by simpa using hb
    subst e
    obtain ⟨oi, e, c, dd⟩ := st
    exact ⟨oi, e, fun v z => by rw [dd] at z; cases z⟩
  keep := fun i h h' st k => st.at fun oi e => k it (by simp) oi e
  item := by
    intro X hP hw hK hc i pins s σ H E I hf st hg
    subst hP hw hK
    obtain ⟨hd, hi⟩ := hg
    obtain ⟨f0, f1, f2, f3, f4, f5⟩ := hf it (by simp)
    obtain ⟨hs, hgd, hx, es', ep', hdt, hsz, ent⟩ := frzN I hd
    obtain ⟨rfl, rfl⟩ := dict_ep hod hdt
    obtain ⟨⟨k, b, v⟩, hkv⟩ : ∃ p, ws[i]? = some p := ⟨ws[i], List.getElem?_eq_getElem hi⟩
    obtain ⟨en, hen, hkey, hv⟩ := ent i k b v hkv
    rw [← hsz] at st
    have hlt : i < es'.size := by omega
    have een : es'[i] = en := by
      rw [Array.getElem?_eq_getElem hlt] at hen
      exact Option.some.inj hen
    refine wpAny_pyNext_values_item_raw st ⟨o, hgd, hx, hdt⟩ hlt fun h' st' sb => ?_
    have I1 : Inv X pins σ H { s with heap := h' } := I.turned (t' := s.toks) (fun b ob hb e => (sb.2 b hb).trans e) f0 f1 f3 f4 f5
    obtain ⟨oi, e, c, dd⟩ := id st'
    rw [hsz] at st'
    exact ⟨_, rfl, go_of (s := { s with heap := h' }) e c dd (by decide) ⟨v, H, I1, by rw [een]; exact hv, ⟨rfl, k, b, hkv⟩, st', fun b hb => (hf b hb).1⟩⟩
  done := by
    intro X hP hw hK hc i pins s σ H E I hf st hg
    subst hP hw hK
    obtain ⟨hd, hi⟩ := hg
    obtain ⟨f0, f1, f2, f3, f4, f5⟩ := hf it (by simp)
    obtain ⟨hs, hgd, hx, es', ep', hdt, hsz, ent⟩ := frzN I hd
    obtain ⟨rfl, rfl⟩ := dict_ep hod hdt
    rw [← hsz] at st
    exact wpAny_pyNext_values_end_raw (I.ok.hd hc) st ⟨o, hgd, hx, hdt⟩ (by omega) fun h' eb => ⟨rfl, I.turned (t' := s.toks) (fun b ob hb e => eb b ob hb e) f0 f1 f3 f4 f5⟩
  self := fun A i s Q E st h => wpAny_pyIter_valiter st h
theorem turn_itemsN {ws : List (NestedKey × Addr × V)} {elts : List Expr} {kk : Nat} {tpos : Pos} (it : Addr) (hod : o.data = .dict es ep) :
    Turn P w K (.Tuple elts kk tpos) (Itin w d o ws) [it] it (fun i h => ∃ ok ov, IsItemIter h it d i ws.length ep ok ov) where
  mem := by simp
  obj := fun i h st b hb => by
    have e : b = it := by simpa using hb
    subst e
    obtain ⟨ok, ov, e⟩ := st
    exact ⟨_, e, fun v z => nomatch z⟩
  keep := fun i h h' st k => let ⟨ok, ov, e⟩ := st; ⟨ok, ov, k it (by simp) _ e⟩
  item := by
    intro X hP hw hK hc i pins s σ H E I hf st hg
    subst hP hw hK
    obtain ⟨hd, hi⟩ := hg
    obtain ⟨hs, hgd, hx, es', ep', hdt, hsz, ent⟩ := frzN I hd
    obtain ⟨rfl, rfl⟩ := dict_ep hod hdt
    obtain ⟨⟨k, b, v⟩, hkv⟩ : ∃ p, ws[i]? = some p := ⟨ws[i], List.getElem?_eq_getElem hi⟩
    obtain ⟨en, hen, hkey, hv⟩ := ent i k b v hkv
    obtain ⟨ok, ov, he⟩ := st
    rw [← hsz] at he
    have hlt' : i < es'.size := by omega
    have een : es'[i] = en := by
      rw [Array.getElem?_eq_getElem hlt'] at hen
      exact Option.some.inj hen
    have hlt : it < s.heap.objs.size := Heap.lt_size he
    refine wpAny_pyNext_items_item_raw he ⟨o, hgd, hx, hdt⟩ hlt' fun h' ho hT hz hk => ?_
    refine ⟨_, rfl, wpAny_letOwnedTupleGo_items (s := { s with heap := h' }) ho fun h'' he' sb => ?_⟩
    have hT2 : h''.get? s.heap.objs.size = some { cls := .type "tuple", data := .seq #[es'[i].key, es'[i].val] } := (sb.2 _ (Nat.ne_of_gt hlt)).trans hT
    have new : ObjOk X.prog X.w (upd H s.heap.objs.size (.tup [.ref b, v])) h'' s.heap.objs.size (.tup [.ref b, v]) :=
      ⟨by show 2 ≤ sizeLine; decide, [es'[i].key, es'[i].val], .cons (show RelV (.ref b) es'[i].key by rw [een, hkey]; rfl) (.cons (by rw [een]; exact hv) .nil), ⟨_, hT2, rfl, _, rfl⟩⟩
    have I1 : Inv X pins σ (upd H s.heap.objs.size (.tup [.ref b, v])) { s with heap := h'' } :=
      I.turnedNew (t' := s.toks) (ch := [it]) (fun b ob hb e => (sb.2 b (by simpa using hb)).trans (hk b ob (by simpa using hb) e)) hf (Nat.le_refl _) new
    refine ⟨.ref s.heap.objs.size, _, I1, rfl, ⟨_, k, b, v, hkv, rfl, I.hok.fresh (Nat.le_refl _), rfl⟩, ⟨es'[i].key, es'[i].val, ?_⟩, fun b hb => ?_⟩
    · rw [← hsz]; exact he'
    · have e : b = it := by simpa using hb
      rw [e, upd_ne (Nat.ne_of_lt hlt)]
      exact (hf it (by simp)).1
  done := by
    intro X hP hw hK hc i pins s σ H E I hf st hg
    subst hP hw hK
    obtain ⟨hd, hi⟩ := hg
    obtain ⟨f0, f1, f2, f3, f4, f5⟩ := hf it (by simp)
    obtain ⟨hs, hgd, hx, es', ep', hdt, hsz, ent⟩ := frzN I hd
    obtain ⟨rfl, rfl⟩ := dict_ep hod hdt
    obtain ⟨ok, ov, he⟩ := st
    rw [← hsz] at he
    exact wpAny_pyNext_items_end_raw (I.ok.hd hc) he ⟨o, hgd, hx, hdt⟩ (by omega) fun h' eb => ⟨rfl, I.turned (t' := s.toks) (fun b ob hb e => eb b ob hb e) f0 f1 f3 f4 f5⟩
  self := fun A i s Q E st h => let ⟨_, _, e⟩ := st; PySem.W.kcp_self e h
end
end DX

namespace DX
open PySem PySem.Spec PyProof.Rows L2

def TgsOk (G : Sx) (tgs : List Expr) (vs : List Nat) (T : List Im → Ec → (Ec → Prop) → Prop) : Prop :=
  (∀ r Γ (Qd Qd' : Ec → Prop), (∀ Γ', Qd Γ' → Qd' Γ') → T r Γ Qd → T r Γ Qd') ∧ ∃ g : TGs, (∀ X, G.Has X → PGs X tgs g) ∧ ∀ r Γ Qd A M F σ H v (Qv : L2.St → Hp → Prop), T r Γ Qd → StO G.kw A M F H → SlG G A F Γ σ → ImsR G.kw A F r v →
    (∀ Γ' σ', Qd Γ' → SlG G A F Γ' σ' → L2.wipe σ' vs = L2.wipe σ vs → Qv σ' H) → g v σ H Qv
theorem tgs_nil {G : Sx} {vs : List Nat} : TgsOk G [] vs (fun r Γ Qd => match r with
    | [] => Qd Γ
    | _ => False) := ⟨fun r Γ Qd Qd' q h => by cases r; exact q _ h; exact h.elim, _, fun X hX => pgs_nil, fun r Γ Qd A M F σ H v Qv h S L rv hQ => by
  cases r with
  | cons => exact h.elim
  | nil => cases rv; exact ⟨rfl, hQ _ _ h L rfl⟩⟩
theorem tgs_cons {G : Sx} {t : Expr} {ts : List Expr} {vs : List Nat} {T : Im → Ec → (Ec → Prop) → Prop} {Ts : List Im → Ec → (Ec → Prop) → Prop} (hs : ∀ env, (assignEach (t :: ts) env).map (·.2) = assign t env :: (assignEach ts env).map (·.2)) (h1 : TgOk G t vs T) (h2 : TgsOk G ts vs Ts) :
    TgsOk G (t :: ts) vs (fun r Γ Qd => match r with
      | x :: xs => T x Γ fun Γ1 => Ts xs Γ1 Qd
      | [] => False) := by
  obtain ⟨m1, g1, p1, q1⟩ := h1
  obtain ⟨m2, g2, p2, q2⟩ := h2
  refine ⟨fun r Γ Qd Qd' q h => ?_, _, fun X hX => pgs_cons (p1 X hX) (p2 X hX) (hs _), fun r Γ Qd A M F σ H v Qv h S L rv hQ => ?_⟩
  · cases r with
    | nil => exact h.elim
    | cons x xs => exact m1 _ _ _ _ (fun Γ' h' => m2 _ _ _ _ q h') h
  · cases r with
    | nil => exact h.elim
    | cons x xs =>
      cases rv with
      | cons r1 r2 =>
        exact ⟨_, _, rfl, q1 x Γ _ A M F σ H _ _ h S L r1 fun Γ1 σ1 h1 L1 w1 => q2 xs Γ1 Qd A M F σ1 H _ Qv h1 S L1 r2 fun Γ2 σ2 h2 L2 w2 => hQ Γ2 σ2 h2 L2 (w2.trans w1)⟩
theorem tg_tup {G : Sx} {ts : List Expr} {vs : List Nat} {k : Nat} {n : Nat} {pos : Pos} {Ts : List Im → Ec → (Ec → Prop) → Prop} (hn : ∀ env, (assignEach ts env).length = n) (hst : ∀ env, (assignEach ts env).findIdx? (·.1) = none) (hc : ∀ X, G.Has X → X.calm = true) (h : TgsOk G ts vs Ts) :
    TgOk G (.Tuple ts k pos) vs (fun r Γ Qd => ∃ ds, r = .d (.tuple ds) ∧ ds.length = n ∧ Ts (ds.map .d) Γ Qd) := by
  obtain ⟨m, g, p, q⟩ := h
  refine ⟨fun r Γ Qd Qd' hq ⟨ds, e, hl, h⟩ => ⟨ds, e, hl, m _ _ _ _ hq h⟩, gTup G.K n g, fun X hX => by rw [← hX.K]; exact pg_tup (hc X hX) (p X hX) (hn _) (hst _), fun r Γ Qd A M F σ H v Qv ⟨ds, e, hl, h⟩ S L rv hQ => ?_⟩
  subst e
  cases rv with
  | tup hs ha =>
    have rs := of_dpAll (A := A) ha
    have hlen := rs.len
    simp at hlen
    exact ⟨_, _, rfl, Same.seqT S.sub hs, by omega, q _ Γ Qd A M F σ H _ Qv h S L rs hQ⟩

section
variable {X : Cx} {tg l : Expr} {tl : TE}
def iLT (K : PySem.W.Frag) (w : World) (tl : TE) : TI := fun σ H R => tl σ H fun x H1 => (∃ a, x = .ref a ∧ (((∃ xs, SqL K H1 a xs) ∧ R (Itl K a) H1) ∨ ((∃ xs, SqT K H1 a xs) ∧ R (Itt K a) H1))) ∨ (∃ z, x = .str z ∧ R (Its z) H1) ∨ ∃ d o, x = .ref d ∧ ((∃ kvs, H1 d = some (.frz o (.dK kvs)) ∧ R (Itk d o kvs) H1) ∨ ∃ ws, H1 d = some (.frz o (dN w d ws)) ∧ R (Itkn w d o ws) H1)
theorem pi_lt (hl : PE X l tl) : PI X tg l (iLT X.K X.w tl) := by
  refine ⟨fun pins s σ H R I h => ?_⟩
  refine thn (hl.run pins s σ H _ I h) fun v s1 ⟨x, H1, I1, r1, q1⟩ => ?_
  rcases q1 with ⟨a, e, q1⟩ | ⟨z, e, q⟩ | ⟨d, o, e, q⟩
  case inr.inr =>
    subst e
    obtain rfl : v = Value.ref d := r1
    rcases q with ⟨kvs, hd, q⟩ | ⟨ws, hd, q⟩
    · obtain ⟨hs, hgd, hx, es, ep, vs, hdt, hsz, kv, hm⟩ := I1.frzK hd
      refine iter_keys hs hgd hx hdt (pi_one (tk := s1.toks) I1 _ (turn_keys _ hdt) ⟨_, Heap.get?_push_size _ rfl, rfl, ?_⟩ q)
      rw [hsz] <;> rfl
    · obtain ⟨hs, hgd, hx, es, ep, hdt, hsz, ent⟩ := frzN I1 hd
      refine iter_keys hs hgd hx hdt (pi_one (tk := s1.toks) I1 _ (turn_keysN _ hdt) ⟨_, Heap.get?_push_size _ rfl, rfl, ?_⟩ q)
      rw [hsz] <;> rfl
  case inr.inl =>
    subst e
    obtain ⟨t, rfl⟩ := r1
    cases ha : z.cps.all (· < 128)
    · exact wpAny_pyIter_wide ha (pi_one (tk := s1.toks) I1 _ (turn_str _ z t "str_iterator" (.inr rfl)) ⟨_, Heap.get?_push_size _ rfl, rfl, rfl⟩ q)
    · exact wpAny_pyIter_ascii ha (pi_one (tk := s1.toks) I1 _ (turn_str _ z t "str_ascii_iterator" (.inl rfl)) ⟨_, Heap.get?_push_size _ rfl, rfl, rfl⟩ q)
  subst e
  cases r1
  rcases q1 with ⟨⟨xs, hq⟩, q⟩ | ⟨⟨xs, hq⟩, q⟩
  · obtain ⟨its, rv, p, hz⟩ := I1.list hq
    refine wpAny_pyIter_list p.isList ?_
    refine ⟨s1.heap.objs.size, [s1.heap.objs.size], _, _, H1, rfl, I1.kept (t' := s1.toks) fun b o e => Heap.get?_push_of_some _ e, turn_list a _, ⟨_, Heap.get?_push_size _ rfl, rfl, rfl⟩, fun b hb => ?_, q⟩
    have e : b = s1.heap.objs.size := by simpa using hb
    subst e
    exact I1.fpOk (Nat.le_refl _) (I1.hok.fresh (Nat.le_refl _))
  · obtain ⟨its, rv, p, hz⟩ := I1.tuple hq
    refine wpAny_pyIter_tuple (show s1.heap.IsTuple a its.toArray from p) ?_
    refine ⟨s1.heap.objs.size, [s1.heap.objs.size], _, _, H1, rfl, I1.kept (t' := s1.toks) fun b o e => Heap.get?_push_of_some _ e, turn_tuple a _, ⟨_, Heap.get?_push_size _ rfl, rfl, rfl⟩, fun b hb => ?_, q⟩
    have e : b = s1.heap.objs.size := by simpa using hb
    subst e
    exact I1.fpOk (Nat.le_refl _) (I1.hok.fresh (Nat.le_refl _))
end
theorem jok_tup {G : Sx} {A : List Addr} {F H : Hp} {M : Sto} {ds : List Dt} {p : Addr} (hv : Dv G.kw F (.ref p) (.tuple ds)) : JOk G (Itt G.K p) (ds.map .d) (fun _ => True) A F := by
  cases hv with
  | tup hs ha =>
    intro i M' A' F' H' S' a' f' _
    have hs' := Same.seqT (f'.trans S'.sub) hs
    have rs := (of_dpAll (A := A') (DvAll.mono f' ha))
    refine ⟨fun x hx => ?_, fun hle => ⟨_, hs', by rw [← rs.len]; exact hle⟩⟩
    obtain ⟨w, hw, rw'⟩ := paired_get rs hx
    refine ⟨⟨_, w, hs', hw⟩, fun v H'' hy => ?_⟩
    obtain ⟨rfl, hy⟩ := hy
    have := hy _ hs'
    rw [hw] at this; cases this
    exact ⟨F', S', Same.refl _, rw'⟩
theorem jok_str {G : Sx} {A : List Addr} {F : Hp} (z : Str) : JOk G (Its z) (z.cps.toList.map fun c => .d (.str ⟨#[c]⟩)) (fun _ => True) A F := by
  intro i M' A' F' H' S' a' f' _
  refine ⟨fun x hx => ?_, fun hle => (show z.cps.size ≤ i by simpa using hle)⟩
  rw [List.getElem?_map] at hx
  have hi : i < z.cps.size := by
    cases e : z.cps.toList[i]? with
    | none => rw [e] at hx; cases hx
    | some c => simpa using (List.getElem?_eq_some_iff.mp e).1
  refine ⟨hi, fun v H'' hy => ?_⟩
  obtain ⟨rfl, c, hc, rfl⟩ := hy
  have e : z.cps.toList[i]? = some c := by rw [Array.getElem?_toList]; exact hc
  rw [e] at hx
  cases hx
  exact ⟨F', S', Same.refl _, Dv.str _⟩
theorem dvK_at {K : KW} {F : Hp} : ∀ {ws : List (Key × V)} {kvs : List (Dt × Dt)}, DvK K F ws kvs → ws.length = kvs.length ∧ ∀ {i : Nat} {p : Dt × Dt}, kvs[i]? = some p → ∃ k v, ws[i]? = some (k, v) ∧ p.1 = kD k ∧ Dv K F v p.2
  | _, _, .nil => ⟨rfl, fun {i p} e => by simp at e⟩
  | _, _, .cons h t => by
    obtain ⟨l, f⟩ := dvK_at t
    refine ⟨congrArg (· + 1) l, fun {i p} e => ?_⟩
    cases i with
    | zero => simp at e; subst e; exact ⟨_, _, rfl, rfl, h⟩
    | succ i => obtain ⟨k, v, h1, h2⟩ := f (i := i) (by simpa using e); exact ⟨k, v, by simpa using h1, h2⟩
theorem dvN_at {K : KW} {F : Hp} : ∀ {ws : List (NestedKey × Addr × V)} {kvs : List (Dt × Dt)}, DvN K F ws kvs → ws.length = kvs.length ∧ ∀ {i : Nat} {p : Dt × Dt}, kvs[i]? = some p → ∃ k b v, ws[i]? = some (k, b, v) ∧ Dv K F (.ref b) p.1 ∧ Dv K F v p.2
  | _, _, .nil => ⟨rfl, fun {i p} e => by simp at e⟩
  | _, _, .cons h h2 h3 h4 t => by
    obtain ⟨l, f⟩ := dvN_at t
    refine ⟨congrArg (· + 1) l, fun {i p} e => ?_⟩
    cases i with
    | zero => simp at e; subst e; exact ⟨_, _, _, rfl, h, h4⟩
    | succ i => obtain ⟨k, b, v, h1, h2⟩ := f (i := i) (by simpa using e); exact ⟨k, b, v, by simpa using h1, h2⟩
theorem dv_kD {K : KW} {F : Hp} (k : Key) : Dv K F (kV k) (kD k) := by
  cases k
  · exact .int _
  · exact .str _
theorem map_at {α β : Type} {f : α → β} {xs : List α} {i : Nat} {y : β} (h : (xs.map f)[i]? = some y) : ∃ x, xs[i]? = some x ∧ y = f x := by
  rw [List.getElem?_map] at h
  cases e : xs[i]? with
  | none => rw [e] at h; cases h
  | some x => rw [e] at h; cases h; exact ⟨x, rfl, rfl⟩
theorem jok_keysK {G : Sx} {A : List Addr} {F : Hp} {d : Addr} {o : Obj} {ws : List (Key × V)} {kvs : List (Dt × Dt)} (hd : F d = some (.frz o (.dK ws))) (h : DvK G.kw F ws kvs) : JOk G (Itk d o ws) (kvs.map fun p => .d p.1) (fun _ => True) A F := by
  intro i M' A' F' H' S' a' f' _
  have hH : H' d = some (.frz o (.dK ws)) := S'.sub _ _ (f' _ _ hd)
  obtain ⟨l, f⟩ := dvK_at h
  refine ⟨fun x hx => ?_, fun hle => ⟨hH, by rw [List.length_map] at hle; omega⟩⟩
  obtain ⟨p, hp, rfl⟩ := map_at hx
  obtain ⟨k, v, h1, h2, h3⟩ := f hp
  refine ⟨⟨hH, (List.getElem?_eq_some_iff.mp h1).1⟩, fun u H'' hy => ?_⟩
  obtain ⟨rfl, k', v', e, rfl⟩ := hy
  rw [h1] at e; cases e
  refine ⟨F', S', Same.refl _, ?_⟩
  show Dv _ _ _ p.1
  rw [h2]; exact dv_kD k
theorem jok_keysN {G : Sx} {A : List Addr} {F : Hp} {d : Addr} {o : Obj} {ws : List (NestedKey × Addr × V)} {kvs : List (Dt × Dt)} (hd : F d = some (.frz o (dN G.w d ws))) (h : DvN G.kw F ws kvs) : JOk G (Itkn G.w d o ws) (kvs.map fun p => .d p.1) (fun _ => True) A F := by
  intro i M' A' F' H' S' a' f' _
  have hH : H' d = some (.frz o (dN G.w d ws)) := S'.sub _ _ (f' _ _ hd)
  obtain ⟨l, f⟩ := dvN_at h
  refine ⟨fun x hx => ?_, fun hle => ⟨hH, by rw [List.length_map] at hle; omega⟩⟩
  obtain ⟨p, hp, rfl⟩ := map_at hx
  obtain ⟨k, b, v, h1, h2, h3⟩ := f hp
  refine ⟨⟨hH, (List.getElem?_eq_some_iff.mp h1).1⟩, fun u H'' hy => ?_⟩
  obtain ⟨rfl, k', b', v', e, rfl⟩ := hy
  rw [h1] at e; cases e
  exact ⟨F', S', Same.refl _, Dv.mono f' h2⟩
section
variable {G : Sx} {Γ : Ec} {M : Sto} {R : QR} {tg a : Expr}
theorem evi_walk {Q : List Im → (Sto → Prop) → Sto → Prop} (h : EvX G a Γ M (fun r M1 => wlkW r M1 Q) R) : EvI G tg a Γ M Q R := fun A F σ H Rk S L hQ hR =>
  iS_of (t := iLT G.K G.w (tS G a)) (fun X hX => by rw [← hX.K, ← hX.w]; exact pi_lt (pe_S hX a)) (h A F σ H _ S L (fun r M1 A1 F1 H1 v q S1 a1 f1 r1 => by
    have lst : ∀ {xs : List Im} {ok : Sto → Prop}, AsL M1 r xs → (∀ M', ok M' → AsL M' r xs) → Q xs ok M1 → (∃ a, v = .ref a ∧ (((∃ xs, SqL G.K H1 a xs) ∧ Rk (Itl G.K a) H1) ∨ ((∃ xs, SqT G.K H1 a xs) ∧ Rk (Itt G.K a) H1))) ∨ (∃ z, v = .str z ∧ Rk (Its z) H1) ∨ ∃ d o, v = .ref d ∧ ((∃ kvs, H1 d = some (.frz o (.dK kvs)) ∧ Rk (Itk d o kvs) H1) ∨ ∃ ws, H1 d = some (.frz o (dN G.w d ws)) ∧ Rk (Itkn G.w d o ws) H1) := fun {xs ok} hl hk q => by
      obtain ⟨p, vs, e, hs, rs⟩ := hl.sq S1 r1
      refine .inl ⟨p, e, .inl ⟨⟨vs, hs⟩, hQ _ xs ok M1 A1 F1 H1 q S1 a1 f1 ?_⟩⟩
      intro i M' A' F' H' S' a' f' o'
      exact jok_list r1 e i M' A' F' H' S' a' f' (hk M' o')
    have q : wlkW r M1 Q := q
    unfold wlkW at q
    split at q
    · exact lst (.d _) (fun _ _ => .d _) q
    · rename_i ds
      have r1' := r1
      cases r1 with
      | tup hs ha => exact .inl ⟨_, rfl, .inr ⟨⟨_, Same.seqT S1.sub hs⟩, hQ _ _ _ M1 A1 F1 H1 q S1 a1 f1 (jok_tup (H := H1) (M := M1) r1')⟩⟩
    · cases r1
      exact .inr (.inl ⟨_, rfl, hQ _ _ _ M1 A1 F1 H1 q S1 a1 f1 (jok_str _)⟩)
    · cases r1 with
      | dK hd ha => exact .inr (.inr ⟨_, _, rfl, .inl ⟨_, S1.sub _ _ hd, hQ _ _ _ M1 A1 F1 H1 q S1 a1 f1 (jok_keysK hd ha)⟩⟩)
      | dN hd ha => exact .inr (.inr ⟨_, _, rfl, .inr ⟨_, S1.sub _ _ hd, hQ _ _ _ M1 A1 F1 H1 q S1 a1 f1 (jok_keysN hd ha)⟩⟩)
    · split at q
      · rename_i e
        exact lst (.p e rfl) (fun M' e' => .p e' rfl) q
      · rename_i e
        exact lst (.p e rfl) (fun M' e' => .p e' rfl) q
      · exact q.elim
    · exact q.elim) hR)
end
end DX

namespace DX
open PySem PySem.Spec PyProof.Rows L2

theorem raw_type {s : Shared} {d : Addr} {es : Array DictEntry} {ep : Nat} (m : s.heap.DictRaw d es ep) : s.TypeIs (.ref d) "dict" ∧ ∀ b, Value.ref d = .ref b → ∃ ob, s.heap.get? b = some ob ∧ ob.dict = none := by
  obtain ⟨o, h1, h2, h3⟩ := m
  exact ⟨⟨o, h1, h2.1⟩, fun b e => by cases e; exact ⟨o, h1, h2.2.1⟩⟩
section
variable {X : Cx} {tg e : Expr} {td : TE} {apos cpos : Pos}
def iItA (w : World) (td : TE) : TI := fun σ H R => td σ H fun x H1 => ∃ d o, x = .ref d ∧ ((∃ kvs, H1 d = some (.frz o (.dK kvs)) ∧ R (Iti d o kvs) H1) ∨ ∃ ws, H1 d = some (.frz o (dN w d ws)) ∧ R (Itin w d o ws) H1)
def iVlA (w : World) (td : TE) : TI := fun σ H R => td σ H fun x H1 => ∃ d o, x = .ref d ∧ ((∃ kvs, H1 d = some (.frz o (.dK kvs)) ∧ R (Itd d o kvs) H1) ∨ ∃ ws, H1 d = some (.frz o (dN w d ws)) ∧ R (Itvn w d o ws) H1)
theorem pi_itemsA {elts : List Expr} {kk : Nat} {tpos : Pos} (he : PE X e td) (hbase : attributeBase e "items" X.env (eval e X.env) = eval e X.env) (hline : (apos.endLine == cpos.line) = true) :
    PI X (.Tuple elts kk tpos) (.Call (.Attribute e "items" apos) [] [] cpos) (iItA X.w td) := by
  refine ⟨fun pins s σ H R I h => ?_⟩
  refine wpAny_Call_method (T := "dict") (id := "dict.items") hbase rfl hline F.plainAttrs_dict F.slot_dict_items F.type_dict_items (thn (he.run pins s σ H _ I h) fun u s1 ⟨x, H1, I1, rx, d, o, ex, q⟩ => ?_)
  subst ex
  obtain rfl : u = Value.ref d := rx
  have I2 : Inv X pins σ H1 { s1 with heap := s1.heap.push { cls := .type "dict_items", data := .fields #[.ref d] } } := I1.kept (t' := s1.toks) fun b ob q => Heap.get?_push_of_some _ q
  obtain ⟨es, ep, hs, m, fin⟩ : ∃ es ep, (d == sysModules) = false ∧ s1.heap.DictRaw d es ep ∧ (wpAny (model X.prog X.w) X.A (pyIter (.ref s1.heap.objs.size)) (PIE X pins σ (.Tuple elts kk tpos) R) X.xe { s1 with heap := s1.heap.push { cls := .type "dict_items", data := .fields #[.ref d] } }) := by
    rcases q with ⟨kvs, hd, q⟩ | ⟨ws, hd, q⟩
    · obtain ⟨hs, hgd, hx, es, ep, vs, hdt, hsz, kv, hm⟩ := I1.frzK hd
      refine ⟨es, ep, hs, ⟨o, hgd, hx, hdt⟩, ?_⟩
      refine wpAny_pyIter_items_raw (d := d) (es := es) (ep := ep) ⟨_, Heap.get?_push_size _ rfl, rfl, rfl⟩ ⟨o, Heap.get?_push_of_some _ hgd, hx, hdt⟩ (pi_one (tk := s1.toks) I2 _ (turn_items _ hdt) ⟨.none, .none, ?_⟩ q)
      rw [hsz]
      exact Heap.get?_push_size _ rfl
    · obtain ⟨hs, hgd, hx, es, ep, hdt, hsz, ent⟩ := frzN I1 hd
      refine ⟨es, ep, hs, ⟨o, hgd, hx, hdt⟩, ?_⟩
      refine wpAny_pyIter_items_raw (d := d) (es := es) (ep := ep) ⟨_, Heap.get?_push_size _ rfl, rfl, rfl⟩ ⟨o, Heap.get?_push_of_some _ hgd, hx, hdt⟩ (pi_one (tk := s1.toks) I2 _ (turn_itemsN _ hdt) ⟨.none, .none, ?_⟩ q)
      rw [hsz]
      exact Heap.get?_push_size _ rfl
  refine ⟨(raw_type m).1, (raw_type m).2, ?_⟩
  show wpAny _ _ (callWith cpos (.builtin "dict.items") [.ref d] [] []) _ X.xe s1
  exact method_meetsIn F.slot_dict_items F.entry_dict_items rfl (PySem.evalArgs_none ⟨rfl, (raw_type m).1, F.args_dict_items_1 _, _, meets_dict_items_raw d hs, ⟨es, ep, m⟩, fin⟩)
theorem pi_valuesA (he : PE X e td) (hbase : attributeBase e "values" X.env (eval e X.env) = eval e X.env) (hline : (apos.endLine == cpos.line) = true) :
    PI X tg (.Call (.Attribute e "values" apos) [] [] cpos) (iVlA X.w td) := by
  refine ⟨fun pins s σ H R I h => ?_⟩
  refine wpAny_Call_method (T := "dict") (id := "dict.values") hbase rfl hline F.plainAttrs_dict F.slot_dict_values F.type_dict_values (thn (he.run pins s σ H _ I h) fun u s1 ⟨x, H1, I1, rx, d, o, ex, q⟩ => ?_)
  subst ex
  obtain rfl : u = Value.ref d := rx
  have I2 : Inv X pins σ H1 { s1 with heap := s1.heap.push { cls := .type "dict_values", data := .fields #[.ref d] } } := I1.kept (t' := s1.toks) fun b ob q => Heap.get?_push_of_some _ q
  obtain ⟨es, ep, hs, m, fin⟩ : ∃ es ep, (d == sysModules) = false ∧ s1.heap.DictRaw d es ep ∧ (wpAny (model X.prog X.w) X.A (pyIter (.ref s1.heap.objs.size)) (PIE X pins σ tg R) X.xe { s1 with heap := s1.heap.push { cls := .type "dict_values", data := .fields #[.ref d] } }) := by
    rcases q with ⟨kvs, hd, q⟩ | ⟨ws, hd, q⟩
    · obtain ⟨hs, hgd, hx, es, ep, vs, hdt, hsz, kv, hm⟩ := I1.frzK hd
      refine ⟨es, ep, hs, ⟨o, hgd, hx, hdt⟩, ?_⟩
      refine wpAny_pyIter_values_raw (d := d) (es := es) (ep := ep) ⟨_, Heap.get?_push_size _ rfl, rfl, rfl⟩ ⟨o, Heap.get?_push_of_some _ hgd, hx, hdt⟩ (pi_one (tk := s1.toks) I2 _ (turn_vals _ hdt) ⟨_, Heap.get?_push_size _ rfl, rfl, ?_⟩ q)
      rw [hsz] <;> rfl
    · obtain ⟨hs, hgd, hx, es, ep, hdt, hsz, ent⟩ := frzN I1 hd
      refine ⟨es, ep, hs, ⟨o, hgd, hx, hdt⟩, ?_⟩
      refine wpAny_pyIter_values_raw (d := d) (es := es) (ep := ep) ⟨_, Heap.get?_push_size _ rfl, rfl, rfl⟩ ⟨o, Heap.get?_push_of_some _ hgd, hx, hdt⟩ (pi_one (tk := s1.toks) I2 _ (turn_valsN _ hdt) ⟨_, Heap.get?_push_size _ rfl, rfl, ?_⟩ q)
      rw [hsz] <;> rfl
  refine ⟨(raw_type m).1, (raw_type m).2, ?_⟩
  show wpAny _ _ (callWith cpos (.builtin "dict.values") [.ref d] [] []) _ X.xe s1
  exact method_meetsIn F.slot_dict_values F.entry_dict_values rfl (PySem.evalArgs_none ⟨rfl, (raw_type m).1, F.args_dict_values_1 _, _, meets_dict_values_raw d hs, ⟨es, ep, m⟩, fin⟩)
end
theorem jok_itemsK {G : Sx} {A : List Addr} {F : Hp} {d : Addr} {o : Obj} {ws : List (Key × V)} {kvs : List (Dt × Dt)} (hd : F d = some (.frz o (.dK ws))) (h : DvK G.kw F ws kvs) : JOk G (Iti d o ws) (kvs.map fun p => .d (.tuple [p.1, p.2])) (fun _ => True) A F := by
  intro i M' A' F' H' S' a' f' _
  have hH : H' d = some (.frz o (.dK ws)) := S'.sub _ _ (f' _ _ hd)
  obtain ⟨l, f⟩ := dvK_at h
  refine ⟨fun x hx => ?_, fun hle => ⟨hH, by rw [List.length_map] at hle; omega⟩⟩
  obtain ⟨p, hp, rfl⟩ := map_at hx
  obtain ⟨k, v, h1, h2, h3⟩ := f hp
  refine ⟨⟨hH, (List.getElem?_eq_some_iff.mp h1).1⟩, fun u H'' hy => ?_⟩
  obtain ⟨T, k', v', e, rfl, hT, rfl⟩ := hy
  rw [h1] at e; cases e
  have hF := S'.freshF hT
  refine ⟨_, S'.data hT, same_updF hF, ?_⟩
  exact Dv.tup (.inl (.inl upd_same)) (.cons (by rw [h2]; exact dv_kD k) (.cons (Dv.mono (f'.trans (same_updF hF)) h3) .nil))
theorem jok_itemsN {G : Sx} {A : List Addr} {F : Hp} {d : Addr} {o : Obj} {ws : List (NestedKey × Addr × V)} {kvs : List (Dt × Dt)} (hd : F d = some (.frz o (dN G.w d ws))) (h : DvN G.kw F ws kvs) : JOk G (Itin G.w d o ws) (kvs.map fun p => .d (.tuple [p.1, p.2])) (fun _ => True) A F := by
  intro i M' A' F' H' S' a' f' _
  have hH : H' d = some (.frz o (dN G.w d ws)) := S'.sub _ _ (f' _ _ hd)
  obtain ⟨l, f⟩ := dvN_at h
  refine ⟨fun x hx => ?_, fun hle => ⟨hH, by rw [List.length_map] at hle; omega⟩⟩
  obtain ⟨p, hp, rfl⟩ := map_at hx
  obtain ⟨k, b, v, h1, h2, h3⟩ := f hp
  refine ⟨⟨hH, (List.getElem?_eq_some_iff.mp h1).1⟩, fun u H'' hy => ?_⟩
  obtain ⟨T, k', b', v', e, rfl, hT, rfl⟩ := hy
  rw [h1] at e; cases e
  have hF := S'.freshF hT
  refine ⟨_, S'.data hT, same_updF hF, ?_⟩
  exact Dv.tup (.inl (.inl upd_same)) (.cons (Dv.mono (f'.trans (same_updF hF)) h2) (.cons (Dv.mono (f'.trans (same_updF hF)) h3) .nil))
theorem jok_valsK {G : Sx} {A : List Addr} {F : Hp} {d : Addr} {o : Obj} {ws : List (Key × V)} {kvs : List (Dt × Dt)} (hd : F d = some (.frz o (.dK ws))) (h : DvK G.kw F ws kvs) : JOk G (Itd d o ws) (kvs.map fun p => .d p.2) (fun _ => True) A F := by
  intro i M' A' F' H' S' a' f' _
  have hH : H' d = some (.frz o (.dK ws)) := S'.sub _ _ (f' _ _ hd)
  obtain ⟨l, f⟩ := dvK_at h
  refine ⟨fun x hx => ?_, fun hle => ⟨hH, by rw [List.length_map] at hle; omega⟩⟩
  obtain ⟨p, hp, rfl⟩ := map_at hx
  obtain ⟨k, v, h1, h2, h3⟩ := f hp
  refine ⟨⟨hH, (List.getElem?_eq_some_iff.mp h1).1⟩, fun u H'' hy => ?_⟩
  obtain ⟨rfl, k', e⟩ := hy
  rw [h1] at e; cases e
  exact ⟨F', S', Same.refl _, Dv.mono f' h3⟩
theorem jok_valsN {G : Sx} {A : List Addr} {F : Hp} {d : Addr} {o : Obj} {ws : List (NestedKey × Addr × V)} {kvs : List (Dt × Dt)} (hd : F d = some (.frz o (dN G.w d ws))) (h : DvN G.kw F ws kvs) : JOk G (Itvn G.w d o ws) (kvs.map fun p => .d p.2) (fun _ => True) A F := by
  intro i M' A' F' H' S' a' f' _
  have hH : H' d = some (.frz o (dN G.w d ws)) := S'.sub _ _ (f' _ _ hd)
  obtain ⟨l, f⟩ := dvN_at h
  refine ⟨fun x hx => ?_, fun hle => ⟨hH, by rw [List.length_map] at hle; omega⟩⟩
  obtain ⟨p, hp, rfl⟩ := map_at hx
  obtain ⟨k, b, v, h1, h2, h3⟩ := f hp
  refine ⟨⟨hH, (List.getElem?_eq_some_iff.mp h1).1⟩, fun u H'' hy => ?_⟩
  obtain ⟨rfl, k', b', e⟩ := hy
  rw [h1] at e; cases e
  exact ⟨F', S', Same.refl _, Dv.mono f' h3⟩
section
variable {G : Sx} {Γ : Ec} {M : Sto} {R : QR} {tg a : Expr} {apos cpos : Pos}
theorem evi_items {elts : List Expr} {kk : Nat} {tpos : Pos} (hbase : ∀ env, attributeBase a "items" env (eval a env) = eval a env) (hline : (apos.endLine == cpos.line) = true) {Q : List Im → (Sto → Prop) → Sto → Prop}
    (h : EvX G a Γ M (fun r M1 => ∃ kvs, r = .d (.dict kvs) ∧ Q (kvs.map fun p => .d (.tuple [p.1, p.2])) (fun _ => True) M1) R) : EvI G (.Tuple elts kk tpos) (.Call (.Attribute a "items" apos) [] [] cpos) Γ M Q R := fun A F σ H Rk S L hQ hR =>
  iS_of (t := iItA G.w (tS G a)) (fun X hX => by rw [← hX.w]; exact pi_itemsA (pe_S hX a) (hbase _) hline) (h A F σ H _ S L (fun r M1 A1 F1 H1 v ⟨kvs, er, q⟩ S1 a1 f1 r1 => by
    subst er
    cases r1 with
    | dK hd ha => exact ⟨_, _, rfl, .inl ⟨_, S1.sub _ _ hd, hQ _ _ _ M1 A1 F1 H1 q S1 a1 f1 (jok_itemsK hd ha)⟩⟩
    | dN hd ha => exact ⟨_, _, rfl, .inr ⟨_, S1.sub _ _ hd, hQ _ _ _ M1 A1 F1 H1 q S1 a1 f1 (jok_itemsN hd ha)⟩⟩) hR)
theorem evi_values (hbase : ∀ env, attributeBase a "values" env (eval a env) = eval a env) (hline : (apos.endLine == cpos.line) = true) {Q : List Im → (Sto → Prop) → Sto → Prop}
    (h : EvX G a Γ M (fun r M1 => ∃ kvs, r = .d (.dict kvs) ∧ Q (kvs.map fun p => .d p.2) (fun _ => True) M1) R) : EvI G tg (.Call (.Attribute a "values" apos) [] [] cpos) Γ M Q R := fun A F σ H Rk S L hQ hR =>
  iS_of (t := iVlA G.w (tS G a)) (fun X hX => by rw [← hX.w]; exact pi_valuesA (pe_S hX a) (hbase _) hline) (h A F σ H _ S L (fun r M1 A1 F1 H1 v ⟨kvs, er, q⟩ S1 a1 f1 r1 => by
    subst er
    cases r1 with
    | dK hd ha => exact ⟨_, _, rfl, .inl ⟨_, S1.sub _ _ hd, hQ _ _ _ M1 A1 F1 H1 q S1 a1 f1 (jok_valsK hd ha)⟩⟩
    | dN hd ha => exact ⟨_, _, rfl, .inr ⟨_, S1.sub _ _ hd, hQ _ _ _ M1 A1 F1 H1 q S1 a1 f1 (jok_valsN hd ha)⟩⟩) hR)
end
end DX

namespace DX
open PySem PySem.Calls PySem.Spec PyProof.Rows L2

theorem same_of_fIn {F H : Hp} : fIn [] F H = F := by
  funext a
  unfold fIn
  rw [if_neg (by simp)]
theorem same_of_fOut {F : Hp} : fOut [] F = F := by
  funext a
  unfold fOut
  rw [if_neg (by simp)]
theorem DvAll.app {K : KW} {F : Hp} : ∀ {vs us : List V} {ds es : List Dt}, DvAll K F vs ds → DvAll K F us es → DvAll K F (vs ++ us) (ds ++ es)
  | _, _, _, _, .nil, h => h
  | _, _, _, _, .cons h t, h' => .cons h (DvAll.app t h')
theorem DvAll.len {K : KW} {F : Hp} : ∀ {vs : List V} {ds : List Dt}, DvAll K F vs ds → vs.length = ds.length
  | _, _, .nil => rfl
  | _, _, .cons _ t => congrArg (· + 1) (DvAll.len t)
theorem DvAll.at {K : KW} {F : Hp} : ∀ {vs : List V} {ds : List Dt}, DvAll K F vs ds → ∀ {i : Nat} {v : V}, vs[i]? = some v → ∃ d, ds[i]? = some d ∧ Dv K F v d
  | _, _, .nil, i, v, e => by simp at e
  | _, _, .cons h t, i, v, e => by
    cases i with
    | zero => simp at e; subst e; exact ⟨_, rfl, h⟩
    | succ i => obtain ⟨d, h1, h2⟩ := DvAll.at t (i := i) (by simpa using e); exact ⟨d, by simpa using h1, h2⟩
theorem vals_at : ∀ {vs : List V} {us : List Value}, Vals vs us → ∀ {i : Nat} {u : Value}, us[i]? = some u → ∃ v, vs[i]? = some v ∧ RelV v u
  | _, _, .nil, i, u, e => by simp at e
  | _, _, .cons h t, i, u, e => by
    cases i with
    | zero => simp at e; subst e; exact ⟨_, rfl, h⟩
    | succ i => obtain ⟨d, h1, h2⟩ := vals_at t (i := i) (by simpa using e); exact ⟨d, by simpa using h1, h2⟩
/-- while the keys are made: the list that is sorted is empty, the keys stand in a list of their own -/
def SrtI (X : Cx) (z : Hp) (pins : List (Addr × Obj)) (σ : L2.St) (A : List Addr) (M : Sto) (F0 : Hp) (a kS : Addr) (od : Obj) (kz : List Dt) (i : Nat) (s : Shared) : Prop :=
  ∃ F H kV, Inv X pins σ H s ∧ StO (kzX X z) (A ++ [a, kS]) (M ++ [.dead, .dead]) F H ∧ Same F0 F ∧ F a = none ∧ F kS = none ∧ H a = some (.frz od (.lst [])) ∧ H kS = some (.lst kV) ∧ DvAll (kzX X z) F kV (kz.take i)
section
variable {X : Cx} {z : Hp} {pins : List (Addr × Obj)} {σ : L2.St} {A : List Addr} {M : Sto} {F0 : Hp} {a kS f : Addr} {od : Obj} {kf : Dt → Dt} {ds : List Dt} {S : List Dt → (Dt → Prop) → (Str → List (Str × Dt) → Prop) → Prop} {B : Around} {k : Nat} {fd : FuncData} {ps : List Str}
theorem srt_call (Fn : FnOk X.prog X.w X.K X.mg X.base (L2.CX X.prog X.w) k f fd ps (spPure X.K X.w X.mg S)) (hr : Room k B) (hb : Binds X.K fd ps []) (hfr : B.frames = some X.stack) {F H : Hp} {s : Shared} (I : Inv X pins σ H s)
    (S0 : StO (kzX X z) (A ++ [a, kS]) (M ++ [.dead, .dead]) F H) {v : V} {u : Value} {d : Dt} (r : RelV v u) (dv : Dv (kzX X z) F v d) (hS : S [d] (fun y => y = kf d) (fun _ _ => False)) {oa ok : HO} (fa : F a = none) (fk : F kS = none) (ha : H a = some oa) (hk : H kS = some ok) :
    wpAny (model X.prog X.w) B (call (.ref f) [u]) (fun w s' => ∃ F' H' v', Inv X pins σ H' s' ∧ StO (kzX X z) (A ++ [a, kS]) (M ++ [.dead, .dead]) F' H' ∧ Same F F' ∧ F' a = none ∧ F' kS = none ∧ H' a = some oa ∧ H' kS = some ok ∧ RelV v' w ∧ Dv (kzX X z) F' v' (kf d)) (fun _ _ => False) s := by
  have r2 : Vals [v] [u] := .cons r .nil
  have hB : ∀ b ∈ ([] : List Addr), b ∈ A ++ [a, kS] ∧ F b = none := fun b h => absurd h (by simp)
  have zA : ∀ b, b ∈ A ++ [a, kS] → F b = none → zIn z (A ++ [a, kS]) [] F H b = H b := fun b h1 h2 => by unfold zIn; rw [if_pos ⟨h1, h2, by simp⟩]
  have Si := frame_in S0 hB
  rw [same_of_fIn] at Si
  have spec : spPure X.K X.w X.mg S [v] H (fun v' H' => ∃ F', StO ⟨X.K, X.w, zIn z (A ++ [a, kS]) [] F H⟩ [] [] F' H' ∧ Same F F' ∧ Dv ⟨X.K, X.w, zIn z (A ++ [a, kS]) [] F H⟩ F' v' (kf d)) (fun _ _ _ => False) :=
    ⟨_, F, [d], _, _, Si, .cons dv.kz .nil, hS, fun x F' H' v' e S1 f1 dv1 => ⟨F', S1, f1, e ▸ dv1⟩, fun _ _ _ _ _ _ q => q.elim⟩
  have hl : ([u] ++ []).length = ps.length := Fn.len _ _ _ _ spec
  have e0 : Env0 X.prog X.w X.K X.mg X.base B X.stack s H := by
    have e := I.env0
    exact ⟨hfr, e.mod, e.bs, e.bsz, e.funs, e.frf, e.hok, e.bare⟩
  refine wpAny_call (codeAny_mono (Fn.run B X.stack s H ⟨[u], []⟩ [u] [v] _ _ hr e0 (hb s [u] I.kIn hl) r2 spec) fun r s' hq => ?_)
  cases r with
  | error e => obtain ⟨_, _, _, _, _, _, _, _, _, _, _, _, h⟩ := hq; exact h.elim
  | ok fl =>
    cases fl with
    | next => exact False.elim hq
    | brk => exact False.elim hq
    | cont => exact False.elim hq
    | ret w =>
      obtain ⟨v', H', I', rv, F', S1, f1, dv1⟩ := I.after hq
      have f1' : Same (fIn [] F H) F' := by rw [same_of_fIn]; exact f1
      obtain ⟨S2, f2⟩ := frame_out S0 hB S1 f1'
      rw [same_of_fOut] at S2 f2
      have za : zIn z (A ++ [a, kS]) [] F H a = some oa := by rw [zA a (by simp) fa]; exact ha
      have zk : zIn z (A ++ [a, kS]) [] F H kS = some ok := by rw [zA kS (by simp) fk]; exact hk
      exact ⟨F', H', v', I', S2, f2, S1.zf a _ za, S1.zf kS _ zk, S1.fr a _ za, S1.fr kS _ zk, rv, dv1.kz⟩
theorem srt_tail {st : SortSt} {out : List Value} {outV kV : List V} {H : Hp} {s : Shared} {e1 : Nat} {P : PySem.Fin → Shared → Prop} {E : Value → Shared → Prop} (I : Inv X pins σ H s) (ha : H a = some (.frz (seqObj "list" #[] e1) (.lst []))) (hn : ∀ o' u', X.H_0 a ≠ some (.frz o' u')) (hk : H kS = some (.lst kV)) (hka : kS ≠ a)
    (ro : Vals outV out) (hz : out.length ≤ sizeLine) (hfl : failedOf st = none) (ho : (arrOf st).map (·.2) = out.toArray)
    (h : ∀ s', Inv X pins σ (upd (upd (upd H kS (.lst [])) a (.lst [])) a (.lst outV)) s' → P (.done (.ret .none)) s') :
    wpAny (model X.prog X.w) B (ksk_tail a false e1 (.ref kS) st) P E s := by
  obtain ⟨hzk, its, n, rk, ek⟩ := I.hok kS _ hk
  have na : s.heap.get? a = some (seqObj "list" #[] e1) := (I.hok a _ ha).1
  have I1 := I.lset (its' := []) (ys := []) (f := fun _ => (#[] : Array Value)) (t' := s.toks) hk ek rfl .nil (Nat.zero_le _)
  have na1 : (s.heap.update kS (Obj.mapSeq fun _ => (#[] : Array Value))).get? a = some (seqObj "list" #[] e1) := (Heap.get?_update_other _ _ hka).trans na
  have I2 := I1.unlock (d := a) (od := seqObj "list" #[] e1) (u := .lst []) (by rw [upd_ne hka.symm]; exact ha) hn
  have I3 := fun t => I2.lset (its' := out) (ys := outV) (f := fun _ => out.toArray) (t' := t) (l := a) (xs := []) (its := []) (n := e1) upd_same na1 rfl ro (by rw [ro.length]; exact hz)
  unfold ksk_tail
  try dsimp only
  rw [ho]
  refine wpAny_bind (listUpdate_at ek rfl ?_ (by rw [List.size_toArray, ← rk.length]; exact hzk) (Nat.zero_le _))
  refine wpAny_bind (wpAny_letGo ?_)
  refine wpAny_bind (seqEpoch_at na1 rfl ?_)
  refine wpAny_bind (listUpdate_at na1 rfl ?_ (Nat.zero_le _) (by rw [if_neg (by decide), List.size_toArray]; exact Nat.le_succ_of_le hz))
  rw [hfl]
  simp only [bne_self_eq_false, Bool.false_eq_true, if_false]
  exact wpAny_pure (h _ (I3 _))
theorem srt_end {κ : PyProof.Rows.KeyKind} {vs : List Value} {keys : Array Value} {kV : List V} {H : Hp} {s : Shared} {e1 : Nat} {P : PySem.Fin → Shared → Prop} {E : Value → Shared → Prop} (I : Inv X pins σ H s) (ha : H a = some (.frz (seqObj "list" #[] e1) (.lst []))) (hn : ∀ o' u', X.H_0 a ≠ some (.frz o' u')) (hk : H kS = some (.lst kV)) (hka : kS ≠ a)
    (S : PySem.W.SortsAt X.prog X.w B s κ keys.toList) (hsz : keys.size = vs.length) (hZ : vs.length ≤ sizeLine)
    {outV : List V} (ro : Vals outV (PySem.W.sortVals κ false keys.toList vs)) (h : ∀ s', Inv X pins σ (upd (upd (upd H kS (.lst [])) a (.lst [])) a (.lst outV)) s' → P (.done (.ret .none)) s') :
    wpAny (model X.prog X.w) B (ksk_end a false vs.toArray e1 (.ref kS) keys) P E s := by
  obtain ⟨kd, h1, h2⟩ := S.kind
  have hkl : keys.toList.length = vs.length := by rw [Array.length_toList]; exact hsz
  have hK : PyProof.Rows.KeysOf κ (keys.zip vs.toArray) := PySem.W.keysOf_zip S.keys
  have hol : (PySem.W.sortVals κ false keys.toList vs).length = vs.length := PySem.W.sortVals_length false hkl
  have hss : (keys.zip vs.toArray).size = vs.length := by rw [Array.size_zip, hsz, List.size_toArray, Nat.min_self]
  have fin : ∀ st' : SortSt, (arrOf st').Perm (keys.zip vs.toArray) → SortedToK κ (arrOf st') (keys.zip vs.toArray).size → Stable κ (arrOf st') (keys.zip vs.toArray) → (arrOf st').map (·.2) = (PySem.W.sortVals κ false keys.toList vs).toArray := by
    intro st' hp hs ht
    have e := PySem.W.sort_out (rev := false) (keys := keys) (items := vs.toArray) (xs := arrOf st') (κ := κ) hK hp hs ht
    have e' := congrArg List.toArray e
    rw [Array.toArray_toList] at e'
    exact e'
  unfold ksk_end
  simp only [Bool.false_eq_true, if_false]
  by_cases hl2 : vs.toArray.size < 2
  · rw [if_pos hl2, if_pos hl2]
    refine wpAny_bind (wpAny_pure ?_)
    rw [StateT.run_pure]
    refine wpAny_bind (wpAny_pure ?_)
    try dsimp only
    refine srt_tail (st := SortSt.mk' general' (keys.zip vs.toArray) #[] 7 none) I ha hn hk hka ro (by rw [hol]; exact hZ) rfl (fin _ (Array.Perm.refl _) ?_ (Stable.refl _)) h
    intro i j hij hj
    have hj : j < (keys.zip vs.toArray).size := hj
    rw [hss] at hj
    rw [List.size_toArray] at hl2
    have : i = j := by omega
    subst this
    exact KeyOrd.kle_refl _
  · rw [if_neg hl2, if_neg hl2]
    rw [List.size_toArray] at hl2
    refine wpAny_bind (h2 (by rw [hkl]; omega) _ ?_)
    refine wpAny_bind (wpAny_mono (PyProof.Rows.H.wpS_sortRunsSt (κ := κ) (kd := kd) (a₀ := keys.zip vs.toArray)
      (st := SortSt.mk' kd (keys.zip vs.toArray) #[] 7 none)
      (Q := fun _ st' => failedOf st' = none ∧ (arrOf st').map (·.2) = (PySem.W.sortVals κ false keys.toList vs).toArray)
      h1 hK ⟨Array.Perm.refl _, rfl, rfl⟩ rfl (Stable.refl _) (by rw [hss]; omega) fun st' a1 a2 a3 a4 => ⟨a2, fin st' a1 a3 a4⟩) ?_ fun _ _ e => e)
    rintro ⟨⟨⟩, st'⟩ s' ⟨rfl, hf, hoo⟩
    try dsimp only at hoo ⊢
    exact srt_tail I ha hn hk hka ro (by rw [hol]; exact hZ) hf hoo h
theorem each_dv {F : Hp} : ∀ {out : List Value} {es : List Dt}, PySem.W.EachIs (fun v d => ∃ x, RelV x v ∧ Dv (kzX X z) F x d) out es → ∃ outV, Vals outV out ∧ DvAll (kzX X z) F outV es
  | _, _, .nil => ⟨[], .nil, .nil⟩
  | _, _, .cons h t => by
    obtain ⟨x, h1, h2⟩ := h
    obtain ⟨xs, h3, h4⟩ := each_dv t
    exact ⟨x :: xs, .cons h1 h3, .cons h2 h4⟩
theorem dv_each {F : Hp} : ∀ {vv : List V} {vs : List Value} {ds : List Dt}, Vals vv vs → DvAll (kzX X z) F vv ds → PySem.W.EachIs (fun v d => ∃ x, RelV x v ∧ Dv (kzX X z) F x d) vs ds
  | _, _, _, .nil, .nil => .nil
  | _, _, _, .cons h t, .cons h' t' => .cons ⟨_, h, h'⟩ (dv_each t t')
theorem dv_reads {H : Hp} {s : Shared} (I : Inv X pins σ H s) : ∀ {vv : List V} {vs : List Value} {ds : List Dt}, Vals vv vs → DvAll (kzX X z) H vv ds → PySem.W.EachIs (fun v d => ∃ as, Reads s.heap v d as) vs ds
  | _, _, _, .nil, .nil => .nil
  | _, _, _, .cons h t, .cons h' t' => .cons (Dv.reads I h' h) (dv_reads I t t')
theorem srt_rest (Fn : FnOk X.prog X.w X.K X.mg X.base (L2.CX X.prog X.w) k f fd ps (spPure X.K X.w X.mg S)) (hr : Room k B) (hb : Binds X.K fd ps []) (hfr : B.frames = some X.stack) {s : Shared} {e1 : Nat} {P : PySem.Fin → Shared → Prop} {E : Value → Shared → Prop} {vs : List Value} {vv : List V}
    (i0 : SrtI X z pins σ A M F0 a kS (seqObj "list" #[] e1) (ds.map kf) 0 s) (hn : ∀ o' u', X.H_0 a ≠ some (.frz o' u')) (hka : kS ≠ a) (hA : (A ++ [a, kS])[A.length + 1]? = some kS) (rv : Vals vv vs) (dvs : DvAll (kzX X z) F0 vv ds) (hS : ∀ d ∈ ds, S [d] (fun y => y = kf d) (fun _ _ => False))
    (hal : PySem.W.AllAlike (ds.map kf)) (hsk : PySem.W.Sortable (ds.map kf)) (hu : ∀ d ∈ ds.map kf, B.units + d.depth < cLine) (hZ : vs.length ≤ sizeLine)
    (h : ∀ F H kV outV s', Inv X pins σ (upd (upd (upd H kS (.lst [])) a (.lst [])) a (.lst outV)) s' → StO (kzX X z) (A ++ [a, kS]) (M ++ [.dead, .dead]) F H → Same F0 F → F a = none → F kS = none → H a = some (.frz (seqObj "list" #[] e1) (.lst [])) → H kS = some (.lst kV) →
      DvAll (kzX X z) F outV (ds.mergeSort (PySem.W.dataLe false kf)) → P (.done (.ret .none)) s') :
    wpAny (model X.prog X.w) B (ksk_rest a (.ref f) false vs.toArray e1 (.ref kS)) P E s := by
  have hlen : vs.length = ds.length := by rw [← rv.length, dvs.len]
  unfold ksk_rest
  refine wpAny_bind (wpAny_rule ?_)
  first
    | rw [List.forIn_toArray]
    | (rw [← Array.forIn_toList]; simp only [List.toList_toArray])
    | rw [← Array.forIn_toList]
  refine wpAny_bind (ksk_fold (fun i s' => SrtI X z pins σ A M F0 a kS (seqObj "list" #[] e1) (ds.map kf) i s') vs 0 s i0 ?step ?done)
  case step =>
    rintro j x s' hx ⟨F, H, kV, I, S0, f0, fa, fk, ha, hk, dk⟩
    simp only [Nat.zero_add] at dk ⊢
    obtain ⟨v, hv, r⟩ := vals_at rv hx
    obtain ⟨d, hd, dv⟩ := dvs.at hv
    refine wpAny_bind (wpAny_attempt (wpAny_mono (srt_call Fn hr hb hfr I S0 r (Dv.mono f0 dv) (hS d (List.mem_of_getElem? hd)) fa fk ha hk) (fun w s'' he => ?_) fun _ _ hF => hF.elim))
    obtain ⟨F', H', v', I', S', f', fa', fk', ha', hk', r', dv'⟩ := he
    obtain ⟨hzk, its, n, rk, ek⟩ := I'.hok kS _ hk'
    have hjk : kV.length = j := by
      have hj : j < ds.length := (List.getElem?_eq_some_iff.mp hd).1
      have := dk.len
      rw [this, List.length_take, List.length_map]
      omega
    have hj : j < vs.length := (List.getElem?_eq_some_iff.mp hx).1
    have hw : Vals (kV ++ [v']) (its ++ [w]) := rk.append (.cons r' .nil)
    have I2 := fun t => I'.lset (its' := its ++ [w]) (ys := kV ++ [v']) (f := (·.push w)) (t' := t) hk' ek (by simp) hw (by rw [List.length_append, hjk]; exact Nat.le_trans hj hZ)
    try dsimp only
    refine wpAny_bind (listUpdate_at ek rfl ?_ (by rw [List.size_toArray, ← rk.length]; exact hzk) (by rw [Array.size_push, List.size_toArray, ← rk.length]; exact Nat.succ_le_succ hzk))
    refine wpAny_pure ⟨rfl, F', upd H' kS (.lst (kV ++ [v'])), kV ++ [v'], I2 _, ?_, f0.trans f', fa', fk', by rw [upd_ne hka.symm]; exact ha', upd_same, ?_⟩
    · have := S'.write (k := A.length + 1) (a := kS) (c := .dead) (o := .lst (kV ++ [v'])) hA fk' trivial
      have e : (M ++ [Cel.dead, Cel.dead]).set (A.length + 1) .dead = M ++ [.dead, .dead] := by
        have hl : A.length = M.length := by have := S'.len; simp at this; exact this
        rw [hl, List.set_append_right _ _ (by omega)]
        simp
      rw [e] at this
      exact this
    · have et : (ds.map kf).take (j + 1) = (ds.map kf).take j ++ [kf d] := by
        rw [List.take_add_one, List.getElem?_map, hd]; rfl
      rw [et]
      exact (DvAll.mono f' dk).app (.cons dv' .nil)
  case done =>
    rintro s' ⟨F, H, kV, I, S0, f0, fa, fk, ha, hk, dk⟩
    have et : (ds.map kf).take (0 + vs.length) = ds.map kf := List.take_of_length_le (by rw [List.length_map]; omega)
    rw [et] at dk
    obtain ⟨hzk, its, n, rk, ek⟩ := I.hok kS _ hk
    have er := dv_reads I rk (DvAll.mono S0.sub dk)
    have hsz : its.toArray.size = vs.length := by rw [List.size_toArray, ← rk.length, dk.len, List.length_map, hlen]
    obtain ⟨outV, ro, dvo⟩ := each_dv (PySem.W.keyedOut_each (rev := false) kf ⟨s'.heap, its, hal, rfl, er⟩ (dv_each rv (DvAll.mono f0 dvs)))
    try dsimp only
    refine wpAny_bind (listItems_at ek rfl ?_)
    exact srt_end (κ := PySem.W.dataKind s'.heap (ds.map kf)) (vs := vs) (keys := its.toArray) I ha hn hk hka (PySem.W.SortsAt.data (s := s') er hal hsk hu) hsz hZ ro fun s3 I3 => h F H kV outV s3 I3 S0 f0 fa fk ha hk dvo
end
end DX

namespace DX
open PySem PySem.Calls PySem.Spec PyProof.Rows L2

theorem ksz (h : Heap) (vs : List Value) : ((PySem.W.copyHeap h vs).update (h.objs.size + 1) (Obj.mapSeq fun _ => (#[] : Array Value)) |>.push (seqObj "tuple" vs.toArray 0)).objs.size = h.objs.size + 3 := by
  rw [size_push', Heap.size_update]
  unfold PySem.W.copyHeap
  rw [size_push', Heap.size_update, size_push']
section
variable {X : Cx} {z : Hp} {pins : List (Addr × Obj)} {σ : L2.St} {A : List Addr} {M : Sto} {F H : Hp} {f l : Addr} {kf : Dt → Dt} {ds : List Dt} {S : List Dt → (Dt → Prop) → (Str → List (Str × Dt) → Prop) → Prop} {k : Nat} {fd : FuncData} {ps : List Str}
theorem srt_core (Fn : FnOk X.prog X.w X.K X.mg X.base (L2.CX X.prog X.w) k f fd ps (spPure X.K X.w X.mg S)) (hr : Room (k + 2) X.A) (hfr : X.A.frames = some X.stack) (hb : Binds X.K fd ps []) {s : Shared} {vv : List V} {Qv : VK} (I : Inv X pins σ H s) (S0 : StO (kzX X z) A M F H) (dv : DvAll (kzX X z) F vv ds)
    {its : List Value} (rv : Vals vv its) (hZ : its.length ≤ sizeLine) {hC : Heap} {tk : Nat} {a : Addr} (kC : ∀ b u, s.heap.get? b = some u → hC.get? b = some u) (ha : s.heap.objs.size ≤ a) (ho : hC.get? a = some (seqObj "list" its.toArray 0))
    (hS : ∀ d ∈ ds, S [d] (fun y => y = kf d) (fun _ _ => False)) (hal : PySem.W.AllAlike (ds.map kf)) (hsk : PySem.W.Sortable (ds.map kf)) (hu : ∀ d ∈ ds.map kf, d.depth ≤ 100)
    (h : ∀ F' H', StO (kzX X z) (A ++ [a]) (M ++ [.dl (ds.mergeSort (PySem.W.dataLe false kf))]) F' H' → Same F F' → Qv (.ref a) H') (E' : Value → Shared → Prop) :
    wpAny (model X.prog X.w) X.A.in1.in1 (Builtin.«list.sort» ⟨[.ref a], [(Str.ofString "key", .ref f)]⟩) (fun fl s' => fl = .done (.ret .none) ∧ EP X pins σ Qv (.ref a) s') E' { s with heap := hC, toks := tk } := by
  rw [ksk_t1]
  obtain ⟨e1, ho1⟩ : ∃ e1, (hC.update a (Obj.mapSeq fun _ => (#[] : Array Value))).get? a = some (seqObj "list" #[] e1) := ⟨_, get?_update_seq ho fun _ => #[]⟩
  have hkS : ((hC.update a (Obj.mapSeq fun _ => (#[] : Array Value))).push (seqObj "tuple" its.toArray 0)).objs.size = hC.objs.size + 1 := by rw [size_push', Heap.size_update]
  have haC : a < hC.objs.size := Heap.lt_size ho
  unfold ksk_tree
  refine wpAny_bind (listItems_at ho rfl ?_)
  refine wpAny_bind (listUpdate_at ho rfl ?_ (by rw [List.size_toArray]; exact hZ) (Nat.zero_le _))
  refine wpAny_bind (seqEpoch_at ho1 rfl ?_)
  refine wpAny_bind (wpAny_newTuple ?_ (by show its.length ≤ _; exact hZ))
  refine wpAny_bind (wpAny_newList ?_ (Nat.zero_le _))
  refine wpAny_holding ?_
  generalize hB : (hC.update a (Obj.mapSeq fun _ => (#[] : Array Value))).push (seqObj "tuple" its.toArray 0) = hA at hkS
  have geta : hA.get? a = some (seqObj "list" #[] e1) := by rw [← hB]; exact Heap.get?_push_of_some _ ho1
  have keep : ∀ b u, s.heap.get? b = some u → hA.get? b = some u := fun b u e => by
    have hlt := Heap.lt_size e
    rw [← hB]
    exact Heap.get?_push_of_some _ ((Heap.get?_update_ne _ _ _ _ (Nat.ne_of_lt (Nat.lt_of_lt_of_le hlt ha))).trans (kC b u e))
  have hna : H a = none := I.hok.fresh ha
  have I1 := fun t => I.laid (h' := hA) (a := a) (o := .lst []) (t' := t) keep ha ⟨Nat.zero_le _, [], e1, .nil, geta⟩
  have I2 := fun t => (I1 t).lnew (its := []) (ys := []) (t' := t) .nil (Nat.zero_le _)
  have hka : hA.objs.size ≠ a := by rw [hkS]; exact Nat.ne_of_gt (Nat.lt_succ_of_lt haC)
  have ea2 : (upd (upd H a (.lst [])) hA.objs.size (.lst [])) a = some (.lst []) := by rw [upd_ne hka.symm, upd_same]
  have hn := (I2 s.toks).nofrz (d := a) (u := .lst []) ea2 trivial
  have I3 : ∀ t, Inv X pins σ (upd (upd (upd H a (.lst [])) hA.objs.size (.lst [])) a (.frz (seqObj "list" #[] e1) (.lst []))) { s with heap := hA.push (seqObj "list" #[] 0), toks := t } := fun t => by
    obtain ⟨od, I3⟩ := (I2 t).lock (d := a) (u := .lst []) ea2 trivial
    have e := (I3.hok _ _ upd_same).1
    have e2 : ({ s with heap := hA.push (seqObj "list" #[] 0), toks := t } : Shared).heap.get? a = some (seqObj "list" #[] e1) := Heap.get?_push_of_some _ geta
    have : od = seqObj "list" #[] e1 := Option.some.inj (e.symm.trans e2)
    rw [this] at I3
    exact I3
  have S1 := S0.cell (p := a) (o := .lst []) (c := .dead) hna trivial
  have hnk : upd H a (.lst []) hA.objs.size = none := by rw [upd_ne hka]; exact I.hok.fresh (by rw [hkS]; exact Nat.le_trans ha (Nat.le_succ_of_le (Nat.le_of_lt haC)))
  have S2 := S1.cell (p := hA.objs.size) (o := .lst []) (c := .dead) hnk trivial
  have eA : (A ++ [a]) ++ [hA.objs.size] = A ++ [a, hA.objs.size] := by simp
  have eM : (M ++ [Cel.dead]) ++ [Cel.dead] = M ++ [.dead, .dead] := by simp
  rw [eA, eM] at S2
  have hAM : A.length = M.length := S0.len
  have ia : (A ++ [a, hA.objs.size])[A.length]? = some a := by rw [List.getElem?_append_right (Nat.le_refl _)]; simp
  have ik : (A ++ [a, hA.objs.size])[A.length + 1]? = some hA.objs.size := by rw [List.getElem?_append_right (Nat.le_succ _)]; simp
  have Fa : F a = none := S0.freshF hna
  have Fk : F hA.objs.size = none := S0.freshF (I.hok.fresh (by rw [hkS]; exact Nat.le_trans ha (Nat.le_succ_of_le (Nat.le_of_lt haC))))
  have S3 := S2.write (k := A.length) (a := a) (c := .dead) (o := .frz (seqObj "list" #[] e1) (.lst [])) ia Fa trivial
  have es1 : ∀ c c1 c2 : Cel, (M ++ [c1, c2]).set A.length c = M ++ [c, c2] := fun c c1 c2 => by
    rw [hAM, List.set_append_right _ _ (Nat.le_refl _)]; simp
  have es2 : ∀ c c1 c2 : Cel, (M ++ [c1, c2]).set (A.length + 1) c = M ++ [c1, c] := fun c c1 c2 => by
    rw [hAM, List.set_append_right _ _ (Nat.le_succ _)]; simp
  rw [es1] at S3
  refine srt_rest (z := z) (A := A) (M := M) (F0 := F) (kf := kf) (ds := ds) Fn (Room.in1 (Room.in1 hr)) hb (show X.A.in1.in1.frames = _ from hfr) (vv := vv)
    ⟨F, _, [], I3 _, S3, Same.refl _, Fa, Fk, upd_same, by rw [upd_ne hka, upd_same], .nil⟩ hn hka ik rv dv hS hal hsk (fun d hd => ?_) hZ fun F' H' kV outV s' I' S' f' fa fk ha hk dvo => ⟨rfl, ?_⟩
  · have h1 := hu d hd
    have h2 := hr.un
    show X.A.units + 1 + 1 + d.depth < cLine
    omega
  · have T1 := S'.write (k := A.length + 1) (c := .dead) (o := .lst []) ik fk trivial
    rw [es2] at T1
    have T2 := T1.write (k := A.length) (c := .dead) (o := .lst []) ia fa trivial
    rw [es1] at T2
    have T3 := T2.write (k := A.length) (c := .dl (ds.mergeSort (PySem.W.dataLe false kf))) (o := .lst outV) ia fa ⟨fa, outV, upd_same, of_dpAll dvo⟩
    rw [es1] at T3
    have eM2 : M ++ [Cel.dl (ds.mergeSort (PySem.W.dataLe false kf)), Cel.dead] = (M ++ [Cel.dl (ds.mergeSort (PySem.W.dataLe false kf))]) ++ [Cel.dead] := by simp
    rw [eM2] at T3
    have T4 := T3.trim (StoB.app (StoB.mono (by simp) S0.bd) trivial)
    have eA2 : (A ++ [a, hA.objs.size]).take (M ++ [Cel.dl (ds.mergeSort (PySem.W.dataLe false kf))]).length = A ++ [a] := by
      rw [List.length_append, ← hAM, List.take_append, List.take_of_length_le (Nat.le_add_right _ _), Nat.add_sub_cancel_left]
      rfl
    rw [eA2] at T4
    exact ⟨.ref a, _, I', rfl, h _ _ T4 f'⟩
theorem srt_run (Fn : FnOk X.prog X.w X.K X.mg X.base (L2.CX X.prog X.w) k f fd ps (spPure X.K X.w X.mg S)) (hr : Room (k + 2) X.A) (hfr : X.A.frames = some X.stack) (hb : Binds X.K fd ps []) {s : Shared} {vv : List V} {Qv : VK} (I : Inv X pins σ H s) (S0 : StO (kzX X z) A M F H) (hs : SqL X.K H l vv) (dv : DvAll (kzX X z) F vv ds)
    (hS : ∀ d ∈ ds, S [d] (fun y => y = kf d) (fun _ _ => False)) (hal : PySem.W.AllAlike (ds.map kf)) (hsk : PySem.W.Sortable (ds.map kf)) (hu : ∀ d ∈ ds.map kf, d.depth ≤ 100)
    (h : ∀ a F' H', StO (kzX X z) (A ++ [a]) (M ++ [.dl (ds.mergeSort (PySem.W.dataLe false kf))]) F' H' → Same F F' → Qv (.ref a) H') :
    wpAny (model X.prog X.w) X.A (call (.builtin "sorted") [.ref l] [(Str.ofString "key", .ref f)]) (EP X pins σ Qv) X.xe s := by
  obtain ⟨its, rv, hl, hz⟩ := I.list hs
  have hZ : its.length ≤ sizeLine := by rw [← rv.length]; exact hz
  exact PySem.W.sorted_of_sort hl.isList hZ (PyProof.Rows.ksk_s1 _ _) (fun _ => PyProof.Rows.ksk_l1 _ _) fun E' =>
    srt_core (tk := s.toks) Fn hr hfr hb I S0 dv rv hZ (hC := PySem.W.copyHeap s.heap its) (a := s.heap.objs.size + 1) (fun b u e => PySem.W.copyHeap_old e) (Nat.le_succ _) (PySem.W.copyHeap_at s.heap its) hS hal hsk hu (h _) E'
/-- what is gathered is sorted -/
theorem sorted_gath {r : Value} {kw : List (Str × Value)} {s : Shared} {Q : Value → Shared → Prop} {E : Value → Shared → Prop} {B : Around} (ha1 : argsOk "sorted" ⟨[r], kw⟩) (ha2 : ∀ x, argsOk "list.sort" ⟨[.ref x], kw⟩) {vs : List Value} (hL : vs.length ≤ sizeLine)
    (col : ∀ (E' : Value → Shared → Prop) (P : List Value → Shared → Prop), (∀ (h' : Heap) (tk : Nat), (∀ b o, s.heap.get? b = some o → h'.get? b = some o) → P vs { s with heap := h', toks := tk }) → wpAny (model X.prog X.w) B.in1 (collect r) P E' s)
    (body : ∀ (E' : Value → Shared → Prop) (h' : Heap) (tk : Nat), (∀ b u, s.heap.get? b = some u → h'.get? b = some u) →
      wpAny (model X.prog X.w) B.in1.in1 (Builtin.«list.sort» ⟨[.ref h'.objs.size], kw⟩) (fun f s' => f = .done (.ret .none) ∧ Q (.ref h'.objs.size) s') E' { s with heap := h'.push (seqObj "list" vs.toArray 0), toks := tk }) :
    wpAny (model X.prog X.w) B (call (.builtin "sorted") [r] kw) Q E s := by
  refine call_function_entry_kw kind_sorted plain_sorted entry_sorted ha1 ?_
  unfold Builtin.«sorted»
  refine wpAny_bind (m := checkCount "sorted" 1 1 _) (wpAny_pure ?_)
  refine wpAny_bind (col _ _ fun h' tk hk => ?_)
  refine wpAny_bind (wpAny_newList ?_ hL)
  have hget : (h'.push (seqObj "list" vs.toArray 0)).get? h'.objs.size = some (seqObj "list" vs.toArray 0) := Heap.get?_push_size _ rfl
  refine wpAny_bind (wpAny_holding (wpAny_call_entry_kw slot_list_sort ⟨_, hget, rfl⟩ entry_list_sort ?body (ha2 _)))
  case body =>
    show wpAny (model X.prog X.w) B.in1.in1 (Builtin.«list.sort» ⟨[.ref h'.objs.size], kw⟩) _ _ _
    refine wpAny_mono (body _ h' tk hk) (fun f s' hf => ?_) fun _ _ e => e
    obtain ⟨rfl, hq⟩ := hf
    exact ⟨_, rfl, wpAny_pure ⟨_, rfl, hq⟩⟩
end
end DX

namespace DX
open PySem PySem.Calls PySem.Spec PyProof.Rows L2

section
variable {X : Cx} {pins : List (Addr × Obj)} {σ : L2.St} {H : Hp} {s : Shared} {z : Hp} {F : Hp} {R : Im → V → Prop} {a : Addr} {o : HO} {kvs : List (Dt × Im)}
/-- the entries of a dict -/
theorem raw_view (I : Inv X pins σ H s) (e : Rd H a o) (D : DicR ⟨X.K, X.w, z⟩ F R a o kvs) : ∃ es ep, (a == sysModules) = false ∧ es.size = kvs.length ∧ es.size ≤ sizeLine ∧ s.heap.DictRaw a es ep ∧
    ∀ (i : Nat) (en : DictEntry), es[i]? = some en → ∃ p, kvs[i]? = some p ∧ (∃ v, RelV v en.key ∧ Dv ⟨X.K, X.w, z⟩ F v p.1) ∧ ∃ v, RelV v en.val ∧ R p.2 v := by
  rcases D with ⟨ws, rfl, p⟩ | ⟨ws, rfl, p⟩
  · obtain ⟨hz, hs, vs, kv, o, es, ep, ho, hc, hd, _, hp, _⟩ := dk_rd I.hok e
    have pr := pairs_split hp
    have l1 : es.size = vs.length := by rw [← Array.length_toList]; exact pr.length
    have l2 : ws.length = vs.length := kv.length
    have l3 : kvs.length = ws.length := p.length
    refine ⟨es, ep, hs, by omega, by omega, ⟨o, ho, hc, hd⟩, fun i en he => ?_⟩
    obtain ⟨q, hq, q1, q2⟩ := paired_get pr (by rw [Array.getElem?_toList]; exact he)
    have hi : i < kvs.length := by
      have := (List.getElem?_eq_some_iff.mp hq).1
      omega
    obtain ⟨w, hw, r1, r2⟩ := paired_get p (List.getElem?_eq_getElem hi)
    obtain ⟨q', hq', k1, k2⟩ := paired_get kv hw
    rw [hq] at hq'; cases hq'
    refine ⟨_, List.getElem?_eq_getElem hi, ⟨kV w.1, relV_key (show keyIs w.1 en.key = true by rw [k1]; exact q1), by rw [r1]; exact dv_kD _⟩, w.2, by rw [q2]; exact k2, r2⟩
  · obtain ⟨hs, hz, _, xs, pr, o, es, ep, ho, hc, hd, he⟩ := (e.ok I.hok).1
    have l1 : es.size = xs.length := by rw [← Array.length_toList, he, List.length_map]
    have l2 : ws.length = xs.length := pr.length
    have l3 : kvs.length = ws.length := p.length
    have := hz.1
    refine ⟨es, ep, hs, by omega, by omega, ⟨o, ho, hc, hd⟩, fun i en hen => ?_⟩
    rw [← Array.getElem?_toList, he, List.getElem?_map] at hen
    cases hx : xs[i]? with
    | none => rw [hx] at hen; cases hen
    | some x =>
      rw [hx] at hen; cases hen
      have hi : i < kvs.length := by
        have := (List.getElem?_eq_some_iff.mp hx).1
        omega
      obtain ⟨w, hw, r1, r2, r3, r4⟩ := paired_get p (List.getElem?_eq_getElem hi)
      obtain ⟨q', hq', k1, k2, k3⟩ := paired_get pr hw
      rw [hx] at hq'; cases hq'
      exact ⟨_, List.getElem?_eq_getElem hi, ⟨.ref w.2.1, congrArg Value.ref k2.symm, r1⟩, w.2.2, k3, r4⟩
/-- the keys gathered -/
theorem gath_keys (hh : X.A.handled = none) (I : Inv X pins σ H s) (e : Rd H a o) (D : DicR ⟨X.K, X.w, z⟩ F R a o kvs) : ∃ us vs, Vals vs us ∧ us.length ≤ sizeLine ∧ DvAll ⟨X.K, X.w, z⟩ F vs (kvs.map (·.1)) ∧
    ∀ (B : Around) (E' : Value → Shared → Prop) (P : List Value → Shared → Prop), B.handled = none → (∀ (h' : Heap) (tk : Nat), (∀ b o, s.heap.get? b = some o → h'.get? b = some o) → P us { s with heap := h', toks := tk }) → wpAny (model X.prog X.w) B (collect (.ref a)) P E' s := by
  obtain ⟨es, ep, hs, hl, hz, hm, ent⟩ := raw_view I e D
  have key : ∀ (n : Nat) (l : List DictEntry) (ks : List (Dt × Im)), l.length = ks.length → (∀ (i : Nat) (en : DictEntry), l[i]? = some en → ∃ p, ks[i]? = some p ∧ ∃ v, RelV v en.key ∧ Dv ⟨X.K, X.w, z⟩ F v p.1) → ∃ vs, Vals vs (l.map (·.key)) ∧ DvAll ⟨X.K, X.w, z⟩ F vs (ks.map (·.1)) := by
    intro n l
    induction l with
    | nil => intro ks hl _; cases ks with
      | nil => exact ⟨[], .nil, .nil⟩
      | cons => cases hl
    | cons x l ih =>
      intro ks hl hf
      cases ks with
      | nil => cases hl
      | cons p ks =>
        obtain ⟨q, hq, v, h1, h2⟩ := hf 0 x rfl
        cases hq
        obtain ⟨vs, g1, g2⟩ := ih ks (by simpa using hl) fun i en he => by simpa using hf (i + 1) en (by simpa using he)
        exact ⟨v :: vs, .cons h1 g1, .cons h2 g2⟩
  obtain ⟨vs, g1, g2⟩ := key 0 es.toList kvs (by rw [Array.length_toList]; exact hl) fun i en he => by
    obtain ⟨p, h1, h2, _⟩ := ent i en (by rw [← Array.getElem?_toList]; exact he)
    exact ⟨p, h1, h2⟩
  refine ⟨es.toList.map (·.key), vs, g1, by rw [List.length_map, Array.length_toList]; exact hz, g2, fun B E' P hB h => ?_⟩
  refine PySem.W.kdu_collect (PySem.KdlSrc.rawDict (es := es) (ep := ep) hs) hB hm hz fun h' tk acc hk hit => ?_
  have : acc.toList = es.toList.map (·.key) := by
    apply List.ext_getElem?
    intro i
    obtain ⟨h1, h2⟩ := hit
    by_cases hi : i < es.size
    · have ha : i < acc.size := by omega
      obtain ⟨_, h3⟩ := h2 i acc[i] (Array.getElem?_eq_getElem ha)
      rw [Array.getElem?_toList, Array.getElem?_eq_getElem ha, List.getElem?_map, Array.getElem?_toList, Array.getElem?_eq_getElem hi, h3]
      rfl
    · rw [List.getElem?_eq_none (by rw [Array.length_toList]; omega), List.getElem?_eq_none (by rw [List.length_map, Array.length_toList]; omega)]
  rw [this]
  exact h h' tk hk
end
end DX

namespace DX
open PySem PySem.Calls PySem.Spec PyProof.Rows L2

def rAllC (G : Sx) (f : Value) : List V → Hp → VK → Prop := fun xs H Q => ∀ X, G.Has X → ∀ (pins : List (Addr × Obj)) (s : Shared) (σ : L2.St) (us : List Value), Inv X pins σ H s → Vals xs us → wpAny (model X.prog X.w) X.A (call f us) (EP X pins σ Q) X.xe s
def rAllK (G : Sx) (f : Value) (ks : List Str) : List V → List V → Hp → VK → Prop := fun xs zs H Q => ∀ X, G.Has X → ∀ (pins : List (Addr × Obj)) (s : Shared) (σ : L2.St) (us ws : List Value), Inv X pins σ H s → Vals xs us → Vals zs ws → wpAny (model X.prog X.w) X.A (call f us (ks.zip ws)) (EP X pins σ Q) X.xe s
theorem calr_all {G : Sx} {f : Value} : ∀ X, G.Has X → CallR X f (rAllC G f) := fun X hX pins s σ H xs us Q I r h => h X hX pins s σ us I r
theorem calr_allK {G : Sx} {f : Value} {ks : List Str} : ∀ X, G.Has X → CallRK X f ks (rAllK G f ks) := fun X hX pins s σ H xs zs us ws Q I r r2 h => h X hX pins s σ us ws I r r2
/-- r is walked as these data -/
def SrcOf (M : Sto) (r : Im) (ds : List Dt) : Prop := AsL M r (ds.map .d) ∨ ∃ kvs, DicOf M r kvs ∧ ds = kvs.map (·.1)
theorem srcL_of {M : Sto} {r : Im} {ds : List Dt} (h : srcL M r = some ds) : SrcOf M r ds := by
  unfold srcL at h
  split at h
  · rename_i e; cases h; exact .inl (asLD_L e)
  · split at h
    · rename_i kvs e; cases h; exact .inr ⟨kvs, dicI_of e, rfl⟩
    · cases h
section
variable {G : Sx} {Γ : Ec} {M : Sto} {Q : QE} {R : QR} {pos p2 p3 kp : Pos} {a : Expr}
theorem kw_eq {X : Cx} (h : G.Has X) : kzX X G.z = G.kw := by show (⟨X.K, X.w, G.z⟩ : KW) = ⟨G.K, G.w, G.z⟩; rw [h.K, h.w]
theorem goes_own {own : Bool} {ds : List Dt} {M1 : Sto} {A1 : List Addr} {F1 : Hp} {H1 : Hp} {Qv : VK} (S1 : StO G.kw A1 M1 F1 H1) (hQ : Goes G A1 F1 Q Qv) (q : outL own ds M1 Q) {b : Addr} {F' H' : Hp} (S' : StO G.kw (A1 ++ [b]) (M1 ++ [.dl ds]) F' H') (f' : Same F1 F') : Qv (.ref b) H' := by
  have hl : A1.length = M1.length := S1.len
  have hb : ImR G.kw (A1 ++ [b]) F' (.p M1.length) (.ref b) := ⟨b, by rw [← hl]; simp, rfl⟩
  cases own with
  | true => exact hQ _ _ _ _ _ _ q S' (ALe.app _ _) f' hb
  | false => exact goes_frz S1 hQ _ _ _ _ _ _ ⟨_, _, rfl, rfl, rfl, q⟩ S' (ALe.app _ _) f' hb
theorem ev_sortK (h0 : G.hot = none) {own : Bool} {k : Nat} {g : FnE} {S : List Dt → (Dt → Prop) → (Str → List (Str × Dt) → Prop) → Prop} (D : DefOk G.P G.w G.K G.mg G.base k g) (hk2 : k + 2 ≤ G.k) (hdf : g.df = []) (hsp : g.sp = .pure S) (hg : G.sc.names.lookup g.name = some .globalImplicit) (hdb : (g.name == ("__debug__" : Str)) = false)
    (hgs : G.sc.names.lookup ("sorted" : Str) = some .globalImplicit) (hm : G.mg "sorted" = none) (hs : PlainA a [])
    (h : EvX G a Γ M (fun r M1 => ∃ ds : List Dt, SrcOf M1 r ds ∧ ∃ kf : Dt → Dt, (∀ d ∈ ds, S [d] (fun y => y = kf d) (fun _ _ => False)) ∧ sortOk (ds.map kf) ∧ outL own (ds.mergeSort (PySem.W.dataLe false kf)) M1 Q) R) :
    EvX G (.Call (.Name "sorted" p2) [a] [⟨some "key", .Name g.name p3, kp⟩] pos) Γ M Q R := by
  obtain ⟨k', f, fd, ps, dvs, dss, hF, hk, hmf, hkp, hb, hd, hdv⟩ := D.ex
  rw [hsp] at hF
  have e1 : dvs = [] := by
    have := (hdv G.z (fun _ => none)).len
    rw [hdf] at this
    exact List.eq_nil_of_length_eq_zero this
  subst e1
  have e2 : dss = [] := by cases hd; rfl
  subst e2
  intro A F σ H Qv S0 L hQ hR
  refine tS_of (t := tCKw (rAllK G (.builtin "sorted") [Str.ofString "key"]) (tSA G [a]) (tCons (tC (.ref f)) tNil)) (fun X hX => ?_) ?_
  · exact pe_callBK (calr_allK X hX) (gl_of hX hgs) (by rw [hX.mg]; exact hm) (by decide +kernel) (pa_S hX [a]) (pk_cons (pe_glob (gl_of hX hg) (by rw [hX.mg]; exact hmf) rfl hdb) pk_nil) (by decide) (by decide) (by rw [hs]; rfl) (by rw [hs]; rfl)
  · refine eva_cons (Q := fun rs M1 => ∃ r, rs = [r] ∧ ∃ ds : List Dt, SrcOf M1 r ds ∧ ∃ kf : Dt → Dt, (∀ d ∈ ds, S [d] (fun y => y = kf d) (fun _ _ => False)) ∧ sortOk (ds.map kf) ∧ outL own (ds.mergeSort (PySem.W.dataLe false kf)) M1 Q) hs (h.imp fun r M1 q => eva_nil ⟨r, rfl, q⟩) A F σ H _ S0 L (fun rs M1 A1 F1 H1 vs q S1 a1 f1 r1 => ?_) hR
    obtain ⟨r, rfl, ds, hl, kf, hS, ⟨hal, hsk, hu⟩, q⟩ := q
    cases r1 with
    | cons r1 t =>
      cases t
      rcases hl with hl | ⟨kvs, hl, rfl⟩
      · obtain ⟨l, vv, rfl, hsq, rs⟩ := hl.sq S1 r1
        intro X hX pins s σ' us ws I ru rw'
        obtain rfl := Vals.ref1 ru
        obtain rfl : ws = [.ref f] := Vals.ref1 rw'
        have ek := kw_eq hX
        refine srt_run (z := G.z) (A := A1) (M := M1) (F := F1) (kf := kf) (ds := ds) (S := S) (k := k') (by rw [hX.prog, hX.w, hX.K, hX.mg, hX.base]; exact hF) ((hX.room h0).mono (by omega)) I.ok.frames (by rw [hX.K]; exact hb) I (by rw [ek]; exact S1) (by rw [hX.K]; exact hsq) (by rw [ek]; exact dpAll_of rs) hS hal hsk hu fun b F' H' S' f' => ?_
        rw [ek] at S'
        exact goes_own S1 (hQ.mono a1 f1) q S' f'
      · obtain ⟨p, o, rfl, e, D⟩ := hl.dic S1 r1
        intro X hX pins s σ' us ws I ru rw'
        obtain rfl := Vals.ref1 ru
        obtain rfl : ws = [.ref f] := Vals.ref1 rw'
        have ek := kw_eq hX
        have hh : X.A.handled = none := I.ok.hd (hX.calm h0)
        have ek2 : G.kw = ⟨X.K, X.w, G.z⟩ := ek.symm
        rw [ek2] at D
        obtain ⟨us, vs, rv, hz, dv, col⟩ := gath_keys hh I e D
        refine sorted_gath (PyProof.Rows.ksk_s1 _ _) (fun _ => PyProof.Rows.ksk_l1 _ _) hz (fun E' P h => col X.A.in1 E' P hh h) fun E' h' tk hk => ?_
        refine srt_core (s := { s with heap := h', toks := tk }) (tk := tk) (z := G.z) (A := A1) (M := M1) (F := F1) (kf := kf) (S := S) (k := k') (by rw [hX.prog, hX.w, hX.K, hX.mg, hX.base]; exact hF) ((hX.room h0).mono (by omega)) I.ok.frames (by rw [hX.K]; exact hb) (I.kept (t' := tk) hk) (by rw [ek]; exact S1) dv rv hz (fun b u e => Heap.get?_push_of_some _ e) (Nat.le_refl _) (Heap.get?_push_size _ rfl) hS hal hsk hu (fun F' H' S' f' => ?_) E'
        rw [ek] at S'
        exact goes_own S1 (hQ.mono a1 f1) q S' f'
theorem ev_sort (h0 : G.hot = none) {own : Bool} (hgs : G.sc.names.lookup ("sorted" : Str) = some .globalImplicit) (hm : G.mg "sorted" = none) (hs : PlainA a [])
    (h : EvX G a Γ M (fun r M1 => ∃ ds : List Dt, SrcOf M1 r ds ∧ sortOk ds ∧ outL own (ds.mergeSort (PySem.W.dataLe false id)) M1 Q) R) :
    EvX G (.Call (.Name "sorted" p2) [a] [] pos) Γ M Q R := by
  refine ev_callB (r := rAllC G (.builtin "sorted")) calr_all (by decide +kernel) hm hgs hs (fun _ _ => rfl) (eva_cons hs (h.imp fun r M1 hh => eva_nil ?_))
  intro A F H vs Qv S1 rv hQ
  obtain ⟨ds, hl, ⟨hal, hsk, hu⟩, q⟩ := hh
  have fin : ∀ {X : Cx} {pins : List (Addr × Obj)} {σ : L2.St} {s : Shared} {a : Addr} {h' : Heap} {tk : Nat} {vv : List V} {its out : List Value}, G.Has X → Inv X pins σ H s → Vals vv its → DvAll (kzX X G.z) F vv ds → its.length ≤ sizeLine → (∀ b u, s.heap.get? b = some u → h'.get? b = some u) → s.heap.objs.size ≤ a →
      (∃ ep, h'.get? a = some { cls := .type "list", data := .seq out.toArray ep }) → out.length = ds.length → PySem.W.EachIs (fun v d => ∃ x, RelV x v ∧ Dv (kzX X G.z) F x d) out (ds.mergeSort (PySem.W.dataLe false id)) → EP X pins σ Qv (.ref a) { s with heap := h', toks := tk } := fun {X pins σ s a h' tk vv its out} hX I rv dv hz hk ha hg ho eo => by
    have ek := kw_eq hX
    obtain ⟨outV, ro, dvo⟩ := each_dv eo
    obtain ⟨ep, he'⟩ := hg
    have hzo : outV.length ≤ sizeLine := by rw [ro.length, ho, ← dv.len, rv.length]; exact hz
    have hna : H a = none := I.hok.fresh ha
    refine ⟨.ref _, upd H a (.lst outV), I.laid (t' := tk) hk ha ⟨hzo, _, ep, ro, he'⟩, rfl, ?_⟩
    have fa := S1.freshF hna
    rw [ek] at dvo
    have S2 := S1.cell (p := a) (o := .lst outV) (c := .dl (ds.mergeSort (PySem.W.dataLe false id))) hna ⟨fa, outV, upd_same, of_dpAll dvo⟩
    exact goes_own S1 hQ q S2 (Same.refl _)
  cases rv with
  | cons r1 t =>
    cases t
    intro X hX pins s σ' us I ru
    have ek := kw_eq hX
    have hub : ∀ b ∈ ds, X.A.units + 2 + b.depth < cLine := fun b hb => by
      have := hu b hb
      have h2 := hX.un
      omega
    rcases hl with hl | ⟨kvs, hl, rfl⟩
    · obtain ⟨l, vv, rfl, hsq, rs⟩ := hl.sq S1 r1
      obtain rfl := Vals.ref1 ru
      obtain ⟨its, rv, hli, hz⟩ := I.list (by rw [hX.K]; exact hsq)
      have dv : DvAll (kzX X G.z) F vv ds := by rw [ek]; exact dpAll_of rs
      have hlen : its.length = ds.length := by rw [← rv.length, dv.len]
      have hzi : its.length ≤ sizeLine := by rw [← rv.length]; exact hz
      have hsub : Same F H := S1.sub
      refine PySem.W.sorted_data (enc := id) (bs := ds) hli.isList (dv_each rv dv) (dv_reads I rv (DvAll.mono hsub dv)) (by rw [List.map_id]; exact hal) (by rw [List.map_id]; exact hsk) (by rw [← hlen]; exact hzi) (fun b hb => hub b hb) fun out ho eo => ?_
      exact fin (tk := s.toks) hX I rv dv hzi (fun _ _ => PyProof.Rows.sortedAll_old) (Nat.le_succ _) (PyProof.Rows.sortedAll_at s.heap its out.toArray) ho eo
    · obtain ⟨p, o, rfl, e, D⟩ := hl.dic S1 r1
      obtain rfl := Vals.ref1 ru
      have hh : X.A.handled = none := I.ok.hd (hX.calm h0)
      rw [← ek] at D
      obtain ⟨us, vs, rv, hz, dv, col⟩ := gath_keys hh I e D
      have hlen : us.length = (kvs.map (·.1)).length := by rw [← rv.length, dv.len]
      refine sorted_gath (args_sorted1 _) (fun _ => args_list_sort _) hz (fun E' P h => col X.A.in1 E' P hh h) fun E' h' tk hk => ?_
      have I' := I.kept (t' := tk) hk
      have hsub : Same F H := S1.sub
      have er := dv_reads I' rv (DvAll.mono hsub dv)
      have ho : (h'.push (seqObj "list" us.toArray 0)).get? h'.objs.size = some (seqObj "list" us.toArray 0) := Heap.get?_push_size _ rfl
      have er' : PySem.W.EachIs (fun v b => ∃ as, Reads (PySem.W.sortingHeap (h'.push (seqObj "list" us.toArray 0)) h'.objs.size us) v (id b) as) us (kvs.map (·.1)) :=
        er.mono fun _ _ ⟨as, r⟩ => ⟨as, PyProof.Rows.Reads.keeps (fun b u e => PySem.W.sortingHeap_old (Nat.ne_of_lt (Heap.lt_size e)) (Heap.get?_push_of_some _ e)) r⟩
      refine PySem.W.list_sort_vals (κ := PySem.W.dataKind (PySem.W.sortingHeap (h'.push (seqObj "list" us.toArray 0)) h'.objs.size us) ((kvs.map (·.1)).map id)) (s := { s with heap := h'.push (seqObj "list" us.toArray 0), toks := tk }) ho ?_ hz ⟨rfl, ?_⟩
      · exact PySem.W.SortsAt.data (A := X.A.in1.in1) (s := { s with heap := PySem.W.sortingHeap (h'.push (seqObj "list" us.toArray 0)) h'.objs.size us, toks := tk }) (ds := (kvs.map (·.1)).map id) (by rw [List.map_id]; exact er') (by rw [List.map_id]; exact hal) (by rw [List.map_id]; exact hsk) fun d hd => by
          rw [List.map_id] at hd
          have := hub d hd
          show X.A.units + 1 + 1 + d.depth < cLine
          omega
      · have eo := PySem.W.sortVals_data (enc := id) false (dv_each rv dv) er' (by rw [List.map_id]; exact hal)
        exact fin (s := { s with heap := h', toks := tk }) (tk := tk) hX I' rv dv hz (fun b u e => (PyProof.Rows.sortedHeap_old (Nat.ne_of_lt (Heap.lt_size e)) (by rw [size_push']; exact Nat.lt_succ_of_lt (Heap.lt_size e))).trans (Heap.get?_push_of_some _ e)) (Nat.le_refl _) (PyProof.Rows.sortedHeap_at ho) (by rw [PySem.W.sortVals_length false rfl]; exact hlen) eo
end
end DX

namespace DX
open PySem PySem.Calls PySem.Spec PyProof.Rows L2

def bfId : Bf → Value
  | .ord => .builtin "ord"
  | .chr => .builtin "chr"
  | .abs => .builtin "abs"
  | .all => .builtin "all"
  | .any => .builtin "any"
  | .sum => .builtin "sum"
  | .min => .builtin "min"
  | .max => .builtin "max"
  | .str => .type "str"
theorem args_dv {K : KW} {A : List Addr} {F H : Hp} {M : Sto} (S : StO K A M F H) : ∀ {rs : List Im} {ds : List Dt} {vs : List V}, argDt M rs = some ds → ImsR K A F rs vs → DvAll K H vs ds
  | [], _, _, e, h => by cases h; cases e; exact .nil
  | r :: rs, ds, _, e, h => by
    cases h with
    | cons h1 h2 =>
      simp only [argDt] at e
      split at e
      · rename_i x ds' e1 e2
        cases e
        exact .cons ((asD_D e1).dp S h1) (args_dv S e2 h2)
      · cases e
theorem dv_ints {K : KW} {H : Hp} : ∀ {ns : List Int} {vs : List V}, DvAll K H vs (ns.map .int) → vs = ns.map V.int
  | [], _, h => by cases h; rfl
  | n :: ns, _, h => by
    cases h with
    | cons h1 h2 => cases h1; rw [dv_ints h2]; rfl
theorem trOks_ok {xs : List Dt} (h : trOks xs = true) : PyData.plainAll xs = true ∧ ∀ x ∈ xs, x.fits63 := by
  induction xs with
  | nil => exact ⟨rfl, fun x hx => by cases hx⟩
  | cons y ys ih =>
    unfold trOks at h
    rw [Bool.and_eq_true] at h
    obtain ⟨i1, i2⟩ := ih h.2
    have hy : y.plain = true ∧ y.fits63 := by
      have h1 := h.1
      cases y with
      | none => exact ⟨rfl, trivial⟩
      | bool b => exact ⟨rfl, trivial⟩
      | int i => exact ⟨rfl, trivial⟩
      | str x => 
        refine ⟨rfl, ?_⟩
        have := of_decide_eq_true (show decide (x.length ≤ sizeLine) = true from h1)
        show (x.length : Int) < 2 ^ 63
        have e : sizeLine = 16777216 := rfl
        omega
      | list _ => cases h1
      | tuple _ => cases h1
      | dict _ => cases h1
    exact ⟨by rw [PyData.plainAll, hy.1, i1]; rfl, fun x hx => by
      rcases List.mem_cons.mp hx with rfl | hx
      · exact hy.2
      · exact i2 x hx⟩
section
variable {G : Sx} {M : Sto} {Q : QE}
theorem goes_d {A : List Addr} {F H : Hp} {Qv : VK} (S : StO G.kw A M F H) (hQ : Goes G A F Q Qv) {d : Dt} {v : V} (q : Q (.d d) M) (h : Dv G.kw F v d) : Qv v H := hQ _ _ _ _ _ _ q S (ALe.refl _) (Same.refl _) h
theorem bf_ok (h0 : G.hot = none) {f : Bf} {ds : List Dt} {rs : List Im} (e : argDt M rs = some ds) (h : bfW f ds fun d => Q (.d d) M) : CalR G (rAllC G (bfId f)) rs M Q := by
  intro A F H vs Qv S0 rv hQ X hX pins s σ us I ru
  have dv := args_dv S0 e rv
  have hh : X.A.handled = none := I.ok.hd (hX.calm h0)
  have ek := kw_eq hX
  have lst : ∀ {xs : List Dt} {p : V}, Dv G.kw H p (.list xs) → ∃ a its as ys, p = .ref a ∧ SqL X.K H a ys ∧ DvAll G.kw H ys xs ∧ s.heap.IsList a its ∧ ReadsAll s.heap its.toList xs as := fun {xs p} h => by
    cases h with
    | lst hs ha =>
      have hs' := hs
      rw [show G.kw.K = X.K from hX.K.symm] at hs'
      obtain ⟨its, rv, hl, hz⟩ := I.list hs'
      have ha' := ha
      rw [← ek] at ha'
      obtain ⟨as, hr⟩ := DvAll.reads I ha' rv
      exact ⟨_, its.toArray, as, _, rfl, hs', ha, hl.isList, by simpa using hr⟩
  have tup : ∀ {xs : List Dt} {p : V}, Dv G.kw H p (.tuple xs) → ∃ a its as, p = .ref a ∧ s.heap.IsTuple a its ∧ ReadsAll s.heap its.toList xs as := fun {xs p} h => by
    cases h with
    | tup hs ha =>
      have hs' := hs
      rw [show G.kw.K = X.K from hX.K.symm] at hs'
      obtain ⟨its, rv, hl, hz⟩ := I.tuple hs'
      have ha' := ha
      rw [← ek] at ha'
      obtain ⟨as, hr⟩ := DvAll.reads I ha' rv
      exact ⟨_, its.toArray, as, rfl, hl, by simpa using hr⟩
  unfold bfW at h
  split at h
  · cases dv with
    | cons d1 t =>
      cases t; cases d1
      exact call_ord pins s σ H _ us Qv I ru ⟨_, rfl, h.1, goes_d S0 hQ h.2 (Dv.int _)⟩
  · cases dv with
    | cons d1 t =>
      cases t; cases d1
      exact call_chr pins s σ H _ us Qv I ru ⟨_, rfl, h.1, h.2.1, goes_d S0 hQ h.2.2 (Dv.str _)⟩
  · cases dv with
    | cons d1 t =>
      cases t; cases d1
      exact call_abs pins s σ H _ us Qv I ru ⟨_, rfl, goes_d S0 hQ h (Dv.int _)⟩
  · cases dv with
    | cons d1 t =>
      cases t
      obtain ⟨a, its, as, ys, rfl, _, _, hl, hr⟩ := lst d1
      obtain rfl := Vals.ref1 ru
      obtain ⟨hp, hf⟩ := trOks_ok h.1
      exact PySem.W.all_list_data hh hl hr hp hf fun h' tk k => ⟨.bl _, H, I.kept k, rfl, goes_d S0 hQ h.2 (Dv.bl _)⟩
  · cases dv with
    | cons d1 t =>
      cases t
      obtain ⟨a, its, as, rfl, hl, hr⟩ := tup d1
      obtain rfl := Vals.ref1 ru
      obtain ⟨hp, hf⟩ := trOks_ok h.1
      exact PySem.W.all_tuple_data hh hl hr hp hf fun h' tk k => ⟨.bl _, H, I.kept k, rfl, goes_d S0 hQ h.2 (Dv.bl _)⟩
  · cases dv with
    | cons d1 t =>
      cases t
      obtain ⟨a, its, as, ys, rfl, _, _, hl, hr⟩ := lst d1
      obtain rfl := Vals.ref1 ru
      obtain ⟨hp, hf⟩ := trOks_ok h.1
      exact PySem.W.any_list_data hh hl hr hp hf fun h' tk k => ⟨.bl _, H, I.kept k, rfl, goes_d S0 hQ h.2 (Dv.bl _)⟩
  · cases dv with
    | cons d1 t =>
      cases t
      obtain ⟨a, its, as, rfl, hl, hr⟩ := tup d1
      obtain rfl := Vals.ref1 ru
      obtain ⟨hp, hf⟩ := trOks_ok h.1
      exact PySem.W.any_tuple_data hh hl hr hp hf fun h' tk k => ⟨.bl _, H, I.kept k, rfl, goes_d S0 hQ h.2 (Dv.bl _)⟩
  · cases dv with
    | cons d1 t =>
      cases t
      obtain ⟨ns, rfl, h⟩ := h
      obtain ⟨a, its, as, ys, rfl, hs, hy, _, _⟩ := lst d1
      have := dv_ints hy
      subst this
      exact cr_sum (hX.calm h0) pins s σ H _ us Qv I ru ⟨a, ns, rfl, hs, goes_d S0 hQ h (Dv.int _)⟩
  · cases dv with
    | cons d1 t =>
      cases t
      obtain ⟨ns, rfl, hn, h⟩ := h
      obtain ⟨a, its, as, ys, rfl, hs, hy, _, _⟩ := lst d1
      have := dv_ints hy
      subst this
      exact cr_min (hX.calm h0) pins s σ H _ us Qv I ru ⟨a, ns, rfl, hs, hn, fun m h1 h2 => goes_d S0 hQ (h m h1 h2) (Dv.int _)⟩
  · cases dv with
    | cons d1 t =>
      cases t
      obtain ⟨ns, rfl, hn, h⟩ := h
      obtain ⟨a, its, as, ys, rfl, hs, hy, _, _⟩ := lst d1
      have := dv_ints hy
      subst this
      exact cr_max (hX.calm h0) pins s σ H _ us Qv I ru ⟨a, ns, rfl, hs, hn, fun m h1 h2 => goes_d S0 hQ (h m h1 h2) (Dv.int _)⟩
  · cases dv with
    | cons d1 t =>
      cases t with
      | cons d2 t =>
        cases t; cases d1; cases d2
        exact call_min2 (hX.calm h0) pins s σ H _ us Qv I ru ⟨_, _, rfl, goes_d S0 hQ h (Dv.int _)⟩
  · cases dv with
    | cons d1 t =>
      cases t with
      | cons d2 t =>
        cases t; cases d1; cases d2
        exact call_max2 (hX.calm h0) pins s σ H _ us Qv I ru ⟨_, _, rfl, goes_d S0 hQ h (Dv.int _)⟩
  · cases dv with
    | cons d1 t =>
      cases t; cases d1
      exact call_str_int pins s σ H _ us Qv I ru ⟨_, rfl, h.1, goes_d S0 hQ h.2 (Dv.str _)⟩
  · cases dv with
    | cons d1 t =>
      cases t; cases d1
      exact SkE.call_str_str pins s σ H _ us Qv I ru ⟨_, rfl, goes_d S0 hQ h (Dv.str _)⟩
  · exact h.elim
end

section
variable {G : Sx} {Γ : Ec} {M : Sto} {R : QR} {pos : Pos} {a b c : Expr}
theorem ch_core {op op' : CmpOp} {Q : Bool → Sto → Prop} (h : EvX G a Γ M (fun ra Ma => EvX G b Γ Ma (fun rb Mb => CmR G op ra rb Mb fun k Mc => (k = true → EvX G c Γ Mc (fun rc Md => CmR G op' rb rc Md Q) R) ∧ (k = false → Q false Mc)) R) R)
    {A : List Addr} {F : Hp} {σ : L2.St} {H : Hp} {Qv : VK} (S : StO G.kw A M F H) (L : SlG G A F Γ σ) (hQ : Goes G A F (fun r M' => ∃ k, r = .d (.bool k) ∧ Q k M') Qv) (hR : Flies G A F R σ) :
    tChain (rAll G (compareOp op)) (rAll G (compareOp op')) (tS G a) (tS G b) (tS G c) σ H Qv := by
  refine h A F σ H _ S L (fun ra Ma A1 F1 H1 va hb S1 a1 f1 r1 => ?_) hR
  refine hb A1 F1 σ H1 _ S1 (L.mono a1 f1) (fun rb Mb A2 F2 H2 vb hc S2 a2 f2 r2 => ?_) (hR.mono a1 f1)
  refine hc A2 F2 H2 va vb _ S2 (r1.mono a2 f2) r2 (fun r M' A3 F3 H3 v q S3 a3 f3 r3 => ?_)
  obtain ⟨k, rfl, q1, q2⟩ := q
  cases r3
  refine ⟨k, rfl, ?_⟩
  have a03 := (a1.trans a2).trans a3
  have f03 := (f1.trans f2).trans f3
  cases k with
  | true =>
    refine iteT (q1 rfl A3 F3 σ H3 _ S3 (L.mono a03 f03) (fun rc Mc A4 F4 H4 vc q S4 a4 f4 r4 => ?_) (hR.mono a03 f03))
    exact q A4 F4 H4 vb vc Qv S4 (r2.mono (a3.trans a4) (f3.trans f4)) r4 (hQ.mono (a03.trans a4) (f03.trans f4))
  | false => exact iteF (hQ _ M' A3 F3 H3 _ ⟨false, rfl, q2 rfl⟩ S3 a03 f03 (Dv.bl _))
theorem ev_ch {op op' : CmpOp} {Q : QE} (hm : lastMarks [op, op'] [b, c] = false) (h : EvX G a Γ M (fun ra Ma => EvX G b Γ Ma (fun rb Mb => CmR G op ra rb Mb fun k Mc => (k = true → EvX G c Γ Mc (fun rc Md => CmR G op' rb rc Md fun j M' => Q (.d (.bool j)) M') R) ∧ (k = false → Q (.d (.bool false)) Mc)) R) R) :
    EvX G (.Compare a [op, op'] [b, c] pos) Γ M Q R := fun A F σ H Qv S L hQ hR =>
  tS_of (fun X hX => pe_chain (op_all X hX) (op_all X hX) (pe_S hX a) (pe_S hX b) (pe_S hX c) hm) (ch_core (Q := fun k M' => Q (.d (.bool k)) M') h S L (fun r M' A' F' H' v q S' a' f' rv => by
    obtain ⟨k, rfl, q⟩ := q
    exact hQ _ M' A' F' H' v q S' a' f' rv) hR)
theorem evt_ch {op op' : CmpOp} {Q : Bool → Sto → Prop} (hm : lastMarks [op, op'] [b, c] = false) (h : EvX G a Γ M (fun ra Ma => EvX G b Γ Ma (fun rb Mb => CmR G op ra rb Mb fun k Mc => (k = true → EvX G c Γ Mc (fun rc Md => CmR G op' rb rc Md Q) R) ∧ (k = false → Q false Mc)) R) R) :
    EvT G (.Compare a [op, op'] [b, c] pos) Γ M Q R := fun A F σ H Qv S L hQ hR =>
  tST_of (fun X hX => pt_chain (op_all X hX) (op_all X hX) (pe_S hX a) (pe_S hX b) (pe_S hX c) hm) (ch_core h S L (fun r M' A' F' H' v q S' a' f' rv => by
    obtain ⟨k, rfl, q⟩ := q
    cases rv
    exact ⟨k, rfl, hQ _ M' A' F' H' q S' a' f'⟩) hR)
theorem stepL_get {lo d : Int} {n i : Nat} {x : Im} (h : (stepL lo d n)[i]? = some x) : i < n ∧ x = .d (.int (lo + (i : Int) * d)) := by
  unfold stepL at h
  rw [List.getElem?_map] at h
  cases e : (List.range n)[i]? with
  | none => rw [e] at h; cases h
  | some j =>
    rw [e] at h
    obtain ⟨h1, h2⟩ := List.getElem?_eq_some_iff.mp e
    simp at h1 h2
    subst h2
    exact ⟨h1, by simpa using h.symm⟩
theorem jok_step {A : List Addr} {F : Hp} (lo d : Int) (n : Nat) : JOk G (Itc lo d n) (stepL lo d n) (fun _ => True) A F := by
  intro i M' A' F' H' S a f _
  refine ⟨fun x hx => ?_, fun hle => (show n ≤ i by simpa [stepL] using hle)⟩
  obtain ⟨h1, rfl⟩ := stepL_get hx
  refine ⟨h1, fun v H'' hy => ?_⟩
  obtain ⟨rfl, rfl⟩ := hy
  exact ⟨F', S, Same.refl _, Dv.int _⟩
theorem evi_range3 {tg : Expr} {p2 : Pos} {Q : List Im → (Sto → Prop) → Sto → Prop} (hm : G.mg "range" = none) (hg : G.sc.names.lookup ("range" : Str) = some .globalImplicit) (hs : PlainA a [b, c]) (hs2 : PlainA b [c]) (hs3 : PlainA c [])
    (h : EvX G a Γ M (fun r M1 => EvX G b Γ M1 (fun r2 M2 => EvX G c Γ M2 (fun r3 M3 => ∃ i j k : Int, r = .d (.int i) ∧ r2 = .d (.int j) ∧ r3 = .d (.int k) ∧ ∃ n, RgC i j k n ∧ Q (stepL i k n) (fun _ => True) M3) R) R) R) : EvI G tg (.Call (.Name "range" p2) [a, b, c] [] pos) Γ M Q R := fun A F σ H Rk S L hQ hR =>
  iS_of (fun X hX => pi_range3 (gl_of hX hg) (by rw [hX.mg]; exact hm) (pa_cons (pe_S hX a) (pa_cons (pe_S hX b) (pa_cons (pe_S hX c) pa_nil (hs3 _)) (hs2 _)) (hs _)) (hs _) (by rw [hs2, hs3]; rfl)) (h A F σ H _ S L (fun r M1 A1 F1 H1 v h1 S1 a1 f1 r1 =>
    h1 A1 F1 σ H1 _ S1 (L.mono a1 f1) (fun r2 M2 A2 F2 H2 v2 h2 S2 a2 f2 r2 => h2 A2 F2 σ H2 _ S2 (L.mono (a1.trans a2) (f1.trans f2)) (fun r3 M3 A3 F3 H3 v3 ⟨i, j, k, e1, e2, e3, n, hn, q⟩ S3 a3 f3 r3 => by
      subst e1 e2 e3; cases r1; cases r2; cases r3
      exact ⟨i, j, k, n, rfl, hn, hQ _ _ _ M3 A3 F3 H3 q S3 ((a1.trans a2).trans a3) ((f1.trans f2).trans f3) (jok_step i k n)⟩) (hR.mono (a1.trans a2) (f1.trans f2))) (hR.mono a1 f1)) hR)
end
end DX

namespace DX
open PySem PySem.Calls PySem.Spec PyProof.Rows L2

section
variable {prog : Program} {w : World} {K : Type} [DecidableEq K] {knd : HeapKind prog w K} {A : Around} {E : Value → Shared → Prop} {s : Shared}
theorem truthy_dictH {d : Addr} {xs : List (K × Addr × Value)} {Q : Bool → Shared → Prop} (hd : (d == sysModules) = false) (hm : s.heap.DictOfH knd d xs) (hfit : (xs.length : Int) < 2 ^ 63)
    (h : Q (!xs.isEmpty) { s with toks := s.toks + 1 + 1 }) : wpAny (model prog w) A (truthy (.ref d)) Q E s := by
  have hne : ((xs.length : Int) != 0) = !xs.isEmpty := by cases xs <;> simp <;> omega
  have key : wpAny (model prog w) A (runValue (.builtin "len" ⟨[.ref d], []⟩)) (fun r s' => r = .int xs.length (s.toks + 1) ∧ Q (!xs.isEmpty) s') E s := by
    refine wpAny_runValue (codeAny_builtin entry_len ?_)
    rw [Around.under_plainId plain_len _]
    exact wpAny_mono (wpAny_len_body_dictH (Q := fun r s' => r = .int xs.length (s.toks + 1) ∧ Q (!xs.isEmpty) s') hd hm hfit ⟨rfl, h⟩)
      (fun fin s' h' => by obtain ⟨r, rfl, hq⟩ := h'; exact hq) fun _ _ e => e
  unfold truthy
  first
    | refine wpAny_bind (wpAny_callSpecial?_none (name := Str.ofString "__bool__") hm.typeIs noBool_dict ?_)
    | refine wpAny_bind (wpAny_pure (wpAny_bind (wpAny_callSpecial?_none (name := Str.ofString "__bool__") hm.typeIs noBool_dict ?_)))
  first
    | refine wpAny_bind (wpAny_specialOf (name := Str.ofString "__len__") hm.typeIs F.slot_dict_len.lookup ?_)
    | refine wpAny_bind (wpAny_pure (wpAny_bind (wpAny_specialOf (name := Str.ofString "__len__") hm.typeIs F.slot_dict_len.lookup ?_)))
  first
    | exact wpAny_bind (wpAny_mono key (fun r s' h' => by obtain ⟨rfl, hq⟩ := h'; exact wpAny_pure (hne ▸ hq)) fun _ _ e => e)
    | exact wpAny_bind (wpAny_pure (wpAny_bind (wpAny_mono key (fun r s' h' => by obtain ⟨rfl, hq⟩ := h'; exact wpAny_pure (hne ▸ hq)) fun _ _ e => e)))
end
section
variable {X : Cx} {pins : List (Addr × Obj)} {σ : L2.St} {H : Hp} {s : Shared} {z : Hp} {A : Around} {E : Value → Shared → Prop} {F : Hp} {R : Im → V → Prop} {a : Addr} {o : HO} {kvs : List (Dt × Im)} {key : Dt} {kv : V} {u : Value}
theorem dic_len {Q : Value → Shared → Prop} (I : Inv X pins σ H s) (hF : Same F H) (e : Rd H a o) (D : DicR ⟨X.K, X.w, z⟩ F R a o kvs) (h : ∀ t s', Inv X pins σ H s' → Q (.int kvs.length t) s') : wpAny (model X.prog X.w) A (call (.builtin "len") [.ref a]) Q E s := by
  rcases D with ⟨ws, rfl, p⟩ | ⟨ws, rfl, p⟩
  · refine d_len I e fun t s' I' => ?_
    rw [← p.length]; exact h t s' I'
  · obtain ⟨xs, hs, hz, dd, rel⟩ := tviewN I hF e p
    have hl : xs.length = kvs.length := rel.length.symm
    refine call_len_dictH hs dd (by have : sizeLine = 16777216 := rfl; omega) ?_
    rw [hl]
    exact h _ _ (I.tok _)
theorem dic_truth {Q : Bool → Shared → Prop} (I : Inv X pins σ H s) (hF : Same F H) (e : Rd H a o) (D : DicR ⟨X.K, X.w, z⟩ F R a o kvs) (h : ∀ s', Inv X pins σ H s' → Q (!kvs.isEmpty) s') : wpAny (model X.prog X.w) A (truthy (.ref a)) Q E s := by
  rcases D with ⟨ws, rfl, p⟩ | ⟨ws, rfl, p⟩
  · refine d_truth I e fun s' I' => ?_
    rw [← isEmpty_len p.length]; exact h s' I'
  · obtain ⟨xs, hs, hz, dd, rel⟩ := tviewN I hF e p
    have hl : xs.length = kvs.length := rel.length.symm
    refine truthy_dictH hs dd (by have : sizeLine = 16777216 := rfl; omega) ?_
    rw [isEmpty_len hl]
    exact h _ (I.tok _)
theorem dic_type (I : Inv X pins σ H s) (e : Rd H a o) (D : DicR ⟨X.K, X.w, z⟩ F R a o kvs) : s.TypeIs (.ref a) "dict" ∧ (∀ b, Value.ref a = .ref b → ∃ ob, s.heap.get? b = some ob ∧ ob.dict = none) := by
  obtain ⟨es, ep, hs, _, _, ⟨o', ho, hc, hd⟩, _⟩ := raw_view I e D
  exact ⟨⟨o', ho, hc.1⟩, fun b eb => by cases eb; exact ⟨o', ho, hc.2.1⟩⟩
/-- d.setdefault(k, x) -/
theorem dic_setd {Q : Value → Shared → Prop} {x : Value} {r : Im} {vx : V} (hu : A.units + 20 < cLine) (I : Inv X pins σ H s) (hF : Same F H) (e : H a = some o) (D : DicR ⟨X.K, X.w, z⟩ F R a o kvs) (hk : kindOk kvs key = true) (dk : Dv ⟨X.K, X.w, z⟩ F kv key) (ru : RelV kv u) (hz : kvs.length < sizeLine) (rv : R r vx) (rx : RelV vx x)
    (h1 : ∀ r' v w' s', dGet kvs key = some r' → R r' v → RelV v w' → Inv X pins σ H s' → Q w' s')
    (h2 : dGet kvs key = none → ∀ o' w' s', RelV vx w' → Inv X pins σ (upd H a o') s' → DicR ⟨X.K, X.w, z⟩ F R a o' (dPut kvs key r) → Q w' s') : wpAny (model X.prog X.w) A (call (.builtin "dict.setdefault") [.ref a, u, x]) Q E s := by
  rcases kind_cases hk with ⟨⟨k, rfl⟩, ha⟩ | ⟨ht, ha⟩
  · obtain ⟨ws, rfl, p⟩ := aview I (.inl e) D ha
    have ek := kV_of dk
    subst ek
    have hl : ws.length < sizeLine := by rw [← p.length]; exact hz
    rcases afind k p with ⟨e1, e2⟩ | ⟨r', v, e1, e2, rv'⟩
    · exact d_setd I e ru rx hl (fun v hv => by rw [e2] at hv; cases hv) fun hn w' s' I' rw' => h2 e1 _ w' s' rw' I' (.inl ⟨_, rfl, aput rv p⟩)
    · exact d_setd I e ru rx hl (fun v' hv w' s' I' rw' => by rw [e2] at hv; cases hv; exact h1 r' _ w' s' e1 rv' rw' I') fun hn => by rw [e2] at hn; cases hn
  · obtain ⟨b, rfl⟩ := ref_of_tup ht dk
    cases ru
    obtain ⟨k, hk, hd⟩ := tupK_nk ht
    obtain ⟨xs, hs, hzx, dd, rel⟩ := tview I hF (.inl e) D ha
    have g := tfind (R := R) hk rel
    refine call_setdefault_heap (knd := nestedKind X.prog X.w) (show A.units + 1 + 8 < cLine by omega) ⟨nk_is I hk (Dv.mono hF dk) (u := .ref b) rfl, hd⟩ hs dd (fun p hp => ?_) (fun hn h' dd' hb => ?_) hzx
    · have g' : RelG R (dGet kvs key) (some p.2) := by rw [hp] at g; exact g
      generalize hq1 : dGet kvs key = q1 at g'
      cases g' with
      | some rv' rw' => exact h1 _ _ _ _ hq1 rv' rw' (I.tok _)
    · have g' : RelG R (dGet kvs key) none := by rw [hn] at g; exact g
      have hq : dGet kvs key = none := by
        generalize dGet kvs key = q1 at g'
        cases g'; rfl
      have rel' := tput hk hd dk rv rx rel
      obtain ⟨ws, e1, e2, p1, p2⟩ := tsplit rel'
      have hl : ws.length = (dPut kvs key r).length := by rw [e2, rel'.length]
      have hnd : (ws.map (·.1)).Nodup := by rw [e1]; exact dd'.nodup
      have hex : ∃ q, h'.get? a = some q := let ⟨q, _, _, hq, _⟩ := dd'; ⟨q, hq⟩
      have mu : Mut (H a) := by
        rw [e]
        rcases D with ⟨_, rfl, _⟩ | ⟨_, rfl, _⟩ <;> exact True.intro
      refine h2 hq (dN X.w a ws) _ _ rx (d_write I mu hb hex (ndic_ok hs (by rw [hl]; exact Nat.le_trans put_len hz) (fun e => ?_) hnd p1 dd')) (.inr ⟨ws, rfl, p2⟩)
      rw [e] at hl
      exact put_ne (List.eq_nil_of_length_eq_zero hl.symm)
end
end DX

namespace DX
open PySem PySem.Calls PySem.Spec PyProof.Rows L2

section
variable {G : Sx} {Γ : Ec} {M : Sto} {Q : QE} {R : QR} {pos p2 apos cpos : Pos} {a b e f o : Expr}
theorem kwE {X : Cx} (h : G.Has X) : G.kw = ⟨X.K, X.w, G.z⟩ := (kw_eq h).symm
theorem ev_dnew (hq : Q (.p M.length) (M ++ [.dd []])) : EvX G (.Dict [] [] pos) Γ M Q R := fun A F σ H Qv S L hQ hR =>
  tS_of (fun X hX => pe_dnewK) fun p hp => by
    have S2 := S.cell (p := p) (o := .dK []) (c := .dd []) hp ⟨S.freshF hp, _, upd_same, .inl ⟨[], rfl, .nil⟩⟩
    exact hQ _ _ _ _ _ _ hq S2 (ALe.app _ _) (Same.refl _) ⟨p, by rw [← S.len]; simp, rfl⟩
def rIxA (G : Sx) : R2 := fun x y H Q => ∀ X, G.Has X → ∀ (value slice : Expr) (pins : List (Addr × Obj)) (s : Shared) (σ : L2.St) (v u : Value), Inv X pins σ H s → RelV x v → RelV y u → subscripted slice false v u = operate [v, u] (getItem v u) →
  wpAny (model X.prog X.w) X.A (subscriptTail value slice v u) (EP X pins σ Q) X.xe s
theorem ixr_all : ∀ X, G.Has X → IxR X (rIxA G) := fun X hX value slice pins s σ H x y v u Q I rx ry h hs => h X hX value slice pins s σ v u I rx ry hs
theorem ev_ixA (hs : PlainIx b) (h : EvX G a Γ M (fun ra Ma => EvX G b Γ Ma (fun rb Mb => BopR G (rIxA G) ra rb Mb Q) R) R) : EvX G (.Subscript a b pos) Γ M Q R := fun A F σ H Qv S L hQ hR =>
  tS_of (fun X hX => pe_ix (ixr_all X hX) (pe_S hX a) (pe_S hX b) hs) (two_ev h S L hQ hR)
theorem ix_old {ra rb : Im} (h : BopR G (rIx G.K) ra rb M Q) : BopR G (rIxA G) ra rb M Q := fun A F H va vb Qv S r1 r2 hQ X hX value slice pins s σ v u I rx ry hs =>
  ix_seq value slice pins s σ H va vb v u Qv I rx ry (by rw [hX.K]; exact h A F H va vb Qv S r1 r2 hQ) hs
theorem sub_tail {prog : Program} {w : World} {A : Around} {E : Value → Shared → Prop} {s : Shared} {value slice : Expr} {T id : String} {Q : Value → Shared → Prop} {ov iv : Value}
    (hl : typeLookup (.type T) "__getitem__" = pure (some (.builtin id))) (hs : subscripted slice false ov iv = operate [ov, iv] (getItem ov iv)) (hT : s.TypeIs ov T)
    (h : wpAny (model prog w) A (getItem ov iv) Q E s) : wpAny (model prog w) A (subscriptTail value slice ov iv) Q E s := by
  unfold subscriptTail
  refine wpAny_bind ?_
  rw [getitemInPython_of_ne hT.not_modules]
  refine wpAny_bind (wpAny_specialOf hT hl ?_)
  have fin : wpAny (model prog w) A (subscripted slice false ov iv) (fun r s₃ => wpAny (model prog w) A (letTemporaryGo value ov r >>= fun _ => pure r) Q E s₃) E s := by
    rw [hs]
    exact wpAny_operating (wpAny_mono h (fun r s₃ h₃ => wpAny_bind (wpAny_letTemporaryGo (wpAny_pure h₃))) fun _ _ x => x)
  first
    | exact wpAny_pure (wpAny_bind fin)
    | exact wpAny_bind (wpAny_pure (wpAny_bind fin))
    | exact wpAny_bind fin
theorem ix_dic {ra : Im} {key : Dt} {kvs : List (Dt × Im)} {r : Im} (hd : DicOf M ra kvs) (hk : kindOk kvs key = true) (hr : dGet kvs key = some r) (hq : Q r M) : BopR G (rIxA G) ra (.d key) M Q := fun A F H va vb Qv S r1 r2 hQ X hX value slice pins s σ v u I rx ry hs => by
  obtain ⟨p, o, rfl, e, D⟩ := hd.dic S r1
  obtain rfl : v = Value.ref p := rx
  rw [kwE hX] at D r2
  refine sub_tail PySem.F.slot_dict_getitem.lookup hs (dic_type I e D).1 ?_
  refine dic_get (units_20 hX) I S.sub e D hk (Dv.mono S.sub r2) ry hr fun w w' s' rw' rv I' => ⟨w, H, I', rv, ?_⟩
  rw [← kwE hX] at rw'
  exact hQ r M A F H w hq S (ALe.refl _) (Same.refl _) rw'
def IsDA (G : Sx) (x : V) (H : Hp) : Prop := ∀ X, G.Has X → ∀ (pins : List (Addr × Obj)) (s : Shared) (σ : L2.St) (v : Value), Inv X pins σ H s → RelV x v → s.TypeIs v "dict" ∧ ∀ b, v = .ref b → ∃ ob, s.heap.get? b = some ob ∧ ob.dict = none
theorem isDA_of {ra : Im} {kvs : List (Dt × Im)} (hd : DicOf M ra kvs) {A : List Addr} {F H : Hp} {x : V} (S : StO G.kw A M F H) (r1 : ImR G.kw A F ra x) : IsDA G x H := fun X hX pins s σ v I rx => by
  obtain ⟨p, o, rfl, e, D⟩ := hd.dic S r1
  obtain rfl : v = Value.ref p := rx
  rw [kwE hX] at D
  exact dic_type I e D
def rM1 (G : Sx) (id : String) : R2 := fun x y H Q => ∀ X, G.Has X → ∀ (pins : List (Addr × Obj)) (s : Shared) (σ : L2.St) (v u : Value), Inv X pins σ H s → RelV x v → RelV y u → wpAny (model X.prog X.w) X.A (call (.builtin id) [v, u]) (EP X pins σ Q) X.xe s
def rM2 (G : Sx) (id : String) : V → V → V → Hp → VK → Prop := fun x y z H Q => ∀ X, G.Has X → ∀ (pins : List (Addr × Obj)) (s : Shared) (σ : L2.St) (v u w : Value), Inv X pins σ H s → RelV x v → RelV y u → RelV z w → wpAny (model X.prog X.w) X.A (call (.builtin id) [v, u, w]) (EP X pins σ Q) X.xe s
def tM1 (G : Sx) (id : String) (to te : TE) : TE := fun σ H Q => to σ H fun x H1 => IsDA G x H1 ∧ te σ H1 fun y H2 => rM1 G id x y H2 Q
def tM2 (G : Sx) (id : String) (to te tf : TE) : TE := fun σ H Q => to σ H fun x H1 => IsDA G x H1 ∧ te σ H1 fun y H2 => tf σ H2 fun z H3 => rM2 G id x y z H3 Q
theorem pe_m1 {X : Cx} (hX : G.Has X) {m : Str} {id : String} {to te : TE} (slot : Slot "dict" m id) (ty : typeOf (.builtin id) = pure (.type "method_descriptor")) (ho : PE X o to) (he : PE X e te) (mm : M1 X o m apos e cpos) : PE X (.Call (.Attribute o m apos) [e] [] cpos) (tM1 G id to te) := by
  refine ⟨fun pins s σ H Q I h => ?_⟩
  refine wpAny_Call_method mm.base mm.few mm.line PySem.F.plainAttrs_dict slot ty (thn (ho.run pins s σ H _ I h) fun u s1 ⟨x, H1, I1, rx, d, q1⟩ => ?_)
  obtain ⟨t1, t2⟩ := d X hX pins s1 σ u I1 rx
  refine ⟨t1, t2, ?_⟩
  rw [mm.trees]
  refine Calls.callWith_builtin rfl (Calls.evalArgs_plain (Calls.spliced_cons (thn (he.run pins s1 σ H1 _ I1 q1) fun iv s2 ⟨y, H2, I2, ry, q2⟩ => Calls.spliced_nil ?_)))
  exact q2 X hX pins s2 σ u iv I2 rx ry
theorem pe_m2 {X : Cx} (hX : G.Has X) {m : Str} {id : String} {to te tf : TE} (slot : Slot "dict" m id) (ty : typeOf (.builtin id) = pure (.type "method_descriptor")) (ho : PE X o to) (he : PE X e te) (hf : PE X f tf) (mm : M2 X o m apos e f cpos) : PE X (.Call (.Attribute o m apos) [e, f] [] cpos) (tM2 G id to te tf) := by
  refine ⟨fun pins s σ H Q I h => ?_⟩
  refine wpAny_Call_method mm.base mm.few mm.line PySem.F.plainAttrs_dict slot ty (thn (ho.run pins s σ H _ I h) fun u s1 ⟨x, H1, I1, rx, d, q1⟩ => ?_)
  obtain ⟨t1, t2⟩ := d X hX pins s1 σ u I1 rx
  refine ⟨t1, t2, ?_⟩
  rw [mm.trees]
  refine Calls.callWith_builtin rfl (Calls.evalArgs_plain (Calls.spliced_cons (thn (he.run pins s1 σ H1 _ I1 q1) fun iv s2 ⟨y, H2, I2, ry, q2⟩ =>
    Calls.spliced_cons (thn (hf.run pins s2 σ H2 _ I2 q2) fun fv s3 ⟨z, H3, I3, rz, q3⟩ => Calls.spliced_nil ?_))))
  exact q3 X hX pins s3 σ u iv fv I3 rx ry rz
theorem ev_m1 {m : Str} {id : String} (slot : Slot "dict" m id) (ty : typeOf (.builtin id) = pure (.type "method_descriptor")) (mm : ∀ X, G.Has X → M1 X o m apos e cpos)
    (h : EvX G o Γ M (fun ro M1 => ∃ kvs, DicOf M1 ro kvs ∧ EvX G e Γ M1 (fun re M2 => BopR G (rM1 G id) ro re M2 Q) R) R) : EvX G (.Call (.Attribute o m apos) [e] [] cpos) Γ M Q R := fun A F σ H Qv S L hQ hR =>
  tS_of (fun X hX => pe_m1 hX slot ty (pe_S hX o) (pe_S hX e) (mm X hX)) (h A F σ H _ S L (fun ro M1 A1 F1 H1 va h1 S1 a1 f1 r1 => by
    obtain ⟨kvs, hd, h1⟩ := h1
    exact ⟨isDA_of hd S1 r1, h1 A1 F1 σ H1 _ S1 (L.mono a1 f1) (fun re M2 A2 F2 H2 vb q S2 a2 f2 r2 => q A2 F2 H2 va vb Qv S2 (r1.mono a2 f2) r2 (hQ.mono (a1.trans a2) (f1.trans f2))) (hR.mono a1 f1)⟩) hR)
def Bop3 (G : Sx) (r : V → V → V → Hp → VK → Prop) (ra rb rc : Im) (M : Sto) (Q : QE) : Prop := ∀ A F H va vb vc Qv, StO G.kw A M F H → ImR G.kw A F ra va → ImR G.kw A F rb vb → ImR G.kw A F rc vc → Goes G A F Q Qv → r va vb vc H Qv
theorem ev_m2 {m : Str} {id : String} (slot : Slot "dict" m id) (ty : typeOf (.builtin id) = pure (.type "method_descriptor")) (mm : ∀ X, G.Has X → M2 X o m apos e f cpos)
    (h : EvX G o Γ M (fun ro M1 => ∃ kvs, DicOf M1 ro kvs ∧ EvX G e Γ M1 (fun re M2 => EvX G f Γ M2 (fun rf M3 => Bop3 G (rM2 G id) ro re rf M3 Q) R) R) R) : EvX G (.Call (.Attribute o m apos) [e, f] [] cpos) Γ M Q R := fun A F σ H Qv S L hQ hR =>
  tS_of (fun X hX => pe_m2 hX slot ty (pe_S hX o) (pe_S hX e) (pe_S hX f) (mm X hX)) (h A F σ H _ S L (fun ro M1 A1 F1 H1 va h1 S1 a1 f1 r1 => by
    obtain ⟨kvs, hd, h1⟩ := h1
    refine ⟨isDA_of hd S1 r1, h1 A1 F1 σ H1 _ S1 (L.mono a1 f1) (fun re M2 A2 F2 H2 vb h2 S2 a2 f2 r2 => ?_) (hR.mono a1 f1)⟩
    have a12 := a1.trans a2
    have f12 := f1.trans f2
    exact h2 A2 F2 σ H2 _ S2 (L.mono a12 f12) (fun rf M3 A3 F3 H3 vc q S3 a3 f3 r3 => q A3 F3 H3 va vb vc Qv S3 (r1.mono (a2.trans a3) (f2.trans f3)) (r2.mono a3 f3) r3 (hQ.mono (a12.trans a3) (f12.trans f3))) (hR.mono a12 f12)) hR)
/-- d.get(k) -/
theorem get1_ok {ra : Im} {key : Dt} {kvs : List (Dt × Im)} (hd : DicOf M ra kvs) (hk : kindOk kvs key = true) (hq : match dGet kvs key with
    | some r => Q r M
    | none => Q (.d .none) M) : BopR G (rM1 G "dict.get") ra (.d key) M Q := fun A F H va vb Qv S r1 r2 hQ X hX pins s σ v u I rx ry => by
  obtain ⟨p, o, rfl, e, D⟩ := hd.dic S r1
  obtain rfl : v = Value.ref p := rx
  rw [kwE hX] at D r2
  refine dic_get1 (units_20 hX) I S.sub e D hk (Dv.mono S.sub r2) ry (fun r w w' s' hr rw' rv I' => ⟨w, H, I', rv, ?_⟩) fun hr s' I' => ⟨.non, H, I', rfl, ?_⟩
  · rw [hr] at hq
    rw [← kwE hX] at rw'
    exact hQ r M A F H w hq S (ALe.refl _) (Same.refl _) rw'
  · rw [hr] at hq
    exact hQ _ M A F H _ hq S (ALe.refl _) (Same.refl _) Dv.non
/-- d.get(k, x) -/
theorem get2_ok {ra rc : Im} {key : Dt} {kvs : List (Dt × Im)} (hd : DicOf M ra kvs) (hk : kindOk kvs key = true) (hq : match dGet kvs key with
    | some r => Q r M
    | none => Q rc M) : Bop3 G (rM2 G "dict.get") ra (.d key) rc M Q := fun A F H va vb vc Qv S r1 r2 r3 hQ X hX pins s σ v u w I rx ry rz => by
  obtain ⟨p, o, rfl, e, D⟩ := hd.dic S r1
  obtain rfl : v = Value.ref p := rx
  rw [kwE hX] at D r2
  refine dic_get2 (units_20 hX) I S.sub e D hk (Dv.mono S.sub r2) ry rz (fun r w w' s' hr rw' rv I' => ⟨w, H, I', rv, ?_⟩) fun hr w' s' rv I' => ⟨vc, H, I', rv, ?_⟩
  · rw [hr] at hq
    rw [← kwE hX] at rw'
    exact hQ r M A F H w hq S (ALe.refl _) (Same.refl _) rw'
  · rw [hr] at hq
    exact hQ _ M A F H _ hq S (ALe.refl _) (Same.refl _) r3
end
end DX

namespace DX
open PySem PySem.Calls PySem.Spec PyProof.Rows L2

theorem get_map {α β : Type} (g : α → β) (kvs : List (Dt × α)) (key : Dt) : dGet (kvs.map fun p => (p.1, g p.2)) key = (dGet kvs key).map g := by
  unfold dGet
  induction kvs with
  | nil => rfl
  | cons p kvs ih =>
    rw [List.map_cons, List.find?_cons, List.find?_cons]
    dsimp only
    cases keyB p.1 key with
    | true => rfl
    | false => exact ih
theorem put_map {α β : Type} (g : α → β) (kvs : List (Dt × α)) (key : Dt) (x : α) : (dPut kvs key x).map (fun p => (p.1, g p.2)) = dPut (kvs.map fun p => (p.1, g p.2)) key (g x) := by
  unfold dPut
  rw [get_map, Option.isSome_map]
  cases (dGet kvs key).isSome with
  | true =>
    rw [if_pos rfl, if_pos rfl, List.map_map, List.map_map]
    congr 1
    funext p
    simp only [Function.comp]
    cases keyB p.1 key <;> rfl
  | false => rw [if_neg (by decide), if_neg (by decide), List.map_append]; rfl
theorem setC_kvs {c : Cel} {kvs : List (Dt × Im)} (h : c.kvs = some kvs) (key : Dt) (r : Im) : (setC c key r).kvs = some (dPut kvs key r) := by
  cases c <;> simp only [Cel.kvs] at h <;> cases h
  · cases r with
    | d x => show some _ = _; rw [put_map (g := Im.d)]
    | p k => rfl
  · rfl
section
variable {G : Sx} {Γ : Ec} {M : Sto} {Q : QE} {R : QR} {pos p2 apos cpos : Pos} {a b e f o i : Expr}
theorem dset_ok {k : Nat} {key : Dt} {r : Im} {Kn : Sto → Prop} (h : dsetW k key r M Kn) : ∃ c kvs, M[k]? = some c ∧ c.kvs = some kvs ∧ kindOk kvs key = true ∧ kvs.length < sizeLine ∧ Kn (M.set k (setC c key r)) := by
  unfold dsetW at h
  split at h
  · rename_i c e
    split at h
    · rename_i kvs e2; exact ⟨c, kvs, e, e2, h.1, h.2.1, h.2.2⟩
    · exact h.elim
  · exact h.elim
theorem cel_dct {A : List Addr} {F H : Hp} (S : StO G.kw A M F H) {k : Nat} {p : Addr} {c : Cel} {kvs : List (Dt × Im)} (ep : A[k]? = some p) (hk : M[k]? = some c) (hx : c.kvs = some kvs) : F p = none ∧ ∃ o, H p = some o ∧ DicR G.kw F (ImR G.kw A F) p o kvs := by
  have hc := S.cel k p c ep hk
  unfold CelR at hc
  rw [Cel.kvs_gen hx] at hc
  exact hc
/-- the store behind d[k] = r -/
theorem sto_dset {A : List Addr} {F H : Hp} (S : StO G.kw A M F H) {k : Nat} {p : Addr} {c : Cel} {kvs : List (Dt × Im)} {key : Dt} {r : Im} {o' : HO} (ep : A[k]? = some p) (hF : F p = none) (hx : c.kvs = some kvs) (D : DicR G.kw F (ImR G.kw A F) p o' (dPut kvs key r)) :
    StO G.kw A (M.set k (setC c key r)) F (upd H p o') := by
  refine S.write ep hF ?_
  unfold CelR
  rw [Cel.kvs_gen (setC_kvs hx key r)]
  exact ⟨hF, o', upd_same, D⟩
def rSetA (G : Sx) : V → V → V → Hp → (Hp → Prop) → Prop := fun x y z H Q => ∀ X, G.Has X → ∀ (pins : List (Addr × Obj)) (s : Shared) (σ : L2.St) (ov iv u : Value), Inv X pins σ H s → RelV x ov → RelV y iv → RelV z u → wpAny (model X.prog X.w) X.A (setItem ov iv u) (fun _ s' => ∃ H', Inv X pins σ H' s' ∧ Q H') X.xe s
theorem set_all : ∀ X, G.Has X → PSet X (rSetA G) := fun X hX pins s σ H o i v ov iv u Q I ro ri rv h => h X hX pins s σ ov iv u I ro ri rv
/-- o[i] = e, of a list or a dict -/
theorem x_setItemA {P : Pst} (ha : ∀ v env, assign (.Subscript o i pos) env v = (do
      let ov ← holding [v] (eval o env)
      let iv ← holding [v, ov] (eval i env)
      standAt pos
      holding [v, ov, iv] (setItem ov iv v)
      release [v, ov, iv] [])) (hs : ∀ env, swapsWithSole [.Subscript o i pos] e cpos.line env = pure false) (hw : ∀ env, swappedStores [.Subscript o i pos] e env = pure none) (h1 : ∀ env, (assignEach [.Subscript o i pos] env).map (·.2) = [assign (.Subscript o i pos) env])
    (h : EvX G e Γ M (fun re M1 => EvX G o Γ M1 (fun ro M2 => EvX G i Γ M2 (fun ri M3 => (∃ k c xs z j c', ro = .p k ∧ ri = .d (.int z) ∧ M3[k]? = some c ∧ c.its = some xs ∧ ixN xs.length z = some j ∧ c'.its = some (xs.set j re) ∧ P.nx Γ (M3.set k c')) ∨
      ∃ k key, ro = .p k ∧ ri = .d key ∧ dsetW k key re M3 (P.nx Γ)) (P.rx Γ)) (P.rx Γ)) (P.rx Γ)) :
    ExX G (.Assign [.Subscript o i pos] e cpos) Γ M P := by
  intro A F σ H D S L hn hD
  refine sS_of (fun X hX => ps_asg (pe_S hX e) (pg_sub (pe_S hX o) (pe_S hX i) (set_all X hX) (fun v => ha v _)) (hs _) (hw _) (h1 _)) ?_
  refine h A F σ H _ S L (fun re M1 A1 F1 H1 v h2 S1 a1 f1 r1 => ?_) (hD.flies L)
  refine h2 A1 F1 σ H1 _ S1 (L.mono a1 f1) (fun ro M2 A2 F2 H2 w h3 S2 a2 f2 r2 => ?_) ((hD.flies L).mono a1 f1)
  refine h3 A2 F2 σ H2 _ S2 (L.mono (a1.trans a2) (f1.trans f2)) (fun ri M3 A3 F3 H3 z q S3 a3 f3 r3 => ?_) ((hD.flies L).mono (a1.trans a2) (f1.trans f2))
  have aa := (a1.trans a2).trans a3
  have ff := (f1.trans f2).trans f3
  intro X hX pins s σ' ov iv u I rov riv ru
  rcases q with ⟨k, c, xs, zi, j, c', rfl, rfl, hk, hx, hj, hx', q⟩ | ⟨k, key, rfl, rfl, q⟩
  · obtain ⟨p, ea, rfl⟩ := r2
    cases r3
    obtain ⟨hF, vs, hH, rs⟩ := S3.lst (a3 k p ea) hk hx
    exact set_list pins s σ' H3 _ _ _ ov iv u _ I rov riv ru ⟨p, vs, zi, j, rfl, rfl, hH, by rw [← rs.len]; exact hj, hD.nx _ _ A3 F3 _ _ q (S3.write (a3 k p ea) hF (by unfold CelR; rw [Cel.its_gen hx']; exact ⟨hF, _, upd_same, rs.set (r1.mono (a2.trans a3) (f2.trans f3)) j⟩)) (L.mono aa ff) (aa.n _) ff⟩
  · obtain ⟨c, kvs, hk, hx, hko, hz, q⟩ := dset_ok q
    obtain ⟨p, ea, rfl⟩ := r2
    have ep := a3 k p ea
    obtain ⟨hF, o0, hH, D0⟩ := cel_dct S3 ep hk hx
    obtain rfl : ov = Value.ref p := rov
    have rv := r1.mono (a2.trans a3) (f2.trans f3)
    have D1 := D0
    rw [kwE hX] at D1
    have dk : Dv ⟨X.K, X.w, G.z⟩ F3 z key := by rw [← kwE hX]; exact r3
    refine dic_set (R := ImR G.kw A3 F3) (units_20 hX) I S3.sub hH (by rw [kwE hX]; exact D1) hko dk riv hz rv ru fun o' s' I' D' => ⟨_, I', ?_⟩
    rw [← kwE hX] at D'
    exact hD.nx _ _ A3 F3 _ _ q (sto_dset S3 ep hF hx D') (L.mono aa ff) (aa.n _) ff
/-- d.setdefault(k, x) -/
theorem setd_ok {k : Nat} {key : Dt} {rc : Im} {c : Cel} {kvs : List (Dt × Im)} (hk : M[k]? = some c) (hx : c.kvs = some kvs) (hko : kindOk kvs key = true) (hz : kvs.length < sizeLine) (hq : match dGet kvs key with
    | some r => Q r M
    | none => Q rc (M.set k (setC c key rc))) : Bop3 G (rM2 G "dict.setdefault") (.p k) (.d key) rc M Q := fun A F H va vb vc Qv S r1 r2 r3 hQ X hX pins s σ v u w I rx ry rz => by
  obtain ⟨p, ep, rfl⟩ := r1
  obtain rfl : v = Value.ref p := rx
  obtain ⟨hF, o0, hH, D0⟩ := cel_dct S ep hk hx
  have dk : Dv ⟨X.K, X.w, G.z⟩ F vb key := by rw [← kwE hX]; exact r2
  refine dic_setd (R := ImR G.kw A F) (units_20 hX) I S.sub hH (by rw [← kwE hX]; exact D0) hko dk ry hz r3 rz (fun r' v' w' s' hr rw' rv I' => ⟨v', H, I', rv, ?_⟩) fun hr o' w' s' rv I' D' => ⟨vc, _, I', rv, ?_⟩
  · rw [hr] at hq
    exact hQ r' M A F H v' hq S (ALe.refl _) (Same.refl _) rw'
  · rw [hr] at hq
    rw [← kwE hX] at D'
    exact hQ rc _ A F _ vc hq (sto_dset S ep hF hx D') (ALe.refl _) (Same.refl _) r3
theorem len_dic {ra : Im} {kvs : List (Dt × Im)} (hd : DicOf M ra kvs) (hq : Q (.d (.int kvs.length)) M) : CalR G (rAllC G (.builtin "len")) [ra] M Q := fun A F H vs Qv S rv hQ X hX pins s σ us I ru => by
  cases rv with
  | cons r1 t =>
    cases t
    obtain ⟨p, o, rfl, e, D⟩ := hd.dic S r1
    obtain rfl := Vals.ref1 ru
    rw [kwE hX] at D
    exact dic_len I S.sub e D fun t s' I' => ⟨.int _, H, I', ⟨t, rfl⟩, hQ _ M A F H _ hq S (ALe.refl _) (Same.refl _) (Dv.int _)⟩
theorem len_old {r : Im} {n : Nat} (hl : LenOf M r n) (q : Q (.d (.int n)) M) : CalR G (rAllC G (.builtin "len")) [r] M Q := fun A F H vs Qv S rv hQ X hX pins s σ us I ru => by
  refine call_len pins s σ H vs us Qv I ru ?_
  cases rv with
  | cons r1 t =>
    cases t
    have fin : ∀ v : V, Qv (.int n) H := fun _ => hQ _ M A F H _ q S (ALe.refl _) (Same.refl _) (Dv.int _)
    cases hl with
    | lst h =>
      obtain ⟨a, vs, rfl, hs, rs⟩ := h.sq S r1
      exact ⟨_, _, rfl, .inl ⟨vs, by rw [hX.K]; exact hs, rs.len⟩, fin (.int 0)⟩
    | tup ds =>
      cases r1 with
      | tup hs ha =>
        have := (of_dpAll (A := A) ha).len
        simp at this
        exact ⟨_, _, rfl, .inr ⟨_, by rw [hX.K]; exact Same.seqT S.sub hs, this⟩, fin (.int 0)⟩
    | str z h => cases r1; exact ⟨_, _, rfl, ⟨h, rfl⟩, fin (.int 0)⟩
def rTruA (G : Sx) : V → Hp → (Bool → Hp → Prop) → Prop := fun x H Q => ∀ X, G.Has X → ∀ (pins : List (Addr × Obj)) (s : Shared) (σ : L2.St) (v : Value), Inv X pins σ H s → RelV x v → wpAny (model X.prog X.w) X.A (truthy v) (TP X pins σ Q) X.xe s
theorem tru_all : ∀ X, G.Has X → TruR X (rTruA G) := fun X hX pins s σ H x v Q I rx h => h X hX pins s σ v I rx
theorem evt_dic {Q : Bool → Sto → Prop} (he : PlainT e) (h : EvX G e Γ M (fun r M1 => ∃ kvs, DicOf M1 r kvs ∧ Q (!kvs.isEmpty) M1) R) : EvT G e Γ M Q R := fun A F σ H Qv S L hQ hR =>
  tST_of (fun X hX => pt_truthR (pe_S hX e) (tru_all X hX) (he _)) (h A F σ H _ S L (fun r M1 A1 F1 H1 v ⟨kvs, hd, q⟩ S1 a1 f1 r1 X hX pins s σ v I rx => by
    obtain ⟨p, o, rfl, e, D⟩ := hd.dic S1 r1
    obtain rfl : v = Value.ref p := rx
    rw [kwE hX] at D
    exact dic_truth I S1.sub e D fun s' I' => ⟨H1, I', hQ _ M1 A1 F1 H1 q S1 a1 f1⟩) hR)
theorem len_ok {r : Im} (h : lenW r M fun n => Q (.d (.int n)) M) : CalR G (rAllC G (.builtin "len")) [r] M Q := by
  unfold lenW at h
  split at h
  · rename_i kvs e; exact len_dic (dicI_of e) h
  · obtain ⟨n, h1, h2⟩ := lenW_ok h; exact len_old h1 h2
theorem ixA_ok {ra rb : Im} (h : ixW ra rb M Q) : BopR G (rIxA G) ra rb M Q := by
  unfold ixW at h
  split at h
  · rename_i kvs e
    unfold dixW at h
    split at h
    · obtain ⟨h1, h2⟩ := h
      split at h2
      · rename_i r hr; exact ix_dic (dicI_of e) h1 hr h2
      · exact h2.elim
    · exact h.elim
  · exact ix_old (ix_ok h)
theorem tru_old {r : Im} {c : Bool} (t : Tru M r c) {A : List Addr} {F H : Hp} {v : V} (S : StO G.kw A M F H) (r1 : ImR G.kw A F r v) : TruV G.K v H c := by
  cases t with
  | non => cases r1; exact rfl
  | bl b => cases r1; exact rfl
  | int i => cases r1; exact rfl
  | str y h => cases r1; exact ⟨h, rfl⟩
  | lst h =>
    obtain ⟨a, vs, rfl, hs, rs⟩ := h.sq S r1
    exact .inl ⟨vs, hs, by rw [isEmpty_len rs.len]⟩
  | tup ds =>
    cases r1 with
    | tup hs ha =>
      have := (of_dpAll (A := A) ha).len
      simp at this
      exact .inr (.inl ⟨_, Same.seqT S.sub hs, by rw [isEmpty_len this]⟩)
theorem evt_truA {Q : Bool → Sto → Prop} (he : PlainT e) (h : EvX G e Γ M (fun r M1 => truW r M1 fun b => Q b M1) R) : EvT G e Γ M Q R := fun A F σ H Qv S L hQ hR =>
  tST_of (fun X hX => pt_truthR (pe_S hX e) (tru_all X hX) (he _)) (h A F σ H _ S L (fun r M1 A1 F1 H1 v h1 S1 a1 f1 r1 X hX pins s σ v' I rx => by
    have h1 : truW r M1 fun b => Q b M1 := h1
    unfold truW at h1
    split at h1
    · rename_i kvs e
      obtain ⟨p, o, rfl, e, D⟩ := (dicI_of e).dic S1 r1
      obtain rfl : v' = Value.ref p := rx
      rw [kwE hX] at D
      exact dic_truth I S1.sub e D fun s' I' => ⟨H1, I', hQ _ M1 A1 F1 H1 h1 S1 a1 f1⟩
    · obtain ⟨c, t, q⟩ := truW_ok h1
      exact tru_ok pins s σ H1 v v' _ I rx ⟨c, by rw [hX.K]; exact tru_old t S1 r1, hQ _ M1 A1 F1 H1 q S1 a1 f1⟩) hR)
theorem dget_ok1 {ro rk : Im} (h : dgetW ro rk (.d .none) M Q) : BopR G (rM1 G "dict.get") ro rk M Q := by
  unfold dgetW at h
  split at h
  · rename_i kvs e
    split at h
    · exact get1_ok (dicI_of e) h.1 h.2
    · exact h.elim
  · exact h.elim
theorem dget_ok2 {ro rk rx : Im} (h : dgetW ro rk rx M Q) : Bop3 G (rM2 G "dict.get") ro rk rx M Q := by
  unfold dgetW at h
  split at h
  · rename_i kvs e
    split at h
    · exact get2_ok (dicI_of e) h.1 h.2
    · exact h.elim
  · exact h.elim
theorem dsetd_ok {ro rk rx : Im} (h : dsetdW ro rk rx M Q) : Bop3 G (rM2 G "dict.setdefault") ro rk rx M Q := by
  unfold dsetdW at h
  split at h
  · rename_i kvs e
    split at h
    · rename_i k key
      obtain ⟨h1, h2, h3⟩ := h
      obtain ⟨c, hc, hx⟩ : ∃ c, M[k]? = some c ∧ c.kvs = some kvs := by
        simp only [dicI] at e
        split at e
        · rename_i c e1; exact ⟨c, e1, e⟩
        · cases e
      refine setd_ok hc hx h1 h2 ?_
      cases hr : dGet kvs key with
      | some r => rw [hr] at h3; exact h3
      | none =>
        rw [hr] at h3
        have h3 : dsetW k key rx M (fun M' => Q rx M') := h3
        obtain ⟨c', kvs', e1, e2, _, _, q⟩ := dset_ok h3
        rw [hc] at e1; cases e1
        exact q
    · exact h.elim
  · exact h.elim
theorem isDic_ok {r : Im} {Kp : Prop} (h : isDic M r Kp) : ∃ kvs, DicOf M r kvs ∧ Kp := by
  unfold isDic at h
  split at h
  · rename_i kvs e; exact ⟨kvs, dicI_of e, h⟩
  · exact h.elim
end
end DX

namespace DX
open PySem PySem.Spec PyProof.Rows L2

def turnOf (p : Pos) (tg : Expr) (ifs : List Expr) (it : Value) (env : Env) (m : Sem Fin → Sem Fin) (ag : Sem Fin) : Sem Fin := do
  standAt p
  match ← pyNext it with
  | none => pure (.done .next)
  | some v =>
    letOwnedTupleGo tg it v
    assign tg env v
    let mut ok := true
    for c in ifs do
      if ok then ok ← isTrue c env (eval c env)
    if ok then m ag else ag
def leafM (m : Sem Unit) : Sem Fin → Sem Fin := fun ag => do
  m
  ag
/-- the next clause's own loop -/
def outM (e : Expr) (d : Nat) (i1 : Expr) (acc : Value) (env : Env) : Sem Fin → Sem Fin := fun ag => do
  let x ← eval i1 env
  standAt i1.pos
  let x ← foldedSetIterable i1 env x
  let _ ← runOwn (.compStart e d (← holding [x] (pyIter x)) acc env) env
  ag
def putM (D : Addr) (kx vx : Expr) (env : Env) : Sem Unit := do
  let kv ← eval kx env
  let vv ← holding [kv] (eval vx env)
  standAt { kx.pos with endLine := vx.pos.endLine, endCol := vx.pos.endCol }
  holding [kv, vv] (dictSet D kv vv)
def pushM (D : Addr) (elt : Expr) (env : Env) : Sem Unit := do
  let _ ← call (.builtin "list.append") [.ref D, ← eval elt env]
abbrev Act := Addr → L2.St → Hp → (Hp → Prop) → Prop
/-- what the work reaches -/
structure PWk (X : Cx) (vs : List Nat) (D : Addr) (m : Sem Fin → Sem Fin) (act : Act) : Prop where
  run : ∀ (pins : List (Addr × Obj)) (s : Shared) (σ : L2.St) (H : Hp) (Nx : Hp → Prop) (ag : Sem Fin) (QF : Fin → Shared → Prop) (EE : Value → Shared → Prop), Inv X pins σ H s → act D σ H Nx →
    (∀ s' σ' H', Inv X pins σ' H' s' → L2.wipe σ' vs = L2.wipe σ vs → Nx H' → wpAny (model X.prog X.w) X.A ag QF EE s') → wpAny (model X.prog X.w) X.A (m ag) QF EE s
/-- nothing is raised here -/
abbrev Still (X : Cx) : Prop := ∀ e s, X.xe e s → False
theorem thS {X : Cx} (hx : Still X) {α : Type} {t : Sem α} {Q Q' : α → Shared → Prop} {E : Value → Shared → Prop} {s : Shared} (h : wpAny (model X.prog X.w) X.A t Q X.xe s) (hQ : ∀ a s, Q a s → Q' a s) : wpAny (model X.prog X.w) X.A t Q' E s := wpAny_mono h hQ fun e s z => (hx e s z).elim
theorem thF {M : Model} {A : Around} {α : Type} {t : Sem α} {Q Q' : α → Shared → Prop} {E : Value → Shared → Prop} {s : Shared} (h : wpAny M A t Q (fun _ _ => False) s) (hQ : ∀ a s, Q a s → Q' a s) : wpAny M A t Q' E s := wpAny_mono h hQ fun e s z => z.elim
section
variable {X : Cx} {vs : List Nat} {D : Addr}
/-- d[key] = value by a comprehension, whatever the keys -/
def DPutA (G : Sx) (D : Addr) (y z : V) (H : Hp) (Q : Hp → Prop) : Prop := ∀ X, G.Has X → ∀ (pins : List (Addr × Obj)) (s : Shared) (σ : L2.St) (kv vv : Value), Inv X pins σ H s → RelV y kv → RelV z vv →
  wpAny (model X.prog X.w) X.A (dictSet D kv vv) (fun _ s' => ∃ H', Inv X pins σ H' s' ∧ Q H') X.xe s
def actD (G : Sx) (tk tv : TE) : Act := fun D σ H Nx => tk σ H fun y H1 => tv σ H1 fun z H2 => DPutA G D y z H2 Nx
def actL (te : TE) : Act := fun D σ H Nx => te σ H fun y H4 => ∃ acc, H4 D = some (.lst acc) ∧ acc.length < sizeLine ∧ Nx (upd H4 D (.lst (acc ++ [y])))
theorem pw_put {G : Sx} (hX : G.Has X) (hx : Still X) {kx vx : Expr} {tk tv : TE} (hk : PE X kx tk) (hv : PE X vx tv) : PWk X vs D (leafM (putM D kx vx X.env)) (actD G tk tv) := by
  refine ⟨fun pins s σ H Nx ag QF EE I h hQ => ?_⟩
  refine wpAny_bind (wpAny_bind (thS hx (hk.run pins s σ H _ I h) fun kv s1 ⟨y, H1, I1, ry, q1⟩ => wpAny_bind (wpAny_holding (thS hx (hv.run pins s1 σ H1 _ I1 q1) fun vv s2 ⟨z, H2, I2, rz, q2⟩ => ?_))))
  exact wpAny_bind (wpAny_standAt (wpAny_holding (thS hx (q2 X hX pins s2 σ kv vv I2 ry rz) fun _ s3 ⟨H3, I3, n⟩ => hQ s3 σ H3 I3 rfl n)))
theorem pw_push (hx : Still X) {elt : Expr} {te : TE} (he : PE X elt te) : PWk X vs D (leafM (pushM D elt X.env)) (actL te) := by
  refine ⟨fun pins s σ H Nx ag QF EE I h hQ => ?_⟩
  refine wpAny_bind (wpAny_bind (thS hx (he.run pins s σ H _ I h) fun v s1 ⟨y, H1, I1, ry, acc, hD, hz, n⟩ => ?_))
  exact wpAny_bind (app_ok (X := X) I1 hD hz ry fun s2 I2 => wpAny_pure (hQ s2 σ _ I2 rfl n))
/-- the loop of a clause -/
theorem w_loop {e : Expr} {d : Nat} {it : Addr} {fp : List Addr} {tn : Nat → Heap → Prop} {J : It} {tg : Expr} {ifs : List Expr} {g : TG} {tt : TT} {m : Sem Fin → Sem Fin} {act : Act} {σ0 : L2.St} {p : Pos} {pins : List (Addr × Obj)} {R : Result → Shared → Prop} {Qd : Hp → Prop}
    (hq : (Code.compLoop e d (.ref it) (.ref D) X.env).quiet = true) (hden : (model X.prog X.w).den (.compLoop e d (.ref it) (.ref D) X.env) = (compTurn e d (.ref it) (.ref D) X.env).onRaise (fun x => do noteFrame x X.env; theTreesLotGoes x))
    (hx : Still X) (hc : X.calm = true) (T : Turn X.prog X.w X.K tg J fp it tn) (hfp : ∀ σ' H' s', Inv X pins σ' H' s' → (∀ b ∈ fp, H' b = none) → ∀ b ∈ fp, FpOk X pins H' b)
    (ht : compTurn e d (.ref it) (.ref D) X.env = turnOf p tg ifs (.ref it) X.env m (again (.compLoop e d (.ref it) (.ref D) X.env)))
    (hA : X.A.under (.compLoop e d (.ref it) (.ref D) X.env) = X.A)
    (pg : PG X tg g) (pt : PTs X ifs tt) (pm : PWk X vs D m act) (W : Nat → Nat → Hp → Prop)
    (step : ∀ i n H, W i n H → (J.stop i H ∧ Qd H) ∨ (J.go i H ∧ ∃ Nx : Hp → Prop, (∀ H', Nx H' → ∃ n', n' < n ∧ W (i + 1) n' H') ∧ ∀ x H', J.yld i H x H' → g x σ0 H' fun σ2 H2 => L2.wipe σ2 vs = σ0 ∧ tt σ2 H2 fun b H3 => if b = true then act D σ2 H3 Nx else Nx H3))
    (done : ∀ s' H', Inv X pins σ0 H' s' → Qd H' → R (.ok .next) s')
    {s : Shared} {n0 : Nat} {H0 : Hp} (I0 : Inv X pins σ0 H0 s) (st : tn 0 s.heap) (nf : ∀ b ∈ fp, H0 b = none) (w0 : W 0 n0 H0) :
    codeAny (model X.prog X.w) X.A (.compLoop e d (.ref it) (.ref D) X.env) R s := by
  refine codeAny_loop hq (fun n s' => ∃ i H', Inv X pins σ0 H' s' ∧ tn i s'.heap ∧ (∀ b ∈ fp, H' b = none) ∧ W i n H') ?_ n0 ⟨0, H0, I0, st, nf, w0⟩
  rintro n s1 ⟨i, H1, I1, st1, n1, w1⟩
  rw [hden, hA]
  refine wpAny_noted ?_
  rw [ht]
  refine wpAny_bind (wpAny_standAt (wpAny_bind ?_))
  rcases step i n H1 w1 with ⟨stop, qq⟩ | ⟨go, Nx, hNx, turn⟩
  · refine thF (T.done X rfl rfl rfl hc i pins s1 σ0 H1 (fun _ _ => False) I1 (hfp _ _ _ I1 n1) st1 stop) fun r s2 ⟨hr, I2⟩ => ?_
    subst hr
    exact wpAny_pure (done s2 H1 I2 qq)
  · refine thF (T.item X rfl rfl rfl hc i pins s1 σ0 H1 (fun _ _ => False) I1 (hfp _ _ _ I1 n1) st1 go) fun r s2 ⟨u, hr, h2⟩ => ?_
    subst hr
    refine wpAny_bind (thF h2 fun _ s3 ⟨x, H3, I3, r3, y3, st3, n3⟩ => ?_)
    have I3' := I3.pinned (hfp _ _ _ I3 n3) (T.obj _ _ st3)
    refine wpAny_bind (thS hx (pg.run _ s3 σ0 H3 x u _ I3' r3 (turn x H3 y3)) fun _ s4 ⟨σ4, H4, I4, hw4, q4⟩ => ?_)
    refine wpAny_bind (thS hx (pt.run _ s4 σ4 H4 _ I4 q4) fun b s5 ⟨H5, I5, q5⟩ => ?_)
    have fin : ∀ s' σ' H', Inv X (pins ++ pinsAt fp s3.heap) σ' H' s' → L2.wipe σ' vs = L2.wipe σ4 vs → Nx H' → wpAny (model X.prog X.w) X.A (again (.compLoop e d (.ref it) (.ref D) X.env)) (fun fin s' => match fin with
        | .done f => R (.ok f) s'
        | .again c' => c' = .compLoop e d (.ref it) (.ref D) X.env ∧ ∃ m, m < n ∧ ∃ i H', Inv X pins σ0 H' s' ∧ tn i s'.heap ∧ (∀ b ∈ fp, H' b = none) ∧ W i m H') (notedBy (model X.prog X.w) X.A X.env fun e s' => R (.error e) s') s' := fun s' σ' H' I' hw nx => by
      obtain ⟨m', hm, w'⟩ := hNx H' nx
      have pin' : ∀ b ∈ fp, ∀ o, s3.heap.get? b = some o → s'.heap.get? b = some o ∧ H' b = none := fun b hb o e =>
        let z := I'.pin (b, o) (List.mem_append_right _ (List.mem_append_right _ (mem_pinsAt hb e)))
        ⟨z.1, z.2.1⟩
      have e0 : L2.wipe σ' vs = σ0 := hw.trans hw4
      refine wpAny_pure ⟨rfl, m', hm, i + 1, H', I'.unpinned.weak (by rw [← e0, wipe_length]) (fun j v e => by rw [← e0] at e; exact (wipe_some e).1), T.keep _ _ _ st3 fun b hb o e => (pin' b hb o e).1, fun b hb => ?_, w'⟩
      obtain ⟨o, e, _⟩ := T.obj _ _ st3 b hb
      exact (pin' b hb o e).2
    cases b with
    | false => exact fin s5 σ4 H5 I5 rfl q5
    | true => exact pm.run _ s5 σ4 H5 Nx _ _ _ I5 q5 fin
end
end DX

namespace DX
open PySem PySem.Spec PyProof.Rows L2

theorem wipe_sub (σ : L2.St) : ∀ vs ws : List Nat, (∀ v ∈ vs, v ∈ ws) → L2.wipe (L2.wipe σ vs) ws = L2.wipe σ ws := by
  intro vs ws h
  induction vs with
  | nil => rfl
  | cons v vs ih =>
    show L2.wipe ((L2.wipe σ vs).set v none) ws = _
    rw [wipe_set (h v List.mem_cons_self)]
    exact ih fun w hw => h w (List.mem_cons_of_mem _ hw)
/-- how a comprehension's code at a depth is run -/
structure CodeOk (e : Expr) (d : Nat) : Prop where
  quiet : ∀ it acc env, (Code.compLoop e d it acc env).quiet = true
  under : ∀ (A : Around) it acc env, A.under (.compLoop e d it acc env) = A
  den : ∀ P w it acc env, (model P w).den (.compLoop e d it acc env) = (compTurn e d it acc env).onRaise (fun x => do noteFrame x env; theTreesLotGoes x)
  start : ∀ {P : Program} {w : World} {A : Around} {R : Result → Shared → Prop} {s : Shared} {it acc : Value} {env : Env}, codeAny (model P w) A (.compLoop e d it acc env) R s →
    wpAny (model P w) A (pyIter it) (fun it' s' => codeAny (model P w) A (.compLoop e d it' acc env) R s') (notedBy (model P w) A env fun x s' => R (.error x) s') s → codeAny (model P w) A (.compStart e d it acc env) R s
theorem codeOk_l1 {elt tg iter : Expr} {ifs : List Expr} {rest : List Comprehension} {scope : Scope} {pos : Pos} : CodeOk (.ListComp elt (⟨tg, iter, ifs, 0⟩ :: rest) scope pos) 0 := ⟨fun _ _ _ => rfl, fun A _ _ _ => Around.under_of_weight rfl, fun _ _ _ _ _ => rfl, fun h0 h => codeAny_compStart_list h0 h⟩
theorem codeOk_d1 {kx vx tg iter : Expr} {ifs : List Expr} {rest : List Comprehension} {scope : Scope} {pos : Pos} : CodeOk (.DictComp kx vx (⟨tg, iter, ifs, 0⟩ :: rest) scope pos) 0 := ⟨fun _ _ _ => rfl, fun A _ _ _ => Around.under_of_weight rfl, fun _ _ _ _ _ => rfl, fun h0 h => codeAny_compStart_dict h0 h⟩
theorem codeOk_l2 {elt t0 i0 t1 i1 : Expr} {ifs0 ifs1 : List Expr} {scope : Scope} {pos : Pos} : CodeOk (.ListComp elt [⟨t0, i0, ifs0, 0⟩, ⟨t1, i1, ifs1, 0⟩] scope pos) 1 := ⟨fun _ _ _ => rfl, fun A _ _ _ => Around.under_of_weight rfl, fun _ _ _ _ _ => rfl, fun h0 h => compStart1_ok h0 h⟩
theorem codeOk_d2 {kx vx t0 i0 t1 i1 : Expr} {ifs0 ifs1 : List Expr} {scope : Scope} {pos : Pos} : CodeOk (.DictComp kx vx [⟨t0, i0, ifs0, 0⟩, ⟨t1, i1, ifs1, 0⟩] scope pos) 1 := by
  refine ⟨fun _ _ _ => rfl, fun A _ _ _ => Around.under_of_weight rfl, fun _ _ _ _ _ => rfl, fun {P w A R s it acc env} h0 h => ?_⟩
  refine codeAny_of_tree ?_
  show wpAny _ _ ((compStart (.DictComp kx vx [⟨t0, i0, ifs0, 0⟩, ⟨t1, i1, ifs1, 0⟩] scope pos) 1 it acc env).onRaise (fun x => do noteFrame x env; standAt theWindowsPlace)) _ _ s
  refine wpAny_notedAt ?_
  unfold compStart
  show wpAny _ _ (ask >>= _) _ _ s
  refine wpAny_bind (wpAny_askSetting (wpAny_ite ?_))
  split
  · first
      | exact wpAny_bind (wpAny_pure (wpAny_pure (And.intro rfl h0)))
      | exact wpAny_pure (And.intro rfl h0)
  · first
      | exact wpAny_bind (wpAny_rule (wpAny_bind (wpAny_standAt (wpAny_bind (wpAny_mono h (fun it' s' h' => wpAny_pure (And.intro rfl h')) fun _ _ x => x)))))
      | (refine wpAny_bind (wpAny_rule ?_); show wpAny _ _ (standAt i1.pos >>= _) _ _ s; exact wpAny_bind (wpAny_standAt (wpAny_bind (wpAny_mono h (fun it' s' h' => wpAny_pure (And.intro rfl h')) fun _ _ x => x))))
section
variable {X : Cx} {vs : List Nat} {D : Addr}
/-- a clause within -/
def actO (wi1 : TI) (g1 : TG) (tt1 : TT) (act : Act) (vs1 : List Nat) : Act := fun D σ H Nx => wi1 σ H fun J1 H4 => ∃ W1 : Nat → Nat → Hp → Prop, (∃ m, W1 0 m H4) ∧ ∀ j k H, W1 j k H →
  (J1.stop j H ∧ Nx H) ∨ (J1.go j H ∧ ∃ Nx1 : Hp → Prop, (∀ H', Nx1 H' → ∃ k', k' < k ∧ W1 (j + 1) k' H') ∧ ∀ x H', J1.yld j H x H' → g1 x (L2.wipe σ vs1) H' fun σ3 H5 => L2.wipe σ3 vs1 = L2.wipe σ vs1 ∧ tt1 σ3 H5 fun b H6 =>
    if b = true then act D σ3 H6 Nx1 else Nx1 H6)
theorem pw_out {e tg1 iter1 : Expr} {d : Nat} {ifs1 : List Expr} {wi1 : TI} {g1 : TG} {tt1 : TT} {act1 : Act} {m1 : Sem Fin → Sem Fin} {vs1 : List Nat} {p : Pos} (ce : CodeOk e d) (hx : Still X) (hc : X.calm = true) (hs1 : ∀ x, foldedSetIterable iter1 X.env x = pure x)
    (pi : PI X tg1 iter1 wi1) (pg : PG X tg1 g1) (pt : PTs X ifs1 tt1) (pm : PWk X vs1 D m1 act1) (ht : ∀ it, compTurn e d (.ref it) (.ref D) X.env = turnOf p tg1 ifs1 (.ref it) X.env m1 (again (.compLoop e d (.ref it) (.ref D) X.env))) (hv : ∀ i ∈ vs1, i ∈ vs) :
    PWk X vs D (outM e d iter1 (.ref D) X.env) (actO wi1 g1 tt1 act1 vs1) := by
  refine ⟨fun pins s σ H Nx ag QF EE I h hQ => ?_⟩
  refine wpAny_bind (thS hx (pi.run pins s σ H _ I h) fun xv s1 h1 => ?_)
  refine wpAny_bind (wpAny_standAt (wpAny_bind (wpAny_of_eq (hs1 xv) (wpAny_bind (wpAny_holding (thS hx h1 fun itv s2 h2 => ?_))))))
  obtain ⟨it, fp, tn, J, H2, rfl, I2, T, st2, f2, W1, ⟨n1, w1⟩, step⟩ := h2
  refine wpAny_bind (wpAny_runOwn ?_)
  rw [Around.mark_none]
  have loop : codeAny (model X.prog X.w) X.A (.compLoop e d (.ref it) (.ref D) X.env) (fun r s' => match r with
      | .ok _ => wpAny (model X.prog X.w) X.A ag QF EE s'
      | .error e => cameBackBy (model X.prog X.w) X.A X.env EE e s') s2 :=
    w_loop (Qd := Nx) (ce.quiet _ _ _) (ce.den _ _ _ _ _) hx hc T (fun σ' H' s' I' hn b hb => ⟨hn b hb, (f2 b hb).2⟩) (ht it) (ce.under _ _ _ _) pg pt pm W1 step
      (fun s' H' I' nx => hQ s' _ H' I' (wipe_sub σ vs1 vs hv) nx) (I2.weak (wipe_length _ _) fun j v e => (wipe_some e).1) st2 (fun b hb => (f2 b hb).1) w1
  exact ce.start loop (T.self X.A 0 _ _ _ st2 loop)
/-- the end: as it stands, or locked -/
def EndQ (Q : VK) (D : Addr) (H : Hp) : Prop := Q (.ref D) H ∨ ∃ u, H D = some u ∧ Mut (some u) ∧ ∀ od, Q (.ref D) (upd H D (.frz od u))
/-- a comprehension: u0 what stands at its new object -/
def tCm (u0 : HO) (wi : TI) (g : TG) (tt : TT) (act : Act) (vs : List Nat) : TE := fun σ H Q => wi σ H fun J H1 => ∀ D, H1 D = none → ∃ W : Nat → Nat → Hp → Prop, (∃ m, W 0 m (upd H1 D u0)) ∧ ∀ i m H, W i m H →
  (J.stop i H ∧ EndQ Q D H) ∨ (J.go i H ∧ ∃ Nx : Hp → Prop, (∀ H', Nx H' → ∃ m', m' < m ∧ W (i + 1) m' H') ∧ ∀ x H', J.yld i H x H' → g x (L2.wipe σ vs) H' fun σ2 H2 => L2.wipe σ2 vs = L2.wipe σ vs ∧ tt σ2 H2 fun b H3 =>
    if b = true then act D σ2 H3 Nx else Nx H3)
abbrev Blk (X : Cx) (scope : Scope) (P : Cx → Prop) : Prop := ∀ (s : Shared) (H : Hp) (C : Addr) (cl : List (Str × Addr)) (fp : List Addr), P (X.blk s H scope (compEnvC scope cl C X.env) fp)
/-- a new object as the block's start lays it -/
structure NewOk (X : Cx) (mk : Sem Value) (u0 : HO) : Prop where
  ex : ∃ ob : Obj, (∀ (s : Shared) (Q : Value → Shared → Prop) (E : Value → Shared → Prop), Q (.ref s.heap.objs.size) { s with heap := s.heap.push ob } → wpAny (model X.prog X.w) X.A mk Q E s) ∧
    ∀ {pins σ H s}, Inv X pins σ H s → Inv X pins σ (upd H s.heap.objs.size u0) { s with heap := s.heap.push ob }
theorem newOk_list : NewOk X (newList []) (.lst []) := ⟨{ cls := .type "list", data := .seq ([] : List Value).toArray }, fun s Q E h => wpAny_newObj_type h (by show 0 ≤ sizeLine; decide), fun {pins σ H s} I =>
  I.laid (t' := s.toks) (fun b o e => Heap.get?_push_of_some _ e) (Nat.le_refl _) ⟨Nat.zero_le _, [], 0, .nil, Heap.get?_push_size _ rfl⟩⟩
theorem newOk_dict : NewOk X newDict (.dK []) := ⟨{ cls := .type "dict", data := .dict #[] }, fun s Q E h => wpAny_newObj_type h, fun {pins σ H s} I =>
  I.laid (t' := s.toks) (fun b o e => Heap.get?_push_of_some _ e) (Nat.le_refl _) (dk_empty s.heap I.big)⟩
theorem cm_core {pins : List (Addr × Obj)} {s : Shared} {σ : L2.St} {H : Hp} {Q : VK} {e tg iter : Expr} {ifs : List Expr} {rest : List Comprehension} {scope : Scope} {own : List (Str × Nat)} {pos' : Pos} {mk : Sem Value} {u0 : HO} {wi : TI} {g : TG} {tt : TT} {act : Act} {mo : Addr → Env → Sem Fin → Sem Fin} {use : Option (Value → Sem Unit)} {Qf : Value → Shared → Prop} {p : Pos}
    (ce : CodeOk e 0) (hcl : clausesOf e = ⟨tg, iter, ifs, 0⟩ :: rest) (hnew : NewOk X mk u0) (hc : X.calm = true) (hN : X.N.Nodup) (I : Inv X pins σ H s) (hi : PI X tg iter wi) (ok : BlkOk X.N X.env.scope scope own)
    (hg : Blk X scope fun Y => PG Y tg g) (ht : Blk X scope fun Y => PTs Y ifs tt) (hm : ∀ D, Blk X scope fun Y => PWk Y (own.map (·.2)) D (mo D Y.env) act) (hs : ∀ x, foldedSetIterable iter X.env x = pure x)
    (htu : ∀ it D env, compTurn e 0 (.ref it) (.ref D) env = turnOf p tg ifs (.ref it) env (mo D env) (again (.compLoop e 0 (.ref it) (.ref D) env)))
    (h : tCm u0 wi g tt act (own.map (·.2)) σ H Q)
    (hRR : ∀ D C s' m H', Inv X pins σ H' s' → Q (.ref D) H' → s'.heap.Ns C m → FpOk X pins H' C → compPost (model X.prog X.w) X.A X.xe use Qf (.ref D) C (.ok .next) s') :
    wpAny (model X.prog X.w) X.A (comprehension e scope X.env pos' mk false (eval iter X.env) use) Qf X.xe s := by
  have hfree : ∀ y ∈ scope.names, y.2 = .free → ∃ c, X.env.cells.lookup y.1 = some c := fun y hy e => by
    rcases ok.free y hy e with k | k
    · exact I.ok.has _ (.inl k)
    · exact I.ok.has _ (.inr k)
  obtain ⟨ob, hn1, hn2⟩ := hnew.ex
  refine wpAny_comprehension_free (use := use) hcl hs (closure_ok hfree) ok.kind (fun y hy e => by rw [ok.uniq y hy, e])
    (thn (hi.run pins s σ H _ I h) fun xv s1 hx => thn hx fun itv s2 h2 => ?_)
  obtain ⟨it, fp, tn, J, H2, e', I2, T, st2, f2, q⟩ := h2
  subst e'
  refine hn1 _ _ _ (newEnv_comp ?_)
  obtain ⟨W, ⟨m0, w0⟩, turn⟩ := q s2.heap.objs.size (I2.hok.fresh (Nat.le_refl _))
  have I3 := hn2 I2
  generalize hs3 : ({ s2 with heap := s2.heap.push ob } : Shared) = s3 at I3 ⊢
  have h3 : s3.heap = s2.heap.push ob := by rw [← hs3]
  generalize hD : s2.heap.objs.size = D at I3 w0 turn ⊢
  have sz : ∀ b ∈ fp, b < s2.heap.objs.size := fun b hb => by
    obtain ⟨o, e, _⟩ := T.obj _ _ st2 b hb
    exact Heap.lt_size e
  have f3 : ∀ b ∈ fp, FpOk X pins (upd H2 D u0) b ∧ b < s3.heap.objs.size := fun b hb => by
    have hlt := sz b hb
    refine ⟨⟨?_, (f2 b hb).2⟩, by rw [h3, Heap.size_push]; exact Nat.lt_succ_of_lt hlt⟩
    rw [upd_ne (by rw [← hD]; exact Nat.ne_of_lt hlt)]
    exact (f2 b hb).1
  have st3 : tn 0 s3.heap := T.keep _ _ _ st2 fun b _ o e => by rw [h3]; exact Heap.get?_push_of_some _ e
  have I4 := block_start I3 ok hN f3
  have pg := hg s3 (upd H2 D u0) s3.heap.objs.size (cellsFrom (s3.heap.objs.size + 1) scope.names (cloFrom X.env.cells scope.names [])) fp
  have pt := ht s3 (upd H2 D u0) s3.heap.objs.size (cellsFrom (s3.heap.objs.size + 1) scope.names (cloFrom X.env.cells scope.names [])) fp
  have pm := hm D s3 (upd H2 D u0) s3.heap.objs.size (cellsFrom (s3.heap.objs.size + 1) scope.names (cloFrom X.env.cells scope.names [])) fp
  show codeAny _ _ (.compStart e 0 (.ref it) (.ref D) (compEnvC scope (cellsFrom (s3.heap.objs.size + 1) scope.names (cloFrom X.env.cells scope.names [])) s3.heap.objs.size X.env)) (compPost (model X.prog X.w) X.A X.xe use Qf (.ref D) s3.heap.objs.size) { s3 with heap := pushCells (s3.heap.push { cls := .type "dict", data := .dict #[] }) scope.names }
  have nfp : ∀ b ∈ fp, (upd H2 D u0) b = none := fun b hb => (f3 b hb).1.1
  generalize hce : compEnvC scope (cellsFrom (s3.heap.objs.size + 1) scope.names (cloFrom X.env.cells scope.names [])) s3.heap.objs.size X.env = cv at I4 pg pt pm ⊢
  have cL : cv.locals = s3.heap.objs.size := by subst hce; rfl
  generalize hH3 : upd H2 D u0 = H3 at I3 I4 pg pt pm w0 nfp f3
  generalize hs4 : ({ s3 with heap := pushCells (s3.heap.push { cls := .type "dict", data := .dict #[] }) scope.names } : Shared) = s4 at I4 ⊢
  have st4 : tn 0 s4.heap := T.keep _ _ _ st3 fun b _ o e => by rw [← hs4]; exact pushCells_keeps _ _ _ _ (Heap.get?_push_of_some _ e)
  have loop : codeAny (model X.prog X.w) X.A (.compLoop e 0 (.ref it) (.ref D) cv) (compPost (model X.prog X.w) X.A X.xe use Qf (.ref D) s3.heap.objs.size) s4 :=
    w_loop (X := X.blk s3 H3 scope cv fp) (pins := []) (Qd := EndQ Q D) (ce.quiet _ _ _) (ce.den _ _ _ _ _) (fun _ _ z => z) hc T
      (fun σ' H' s' I' hn b hb => ⟨hn b hb, (I'.ok.exf b hb).1, I'.ok.exfs b hb, .inl hb, fun x c e => (I'.ok.exf b hb).2 x c e, fun p hp => absurd (show p ∈ ([] : List (Addr × Obj)) ++ [] from hp) (by simp)⟩)
      (htu it D cv) (ce.under _ _ _ _) pg pt pm W turn (fun s' H' I' qq => by
        have I7 : Inv X pins σ H' s' := I3.call' (ch := fp) I'.os I'.base I'.hok I'.bare fun b hb => ⟨(f3 b hb).1.2.2.2.1, (f3 b hb).1.2.1, (f3 b hb).1.2.2.2.2.1, (f3 b hb).1.2.2.2.2.2⟩
        have nC : H' s3.heap.objs.size = none := by
          have z : H' cv.locals = none := I'.free
          rw [cL] at z
          exact z
        obtain ⟨m, hn, _⟩ := I'.loc
        have hn : s'.heap.Ns cv.locals m := hn
        rw [cL] at hn
        rcases qq with qq | ⟨u, hu, mu, qq⟩
        · exact hRR D s3.heap.objs.size s' m H' I7 qq hn (I3.fpOk (Nat.le_refl _) nC)
        · obtain ⟨od, I8⟩ := I7.lock hu mu
          refine hRR D s3.heap.objs.size s' m _ I8 (qq od) hn (I3.fpOk (Nat.le_refl _) ?_)
          rw [upd_ne (fun z => by rw [z, hu] at nC; cases nC)]
          exact nC) I4 st4 nfp w0
  exact ce.start loop (T.self X.A 0 _ _ _ st4 loop)
end
end DX

namespace DX
open PySem PySem.Spec PyProof.Rows L2
section
variable {X : Cx} {kx vx elt tg iter : Expr} {ifs : List Expr} {rest : List Comprehension} {scope : Scope} {own : List (Str × Nat)} {pos spos py : Pos} {wi : TI} {g : TG} {tt : TT} {act : Act} {mo : Addr → Env → Sem Fin → Sem Fin} {p : Pos} {i : Nat} {y : Str}
theorem cm_ret {pins : List (Addr × Obj)} {σ : L2.St} {Q : VK} {D C : Addr} {s' : Shared} {m : Str → Option Value} {H' : Hp} (I' : Inv X pins σ H' s') (q : Q (.ref D) H') (hn : s'.heap.Ns C m) (f : FpOk X pins H' C) : compPost (model X.prog X.w) X.A X.xe none (EP X pins σ Q) (.ref D) C (.ok .next) s' := by
  refine ⟨m, hn, fun h'' sb => ?_⟩
  obtain ⟨f0, f1, f2, f3, f4, f5⟩ := f
  exact ⟨.ref D, H', I'.turned (t' := s'.toks) (fun b o hb e => (sb.2 b hb).trans e) f0 f1 f3 f4 f5, rfl, q⟩
theorem cm_set {pins : List (Addr × Obj)} {σ : L2.St} {Dn : Ends} {L C : Addr} {s' : Shared} {m : Str → Option Value} {H' : Hp} (hN : X.N.Nodup) (hy : X.N[i]? = some y) (hyl : X.env.scope.names.lookup y = some .local) (I' : Inv X pins σ H' s') (q : gName i (.ref L) σ H' Dn.nx) (hn : s'.heap.Ns C m) (f : FpOk X pins H' C) :
    compPost (model X.prog X.w) X.A X.xe (some (assign (.Name y py) X.env)) (fun _ s' => SP X pins Dn .next s') (.ref L) C (.ok .next) s' := by
  show wpAny _ _ (assign (.Name y py) X.env (.ref L)) _ _ _
  refine wpAny_assign_Name (store_ok2 (v := V.ref L) I' hN hy (.inl hyl) rfl (fun s2 I2 ⟨a, sb, ha⟩ => ?_) (.inr hyl))
  obtain ⟨f0, f1, f2, f3, f4, f5⟩ := f
  have haC : C ≠ a := by
    rcases ha with z | z
    · rw [z]; exact f1
    · exact fun e => f4 y a z e.symm
  refine ⟨m, hn.sameBut sb haC, fun h3 sb3 => ?_⟩
  exact ⟨_, H', I2.turned (t' := s2.toks) (fun b o hb e => (sb3.2 b hb).trans e) f0 f1 f3 f4 f5, q⟩
variable (hc : X.calm = true) (hN : X.N.Nodup) (hi : PI X tg iter wi) (ok : BlkOk X.N X.env.scope scope own) (hg : Blk X scope fun Y => PG Y tg g) (ht : Blk X scope fun Y => PTs Y ifs tt)
  (hm : ∀ D, Blk X scope fun Y => PWk Y (own.map (·.2)) D (mo D Y.env) act) (hs : ∀ x, foldedSetIterable iter X.env x = pure x)
include hc hN hi ok hg ht hm hs
theorem pe_cmL (htu : ∀ it D env, compTurn (.ListComp elt (⟨tg, iter, ifs, 0⟩ :: rest) scope pos) 0 (.ref it) (.ref D) env = turnOf p tg ifs (.ref it) env (mo D env) (again (.compLoop (.ListComp elt (⟨tg, iter, ifs, 0⟩ :: rest) scope pos) 0 (.ref it) (.ref D) env))) :
    PE X (.ListComp elt (⟨tg, iter, ifs, 0⟩ :: rest) scope pos) (tCm (.lst []) wi g tt act (own.map (·.2))) := by
  refine ⟨fun pins s σ H Q I h => ?_⟩
  rw [eval_ListComp]
  exact cm_core codeOk_l1 rfl newOk_list hc hN I hi ok hg ht hm hs htu h fun D C s' m H' I' q hn f => cm_ret I' q hn f
theorem pe_cmD (htu : ∀ it D env, compTurn (.DictComp kx vx (⟨tg, iter, ifs, 0⟩ :: rest) scope pos) 0 (.ref it) (.ref D) env = turnOf p tg ifs (.ref it) env (mo D env) (again (.compLoop (.DictComp kx vx (⟨tg, iter, ifs, 0⟩ :: rest) scope pos) 0 (.ref it) (.ref D) env))) :
    PE X (.DictComp kx vx (⟨tg, iter, ifs, 0⟩ :: rest) scope pos) (tCm (.dK []) wi g tt act (own.map (·.2))) := by
  refine ⟨fun pins s σ H Q I h => ?_⟩
  rw [arm_eval_DictComp]
  exact cm_core codeOk_d1 rfl newOk_dict hc hN I hi ok hg ht hm hs htu h fun D C s' m H' I' q hn f => cm_ret I' q hn f
variable (hy : X.N[i]? = some y) (hyl : X.env.scope.names.lookup y = some .local)
include hy hyl
theorem ps_cmL (hsw : swapsWith (.ListComp elt (⟨tg, iter, ifs, 0⟩ :: rest) scope pos) (some (.Name y py)) spos.line X.env = pure true)
    (htu : ∀ it D env, compTurn (.ListComp elt (⟨tg, iter, ifs, 0⟩ :: rest) scope pos) 0 (.ref it) (.ref D) env = turnOf p tg ifs (.ref it) env (mo D env) (again (.compLoop (.ListComp elt (⟨tg, iter, ifs, 0⟩ :: rest) scope pos) 0 (.ref it) (.ref D) env))) :
    PS X (.Assign [.Name y py] (.ListComp elt (⟨tg, iter, ifs, 0⟩ :: rest) scope pos) spos) (tAsg (tCm (.lst []) wi g tt act (own.map (·.2))) (gName i)) := by
  refine ⟨fun pins s σ H D I h => ?_⟩
  rw [exec_Assign_Name_used _ _ _ _ hsw]
  refine wpAny_bind (wpAny_standAt (wpAny_bind ?_))
  show wpAny _ X.A (do let _ ← comprehension (.ListComp elt (⟨tg, iter, ifs, 0⟩ :: rest) scope pos) scope X.env (firstIterPos (⟨tg, iter, ifs, 0⟩ :: rest) pos) (newList []) false (eval iter X.env) (some (assign (.Name y py) X.env))) _ _ s
  have h : tCm (.lst []) wi g tt act (own.map (·.2)) σ H (fun x H1 => gName i x σ H1 D.nx) := h
  exact wpAny_bind (thn (cm_core (Qf := fun _ s' => SP X pins D .next s') codeOk_l1 rfl newOk_list hc hN I hi ok hg ht hm hs htu h fun L C s' m H' I' q hn f => cm_set hN hy hyl I' q hn f) fun _ s' hq => wpAny_pure (wpAny_pure hq))
theorem ps_cmD (hsw : swapsWith (.DictComp kx vx (⟨tg, iter, ifs, 0⟩ :: rest) scope pos) (some (.Name y py)) spos.line X.env = pure true)
    (htu : ∀ it D env, compTurn (.DictComp kx vx (⟨tg, iter, ifs, 0⟩ :: rest) scope pos) 0 (.ref it) (.ref D) env = turnOf p tg ifs (.ref it) env (mo D env) (again (.compLoop (.DictComp kx vx (⟨tg, iter, ifs, 0⟩ :: rest) scope pos) 0 (.ref it) (.ref D) env))) :
    PS X (.Assign [.Name y py] (.DictComp kx vx (⟨tg, iter, ifs, 0⟩ :: rest) scope pos) spos) (tAsg (tCm (.dK []) wi g tt act (own.map (·.2))) (gName i)) := by
  refine ⟨fun pins s σ H D I h => ?_⟩
  rw [exec_Assign_Name_used _ _ _ _ hsw]
  refine wpAny_bind (wpAny_standAt (wpAny_bind ?_))
  show wpAny _ X.A (do let _ ← comprehension (.DictComp kx vx (⟨tg, iter, ifs, 0⟩ :: rest) scope pos) scope X.env (firstIterPos (⟨tg, iter, ifs, 0⟩ :: rest) pos) newDict false (eval iter X.env) (some (assign (.Name y py) X.env))) _ _ s
  have h : tCm (.dK []) wi g tt act (own.map (·.2)) σ H (fun x H1 => gName i x σ H1 D.nx) := h
  exact wpAny_bind (thn (cm_core (Qf := fun _ s' => SP X pins D .next s') codeOk_d1 rfl newOk_dict hc hN I hi ok hg ht hm hs htu h fun L C s' m H' I' q hn f => cm_set hN hy hyl I' q hn f) fun _ s' hq => wpAny_pure (wpAny_pure hq))
end
theorem sw_trueD {kx vx : Expr} {gs : List Comprehension} {scope : Scope} {pos py : Pos} {y : Str} {l : Nat} {env : Env} (hk : env.scope.kind = .function) (hy : env.scope.names.lookup y = some .local) (hl : (py.line == pos.line) = true)
    (ha : (scope.names.any fun (n, k) => n == y && (k == .local || k == .cell)) = false) : swapsWith (.DictComp kx vx gs scope pos) (some (.Name y py)) l env = pure true := by
  have ky : env.kindOf y = some .local := hy
  have hb : env.blockKind = .function := by unfold Env.blockKind; rw [hk]; rfl
  unfold swapsWith
  simp only [hb, ky, ha, Expr.pos, hl]
  rfl
end DX

namespace DX
open PySem PySem.Calls PySem.Spec PyProof.Rows L2

section
variable {X : Cx} {A : Around} {E : Value → Shared → Prop} {pins : List (Addr × Obj)} {s : Shared} {σ : L2.St} {H F z : Hp} {a : Addr} {o : HO} {R : Im → V → Prop} {kvs : List (Dt × Im)} {key : Dt} {kv : V} {u : Value}
/-- dictSet, whatever the keys -/
theorem dic_dset {Q : Unit → Shared → Prop} {w : Value} {r : Im} {v : V} (hu : X.A.units + 20 < cLine) (I : Inv X pins σ H s) (hF : Same F H) (e : H a = some o) (D : DicR ⟨X.K, X.w, z⟩ F R a o kvs) (hk : kindOk kvs key = true) (dk : Dv ⟨X.K, X.w, z⟩ F kv key) (ru : RelV kv u) (hz : kvs.length < sizeLine) (rv : R r v) (rw' : RelV v w)
    (h : ∀ o' s', Inv X pins σ (upd H a o') s' → DicR ⟨X.K, X.w, z⟩ F R a o' (dPut kvs key r) → Q () s') : wpAny (model X.prog X.w) X.A (dictSet a u w) Q E s := by
  rcases kind_cases hk with ⟨⟨k, rfl⟩, ha⟩ | ⟨ht, ha⟩
  · obtain ⟨ws, rfl, p⟩ := aview I (.inl e) D ha
    have ek := kV_of dk
    subst ek
    exact d_dictSet I e (by rw [← p.length]; exact hz) ru rw' fun s' I' => h _ s' I' (.inl ⟨_, rfl, aput rv p⟩)
  · obtain ⟨b, rfl⟩ := ref_of_tup ht dk
    cases ru
    obtain ⟨k, hk, hd⟩ := tupK_nk ht
    obtain ⟨xs, hs, hzx, dd, rel⟩ := tview I hF (.inl e) D ha
    refine wpAny_dictSet_heap (knd := nestedKind X.prog X.w) (show X.A.units + 8 < cLine by omega) ⟨nk_is I hk (Dv.mono hF dk) (u := .ref b) rfl, hd⟩ dd (fun h' dd' hb => ?_) hzx
    have rel' := tput hk hd dk rv rw' rel
    obtain ⟨ws, e1, e2, p1, p2⟩ := tsplit rel'
    have hl : ws.length = (dPut kvs key r).length := by rw [e2, rel'.length]
    have hn : (ws.map (·.1)).Nodup := by rw [e1]; exact dd'.nodup
    have hex : ∃ q, h'.get? a = some q := let ⟨q, _, _, hq, _⟩ := dd'; ⟨q, hq⟩
    have mu : Mut (H a) := by
      rw [e]
      rcases D with ⟨_, rfl, _⟩ | ⟨_, rfl, _⟩ <;> exact True.intro
    refine h (dN X.w a ws) _ (d_write I mu hb hex (ndic_ok hs (by rw [hl]; exact Nat.le_trans put_len hz) (fun e => ?_) hn p1 dd')) (.inr ⟨ws, rfl, p2⟩)
    rw [e] at hl
    exact put_ne (List.eq_nil_of_length_eq_zero hl.symm)
end
section
variable {G : Sx} {Γ : Ec} {M : Sto} {k : Nat} {act : Act} {Nx : Sto → Prop}
/-- what a clause's work does to the store; k: the cell that grows -/
def ActX (G : Sx) (k : Nat) (act : Act) (Γ : Ec) (M : Sto) (Nx : Sto → Prop) : Prop := ∀ A F σ H D (Qv : Hp → Prop), StO G.kw A M F H → SlG G A F Γ σ → A[k]? = some D → (∀ M' A' F' H', Nx M' → StO G.kw A' M' F' H' → ALe A A' → Same F F' → Qv H') → act D σ H Qv
theorem ActX.imp {Nx' : Sto → Prop} (h : ActX G k act Γ M Nx) (hq : ∀ M', Nx M' → Nx' M') : ActX G k act Γ M Nx' := fun A F σ H D Qv S L ea hQ => h A F σ H D Qv S L ea fun M' A' F' H' q => hQ M' A' F' H' (hq M' q)
theorem act_put {kx vx : Expr} (h : EvX G kx Γ M (fun rk M1 => EvX G vx Γ M1 (fun rv M2 => ∃ key, rk = .d key ∧ dsetW k key rv M2 Nx) NoX) NoX) : ActX G k (actD G (tS G kx) (tS G vx)) Γ M Nx := fun A F σ H D Qv S L ea hQ => by
  refine h A F σ H _ S L (fun rk M1 A1 F1 H1 y h2 S1 a1 f1 r1 => ?_) fun _ _ _ _ _ _ q => q.elim
  refine h2 A1 F1 σ H1 _ S1 (L.mono a1 f1) (fun rv M2 A2 F2 H2 w q S2 a2 f2 r2 => ?_) fun _ _ _ _ _ _ q => q.elim
  obtain ⟨key, rfl, q⟩ := q
  intro X hX pins s σ' kv vv I ry rz
  obtain ⟨c, kvs, hk, hx, hko, hz, q⟩ := dset_ok q
  have ep := a2 k D (a1 k D ea)
  obtain ⟨hF, o0, hH, D0⟩ := cel_dct S2 ep hk hx
  have dk : Dv ⟨X.K, X.w, G.z⟩ F2 y key := by rw [← kwE hX]; exact Dv.mono f2 r1
  refine dic_dset (R := ImR G.kw A2 F2) (units_20 hX) I S2.sub hH (by rw [kwE hX] at D0 ⊢; exact D0) hko dk ry hz r2 rz fun o' s' I' D' => ⟨_, I', ?_⟩
  rw [← kwE hX] at D'
  exact hQ _ A2 F2 _ q (sto_dset S2 ep hF hx D') (a1.trans a2) (f1.trans f2)
theorem act_push {elt : Expr} (h : EvX G elt Γ M (fun y M1 => ∃ c acc, M1[k]? = some c ∧ c.its = some acc ∧ acc.length < sizeLine ∧ Nx (M1.set k (pushC c y))) NoX) : ActX G k (actL (tS G elt)) Γ M Nx := fun A F σ H D Qv S L ea hQ => by
  refine h A F σ H _ S L (fun y M1 A1 F1 H1 v q S1 a1 f1 r1 => ?_) fun _ _ _ _ _ _ q => q.elim
  obtain ⟨c, acc, hacc, hx, hz, q⟩ := q
  have k3 : A1[k]? = some D := a1 k D ea
  obtain ⟨hF, vs, hH, rs⟩ := S1.lst k3 hacc hx
  exact ⟨vs, hH, by rw [← rs.len]; exact hz, hQ _ A1 F1 _ q (S1.write k3 hF (by unfold CelR; rw [Cel.its_gen (pushC_its hx y)]; exact ⟨hF, vs ++ [v], upd_same, rs.app (.cons r1 .nil)⟩)) a1 f1⟩
/-- a target's reading, unpacked -/
abbrev TgRun (G : Sx) (vs : List Nat) (T : Im → Ec → (Ec → Prop) → Prop) (g : TG) : Prop := ∀ r Γ Qd A M F σ H v (Qv : L2.St → Hp → Prop), T r Γ Qd → StO G.kw A M F H → SlG G A F Γ σ → ImR G.kw A F r v →
  (∀ Γ' σ', Qd Γ' → SlG G A F Γ' σ' → L2.wipe σ' vs = L2.wipe σ vs → Qv σ' H) → g v σ H Qv
theorem act_out {tg1 iter1 : Expr} {g1 : TG} {tt1 : TT} {vs1 : List Nat} {T : Im → Ec → (Ec → Prop) → Prop} (h0 : G.hot = none) (hgd : TgRun G vs1 T g1)
    (h : EvI G tg1 iter1 Γ M (fun ys ok M1 => k < M1.length ∧ ∃ J : Nat → Sto → Prop, J 0 M1 ∧
      (∀ (j : Nat) y M', ys[j]? = some y → J j M' → ok M' ∧ T y (wipeE Γ vs1) (fun Γ2 => EvTs G tt1 Γ2 M' (fun b M2 => (b = true → ActX G k act Γ2 M2 (TurnsM M1.length (J (j + 1)))) ∧ (b = false → TurnsM M1.length (J (j + 1)) M2)))) ∧
      ∀ M', J ys.length M' → ok M' ∧ Nx M') NoX) : ActX G k (actO (iS G tg1 iter1) g1 tt1 act vs1) Γ M Nx := fun A F σ H D Qv S L ea hQ => by
  refine h A F σ H _ S L (fun K ys ok M1 A1 F1 H1 ⟨hkl, J, j0, step, fin⟩ S1 a1 f1 jk => ?_) fun _ _ _ _ _ _ q => q.elim
  refine ⟨fun i m H' => m = ys.length - i ∧ i ≤ ys.length ∧ ∃ M' A' F', J i M' ∧ StO G.kw A' M' F' H' ∧ ALe A1 A' ∧ Same F1 F', ⟨ys.length, rfl, Nat.zero_le _, _, _, F1, j0, S1, ALe.refl _, Same.refl _⟩, ?_⟩
  rintro i m H' ⟨rfl, hi, M', A', F', ji, S', a', f'⟩
  by_cases hlt : i < ys.length
  · have hx : ys[i]? = some ys[i] := List.getElem?_eq_getElem hlt
    obtain ⟨okM, hg⟩ := step i _ M' hx ji
    obtain ⟨go, yl⟩ := (jk i M' A' F' H' S' a' f' okM).1 _ hx
    refine .inr ⟨go, fun H3 => ys.length - (i + 1) = ys.length - (i + 1) ∧ i + 1 ≤ ys.length ∧ ∃ M' A' F', J (i + 1) M' ∧ StO G.kw A' M' F' H3 ∧ ALe A1 A' ∧ Same F1 F', fun H3 q => ⟨ys.length - (i + 1), by omega, q⟩, fun v H'' hy => ?_⟩
    obtain ⟨F'', S'', f'', rv⟩ := yl v H'' hy
    refine hgd _ _ _ A' M' F'' _ H'' v _ hg S'' ((SlH.wipe h0 L _).mono (a1.trans a') (f1.trans (f'.trans f''))) rv fun Γ2 σ2 q L2' hw => ⟨by rw [hw, wipe_idem], ?_⟩
    have turn : ∀ {A3 : List Addr} {M3 : Sto} {F3 H3 : Hp}, TurnsM M1.length (J (i + 1)) M3 → StO G.kw A3 M3 F3 H3 → ALe A1 A3 → Same F1 F3 →
        ys.length - (i + 1) = ys.length - (i + 1) ∧ i + 1 ≤ ys.length ∧ ∃ M' A' F', J (i + 1) M' ∧ StO G.kw A' M' F' H3 ∧ ALe A1 A' ∧ Same F1 F' := by
      intro A3 M3 F3 H3 tn S3 a3 f3
      obtain ⟨M4, A4, j4, S4, a4⟩ := tn.land S3
      exact ⟨rfl, hlt, M4, A4, F3, j4, S4, ale_of_n a3 a4 (by rw [S1.len]; exact Nat.le_refl _), f3⟩
    have ek : A'[k]? = some D := a' k D (a1 k D ea)
    refine q A' F'' σ2 H'' _ S'' L2' fun b M2 A2 F2 H2 q2 S2 a2 f2 => ?_
    have a02 := a'.trans a2
    have f02 := (f'.trans f'').trans f2
    cases b with
    | false => exact iteF (turn (q2.2 rfl) S2 a02 f02)
    | true => exact iteT (q2.1 rfl A2 F2 σ2 H2 D _ S2 (L2'.mono a2 f2) (a2 k D ek) fun M3 A3 F3 H3 tn S3 a3 f3 => turn tn S3 (a02.trans a3) (f02.trans f3))
  · have ei : i = ys.length := by omega
    subst ei
    obtain ⟨okM, p⟩ := fin M' ji
    exact .inl ⟨(jk _ M' A' F' H' S' a' f' okM).2 (Nat.le_refl _), hQ M' A' F' H' p S' (a1.trans a') (f1.trans f')⟩
/-- how a comprehension ends: as a cell, or as data -/
def CmEnd (M1 : Sto) (Q : QE) (M' : Sto) : Prop :=
  LcEnd M1 Q M' ∨ (∃ kvs, M' = M1 ++ [.dd kvs] ∧ Q (.d (.dict kvs)) M1) ∨ ∃ kvs, M'[M1.length]? = some (.dd kvs) ∧ Q (.d (.dict kvs)) (M'.set M1.length .dead)
theorem CmEnd.land {Q : QE} {M1 M' : Sto} {A1 A' : List Addr} {F1 F' H1 H' : Hp} {D : Addr} {Qv : VK} (h : CmEnd M1 Q M') (S1 : StO G.kw A1 M1 F1 H1) (S' : StO G.kw A' M' F' H') (a' : ALe (A1 ++ [D]) A') (f' : Same F1 F') (hQ : Goes G A1 F1 Q Qv) : EndQ Qv D H' := by
  rcases h with h | h
  · exact .inl (h.land S1 S' a' f' hQ)
  have kD : (A1 ++ [D])[M1.length]? = some D := by rw [← S1.len]; simp
  have eD := a' _ _ kD
  have a1' : ALe A1 A' := (ALe.app _ _).trans a'
  refine .inr ?_
  rcases h with ⟨kvs, rfl, q⟩ | ⟨kvs, hk, q⟩
  · obtain ⟨hF, u, hH, mu, rs⟩ := S'.dic eD (kvs := kvs) (by simp)
    refine ⟨u, hH, mu, fun od => ?_⟩
    obtain ⟨r1, S2⟩ := rs od
    rw [show (M1 ++ [Cel.dd kvs]).set M1.length .dead = M1 ++ [.dead] by rw [List.set_append_right _ _ (Nat.le_refl _)]; simp] at S2
    have S3 := S2.trim S1.bd
    exact hQ _ M1 _ _ _ _ q S3 (fun k a e => by
      rw [List.getElem?_take, if_pos (by rw [← S1.len]; exact (List.getElem?_eq_some_iff.mp e).1)]
      exact a1' k a e) (f'.trans (same_updF hF)) r1
  · obtain ⟨hF, u, hH, mu, rs⟩ := S'.dic eD hk
    refine ⟨u, hH, mu, fun od => ?_⟩
    obtain ⟨r1, S2⟩ := rs od
    exact hQ _ _ A' _ _ _ q S2 a1' (f'.trans (same_updF hF)) r1
/-- a fresh object as a cell -/
structure NewC (u0 : HO) (c0 : Cel) : Prop where
  cell : ∀ {G : Sx} {A : List Addr} {M : Sto} {F H : Hp} {p : Addr}, StO G.kw A M F H → H p = none → StO G.kw (A ++ [p]) (M ++ [c0]) F (upd H p u0)
theorem newC_list : NewC (.lst []) (.dl []) := ⟨fun S hp => cell_lst S hp (c := .dl []) (vs := []) (xs := []) rfl .nil⟩
theorem newC_dict : NewC (.dK []) (.dd []) := ⟨fun S hp => S.cell (o := .dK []) (c := .dd []) hp ⟨S.freshF hp, _, upd_same, .inl ⟨[], rfl, .nil⟩⟩⟩
theorem cm_coreS {tg iter : Expr} {scope : Scope} {own : List (Str × Nat)} {g : TG} {tt : TT} {u0 : HO} {c0 : Cel} {T : Im → Ec → (Ec → Prop) → Prop} {Q : QE} {R : QR} (h0 : G.hot = none) (hn : NewC u0 c0) (hgd : TgRun G (own.map (·.2)) T g)
    (h : EvI G tg iter Γ M (fun xs ok M1 => ∃ J : Nat → Sto → Prop, J 0 (M1 ++ [c0]) ∧
      (∀ (i : Nat) x M', xs[i]? = some x → J i M' → ok M' ∧ T x (wipeE Γ (own.map (·.2))) (fun Γ2 => EvTs (G.blk scope) tt Γ2 M' (fun b M2 =>
        (b = true → ActX (G.blk scope) M1.length act Γ2 M2 (TurnsM (M1.length + 1) (J (i + 1)))) ∧ (b = false → TurnsM (M1.length + 1) (J (i + 1)) M2)))) ∧
      (∀ M', J xs.length M' → ok M' ∧ CmEnd M1 Q M')) R)
    {A : List Addr} {F : Hp} {σ : L2.St} {H : Hp} {Qv : VK} (S : StO G.kw A M F H) (L : SlG G A F Γ σ) (hQ : Goes G A F Q Qv) (hR : Flies G A F R σ) :
    tCm u0 (iS G tg iter) g tt act (own.map (·.2)) σ H Qv := by
  refine h A F σ H _ S L (fun K xs ok M1 A1 F1 H1 ⟨J, j0, step, fin⟩ S1 a1 f1 jk => ?_) hR
  intro D hD
  have SD := hn.cell S1 hD
  have aD : ALe A1 (A1 ++ [D]) := ALe.app _ _
  have kD : (A1 ++ [D])[M1.length]? = some D := by rw [← S1.len]; simp
  refine ⟨fun i m H' => m = xs.length - i ∧ i ≤ xs.length ∧ ∃ M' A' F', J i M' ∧ StO G.kw A' M' F' H' ∧ ALe (A1 ++ [D]) A' ∧ Same F1 F',
    ⟨xs.length, rfl, Nat.zero_le _, _, _, F1, j0, SD, ALe.refl _, Same.refl _⟩, ?_⟩
  rintro i m H' ⟨rfl, hi, M', A', F', ji, S', a', f'⟩
  by_cases hlt : i < xs.length
  · have hx : xs[i]? = some xs[i] := List.getElem?_eq_getElem hlt
    obtain ⟨okM, hg⟩ := step i _ M' hx ji
    obtain ⟨go, yl⟩ := (jk i M' A' F' H' S' (aD.trans a') f' okM).1 _ hx
    refine .inr ⟨go, fun H3 => xs.length - (i + 1) = xs.length - (i + 1) ∧ i + 1 ≤ xs.length ∧ ∃ M' A' F', J (i + 1) M' ∧ StO G.kw A' M' F' H3 ∧ ALe (A1 ++ [D]) A' ∧ Same F1 F', fun H3 q => ⟨xs.length - (i + 1), by omega, q⟩, fun v H'' hy => ?_⟩
    obtain ⟨F'', S'', f'', rv⟩ := yl v H'' hy
    refine hgd _ _ _ A' M' F'' _ H'' v _ hg S'' ((SlH.wipe h0 L _).mono ((a1.trans aD).trans a') (f1.trans (f'.trans f''))) rv fun Γ2 σ2 q L2' hw => ⟨by rw [hw, wipe_idem], ?_⟩
    have turn : ∀ {A3 : List Addr} {M3 : Sto} {F3 H3 : Hp}, TurnsM (M1.length + 1) (J (i + 1)) M3 → StO G.kw A3 M3 F3 H3 → ALe (A1 ++ [D]) A3 → Same F1 F3 →
        xs.length - (i + 1) = xs.length - (i + 1) ∧ i + 1 ≤ xs.length ∧ ∃ M' A' F', J (i + 1) M' ∧ StO G.kw A' M' F' H3 ∧ ALe (A1 ++ [D]) A' ∧ Same F1 F' := by
      intro A3 M3 F3 H3 tn S3 a3 f3
      obtain ⟨M4, A4, j4, S4, a4⟩ := tn.land S3
      exact ⟨rfl, hlt, M4, A4, F3, j4, S4, ale_of_n a3 a4 (by simp [S1.len]), f3⟩
    refine q A' F'' σ2 H'' _ S'' L2' fun b M2 A2 F2 H2 q2 S2 a2 f2 => ?_
    have a02 := a'.trans a2
    have f02 := (f'.trans f'').trans f2
    cases b with
    | false => exact iteF (turn (q2.2 rfl) S2 a02 f02)
    | true => exact iteT (q2.1 rfl A2 F2 σ2 H2 D _ S2 (L2'.mono a2 f2) (a2 _ _ (a' _ _ kD)) fun M3 A3 F3 H3 tn S3 a3 f3 => turn tn S3 (a02.trans a3) (f02.trans f3))
  · have ei : i = xs.length := by omega
    subst ei
    obtain ⟨okM, p⟩ := fin M' ji
    exact .inl ⟨(jk _ M' A' F' H' S' (aD.trans a') f' okM).2 (Nat.le_refl _), p.land S1 S' a' f' (hQ.mono a1 f1)⟩
end
end DX

namespace DX
open PySem PySem.Calls PySem.Spec PyProof.Rows L2

section
variable {X : Cx} {E : Value → Shared → Prop} {pins : List (Addr × Obj)} {s : Shared} {σ : L2.St} {H F z : Hp} {a : Addr} {o : HO} {R : Im → V → Prop} {kvs : List (Dt × Im)}
theorem list_dic {Q : Value → Shared → Prop} (hh : X.A.handled = none) (I : Inv X pins σ H s) (e : Rd H a o) (D : DicR ⟨X.K, X.w, z⟩ F R a o kvs)
    (h : ∀ q vs s', H q = none → Inv X pins σ (upd H q (.lst vs)) s' → DvAll ⟨X.K, X.w, z⟩ F vs (kvs.map (·.1)) → Q (.ref q) s') : wpAny (model X.prog X.w) X.A (call (.type "list") [.ref a]) Q E s := by
  obtain ⟨es, ep, hs, hl, hz, hm, ent⟩ := raw_view I e D
  have key : ∀ (l : List DictEntry) (ks : List (Dt × Im)), l.length = ks.length → (∀ (i : Nat) (en : DictEntry), l[i]? = some en → ∃ p, ks[i]? = some p ∧ ∃ v, RelV v en.key ∧ Dv ⟨X.K, X.w, z⟩ F v p.1) → ∃ vs, Vals vs (l.map (·.key)) ∧ DvAll ⟨X.K, X.w, z⟩ F vs (ks.map (·.1)) := by
    intro l
    induction l with
    | nil => intro ks hl _; cases ks with
      | nil => exact ⟨[], .nil, .nil⟩
      | cons => cases hl
    | cons x l ih =>
      intro ks hl hf
      cases ks with
      | nil => cases hl
      | cons p ks =>
        obtain ⟨q, hq, v, h1, h2⟩ := hf 0 x rfl
        cases hq
        obtain ⟨vs, g1, g2⟩ := ih ks (by simpa using hl) fun i en he => by simpa using hf (i + 1) en (by simpa using he)
        exact ⟨v :: vs, .cons h1 g1, .cons h2 g2⟩
  obtain ⟨vs, g1, g2⟩ := key es.toList kvs (by rw [Array.length_toList]; exact hl) fun i en he => by
    obtain ⟨p, h1, h2, _⟩ := ent i en (by rw [← Array.getElem?_toList]; exact he)
    exact ⟨p, h1, h2⟩
  refine PySem.W.kdl_call (PySem.KdlSrc.rawDict (es := es) (ep := ep) hs) hh hm hz fun h' tk acc c' hk hS hit => ?_
  have eacc : acc.toList = es.toList.map (·.key) := by
    apply List.ext_getElem?
    intro i
    obtain ⟨h1, h2⟩ := hit
    by_cases hi : i < es.size
    · have ha : i < acc.size := by omega
      obtain ⟨_, h3⟩ := h2 i acc[i] (Array.getElem?_eq_getElem ha)
      rw [Array.getElem?_toList, Array.getElem?_eq_getElem ha, List.getElem?_map, Array.getElem?_toList, Array.getElem?_eq_getElem hi, h3]
      rfl
    · rw [List.getElem?_eq_none (by rw [Array.length_toList]; omega), List.getElem?_eq_none (by rw [List.length_map, Array.length_toList]; omega)]
  refine h _ vs _ (I.hok.fresh (Nat.le_refl _)) (I.laid hk (Nat.le_refl _) (show ObjOk X.prog X.w _ _ _ (.lst vs) from ⟨?_, acc.toList, c', by rw [eacc]; exact g1, ?_⟩)) g2
  · rw [g1.length, List.length_map, Array.length_toList]; exact hz
  · rw [hS]
end
section
variable {G : Sx} {Γ : Ec} {M : Sto} {Q : QE} {R : QR}
theorem dvAll_ims {K : KW} {A : List Addr} {F : Hp} : ∀ {vs : List V} {ds : List Dt}, DvAll K F vs ds → ImsR K A F (ds.map .d) vs
  | _, _, .nil => .nil
  | _, _, .cons h t => .cons h (dvAll_ims t)
theorem list_ok {own : Bool} {r : Im} {kvs : List (Dt × Im)} (hc : ∀ X, G.Has X → X.calm = true) (hd : DicOf M r kvs) (hq : outL own (kvs.map (·.1)) M Q) : CalR G (rAllC G (.type "list")) [r] M Q := fun A F H vs Qv S rv hQ X hX pins s σ us I ru => by
  cases rv with
  | cons r1 t =>
    cases t
    obtain ⟨p, o, rfl, e, D⟩ := hd.dic S r1
    obtain rfl := Vals.ref1 ru
    rw [kwE hX] at D
    refine list_dic (I.ok.hd (hc X hX)) I e D fun q ws s' hn I' dv => ⟨.ref q, _, I', rfl, ?_⟩
    rw [← kwE hX] at dv
    have ims := dvAll_ims (A := A) dv
    cases own with
    | true => exact goes_lstP (c := .dl (kvs.map fun p : Dt × Im => p.1)) (xs := (kvs.map fun p : Dt × Im => p.1).map .d) S hQ hn rfl ims hq
    | false => exact goes_lst S hQ hn ims hq
theorem dcp_ok {own : Bool} {r : Im} (hq : dcpW own r M Q) : CalR G (rAllC G (.type "dict")) [r] M Q := fun A F H vs Qv S rv hQ X hX pins s σ us I ru => by
  unfold dcpW at hq
  split at hq
  case h_2 => exact hq.elim
  rename_i kvs ek
  obtain ⟨hat, hq⟩ := hq
  cases rv with
  | cons r1 t =>
    cases t
    obtain ⟨p, o, rfl, e, D⟩ := (dicI_of ek).dic S r1
    obtain rfl := Vals.ref1 ru
    rw [kwE hX] at D
    obtain ⟨ws, rfl, pr⟩ := aview I e D hat
    rw [← kwE hX] at pr
    refine d_copyOf I e fun q s' hn I' => ?_
    cases own with
    | true =>
      refine ⟨.ref q, _, I', rfl, ?_⟩
      have hF := S.freshF hn
      refine hQ _ _ (A ++ [q]) F _ _ hq (S.cell (c := dctC kvs) hn ?_) (ALe.app _ _) (Same.refl _) ⟨q, by rw [← S.len]; simp, rfl⟩
      unfold CelR
      rw [dctC_gen]
      refine ⟨hF, _, upd_same, .inl ⟨ws, rfl, ?_⟩⟩
      clear I I' ek D hat e hq
      induction pr with
      | nil => exact .nil
      | cons h t ih => exact .cons ⟨h.1, ImR.mono (ALe.app _ _) (Same.refl _) h.2⟩ ih
    | false =>
      have hq : (match kvsD kvs with
        | some ds => Q (.d (.dict ds)) M
        | none => False) := hq
      cases ed : kvsD kvs with
      | none => rw [ed] at hq; exact hq.elim
      | some ds =>
        rw [ed] at hq
        have eds := kvsD_eq ed
        obtain ⟨od, I2⟩ := I'.lock upd_same (u := .dK ws) trivial
        have hF := S.freshF hn
        refine ⟨.ref q, _, I2, rfl, ?_⟩
        rw [upd_upd]
        refine hQ _ M A _ _ _ hq (S.data hn) (ALe.refl _) (same_updF hF) (.dK upd_same ?_)
        refine DvK.mono (same_updF hF) (dvK_of (A := A) ?_)
        rw [eds] at pr
        exact pr
end
end DX

namespace DX
open PySem PySem.Calls PySem.Spec PyProof.Rows L2

/-- list.extend by a list, whatever dict or slots that has -/
theorem ext_any (l b : Addr) (xs ys : Array Value) (n m : Nat) (dd : Option Addr) (sl : Array (Option Value)) (long : ¬(!xs.isEmpty && Builtin.List.listTooLong (xs.size + ys.size)) = true) (z1 : xs.size ≤ sizeLine) (z2 : xs.size + ys.size ≤ sizeLine + 1) :
    Meets (Builtin.«list.extend» ⟨[.ref l, .ref b], []⟩) (fun _ R s => s.heap.get? l = some { cls := .type "list", dict := none, data := .seq xs n, slots := #[] } ∧ s.heap.get? b = some { cls := .type "list", dict := dd, data := .seq ys m, slots := sl } ∧
      R (.ok (.ret Value.none)) { s with heap := s.heap.update l (Obj.mapSeq fun x => x ++ ys), toks := s.toks }) :=
  .of_wp fun prog w A R s h => by
    obtain ⟨hp, gn, dr, tk, os⟩ := s
    obtain ⟨gl, gb, hR⟩ := h
    have t1 := AutoSeq1.idx_int
    have t2 := AutoSeq1.sub_tuple_tuple
    have t3 := AutoSeq1.sub_list_list
    have t4 := AutoSeq1.sub_tuple_list
    have t5 := AutoSeq1.sub_list_tuple
    have z3 : (xs ++ ys).size ≤ sizeLine + 1 := by rw [Array.size_append]; exact z2
    wp_walk using (wpAny_updateSeq gl rfl (hz := z1) (_hz' := z3)), AutoSeq1.wpAny_loadPart' gl, AutoSeq1.wpAny_loadPart' gb
    exact ⟨_, rfl, hR⟩
def rExtA (K : PySem.W.Frag) : V → List V → Hp → VK → Prop := fun x vs H Q => ∃ l b xs zs, x = .ref l ∧ vs = [.ref b] ∧ H l = some (.lst xs) ∧ SqL K H b zs ∧ xs.length + zs.length ≤ sizeLine ∧ Q .non (upd H l (.lst (xs ++ zs)))
theorem mt_extA {X : Cx} : MtM X "list.extend" (rExtA X.K) := by
  intro pins s σ H x vs v us Q I rx rv h
  obtain ⟨l, b, xs, zs, rfl, rfl, hH, hB, hz, q⟩ := h
  cases rx
  obtain ⟨u, rfl, ru⟩ := rv.one
  cases ru
  obtain ⟨z, its, n, r, hl, e⟩ := I.lstM hH
  obtain ⟨its2, r2, pl, z2⟩ := I.list hB
  obtain ⟨⟨oc, od, oda, osl⟩, m, e2, hc, hda, hs⟩ := pl
  dsimp only at hc hda hs
  subst hc hda hs
  have hl2 := r2.length
  have hsz : its.toArray.size + its2.toArray.size ≤ sizeLine := by rw [List.size_toArray, List.size_toArray]; omega
  have long : ¬ (!its.toArray.isEmpty && Builtin.List.listTooLong (its.toArray.size + its2.toArray.size)) = true := by
    rw [notLongL hsz, Bool.and_false]
    exact Bool.false_ne_true
  refine call_meets F.slot_list_extend ⟨_, e, rfl⟩ F.entry_list_extend (F.args_list_extend_2 _ _) (ext_any l b its.toArray its2.toArray n m _ _ long (by rw [List.size_toArray]; omega) (by omega)) ⟨e, e2, ?_⟩
  refine ⟨.non, _, I.lset (its' := its ++ its2) hH e (by simp) (r.append r2) ?_, rfl, q⟩
  rw [List.length_append]
  omega
section
variable {G : Sx} {Γ : Ec} {M : Sto} {Q : QE} {R : QR} {o e : Expr} {apos cpos : Pos}
theorem ev_extend (hb : PlainB o "extend") (hs : PlainA e []) (hline : (apos.endLine == cpos.line) = true)
    (h : EvX G o Γ M (fun ro M1 => ∃ k c1 xs1, ro = .p k ∧ M1[k]? = some c1 ∧ c1.its = some xs1 ∧ EvX G e Γ M1 (fun re M2 => ∃ c xs ys c', M2[k]? = some c ∧ c.its = some xs ∧ AsL M2 re ys ∧ xs.length + ys.length ≤ sizeLine ∧ c'.gen = .lst (xs ++ ys) ∧ Q (.d .none) (M2.set k c')) R) R) :
    EvX G (.Call (.Attribute o "extend" apos) [e] [] cpos) Γ M Q R := by
  intro A F σ H Qv S L hQ hR
  refine tS_of (t := tBM G.K "list" (rExtA G.K) (tS G o) (tCons (tS G e) tNil)) (fun X hX => by
    rw [← hX.K]
    exact pe_bm PySem.F.plainAttrs_list PySem.F.slot_list_extend PySem.F.type_list_extend mt_extA (pe_S hX o) (pa_cons (pe_S hX e) pa_nil (hs _)) (hb _) (by rw [hs]; rfl) hline (hs _) rfl) ?_
  refine h A F σ H _ S L (fun ro M1 A1 F1 H1 v ⟨k, c1, xs1, e1, hk, hx1, h2⟩ S1 a1 f1 r1 => ?_) hR
  subst e1
  obtain ⟨a, ea, rfl⟩ := r1
  obtain ⟨hF, vs, hH, rs⟩ := S1.lst ea hk hx1
  refine ⟨.inl ⟨rfl, _, SqL.of hH⟩, ?_⟩
  refine h2 A1 F1 σ H1 _ S1 (L.mono a1 f1) (fun re M2 A2 F2 H2 w ⟨c, xs, ys, c', hk2, hx, hy, hz, hg, q⟩ S2 a2 f2 r2 => ?_) (hR.mono a1 f1)
  obtain ⟨hF2, vs2, hH2, rs2⟩ := S2.lst (a2 k a ea) hk2 hx
  obtain ⟨b, ws, rfl, hsq, rw2⟩ := hy.sq S2 r2
  exact ⟨a, b, vs2, ws, rfl, rfl, hH2, hsq, by rw [← rs2.len, ← rw2.len]; exact hz, hQ _ _ A2 F2 _ _ q (S2.write (a2 k a ea) hF2 (by unfold CelR; rw [hg]; exact ⟨hF2, vs2 ++ ws, upd_same, rs2.app rw2⟩)) (a1.trans a2) (f1.trans f2) Dv.non⟩
theorem ext_ok {k : Nat} {re : Im} {M : Sto} {Kn : Sto → Prop} (h : extW k re M Kn) : ∃ c xs ys c', M[k]? = some c ∧ c.its = some xs ∧ AsL M re ys ∧ xs.length + ys.length ≤ sizeLine ∧ c'.gen = .lst (xs ++ ys) ∧ Kn (M.set k c') := by
  unfold extW at h
  split at h
  · rename_i ds e
    split at h
    · rename_i es e2
      exact ⟨_, _, _, .dl (ds ++ es), e, rfl, asLD_L e2, by simpa using h.1, by show Cel.lst _ = _; rw [List.map_append], h.2⟩
    · split at h
      · rename_i ys e2
        exact ⟨_, _, _, .lst (ds.map .d ++ ys), e, rfl, asLI_L e2, by simpa using h.1, rfl, h.2⟩
      · exact h.elim
  · rename_i xs e
    split at h
    · rename_i ys e2
      exact ⟨_, _, _, .lst (xs ++ ys), e, rfl, asLI_L e2, h.1, rfl, h.2⟩
    · exact h.elim
  · exact h.elim
end
end DX

namespace DX
open PySem PySem.Calls PySem.Spec PyProof.Rows L2

theorem pps_S {G : Sx} {X : Cx} (hX : G.Has X) (pos : Pos) : ∀ (ks vs : List Expr), ks.length = vs.length → PPs X pos (ks.map some) vs ((ks.zip vs).map fun p => (tS G p.1, tS G p.2))
  | [], [], _ => pps_nil
  | k :: ks, v :: vs, h => pps_cons (pe_S hX k) (pe_S hX v) (pps_S hX pos ks vs (by simpa using h))
  | [], _ :: _, h => by cases h
  | _ :: _, [], h => by cases h
/-- the pairs, one behind the other -/
def EvPs (G : Sx) (Γ : Ec) (R : QR) : List (Expr × Expr) → Sto → (List (Im × Im) → Sto → Prop) → Prop
  | [], M, Q => Q [] M
  | p :: r, M, Q => EvX G p.1 Γ M (fun rk M1 => EvX G p.2 Γ M1 (fun rv M2 => EvPs G Γ R r M2 fun ps M3 => Q ((rk, rv) :: ps) M3) R) R
theorem evps_run {G : Sx} {Γ : Ec} {R : QR} : ∀ (l : List (Expr × Expr)) {M : Sto} {Q : List (Im × Im) → Sto → Prop}, EvPs G Γ R l M Q → ∀ {A F σ H} {Qv : List (V × V) → Hp → Prop}, StO G.kw A M F H → SlG G A F Γ σ → Flies G A F R σ →
    (∀ ps M' A' F' H' vs, Q ps M' → StO G.kw A' M' F' H' → ALe A A' → Same F F' → Paired (fun (p : Im × Im) (q : V × V) => ImR G.kw A' F' p.1 q.1 ∧ ImR G.kw A' F' p.2 q.2) ps vs → Qv vs H') → tPairs (l.map fun p => (tS G p.1, tS G p.2)) σ H Qv
  | [], M, Q, h, A, F, σ, H, Qv, S, L, hR, hQ => hQ [] M A F H [] h S (ALe.refl _) (Same.refl _) .nil
  | p :: r, M, Q, h, A, F, σ, H, Qv, S, L, hR, hQ => by
    refine h A F σ H _ S L (fun rk M1 A1 F1 H1 v h1 S1 a1 f1 r1 => ?_) hR
    refine h1 A1 F1 σ H1 _ S1 (L.mono a1 f1) (fun rv M2 A2 F2 H2 w h2 S2 a2 f2 r2 => ?_) (hR.mono a1 f1)
    refine evps_run r h2 S2 (L.mono (a1.trans a2) (f1.trans f2)) (hR.mono (a1.trans a2) (f1.trans f2)) fun ps M3 A3 F3 H3 vs q S3 a3 f3 rs => ?_
    exact hQ _ M3 A3 F3 H3 _ q S3 ((a1.trans a2).trans a3) ((f1.trans f2).trans f3) (.cons ⟨r1.mono (a2.trans a3) (f2.trans f3), r2.mono a3 f3⟩ rs)
/-- the display; p the new dict -/
def tDispA (G : Sx) (trs : List (TE × TE)) : TE := fun σ H Q => ∀ p, H p = none → tPairs trs σ (upd H p (.dK [])) fun ps H2 => ∀ X, G.Has X → ∀ (pins : List (Addr × Obj)) (s : Shared) (σ' : L2.St), Inv X pins σ' H2 s →
  H2 p = some (.dK []) ∧ ∃ kvs : List (Key × V), ps = kvs.map (fun kv => (kV kv.1, kv.2)) ∧ kvs.length ≤ 15 ∧ EndQ Q p (upd H2 p (.dK (mergeK [] kvs)))
theorem pe_dispA {G : Sx} {X : Cx} (hX : G.Has X) {pos : Pos} {keys : List (Option Expr)} {values : List Expr} {trs : List (TE × TE)} (h : PPs X pos keys values trs) (hall : keys.all (·.isSome) = true) (hl : keys.length = values.length) (h0 : keys ≠ []) (h15 : keys.length ≤ 15) :
    PE X (.Dict keys values pos) (tDispA G trs) := by
  refine ⟨fun pins s σ H Q I hq => ?_⟩
  have fresh := I.hok.fresh (Nat.le_refl s.heap.objs.size)
  have J := I.laid (a := s.heap.objs.size) (o := .dK []) (h' := s.heap.push { cls := .type "dict", data := .dict #[] }) (t' := s.toks) (fun b o e => Heap.get?_push_of_some _ e) (Nat.le_refl _) (dk_empty s.heap I.big)
  refine wpAny_Dict_walk (knd := mixKind X.prog X.w) hall hl h0 h15 (thn (h.run pins _ σ _ _ J (hq _ fresh)) fun us s2 ⟨ps, H2, I2, rel, q⟩ => ?_)
  obtain ⟨hp, kvs, ek, hn, q2⟩ := q X hX pins s2 σ I2
  subst ek
  obtain ⟨rs, car, rk⟩ := carries_of (P := X.prog) (w := X.w) rel
  obtain ⟨_, hd, vs0, r0, dd⟩ := dk_of I2.hok hp
  cases r0
  refine ⟨rs, car, dd, fun h' dd' sb => ?_⟩
  have hz : (mergeK [] kvs).length ≤ sizeLine := by
    have := length_mergeK kvs []
    rw [List.length_nil] at this
    rw [sizeLine_eq]; omega
  have hex : ∃ q, h'.get? s.heap.objs.size = some q := let ⟨q, _, _, hq, _⟩ := dd'; ⟨q, hq⟩
  have I3 := fun t' => d_write (t' := t') I2 (by rw [hp]; exact True.intro) sb hex (dk_new hz hd (rk.merge .nil) dd')
  rcases q2 with q2 | ⟨u, hu, mu, q2⟩
  · exact ⟨.ref s.heap.objs.size, _, I3 _, rfl, q2⟩
  · obtain ⟨od, I4⟩ := (I3 _).lock hu mu
    exact ⟨.ref s.heap.objs.size, _, I4, rfl, q2 od⟩
theorem disp_pairs {K : KW} {A : List Addr} {F : Hp} : ∀ {kvs : List (Dt × Im)} {vs : List (V × V)}, (∀ p ∈ kvs, atomK p.1 = true) → Paired (fun (p : Im × Im) (q : V × V) => ImR K A F p.1 q.1 ∧ ImR K A F p.2 q.2) (kvs.map fun p => (.d p.1, p.2)) vs →
    ∃ ws : List (Key × V), vs = ws.map (fun kv => (kV kv.1, kv.2)) ∧ ws.length = kvs.length ∧ ∀ {acc : List (Dt × Im)} {bs : List (Key × V)}, Paired (fun (p : Dt × Im) (q : Key × V) => p.1 = kD q.1 ∧ ImR K A F p.2 q.2) acc bs →
      Paired (fun (p : Dt × Im) (q : Key × V) => p.1 = kD q.1 ∧ ImR K A F p.2 q.2) (kvs.foldl (fun d p => dPut d p.1 p.2) acc) (mergeK bs ws)
  | [], vs, _, h => by cases h; exact ⟨[], rfl, rfl, fun h => h⟩
  | p :: kvs, vs, hk, h => by
    cases h with
    | @cons _ q _ vs' h1 h2 =>
      obtain ⟨ws, e1, e2, f⟩ := disp_pairs (fun p hp => hk p (List.mem_cons_of_mem _ hp)) h2
      obtain ⟨k, ek⟩ := atom_kD (hk p List.mem_cons_self)
      obtain ⟨v1, v2⟩ := q
      have d1 : Dv K F v1 p.1 := h1.1
      rw [ek] at d1
      have := kV_of d1
      subst this
      refine ⟨(k, v2) :: ws, by rw [e1]; rfl, by rw [List.length_cons, List.length_cons, e2], fun {acc bs} hp => ?_⟩
      show Paired _ (kvs.foldl _ (dPut acc p.1 p.2)) (mergeK (putK bs k v2) ws)
      rw [ek]
      exact f (aput h1.2 hp)
theorem ev_disp {G : Sx} {Γ : Ec} {M : Sto} {Q : QE} {R : QR} {pos : Pos} {l : List (Expr × Expr)} (h0 : l ≠ []) (h15 : l.length ≤ 15)
    (h : EvPs G Γ R l (M ++ [.dd []]) (fun ps M1 => ∃ kvs : List (Dt × Im), ps = kvs.map (fun p => (.d p.1, p.2)) ∧ (∀ p ∈ kvs, atomK p.1 = true) ∧ kvs.length ≤ 15 ∧ M1[M.length]? = some (.dd []) ∧
      (Q (.p M.length) (M1.set M.length (dctC (putI kvs))) ∨ ∃ ds, kvsD (putI kvs) = some ds ∧ Q (.d (.dict ds)) (M1.set M.length .dead)))) : EvX G (.Dict ((l.map (·.1)).map some) (l.map (·.2)) pos) Γ M Q R := fun A F σ H Qv S L hQ hR => by
  have hz : (l.map (·.1)).zip (l.map (·.2)) = l := by
    clear h h0 h15
    induction l with
    | nil => rfl
    | cons p l ih => rw [List.map_cons, List.map_cons, List.zip_cons_cons, ih]
  refine tS_of (fun X hX => pe_dispA hX (by
    have := pps_S hX pos (l.map (·.1)) (l.map (·.2)) (by simp)
    rw [hz] at this
    exact this) (by simp) (by simp) (by simpa using h0) (by simpa using h15)) fun p hp => ?_
  have S0 : StO G.kw (A ++ [p]) (M ++ [.dd []]) F (upd H p (.dK [])) := newC_dict.cell S hp
  have kp : (A ++ [p])[M.length]? = some p := by rw [← S.len]; simp
  refine evps_run l h S0 (L.mono (ALe.app _ _) (Same.refl _)) (hR.mono (ALe.app _ _) (Same.refl _)) fun ps M1 A1 F1 H1 vs q S1 a1 f1 rs => ?_
  obtain ⟨kvs, rfl, hk, hk15, hc, q⟩ := q
  obtain ⟨ws, rfl, hwl, fold⟩ := disp_pairs hk rs
  intro X hX pins s σ' I
  have ep := a1 _ _ kp
  obtain ⟨hF, o, hH, D⟩ := cel_dct S1 ep hc (kvs := []) rfl
  have D' := D
  rw [kwE hX] at D'
  obtain ⟨w0, rfl, p0⟩ := aview I (.inl hH) D' rfl
  cases p0
  refine ⟨hH, ws, rfl, by omega, ?_⟩
  have pr := fold (acc := []) (bs := []) .nil
  have S2 : StO G.kw A1 (M1.set M.length (dctC (putI kvs))) F1 (upd H1 p (.dK (mergeK [] ws))) := by
    refine S1.write ep hF ?_
    unfold CelR
    rw [dctC_gen]
    exact ⟨hF, _, upd_same, .inl ⟨_, rfl, pr⟩⟩
  have a2 : ALe A A1 := (ALe.app _ _).trans a1
  rcases q with q | ⟨ds, ed, q⟩
  · exact .inl (hQ _ _ A1 F1 _ _ q S2 a2 f1 ⟨p, ep, rfl⟩)
  · have hlk : M.length < M1.length := (List.getElem?_eq_some_iff.mp hc).1
    have ed2 : dctC (putI kvs) = .dd ds := by unfold dctC; rw [ed]
    rw [ed2] at S2
    obtain ⟨hF2, u, hH2, mu, rs2⟩ := S2.dic ep (kvs := ds) (by rw [List.getElem?_set_self hlk])
    refine .inr ⟨u, hH2, mu, fun od => ?_⟩
    obtain ⟨r1, S3⟩ := rs2 od
    rw [List.set_set] at S3
    exact hQ _ _ A1 _ _ _ q S3 a2 (f1.trans (same_updF hF2)) r1
def flatP : List (Im × Im) → List Im
  | [] => []
  | p :: r => p.1 :: p.2 :: flatP r
theorem unfl_ok : ∀ {ps : List (Im × Im)} {kvs : List (Dt × Im)}, unfl (flatP ps) = some kvs → ps = kvs.map fun p => (.d p.1, p.2)
  | [], kvs, h => by cases h; rfl
  | (.d k, v) :: r, kvs, h => by
    simp only [flatP, unfl] at h
    cases e : unfl (flatP r) with
    | none => rw [e] at h; cases h
    | some ds => rw [e] at h; cases h; rw [unfl_ok e]; rfl
  | (.p _, _) :: r, kvs, h => by cases h
theorem evps_imp {G : Sx} {Γ : Ec} {R : QR} : ∀ (l : List (Expr × Expr)) {M : Sto} {Q Q' : List (Im × Im) → Sto → Prop}, EvPs G Γ R l M Q → (∀ ps M', Q ps M' → Q' ps M') → EvPs G Γ R l M Q'
  | [], _, _, _, h, hq => hq _ _ h
  | p :: r, _, _, _, h, hq => h.imp fun rk M1 h1 => h1.imp fun rv M2 h2 => evps_imp r h2 fun ps M' q => hq _ _ q
theorem disp_ok {G : Sx} {Γ : Ec} {M : Sto} {Q : QE} {R : QR} {pos : Pos} {own : Bool} {l : List (Expr × Expr)} (h0 : l ≠ []) (h15 : l.length ≤ 15) (h : EvPs G Γ R l (M ++ [.dd []]) (fun ps M1 => dispW own M.length (flatP ps) M1 Q)) :
    EvX G (.Dict ((l.map (·.1)).map some) (l.map (·.2)) pos) Γ M Q R := ev_disp h0 h15 (evps_imp l h fun ps M1 q => by
  unfold dispW at q
  split at q
  · rename_i kvs e
    obtain ⟨hb, q⟩ := q
    rw [Bool.and_eq_true] at hb
    split at q
    · rename_i ec
      refine ⟨kvs, unfl_ok e, fun p hp => List.all_eq_true.mp hb.1 p hp, Nat.le_of_ble_eq_true hb.2, ec, ?_⟩
      cases own with
      | true => exact .inl q
      | false =>
        have q : (match kvsD (putI kvs) with
          | some ds => Q (.d (.dict ds)) (M1.set M.length .dead)
          | none => False) := q
        cases ed : kvsD (putI kvs) with
        | none => rw [ed] at q; exact q.elim
        | some ds => rw [ed] at q; exact .inr ⟨ds, rfl, q⟩
    · exact q.elim
  · exact q.elim)
end DX

namespace DX
open PySem PySem.Calls PySem.Spec PyProof.Rows L2

/-- an iterator of ours stands at I, known to nobody -/
structure ItOk (X : Cx) (pins : List (Addr × Obj)) (H : Hp) (I : Addr) : Prop where
  hn : H I = none
  ne : I ≠ X.env.locals
  nf : I ∉ X.fs
  sz : X.s_0.heap.objs.size ≤ I
  cl : ∀ x c, X.env.cells.lookup x = some c → c ≠ I
  pn : ∀ p ∈ X.pn ++ pins, p.1 ≠ I
section
variable {X : Cx} {z : Hp} {pins : List (Addr × Obj)} {σ : L2.St} {A : List Addr} {M : Sto} {F0 : Hp} {f S I l : Addr} {kf : Dt → Dt} {ds : List Dt} {Sf : List Dt → (Dt → Prop) → (Str → List (Str × Dt) → Prop) → Prop} {B : Around} {k : Nat} {fd : FuncData} {ps : List Str}
theorem ItOk.new {H : Hp} {s : Shared} (I0 : Inv X pins σ H s) : ItOk X pins H s.heap.objs.size where
  hn := I0.hok.fresh (Nat.le_refl _)
  ne := Ne.symm (Nat.ne_of_lt I0.lt)
  nf := I0.nofs (Nat.le_refl _)
  sz := I0.sz
  cl := fun x c e hc => by
    obtain ⟨v, o, ho, _⟩ := I0.cell x c e
    exact absurd (Heap.lt_size ho) (by rw [hc]; exact Nat.lt_irrefl _)
  pn := fun p hp hc => absurd (Heap.lt_size (I0.pin p hp).1) (by rw [hc]; exact Nat.lt_irrefl _)
theorem ItOk.upd {H : Hp} (h : ItOk X pins H I) {a : Addr} {o : HO} (ne : I ≠ a) : ItOk X pins (upd H a o) I := ⟨by rw [upd_ne ne]; exact h.hn, h.ne, h.nf, h.sz, h.cl, h.pn⟩
/-- the key's call, one cell of ours besides -/
theorem srt_call1 (Fn : FnOk X.prog X.w X.K X.mg X.base (L2.CX X.prog X.w) k f fd ps (spPure X.K X.w X.mg Sf)) (hr : Room k B) (hb : Binds X.K fd ps []) (hfr : B.frames = some X.stack) {F H : Hp} {s : Shared} (I0 : Inv X pins σ H s)
    (S0 : StO (kzX X z) (A ++ [S]) (M ++ [.dead]) F H) {v : V} {u : Value} {d : Dt} (r : RelV v u) (dv : Dv (kzX X z) F v d) (hS : Sf [d] (fun y => y = kf d) (fun _ _ => False)) {oa : HO} (fa : F S = none) (ha : H S = some oa) :
    wpAny (model X.prog X.w) B (call (.ref f) [u]) (fun w s' => ∃ F' H' v', Inv X pins σ H' s' ∧ StO (kzX X z) (A ++ [S]) (M ++ [.dead]) F' H' ∧ Same F F' ∧ F' S = none ∧ H' S = some oa ∧ RelV v' w ∧ Dv (kzX X z) F' v' (kf d)) (fun _ _ => False) s := by
  have r2 : Vals [v] [u] := .cons r .nil
  have hB : ∀ b ∈ ([] : List Addr), b ∈ A ++ [S] ∧ F b = none := fun b h => absurd h (by simp)
  have zA : ∀ b, b ∈ A ++ [S] → F b = none → zIn z (A ++ [S]) [] F H b = H b := fun b h1 h2 => by unfold zIn; rw [if_pos ⟨h1, h2, by simp⟩]
  have Si := frame_in S0 hB
  rw [same_of_fIn] at Si
  have spec : spPure X.K X.w X.mg Sf [v] H (fun v' H' => ∃ F', StO ⟨X.K, X.w, zIn z (A ++ [S]) [] F H⟩ [] [] F' H' ∧ Same F F' ∧ Dv ⟨X.K, X.w, zIn z (A ++ [S]) [] F H⟩ F' v' (kf d)) (fun _ _ _ => False) :=
    ⟨_, F, [d], _, _, Si, .cons dv.kz .nil, hS, fun x F' H' v' e S1 f1 dv1 => ⟨F', S1, f1, e ▸ dv1⟩, fun _ _ _ _ _ _ q => q.elim⟩
  have hl : ([u] ++ []).length = ps.length := Fn.len _ _ _ _ spec
  have e0 : Env0 X.prog X.w X.K X.mg X.base B X.stack s H := by
    have e := I0.env0
    exact ⟨hfr, e.mod, e.bs, e.bsz, e.funs, e.frf, e.hok, e.bare⟩
  refine wpAny_call (codeAny_mono (Fn.run B X.stack s H ⟨[u], []⟩ [u] [v] _ _ hr e0 (hb s [u] I0.kIn hl) r2 spec) fun r s' hq => ?_)
  cases r with
  | error e => obtain ⟨_, _, _, _, _, _, _, _, _, _, _, _, h⟩ := hq; exact h.elim
  | ok fl =>
    cases fl with
    | next => exact False.elim hq
    | brk => exact False.elim hq
    | cont => exact False.elim hq
    | ret w =>
      obtain ⟨v', H', I', rv, F', S1, f1, dv1⟩ := I0.after hq
      have f1' : Same (fIn [] F H) F' := by rw [same_of_fIn]; exact f1
      obtain ⟨S2, f2⟩ := frame_out S0 hB S1 f1'
      rw [same_of_fOut] at S2 f2
      have za : zIn z (A ++ [S]) [] F H S = some oa := by rw [zA S (by simp) fa]; exact ha
      exact ⟨F', H', v', I', S2, f2, S1.zf S _ za, S1.fr S _ za, rv, dv1.kz⟩
/-- .. an iterator of ours besides -/
theorem srt_callI (Fn : FnOk X.prog X.w X.K X.mg X.base (L2.CX X.prog X.w) k f fd ps (spPure X.K X.w X.mg Sf)) (hr : Room k B) (hb : Binds X.K fd ps []) (hfr : B.frames = some X.stack) {F H : Hp} {s : Shared} (I0 : Inv X pins σ H s)
    (S0 : StO (kzX X z) (A ++ [S]) (M ++ [.dead]) F H) {v : V} {u : Value} {d : Dt} (r : RelV v u) (dv : Dv (kzX X z) F v d) (hS : Sf [d] (fun y => y = kf d) (fun _ _ => False)) {oa : HO} (fa : F S = none) (ha : H S = some oa) {i : Nat} (hI : ItOk X pins H I) (hit : s.heap.IsListIter I l i) :
    wpAny (model X.prog X.w) B (call (.ref f) [u]) (fun w s' => ∃ F' H' v', Inv X pins σ H' s' ∧ StO (kzX X z) (A ++ [S]) (M ++ [.dead]) F' H' ∧ Same F F' ∧ F' S = none ∧ H' S = some oa ∧ RelV v' w ∧ Dv (kzX X z) F' v' (kf d) ∧ ItOk X pins H' I ∧ s'.heap.IsListIter I l i) (fun _ _ => False) s := by
  obtain ⟨oI, hoI, hc, hd⟩ := hit
  have nc : ∀ v, oI.data ≠ .cell v := fun v e => by rw [hd] at e; cases e
  have I1 : Inv X ((I, oI) :: pins) σ H s := I0.pins_of fun p hp => by
    rcases List.mem_cons.mp hp with rfl | hp
    · exact ⟨hoI, hI.hn, hI.ne, hI.nf, nc⟩
    · exact I0.pin p (List.mem_append_right _ hp)
  refine wpAny_mono (srt_call1 Fn hr hb hfr I1 S0 r dv hS fa ha) (fun w s' h => ?_) fun _ _ e => e
  obtain ⟨F', H', v', I2, S2, f2, fa2, ha2, r2, dv2⟩ := h
  obtain ⟨e1, e2, _⟩ := I2.pin (I, oI) (List.mem_append_right _ List.mem_cons_self)
  exact ⟨F', H', v', I2.pins_of fun p hp => I2.pin p (List.mem_append_right _ (List.mem_cons_of_mem _ hp)), S2, f2, fa2, ha2, r2, dv2, ⟨e2, hI.ne, hI.nf, hI.sz, hI.cl, hI.pn⟩, oI, e1, hc, hd⟩
theorem ltOk_of2 {x y : Dt} (h : ltOk x y = true) : PySem.W.alike x y = true ∧ x ≠ .none ∧ x.depth ≤ 100 := by
  unfold ltOk at h
  rw [Bool.and_eq_true, Bool.and_eq_true] at h
  refine ⟨h.1.1, fun e => ?_, (good_of h.1.2).2⟩
  subst e; simp at h
def MinI (X : Cx) (z : Hp) (pins : List (Addr × Obj)) (σ : L2.St) (A : List Addr) (M : Sto) (F0 : Hp) (S I l : Addr) (m km : Dt) (i : Nat) (s : Shared) : Prop :=
  ∃ F H vb vk, Inv X pins σ H s ∧ StO (kzX X z) (A ++ [S]) (M ++ [.dead]) F H ∧ Same F0 F ∧ F S = none ∧ H S = some (.lst [vb, vk]) ∧ Dv (kzX X z) F vb m ∧ Dv (kzX X z) F vk km ∧ ItOk X pins H I ∧ s.heap.IsListIter I l i
theorem sto_dead {F H : Hp} {o : HO} (S0 : StO (kzX X z) (A ++ [S]) (M ++ [.dead]) F H) (fS : F S = none) : StO (kzX X z) (A ++ [S]) (M ++ [.dead]) F (upd H S o) := by
  have hl : A.length = M.length := by have := S0.len; simp at this; exact this
  have := S0.write (k := A.length) (a := S) (c := .dead) (o := o) (by simp) fS trivial
  have e : (M ++ [Cel.dead]).set A.length .dead = M ++ [.dead] := by
    rw [hl, List.set_append_right _ _ (Nat.le_refl _)]; simp
  rw [e] at this
  exact this

theorem kmin_loop (Fn : FnOk X.prog X.w X.K X.mg X.base (L2.CX X.prog X.w) k f fd ps (spPure X.K X.w X.mg Sf)) (hr : Room k B.in1) (hb : Binds X.K fd ps []) (hfr : B.frames = some X.stack) (hh : B.handled = none) (hu : B.units + 200 < cLine) (hSI : I ≠ S)
    (src : ∀ F H, StO (kzX X z) (A ++ [S]) (M ++ [.dead]) F H → Same F0 F → ∃ vv, SqL X.K H l vv ∧ DvAll (kzX X z) F vv ds)
    (hS : ∀ d ∈ ds, Sf [d] (fun y => y = kf d) (fun _ _ => False)) (hlt : ∀ x ∈ ds, ∀ y ∈ ds, ltOk (kf x) (kf y) = true) (kw : List (Str × Value)) {R : Result → Shared → Prop} (m0 : Dt)
    (done : ∀ F H vb u s', Inv X pins σ H s' → StO (kzX X z) (A ++ [S]) (M ++ [.dead]) F H → Same F0 F → F S = none → RelV vb u → Dv (kzX X z) F vb m0 → R (.ok (.ret u)) s') :
    ∀ (n i : Nat) (s : Shared) (m : Dt), ds.length - i = n → i ≤ ds.length → m ∈ ds → bestK ltB kf m (ds.drop i) = m0 → MinI X z pins σ A M F0 S I l m (kf m) i s → codeAny (model X.prog X.w) B (.builtin "min.loop" ⟨[.ref I, .ref f, .ref S], kw⟩) R s := by
  have hname : (toString "min" ++ toString ".loop" : String) = "min.loop" := by decide
  intro n
  induction n with
  | zero =>
    rintro i s m hn hi hm hb0 ⟨F, H, vb, vk, I0, S0, f0, fS, hHS, db, dk, hI, hit⟩
    obtain ⟨hzk, its, ne, rk, ek⟩ := I0.hok S _ hHS
    obtain ⟨vv, hsq, dv⟩ := src F H S0 f0
    obtain ⟨us, rv, hl, hz⟩ := I0.list hsq
    have hlen : us.length = ds.length := by rw [← rv.length, dv.len]
    cases rk with
    | cons rb t =>
    cases t with
    | cons rk t =>
    cases t
    rename_i ub uk
    have ei : i = ds.length := by omega
    refine codeAny_builtin PySem.F.entry_min_loop ?_
    rw [Around.under_plainId PySem.F.plain_min_loop _]
    show wpAny _ B.in1 (seqItems? (.ref S) >>= _) _ _ s
    refine wpAny_bind (wpAny_seqItems ek rfl ?_)
    show wpAny _ B.in1 (tryCatch (pyNext (.ref I)) _ >>= _) _ _ s
    refine wpAny_bind (wpAny_tryCatch (wpAny_pyNext_list_end hh hit hl.isList (by rw [ei, ← hlen]; simp) fun h' he' => ?_))
    have I1 := I0.turned (t' := s.toks) (fun b o hb e => he' b o hb e) hI.hn hI.ne (.inr hI.sz) hI.cl hI.pn
    have ek' : h'.get? S = _ := he' S _ hSI.symm ek
    show wpAny _ B.in1 (updateSeq S (fun _ => #[]) >>= _) _ _ _
    refine wpAny_bind ?_
    refine wpAny_updateSeq ek' rfl (wpAny_bind (wpAny_letGo (wpAny_pure ?_)))
    have I2 := I1.lset (its' := []) (ys := []) (f := fun _ => (#[] : Array Value)) (t' := s.toks) hHS ek' rfl .nil (Nat.zero_le _)
    have em : m = m0 := by rw [← hb0, ei, List.drop_length]; rfl
    exact done F _ vb ub _ I2 (sto_dead S0 fS) f0 fS rb (em ▸ db)
  | succ n ih =>
    rintro i s m hn hi hm hb0 ⟨F, H, vb, vk, I0, S0, f0, fS, hHS, db, dk, hI, hit⟩
    obtain ⟨hzk, its, ne, rk, ek⟩ := I0.hok S _ hHS
    obtain ⟨vv, hsq, dv⟩ := src F H S0 f0
    obtain ⟨us, rv, hl, hz⟩ := I0.list hsq
    have hlen : us.length = ds.length := by rw [← rv.length, dv.len]
    have hlt2 : i < ds.length := by omega
    have hlt1 : i < us.length := by omega
    cases rk with
    | cons rb t =>
    cases t with
    | cons rk t =>
    cases t
    rename_i ub uk
    have hx : us.toArray[i]? = some us[i] := by simp [hlt1]
    obtain ⟨v, hv, r⟩ := vals_at rv (List.getElem?_eq_getElem hlt1)
    obtain ⟨d, hd, dvd⟩ := dv.at hv
    have hdm : d ∈ ds := List.mem_of_getElem? hd
    have hdr : ds.drop i = d :: ds.drop (i + 1) := by
      rw [List.drop_eq_getElem_cons hlt2]
      have := List.getElem?_eq_getElem hlt2
      rw [this] at hd; cases hd; rfl
    rw [hdr] at hb0
    refine codeAny_builtin PySem.F.entry_min_loop ?_
    rw [Around.under_plainId PySem.F.plain_min_loop _]
    show wpAny _ B.in1 (seqItems? (.ref S) >>= _) _ _ s
    refine wpAny_bind (wpAny_seqItems ek rfl ?_)
    show wpAny _ B.in1 (tryCatch (pyNext (.ref I)) _ >>= _) _ _ s
    refine wpAny_bind (wpAny_tryCatch (wpAny_pyNext_list_item hit hl.isList hx fun h' hit' hs' => ?_))
    have I1 := I0.turned (t' := s.toks) (fun b o hb e => hs'.extBut b o hb e) hI.hn hI.ne (.inr hI.sz) hI.cl hI.pn
    show wpAny _ B.in1 (tryCatch (holding [us[i]] (call (.ref f) [us[i]])) _ >>= _) _ _ _
    refine wpAny_bind (wpAny_tryCatch (wpAny_holding (wpAny_mono (srt_callI Fn hr hb hfr I1 S0 r dvd (hS d hdm) fS hHS hI hit') (fun kx s2 he => ?_) fun _ _ hF => hF.elim)))
    obtain ⟨F', H', v', I2, S', f', fS', hHS', r', dv', hI', hit2⟩ := he
    show wpAny _ B.in1 (tryCatch (holding [us[i], kx] (richCompare .Lt kx uk >>= _)) _ >>= _) _ _ _
    obtain ⟨as, rd1⟩ := Dv.reads I2 (Dv.mono S'.sub dv') r'
    obtain ⟨bs, rd2⟩ := Dv.reads I2 (Dv.mono (f'.trans S'.sub) dk) rk
    have hok := hlt d hdm m hm
    refine wpAny_bind (wpAny_tryCatch (wpAny_holding (wpAny_bind (PySem.W.lt_data rd1 rd2 (ltOk_of2 hok).1 (ltOk_of2 hok).2.1 (by have := (ltOk_of2 hok).2.2; show B.units + 1 + _ < cLine; omega) ?_))))
    refine wpAny_bind (wpAny_holding (wpAny_truthy_bool ?_))
    refine wpAny_bind (wpAny_letGo (wpAny_pure ?_))
    obtain ⟨hzk2, its2, ne2, rk2, ek2⟩ := I2.hok S _ hHS'
    cases hbb : ltB (kf d) (kf m) with
    | true =>
      have hbb2 : PySem.W.dataLt (kf d) (kf m) = true := hbb
      rw [hbb2]
      simp only [if_true]
      refine wpAny_bind ?_
      refine wpAny_updateSeq ek2 rfl (wpAny_bind (wpAny_letGo ?_)) (by rw [List.size_toArray, ← rk2.length]; exact hzk2)
      rw [hname]
      have I3 := I2.lset (its' := [us[i], kx]) (ys := [v, v']) (f := fun _ => (#[us[i], kx] : Array Value)) (t' := s2.toks) hHS' ek2 rfl (.cons r (.cons r' .nil)) (by show 2 ≤ sizeLine; decide)
      refine wpAny_pure ⟨plainId_quiet PySem.F.plain_min_loop _, ih (i + 1) _ d (by omega) hlt2 hdm ?_ ⟨F', upd H' S (.lst [v, v']), v, v', I3, sto_dead S' fS', f0.trans f', fS', upd_same, Dv.mono f' dvd, dv', hI'.upd hSI, hit2.extBut (fun b o hb e => (Heap.get?_update_other _ _ (fun h => hb h.symm)).trans e) hSI⟩⟩
      rw [← hb0]
      show _ = bestK ltB kf (if ltB (kf d) (kf m) then d else m) _
      rw [hbb]; rfl
    | false =>
      have hbb2 : PySem.W.dataLt (kf d) (kf m) = false := hbb
      rw [hbb2]
      simp only [Bool.false_eq_true, if_false]
      refine wpAny_bind (wpAny_letGo ?_)
      rw [hname]
      refine wpAny_pure ⟨plainId_quiet PySem.F.plain_min_loop _, ih (i + 1) _ m (by omega) hlt2 hm ?_ ⟨F', H', vb, vk, I2, S', f0.trans f', fS', hHS', Dv.mono f' db, Dv.mono f' dk, hI', hit2⟩⟩
      rw [← hb0]
      show _ = bestK ltB kf (if ltB (kf d) (kf m) then d else m) _
      rw [hbb]; rfl
theorem kmin_first {x : Dt} {rest : List Dt} (hds : ds = x :: rest) (Fn : FnOk X.prog X.w X.K X.mg X.base (L2.CX X.prog X.w) k f fd ps (spPure X.K X.w X.mg Sf)) (hr : Room k B.in1) (hb : Binds X.K fd ps []) (hfr : B.frames = some X.stack) (hh : B.handled = none) (hu : B.units + 200 < cLine) (hSI : I ≠ S)
    (src : ∀ F H, StO (kzX X z) (A ++ [S]) (M ++ [.dead]) F H → Same F0 F → ∃ vv, SqL X.K H l vv ∧ DvAll (kzX X z) F vv ds)
    (hS : ∀ d ∈ ds, Sf [d] (fun y => y = kf d) (fun _ _ => False)) (hlt : ∀ x ∈ ds, ∀ y ∈ ds, ltOk (kf x) (kf y) = true) (kw : List (Str × Value)) {R : Result → Shared → Prop}
    (done : ∀ F H vb u s', Inv X pins σ H s' → StO (kzX X z) (A ++ [S]) (M ++ [.dead]) F H → Same F0 F → F S = none → RelV vb u → Dv (kzX X z) F vb (bestK ltB kf x rest) → R (.ok (.ret u)) s')
    {H : Hp} {s : Shared} (I0 : Inv X pins σ H s) (S0 : StO (kzX X z) (A ++ [S]) (M ++ [.dead]) F0 H) (fS : F0 S = none) (hHS : H S = some (.lst [])) (hI : ItOk X pins H I) (hit : s.heap.IsListIter I l 0) :
    codeAny (model X.prog X.w) B (.builtin "min.loop" ⟨[.ref I, .ref f, .ref S], kw⟩) R s := by
  have hname : (toString "min" ++ toString ".loop" : String) = "min.loop" := by decide
  obtain ⟨hzk, its, ne, rk, ek⟩ := I0.hok S _ hHS
  obtain ⟨vv, hsq, dv⟩ := src F0 H S0 (Same.refl _)
  obtain ⟨us, rv, hl, hz⟩ := I0.list hsq
  have hlen : us.length = ds.length := by rw [← rv.length, dv.len]
  have hlt1 : 0 < us.length := by rw [hlen, hds]; simp
  cases rk
  have hx : us.toArray[0]? = some us[0] := by simp [hlt1]
  obtain ⟨v, hv, r⟩ := vals_at rv (List.getElem?_eq_getElem hlt1)
  obtain ⟨d, hd, dvd⟩ := dv.at hv
  have ed : d = x := by rw [hds] at hd; simpa using hd.symm
  subst ed
  have hdm : d ∈ ds := List.mem_of_getElem? hd
  refine codeAny_builtin PySem.F.entry_min_loop ?_
  rw [Around.under_plainId PySem.F.plain_min_loop _]
  show wpAny _ B.in1 (seqItems? (.ref S) >>= _) _ _ s
  refine wpAny_bind (wpAny_seqItems ek rfl ?_)
  show wpAny _ B.in1 (tryCatch (pyNext (.ref I)) _ >>= _) _ _ s
  refine wpAny_bind (wpAny_tryCatch (wpAny_pyNext_list_item hit hl.isList hx fun h' hit' hs' => ?_))
  have I1 := I0.turned (t' := s.toks) (fun b o hb e => hs'.extBut b o hb e) hI.hn hI.ne (.inr hI.sz) hI.cl hI.pn
  show wpAny _ B.in1 (tryCatch (holding [us[0]] (call (.ref f) [us[0]])) _ >>= _) _ _ _
  refine wpAny_bind (wpAny_tryCatch (wpAny_holding (wpAny_mono (srt_callI Fn hr hb hfr I1 S0 r dvd (hS d hdm) fS hHS hI hit') (fun kx s2 he => ?_) fun _ _ hF => hF.elim)))
  obtain ⟨F', H', v', I2, S', f', fS', hHS', r', dv', hI', hit2⟩ := he
  obtain ⟨hzk2, its2, ne2, rk2, ek2⟩ := I2.hok S _ hHS'
  show wpAny _ B.in1 (updateSeq S (fun _ => #[us[0], kx]) >>= _) _ _ _
  refine wpAny_bind ?_
  refine wpAny_updateSeq ek2 rfl ?_ (by rw [List.size_toArray, ← rk2.length]; exact hzk2)
  rw [hname]
  have I3 := I2.lset (its' := [us[0], kx]) (ys := [v, v']) (f := fun _ => (#[us[0], kx] : Array Value)) (t' := s2.toks) hHS' ek2 rfl (.cons r (.cons r' .nil)) (by show 2 ≤ sizeLine; decide)
  refine wpAny_pure ⟨plainId_quiet PySem.F.plain_min_loop _, kmin_loop Fn hr hb hfr hh hu hSI src hS hlt kw (bestK ltB kf d rest) done _ 1 _ d rfl (by rw [hds]; simp) hdm (by rw [hds]; rfl) ⟨F', upd H' S (.lst [v, v']), v, v', I3, sto_dead S' fS', f', fS', upd_same, Dv.mono f' dvd, dv', hI'.upd hSI, hit2.extBut (fun b o hb e => (Heap.get?_update_other _ _ (fun h => hb h.symm)).trans e) hSI⟩⟩
/-- min(xs, key=f) -/
theorem kmin_run {x : Dt} {rest : List Dt} (hds : ds = x :: rest) (Fn : FnOk X.prog X.w X.K X.mg X.base (L2.CX X.prog X.w) k f fd ps (spPure X.K X.w X.mg Sf)) (hr : Room k X.A.in1) (hb : Binds X.K fd ps []) (hfr : X.A.frames = some X.stack) (hh : X.A.handled = none) (hu : X.A.units + 200 < cLine)
    (src : ∀ p F H, StO (kzX X z) (A ++ [p]) (M ++ [.dead]) F H → Same F0 F → ∃ vv, SqL X.K H l vv ∧ DvAll (kzX X z) F vv ds)
    (hS : ∀ d ∈ ds, Sf [d] (fun y => y = kf d) (fun _ _ => False)) (hlt : ∀ x ∈ ds, ∀ y ∈ ds, ltOk (kf x) (kf y) = true) {H : Hp} {s : Shared} {Qv : VK} (I0 : Inv X pins σ H s) (S0 : StO (kzX X z) A M F0 H) {vv0 : List V} (hsq0 : SqL X.K H l vv0)
    (h : ∀ F' H' v, StO (kzX X z) A M F' H' → Same F0 F' → Dv (kzX X z) F' v (bestK ltB kf x rest) → Qv v H') :
    wpAny (model X.prog X.w) X.A (call (.builtin "min") [.ref l] [(Str.ofString "key", .ref f)]) (EP X pins σ Qv) X.xe s := by
  have hname : (toString "min" ++ toString ".loop" : String) = "min.loop" := by decide
  obtain ⟨us, rv, hl, hz⟩ := I0.list hsq0
  refine PyProof.Rows.kmk_tree PySem.F.kind_min PySem.F.plain_min PySem.F.entry_min (PyProof.Rows.kmk_min_key _ _) ?_
  show wpAny _ X.A.in1 (Builtin.Builtins.bindParams "min" ["key", "default"] 0 ⟨[], [(Str.ofString "key", .ref f)]⟩ >>= _) _ _ s
  refine wpAny_bind (wpAny_of_eq (show Builtin.Builtins.bindParams "min" ["key", "default"] 0 ⟨[], [(Str.ofString "key", .ref f)]⟩ = pure [some (.ref f), none] from rfl) ?_)
  refine wpAny_bind (wpAny_pure ?_)
  refine wpAny_bind (wpAny_pyIter_list hl.isList ?_)
  have hI := ItOk.new I0
  have I1 := I0.kept (t' := s.toks) (h' := s.heap.push { cls := .type "list_iterator", data := .fields #[.ref l, .int 0 0] }) (fun b u e => Heap.get?_push_of_some _ e)
  have hsz : (s.heap.push { cls := .type "list_iterator", data := .fields #[.ref l, .int 0 0] }).objs.size = s.heap.objs.size + 1 := size_push' _ _
  refine wpAny_bind (wpAny_newObj_type ?_)
  rw [hname]
  have I2 := I1.lnew (its := []) (ys := []) (t' := s.toks) .nil (Nat.zero_le _)
  have hp := I1.fresh
  have S1 := S0.cell (o := .lst []) (c := .dead) hp trivial
  have hne : s.heap.objs.size ≠ (s.heap.push { cls := .type "list_iterator", data := .fields #[.ref l, .int 0 0] }).objs.size := by rw [hsz]; exact Nat.ne_of_lt (Nat.lt_succ_self _)
  refine wpAny_pure ⟨plainId_quiet PySem.F.plain_min_loop _, kmin_first hds Fn hr hb hfr hh hu hne (src _) hS hlt _ (fun F' H' vb u s' I' S' f' fS' rb db => ?_) I2 S1 (S0.freshF hp) upd_same (hI.upd hne) ⟨_, Heap.get?_push_of_some _ (Heap.get?_push_size _ rfl), rfl, rfl⟩⟩
  refine ⟨vb, H', I', rb, h F' H' vb ?_ f' db⟩
  have T := S'.trim S0.bd
  have eA : (A ++ [(s.heap.push { cls := .type "list_iterator", data := .fields #[.ref l, .int 0 0] }).objs.size]).take M.length = A := by
    rw [← S0.len]; simp
  rw [eA] at T
  exact T

theorem kmax_loop (Fn : FnOk X.prog X.w X.K X.mg X.base (L2.CX X.prog X.w) k f fd ps (spPure X.K X.w X.mg Sf)) (hr : Room k B.in1) (hb : Binds X.K fd ps []) (hfr : B.frames = some X.stack) (hh : B.handled = none) (hu : B.units + 200 < cLine) (hSI : I ≠ S)
    (src : ∀ F H, StO (kzX X z) (A ++ [S]) (M ++ [.dead]) F H → Same F0 F → ∃ vv, SqL X.K H l vv ∧ DvAll (kzX X z) F vv ds)
    (hS : ∀ d ∈ ds, Sf [d] (fun y => y = kf d) (fun _ _ => False)) (hlt : ∀ x ∈ ds, ∀ y ∈ ds, ltOk (kf x) (kf y) = true) (kw : List (Str × Value)) {R : Result → Shared → Prop} (m0 : Dt)
    (done : ∀ F H vb u s', Inv X pins σ H s' → StO (kzX X z) (A ++ [S]) (M ++ [.dead]) F H → Same F0 F → F S = none → RelV vb u → Dv (kzX X z) F vb m0 → R (.ok (.ret u)) s') :
    ∀ (n i : Nat) (s : Shared) (m : Dt), ds.length - i = n → i ≤ ds.length → m ∈ ds → bestK gtB kf m (ds.drop i) = m0 → MinI X z pins σ A M F0 S I l m (kf m) i s → codeAny (model X.prog X.w) B (.builtin "max.loop" ⟨[.ref I, .ref f, .ref S], kw⟩) R s := by
  have hname : (toString "max" ++ toString ".loop" : String) = "max.loop" := by decide
  intro n
  induction n with
  | zero =>
    rintro i s m hn hi hm hb0 ⟨F, H, vb, vk, I0, S0, f0, fS, hHS, db, dk, hI, hit⟩
    obtain ⟨hzk, its, ne, rk, ek⟩ := I0.hok S _ hHS
    obtain ⟨vv, hsq, dv⟩ := src F H S0 f0
    obtain ⟨us, rv, hl, hz⟩ := I0.list hsq
    have hlen : us.length = ds.length := by rw [← rv.length, dv.len]
    cases rk with
    | cons rb t =>
    cases t with
    | cons rk t =>
    cases t
    rename_i ub uk
    have ei : i = ds.length := by omega
    refine codeAny_builtin PySem.F.entry_max_loop ?_
    rw [Around.under_plainId PySem.F.plain_max_loop _]
    show wpAny _ B.in1 (seqItems? (.ref S) >>= _) _ _ s
    refine wpAny_bind (wpAny_seqItems ek rfl ?_)
    show wpAny _ B.in1 (tryCatch (pyNext (.ref I)) _ >>= _) _ _ s
    refine wpAny_bind (wpAny_tryCatch (wpAny_pyNext_list_end hh hit hl.isList (by rw [ei, ← hlen]; simp) fun h' he' => ?_))
    have I1 := I0.turned (t' := s.toks) (fun b o hb e => he' b o hb e) hI.hn hI.ne (.inr hI.sz) hI.cl hI.pn
    have ek' : h'.get? S = _ := he' S _ hSI.symm ek
    show wpAny _ B.in1 (updateSeq S (fun _ => #[]) >>= _) _ _ _
    refine wpAny_bind ?_
    refine wpAny_updateSeq ek' rfl (wpAny_bind (wpAny_letGo (wpAny_pure ?_)))
    have I2 := I1.lset (its' := []) (ys := []) (f := fun _ => (#[] : Array Value)) (t' := s.toks) hHS ek' rfl .nil (Nat.zero_le _)
    have em : m = m0 := by rw [← hb0, ei, List.drop_length]; rfl
    exact done F _ vb ub _ I2 (sto_dead S0 fS) f0 fS rb (em ▸ db)
  | succ n ih =>
    rintro i s m hn hi hm hb0 ⟨F, H, vb, vk, I0, S0, f0, fS, hHS, db, dk, hI, hit⟩
    obtain ⟨hzk, its, ne, rk, ek⟩ := I0.hok S _ hHS
    obtain ⟨vv, hsq, dv⟩ := src F H S0 f0
    obtain ⟨us, rv, hl, hz⟩ := I0.list hsq
    have hlen : us.length = ds.length := by rw [← rv.length, dv.len]
    have hlt2 : i < ds.length := by omega
    have hlt1 : i < us.length := by omega
    cases rk with
    | cons rb t =>
    cases t with
    | cons rk t =>
    cases t
    rename_i ub uk
    have hx : us.toArray[i]? = some us[i] := by simp [hlt1]
    obtain ⟨v, hv, r⟩ := vals_at rv (List.getElem?_eq_getElem hlt1)
    obtain ⟨d, hd, dvd⟩ := dv.at hv
    have hdm : d ∈ ds := List.mem_of_getElem? hd
    have hdr : ds.drop i = d :: ds.drop (i + 1) := by
      rw [List.drop_eq_getElem_cons hlt2]
      have := List.getElem?_eq_getElem hlt2
      rw [this] at hd; cases hd; rfl
    rw [hdr] at hb0
    refine codeAny_builtin PySem.F.entry_max_loop ?_
    rw [Around.under_plainId PySem.F.plain_max_loop _]
    show wpAny _ B.in1 (seqItems? (.ref S) >>= _) _ _ s
    refine wpAny_bind (wpAny_seqItems ek rfl ?_)
    show wpAny _ B.in1 (tryCatch (pyNext (.ref I)) _ >>= _) _ _ s
    refine wpAny_bind (wpAny_tryCatch (wpAny_pyNext_list_item hit hl.isList hx fun h' hit' hs' => ?_))
    have I1 := I0.turned (t' := s.toks) (fun b o hb e => hs'.extBut b o hb e) hI.hn hI.ne (.inr hI.sz) hI.cl hI.pn
    show wpAny _ B.in1 (tryCatch (holding [us[i]] (call (.ref f) [us[i]])) _ >>= _) _ _ _
    refine wpAny_bind (wpAny_tryCatch (wpAny_holding (wpAny_mono (srt_callI Fn hr hb hfr I1 S0 r dvd (hS d hdm) fS hHS hI hit') (fun kx s2 he => ?_) fun _ _ hF => hF.elim)))
    obtain ⟨F', H', v', I2, S', f', fS', hHS', r', dv', hI', hit2⟩ := he
    show wpAny _ B.in1 (tryCatch (holding [us[i], kx] (richCompare .Gt kx uk >>= _)) _ >>= _) _ _ _
    obtain ⟨as, rd1⟩ := Dv.reads I2 (Dv.mono S'.sub dv') r'
    obtain ⟨bs, rd2⟩ := Dv.reads I2 (Dv.mono (f'.trans S'.sub) dk) rk
    have hok := hlt d hdm m hm
    refine wpAny_bind (wpAny_tryCatch (wpAny_holding (wpAny_bind (PySem.W.gt_data rd1 rd2 (ltOk_of2 hok).1 (ltOk_of2 hok).2.1 (by have := (ltOk_of2 hok).2.2; show B.units + 1 + _ < cLine; omega) ?_))))
    refine wpAny_bind (wpAny_holding (wpAny_truthy_bool ?_))
    refine wpAny_bind (wpAny_letGo (wpAny_pure ?_))
    obtain ⟨hzk2, its2, ne2, rk2, ek2⟩ := I2.hok S _ hHS'
    cases hbb : gtB (kf d) (kf m) with
    | true =>
      have hbb2 : PySem.W.dataLt (kf m) (kf d) = true := hbb
      rw [hbb2]
      simp only [if_true]
      refine wpAny_bind ?_
      refine wpAny_updateSeq ek2 rfl (wpAny_bind (wpAny_letGo ?_)) (by rw [List.size_toArray, ← rk2.length]; exact hzk2)
      rw [hname]
      have I3 := I2.lset (its' := [us[i], kx]) (ys := [v, v']) (f := fun _ => (#[us[i], kx] : Array Value)) (t' := s2.toks) hHS' ek2 rfl (.cons r (.cons r' .nil)) (by show 2 ≤ sizeLine; decide)
      refine wpAny_pure ⟨plainId_quiet PySem.F.plain_max_loop _, ih (i + 1) _ d (by omega) hlt2 hdm ?_ ⟨F', upd H' S (.lst [v, v']), v, v', I3, sto_dead S' fS', f0.trans f', fS', upd_same, Dv.mono f' dvd, dv', hI'.upd hSI, hit2.extBut (fun b o hb e => (Heap.get?_update_other _ _ (fun h => hb h.symm)).trans e) hSI⟩⟩
      rw [← hb0]
      show _ = bestK gtB kf (if gtB (kf d) (kf m) then d else m) _
      rw [hbb]; rfl
    | false =>
      have hbb2 : PySem.W.dataLt (kf m) (kf d) = false := hbb
      rw [hbb2]
      simp only [Bool.false_eq_true, if_false]
      refine wpAny_bind (wpAny_letGo ?_)
      rw [hname]
      refine wpAny_pure ⟨plainId_quiet PySem.F.plain_max_loop _, ih (i + 1) _ m (by omega) hlt2 hm ?_ ⟨F', H', vb, vk, I2, S', f0.trans f', fS', hHS', Dv.mono f' db, Dv.mono f' dk, hI', hit2⟩⟩
      rw [← hb0]
      show _ = bestK gtB kf (if gtB (kf d) (kf m) then d else m) _
      rw [hbb]; rfl
theorem kmax_first {x : Dt} {rest : List Dt} (hds : ds = x :: rest) (Fn : FnOk X.prog X.w X.K X.mg X.base (L2.CX X.prog X.w) k f fd ps (spPure X.K X.w X.mg Sf)) (hr : Room k B.in1) (hb : Binds X.K fd ps []) (hfr : B.frames = some X.stack) (hh : B.handled = none) (hu : B.units + 200 < cLine) (hSI : I ≠ S)
    (src : ∀ F H, StO (kzX X z) (A ++ [S]) (M ++ [.dead]) F H → Same F0 F → ∃ vv, SqL X.K H l vv ∧ DvAll (kzX X z) F vv ds)
    (hS : ∀ d ∈ ds, Sf [d] (fun y => y = kf d) (fun _ _ => False)) (hlt : ∀ x ∈ ds, ∀ y ∈ ds, ltOk (kf x) (kf y) = true) (kw : List (Str × Value)) {R : Result → Shared → Prop}
    (done : ∀ F H vb u s', Inv X pins σ H s' → StO (kzX X z) (A ++ [S]) (M ++ [.dead]) F H → Same F0 F → F S = none → RelV vb u → Dv (kzX X z) F vb (bestK gtB kf x rest) → R (.ok (.ret u)) s')
    {H : Hp} {s : Shared} (I0 : Inv X pins σ H s) (S0 : StO (kzX X z) (A ++ [S]) (M ++ [.dead]) F0 H) (fS : F0 S = none) (hHS : H S = some (.lst [])) (hI : ItOk X pins H I) (hit : s.heap.IsListIter I l 0) :
    codeAny (model X.prog X.w) B (.builtin "max.loop" ⟨[.ref I, .ref f, .ref S], kw⟩) R s := by
  have hname : (toString "max" ++ toString ".loop" : String) = "max.loop" := by decide
  obtain ⟨hzk, its, ne, rk, ek⟩ := I0.hok S _ hHS
  obtain ⟨vv, hsq, dv⟩ := src F0 H S0 (Same.refl _)
  obtain ⟨us, rv, hl, hz⟩ := I0.list hsq
  have hlen : us.length = ds.length := by rw [← rv.length, dv.len]
  have hlt1 : 0 < us.length := by rw [hlen, hds]; simp
  cases rk
  have hx : us.toArray[0]? = some us[0] := by simp [hlt1]
  obtain ⟨v, hv, r⟩ := vals_at rv (List.getElem?_eq_getElem hlt1)
  obtain ⟨d, hd, dvd⟩ := dv.at hv
  have ed : d = x := by rw [hds] at hd; simpa using hd.symm
  subst ed
  have hdm : d ∈ ds := List.mem_of_getElem? hd
  refine codeAny_builtin PySem.F.entry_max_loop ?_
  rw [Around.under_plainId PySem.F.plain_max_loop _]
  show wpAny _ B.in1 (seqItems? (.ref S) >>= _) _ _ s
  refine wpAny_bind (wpAny_seqItems ek rfl ?_)
  show wpAny _ B.in1 (tryCatch (pyNext (.ref I)) _ >>= _) _ _ s
  refine wpAny_bind (wpAny_tryCatch (wpAny_pyNext_list_item hit hl.isList hx fun h' hit' hs' => ?_))
  have I1 := I0.turned (t' := s.toks) (fun b o hb e => hs'.extBut b o hb e) hI.hn hI.ne (.inr hI.sz) hI.cl hI.pn
  show wpAny _ B.in1 (tryCatch (holding [us[0]] (call (.ref f) [us[0]])) _ >>= _) _ _ _
  refine wpAny_bind (wpAny_tryCatch (wpAny_holding (wpAny_mono (srt_callI Fn hr hb hfr I1 S0 r dvd (hS d hdm) fS hHS hI hit') (fun kx s2 he => ?_) fun _ _ hF => hF.elim)))
  obtain ⟨F', H', v', I2, S', f', fS', hHS', r', dv', hI', hit2⟩ := he
  obtain ⟨hzk2, its2, ne2, rk2, ek2⟩ := I2.hok S _ hHS'
  show wpAny _ B.in1 (updateSeq S (fun _ => #[us[0], kx]) >>= _) _ _ _
  refine wpAny_bind ?_
  refine wpAny_updateSeq ek2 rfl ?_ (by rw [List.size_toArray, ← rk2.length]; exact hzk2)
  rw [hname]
  have I3 := I2.lset (its' := [us[0], kx]) (ys := [v, v']) (f := fun _ => (#[us[0], kx] : Array Value)) (t' := s2.toks) hHS' ek2 rfl (.cons r (.cons r' .nil)) (by show 2 ≤ sizeLine; decide)
  refine wpAny_pure ⟨plainId_quiet PySem.F.plain_max_loop _, kmax_loop Fn hr hb hfr hh hu hSI src hS hlt kw (bestK gtB kf d rest) done _ 1 _ d rfl (by rw [hds]; simp) hdm (by rw [hds]; rfl) ⟨F', upd H' S (.lst [v, v']), v, v', I3, sto_dead S' fS', f', fS', upd_same, Dv.mono f' dvd, dv', hI'.upd hSI, hit2.extBut (fun b o hb e => (Heap.get?_update_other _ _ (fun h => hb h.symm)).trans e) hSI⟩⟩
/-- max(xs, key=f) -/
theorem kmax_run {x : Dt} {rest : List Dt} (hds : ds = x :: rest) (Fn : FnOk X.prog X.w X.K X.mg X.base (L2.CX X.prog X.w) k f fd ps (spPure X.K X.w X.mg Sf)) (hr : Room k X.A.in1) (hb : Binds X.K fd ps []) (hfr : X.A.frames = some X.stack) (hh : X.A.handled = none) (hu : X.A.units + 200 < cLine)
    (src : ∀ p F H, StO (kzX X z) (A ++ [p]) (M ++ [.dead]) F H → Same F0 F → ∃ vv, SqL X.K H l vv ∧ DvAll (kzX X z) F vv ds)
    (hS : ∀ d ∈ ds, Sf [d] (fun y => y = kf d) (fun _ _ => False)) (hlt : ∀ x ∈ ds, ∀ y ∈ ds, ltOk (kf x) (kf y) = true) {H : Hp} {s : Shared} {Qv : VK} (I0 : Inv X pins σ H s) (S0 : StO (kzX X z) A M F0 H) {vv0 : List V} (hsq0 : SqL X.K H l vv0)
    (h : ∀ F' H' v, StO (kzX X z) A M F' H' → Same F0 F' → Dv (kzX X z) F' v (bestK gtB kf x rest) → Qv v H') :
    wpAny (model X.prog X.w) X.A (call (.builtin "max") [.ref l] [(Str.ofString "key", .ref f)]) (EP X pins σ Qv) X.xe s := by
  have hname : (toString "max" ++ toString ".loop" : String) = "max.loop" := by decide
  obtain ⟨us, rv, hl, hz⟩ := I0.list hsq0
  refine PyProof.Rows.kmk_tree PySem.F.kind_max PySem.F.plain_max PySem.F.entry_max (PyProof.Rows.kmk_max_key _ _) ?_
  show wpAny _ X.A.in1 (Builtin.Builtins.bindParams "max" ["key", "default"] 0 ⟨[], [(Str.ofString "key", .ref f)]⟩ >>= _) _ _ s
  refine wpAny_bind (wpAny_of_eq (show Builtin.Builtins.bindParams "max" ["key", "default"] 0 ⟨[], [(Str.ofString "key", .ref f)]⟩ = pure [some (.ref f), none] from rfl) ?_)
  refine wpAny_bind (wpAny_pure ?_)
  refine wpAny_bind (wpAny_pyIter_list hl.isList ?_)
  have hI := ItOk.new I0
  have I1 := I0.kept (t' := s.toks) (h' := s.heap.push { cls := .type "list_iterator", data := .fields #[.ref l, .int 0 0] }) (fun b u e => Heap.get?_push_of_some _ e)
  have hsz : (s.heap.push { cls := .type "list_iterator", data := .fields #[.ref l, .int 0 0] }).objs.size = s.heap.objs.size + 1 := size_push' _ _
  refine wpAny_bind (wpAny_newObj_type ?_)
  rw [hname]
  have I2 := I1.lnew (its := []) (ys := []) (t' := s.toks) .nil (Nat.zero_le _)
  have hp := I1.fresh
  have S1 := S0.cell (o := .lst []) (c := .dead) hp trivial
  have hne : s.heap.objs.size ≠ (s.heap.push { cls := .type "list_iterator", data := .fields #[.ref l, .int 0 0] }).objs.size := by rw [hsz]; exact Nat.ne_of_lt (Nat.lt_succ_self _)
  refine wpAny_pure ⟨plainId_quiet PySem.F.plain_max_loop _, kmax_first hds Fn hr hb hfr hh hu hne (src _) hS hlt _ (fun F' H' vb u s' I' S' f' fS' rb db => ?_) I2 S1 (S0.freshF hp) upd_same (hI.upd hne) ⟨_, Heap.get?_push_of_some _ (Heap.get?_push_size _ rfl), rfl, rfl⟩⟩
  refine ⟨vb, H', I', rb, h F' H' vb ?_ f' db⟩
  have T := S'.trim S0.bd
  have eA : (A ++ [(s.heap.push { cls := .type "list_iterator", data := .fields #[.ref l, .int 0 0] }).objs.size]).take M.length = A := by
    rw [← S0.len]; simp
  rw [eA] at T
  exact T
end
end DX

namespace DX
open PySem PySem.Calls PySem.Spec PyProof.Rows L2
section
variable {G : Sx} {Γ : Ec} {M : Sto} {Q : QE} {R : QR} {pos p2 p3 kp : Pos} {a : Expr}
theorem asl_dead {M : Sto} {r : Im} {xs : List Im} {c : Cel} (h : AsL M r xs) : AsL (M ++ [c]) r xs := by
  cases h with
  | d ds => exact .d ds
  | p h hx => exact .p (by rw [List.getElem?_append_left (List.getElem?_eq_some_iff.mp h).1]; exact h) hx
theorem ev_minK (h0 : G.hot = none) {mx : Bool} {k : Nat} {g : FnE} {S : List Dt → (Dt → Prop) → (Str → List (Str × Dt) → Prop) → Prop} (D : DefOk G.P G.w G.K G.mg G.base k g) (hk2 : k + 1 ≤ G.k) (hdf : g.df = []) (hsp : g.sp = .pure S) (hg : G.sc.names.lookup g.name = some .globalImplicit) (hdb : (g.name == ("__debug__" : Str)) = false)
    (hgs : G.sc.names.lookup (mxN mx) = some .globalImplicit) (hm : G.mg (mxN mx) = none) (hs : PlainA a [])
    (h : EvX G a Γ M (fun r M1 => minkW mx (.pure S) [] r M1 Q) R) :
    EvX G (.Call (.Name (mxN mx) p2) [a] [⟨some "key", .Name g.name p3, kp⟩] pos) Γ M Q R := by
  obtain ⟨k', f, fd, ps, dvs, dss, hF, hk, hmf, hkp, hb, hd, hdv⟩ := D.ex
  rw [hsp] at hF
  have e1 : dvs = [] := by
    have := (hdv G.z (fun _ => none)).len
    rw [hdf] at this
    exact List.eq_nil_of_length_eq_zero this
  subst e1
  have e2 : dss = [] := by cases hd; rfl
  subst e2
  intro A F σ H Qv S0 L hQ hR
  have fin : ∀ id : String, (∀ X, G.Has X → ∀ (pins : List (Addr × Obj)) (s : Shared) (σ : L2.St) (A1 : List Addr) (M1 : Sto) (F1 H1 : Hp) (l : Addr) (r : Im) (x : Dt) (rest : List Dt) (kf : Dt → Dt), AsL M1 r ((x :: rest).map .d) → ImR G.kw A1 F1 r (.ref l) → (∀ d ∈ x :: rest, S [d] (fun y => y = kf d) (fun _ _ => False)) → (∀ x' ∈ x :: rest, ∀ y ∈ x :: rest, ltOk (kf x') (kf y) = true) →
      Inv X pins σ H1 s → StO G.kw A1 M1 F1 H1 → ∀ Qv : VK, (∀ F' H' v, StO G.kw A1 M1 F' H' → Same F1 F' → Dv G.kw F' v (bestK (if mx then gtB else ltB) kf x rest) → Qv v H') → wpAny (model X.prog X.w) X.A (call (.builtin id) [.ref l] [(Str.ofString "key", .ref f)]) (EP X pins σ Qv) X.xe s) →
      tSA G [a] σ H (fun xs H1 => rAllK G (.builtin id) [Str.ofString "key"] xs [.ref f] H1 Qv) := fun id hid => by
    refine eva_cons (Q := fun rs M1 => ∃ r, rs = [r] ∧ minkW mx (.pure S) [] r M1 Q) hs (h.imp fun r M1 q => eva_nil ⟨r, rfl, q⟩) A F σ H _ S0 L (fun rs M1 A1 F1 H1 vs q S1 a1 f1 r1 => ?_) hR
    obtain ⟨r, rfl, q⟩ := q
    unfold minkW at q
    split at q
    · rename_i x rest S' e1 e2 _
      cases e2
      obtain ⟨kf, hS, hlt, q⟩ := q
      cases r1 with
      | cons r1 t =>
      cases t
      have hl := asLD_L e1
      obtain ⟨l, vv, rfl, hsq, rs⟩ := hl.sq S1 r1
      intro X hX pins s σ' us ws I ru rw'
      obtain rfl := Vals.ref1 ru
      obtain rfl : ws = [.ref f] := Vals.ref1 rw'
      exact hid X hX pins s σ' A1 M1 F1 H1 l r x rest kf hl r1 hS hlt I S1 Qv fun F' H' v S' f' dv => (hQ.mono a1 f1) _ _ _ _ _ _ q S' (ALe.refl _) f' dv
    · exact q.elim
  have src : ∀ {X : Cx} (hX : G.Has X) {A1 : List Addr} {M1 : Sto} {F1 : Hp} {r : Im} {l : Addr} {ds : List Dt}, AsL M1 r (ds.map .d) → ImR G.kw A1 F1 r (.ref l) → ∀ p F H, StO (kzX X G.z) (A1 ++ [p]) (M1 ++ [.dead]) F H → Same F1 F → ∃ vv, SqL X.K H l vv ∧ DvAll (kzX X G.z) F vv ds := fun {X} hX {A1 M1 F1 r l ds} hl r1 p F H S' f' => by
    rw [kw_eq hX] at S' ⊢
    obtain ⟨l', vv, e, hsq, rs⟩ := (asl_dead (c := .dead) hl).sq S' (r1.mono (ALe.app _ _) f')
    cases e
    exact ⟨vv, by rw [hX.K]; exact hsq, dpAll_of rs⟩
  refine tS_of (t := tCKw (rAllK G (.builtin (if mx then "max" else "min")) [Str.ofString "key"]) (tSA G [a]) (tCons (tC (.ref f)) tNil)) (fun X hX => ?_) ?_
  · cases mx with
    | true => exact pe_callBK (calr_allK X hX) (gl_of hX hgs) (by rw [hX.mg]; exact hm) (by decide +kernel) (pa_S hX [a]) (pk_cons (pe_glob (gl_of hX hg) (by rw [hX.mg]; exact hmf) rfl hdb) pk_nil) (by decide) (by decide) (by rw [hs]; rfl) (by rw [hs]; rfl)
    | false => exact pe_callBK (calr_allK X hX) (gl_of hX hgs) (by rw [hX.mg]; exact hm) (by decide +kernel) (pa_S hX [a]) (pk_cons (pe_glob (gl_of hX hg) (by rw [hX.mg]; exact hmf) rfl hdb) pk_nil) (by decide) (by decide) (by rw [hs]; rfl) (by rw [hs]; rfl)
  · refine fin _ fun X hX pins s σ' A1 M1 F1 H1 l r x rest kf hl r1 hS hlt I S1 Qv h => ?_
    have ek := kw_eq hX
    obtain ⟨l', vv, e, hsq, rs⟩ := hl.sq S1 r1
    cases e
    have hr : Room k' X.A.in1 := Room.in1 ((hX.room h0).mono (by omega))
    cases mx with
    | true => exact kmax_run (z := G.z) (A := A1) (M := M1) (F0 := F1) (kf := kf) rfl (by rw [hX.prog, hX.w, hX.K, hX.mg, hX.base]; exact hF) hr (by rw [hX.K]; exact hb) I.ok.frames (I.ok.hd (hX.calm h0)) (hu_X hX) (src hX hl r1) hS hlt I (by rw [ek]; exact S1) (by rw [hX.K]; exact hsq) (by rw [ek]; exact h)
    | false => exact kmin_run (z := G.z) (A := A1) (M := M1) (F0 := F1) (kf := kf) rfl (by rw [hX.prog, hX.w, hX.K, hX.mg, hX.base]; exact hF) hr (by rw [hX.K]; exact hb) I.ok.frames (I.ok.hd (hX.calm h0)) (hu_X hX) (src hX hl r1) hS hlt I (by rw [ek]; exact S1) (by rw [hX.K]; exact hsq) (by rw [ek]; exact h)
end
end DX

namespace PySem.SeqAt
open AutoSeq1 (wpAny_loadPart')
open MeetsSeq MeetsSeq2 MeetsSeq3
section
variable {prog : Program} {w : World}
theorem dx_ne_loop (l b : Addr) (items items2 : Array Value) (n n2 : Nat) (dd dd2 : Option Addr) (sl sl2 : Array (Option Value)) (hsz : items.size = items2.size) (e : Nat → Bool) (k : Nat) :
    ∀ i : Nat, items.size - i = k → MeetsIn prog w (Builtin.«list.__eq__.loop» ⟨[.ref l, .ref b, rawInt i, rawInt 3], []⟩)
      (fun A R s => s.heap.get? l = some { cls := .type "list", dict := dd, data := .seq items n, slots := sl } ∧ s.heap.get? b = some { cls := .type "list", dict := dd2, data := .seq items2 n2, slots := sl2 } ∧
        (∀ j (h1 : j < items.size) (h2 : j < items2.size), EqP prog w A.in1 s items[j] items2[j] (e j)) ∧ R (.ok (.ret (.bool (!((List.range items.size).drop i).all e)))) s) := by
  induction k with
  | zero =>
    intro i hk A R s h
    obtain ⟨hp, g, d, tk, os⟩ := s
    obtain ⟨hl, hb, he, h⟩ := h
    wp_walk using wpAny_loadPart' hl, wpAny_loadPart' hb
    have q1 : items[((i : Nat) : Int).toNat]? = none := by simp; omega
    have q2 : items2[((i : Nat) : Int).toNat]? = none := by simp; omega
    have q3 : (List.range items.size).drop i = [] := by simp; omega
    rw [q3] at h
    rw [q1, q2]
    wp_walk using wpAny_loadPart' hl, wpAny_loadPart' hb
    show R (.ok (.ret (.bool (items.size != items2.size)))) _
    rw [hsz]
    simpa using h
  | succ k ih =>
    intro i hk A R s h
    obtain ⟨hp, g, d, tk, os⟩ := s
    obtain ⟨hl, hb, he, h⟩ := h
    wp_walk using wpAny_loadPart' hl, wpAny_loadPart' hb
    have p1 : i < items.size := by omega
    have p2 : i < items2.size := by omega
    have q1 : items[((i : Nat) : Int).toNat]? = some items[i] := by simp [p1]
    have q2 : items2[((i : Nat) : Int).toNat]? = some items2[i] := by simp [p2]
    have q3 : (List.range items.size).drop i = i :: (List.range items.size).drop (i + 1) := by simp [List.drop_eq_getElem_cons, p1]
    have q4 : ((i : Int) + 1) = ((i + 1 : Nat) : Int) := by push_cast; rfl
    rw [q3, List.all_cons] at h
    rw [q1, q2]
    refine wpAny_bind (he i p1 p2 _ _ ?_)
    cases q5 : e i with
    | true =>
      rw [q5] at h
      wp_walk
      rw [q4]
      exact ⟨plainId_quiet plain_eq_loop _, codeAny_builtin entry_eq_loop (by
        rw [Around.under_plainId plain_eq_loop _]
        exact ih (i + 1) (by omega) A R _ ⟨hl, hb, he, by simpa using h⟩)⟩
    | false =>
      rw [q5] at h
      wp_walk using wpAny_loadPart' hl, wpAny_loadPart' hb
      rw [q1, q2]
      wp_walk
      simpa using h
theorem dx_list_ne (l b : Addr) (items items2 : Array Value) (n n2 : Nat) (dd dd2 : Option Addr) (sl sl2 : Array (Option Value)) (hsz : items.size = items2.size) (e : Nat → Bool) :
    MeetsIn prog w (Builtin.«list.__ne__» ⟨[.ref l, .ref b], []⟩)
      (fun A R s => s.heap.get? l = some { cls := .type "list", dict := dd, data := .seq items n, slots := sl } ∧ s.heap.get? b = some { cls := .type "list", dict := dd2, data := .seq items2 n2, slots := sl2 } ∧
        (∀ j (h1 : j < items.size) (h2 : j < items2.size), EqP prog w A.in1 s items[j] items2[j] (e j)) ∧ R (.ok (.ret (.bool (!(List.range items.size).all e)))) s) := by
  intro A R s h
  obtain ⟨hp, g, d, tk, os⟩ := s
  obtain ⟨hl, hb, he, h⟩ := h
  have q := AutoSeq1.sub_list_list
  have hne : ¬ (items.size != items2.size) = true := by simp [hsz]
  wp_walk using wpAny_loadPart' hl, wpAny_loadPart' hb
  exact ⟨plainId_quiet plain_eq_loop _, codeAny_builtin entry_eq_loop (by
    rw [Around.under_plainId plain_eq_loop _]
    exact dx_ne_loop l b items items2 n n2 dd dd2 sl sl2 hsz e _ 0 rfl A R _ ⟨hl, hb, he, by simpa using h⟩)⟩
theorem dx_nlists {A : Around} {s : Shared} {l b : Addr} {items items2 : Array Value} {e : Nat → Bool} (hl : s.heap.IsList l items) (hb : s.heap.IsList b items2) (hsz : items.size = items2.size) (hu : A.units < cLine)
    (he : ∀ j (h1 : j < items.size) (h2 : j < items2.size), EqP prog w A.in1 s items[j] items2[j] (e j)) (E Q : Value → Shared → Prop) (h : Q (.bool (!(List.range items.size).all e)) s) : wpAny (model prog w) A (richCompare .NotEq (.ref l) (.ref b)) Q E s := by
  obtain ⟨⟨cls, dd, data, sl⟩, ho, hc, n, hd⟩ := id hl
  obtain ⟨⟨cls2, dd2, data2, sl2⟩, ho2, hc2, n2, hd2⟩ := id hb
  simp only at hc hd hc2 hd2
  subst hc hd hc2 hd2
  have ta : s.TypeIs (.ref l) "list" := ⟨_, ho, rfl⟩
  have tb : s.TypeIs (.ref b) "list" := ⟨_, ho2, rfl⟩
  exact wpAny_richCompare_same_room (op := .NotEq) ta tb F.slot_list_ne (call_meetsIn F.slot_list_ne ta F.entry_list_ne (F.args_list_ne_2 _ _) (dx_list_ne l b items items2 n n2 dd dd2 sl sl2 hsz e)
    ⟨ho, ho2, he, show Value.bool (!(List.range items.size).all e) ≠ Value.notImplemented ∧ Q (.bool (!(List.range items.size).all e)) s from ⟨(fun x => nomatch x), h⟩⟩) hu
end
end PySem.SeqAt
namespace DX
open PySem PySem.Calls PySem.Spec PyProof.Rows L2

theorem keyB_self {d : Dt} (h : atomK d = true) : keyB d d = true := by
  obtain ⟨k, rfl⟩ := atom_kD h
  rw [keyB_kD]; simp
theorem dGet_nod : ∀ {kvs : List (Dt × Dt)}, kvs.all (fun p => atomK p.1) = true → nodK kvs = true → ∀ {y x : Dt}, (y, x) ∈ kvs → dGet (kvs.map fun p => (p.1, Im.d p.2)) y = some (.d x)
  | [], _, _, _, _, h => by simp at h
  | (k, v) :: r, ha, hn, y, x, h => by
    rw [List.all_cons, Bool.and_eq_true] at ha
    unfold nodK at hn
    rw [Bool.and_eq_true] at hn
    rcases List.mem_cons.mp h with e | h'
    · cases e
      have := keyB_self ha.1
      simp [dGet, this]
    · have hne : keyB k y = false := by
        have q := hn.1
        cases e : keyB k y with
        | false => rfl
        | true =>
          have hy : atomK y = true := (List.all_eq_true.mp ha.2) (y, x) h'
          obtain ⟨a, rfl⟩ := atom_kD ha.1
          obtain ⟨b, rfl⟩ := atom_kD hy
          rw [keyB_kD] at e
          have eb := of_decide_eq_true e
          subst eb
          have : (r.any fun q => keyB q.1 (kD a)) = true := List.any_eq_true.mpr ⟨(kD a, x), h', by rw [keyB_kD]; simp⟩
          dsimp only at q
          rw [this] at q; cases q
      have ih := dGet_nod ha.2 hn.2 h'
      unfold dGet at ih ⊢
      rw [List.map_cons, List.find?_cons]
      dsimp only
      rw [hne]
      exact ih
section
variable {X : Cx} {pins : List (Addr × Obj)} {σ : L2.St} {H F : Hp} {s : Shared} {z : Hp}
theorem paired_at2 {α β : Type} {R : α → β → Prop} : ∀ {l : List α} {m : List β}, Paired R l m → ∀ {i : Nat} {q : β}, m[i]? = some q → ∃ p, l[i]? = some p ∧ R p q
  | _, _, .nil, i, q, e => by simp at e
  | _, _, .cons h t, i, q, e => by
    cases i with
    | zero => simp at e; subst e; exact ⟨_, rfl, h⟩
    | succ i => obtain ⟨p, h1, h2⟩ := paired_at2 t (i := i) (by simpa using e); exact ⟨p, by simpa using h1, h2⟩
abbrev EqDv (X : Cx) (z F : Hp) (n : Nat) (x y : V) : Prop := ∃ d, eqd n d = true ∧ Dv (kzX X z) F x d ∧ Dv (kzX X z) F y d
theorem eqd_lists (I : Inv X pins σ H s) (hF : Same F H) {n : Nat} {A : Around} (ih : ∀ x y v u, EqDv X z F n x y → RelV x v → RelV y u → SeqAt.EqP X.prog X.w A s v u true) {ds : List Dt} (h : ds.all (eqd n) = true) {x y : V} {v u : Value} (hx : Dv (kzX X z) F x (.list ds)) (hy : Dv (kzX X z) F y (.list ds)) (rx : RelV x v) (ry : RelV y u) :
    ∃ a b us ws, v = .ref a ∧ u = .ref b ∧ s.heap.IsList a us ∧ s.heap.IsList b ws ∧ us.size = ws.size ∧ ∀ j (h1 : j < us.size) (h2 : j < ws.size), SeqAt.EqP X.prog X.w A s us[j] ws[j] true := by
  cases hx with
  | lst hs ha =>
    cases hy with
    | lst hs2 ha2 =>
      obtain ⟨us, r1, p1, _⟩ := I.list (Same.seq hF hs)
      obtain ⟨ws, r2, p2, _⟩ := I.list (Same.seq hF hs2)
      cases rx
      cases ry
      refine ⟨_, _, us.toArray, ws.toArray, rfl, rfl, p1.isList, p2.isList, by rw [List.size_toArray, List.size_toArray, ← r1.length, ← r2.length, ha.len, ha2.len], fun j h1 h2 => ?_⟩
      have h1' : j < us.length := by simpa using h1
      have h2' : j < ws.length := by simpa using h2
      obtain ⟨v1, e1, q1⟩ := vals_at r1 (List.getElem?_eq_getElem h1')
      obtain ⟨v2, e2, q2⟩ := vals_at r2 (List.getElem?_eq_getElem h2')
      obtain ⟨d1, g1, dv1⟩ := ha.at e1
      obtain ⟨d2, g2, dv2⟩ := ha2.at e2
      rw [g1] at g2; cases g2
      have := ih v1 v2 _ _ ⟨d1, List.all_eq_true.mp h d1 (List.mem_of_getElem? g1), dv1, dv2⟩ q1 q2
      simpa using this
theorem eqd_dicts (I : Inv X pins σ H s) (hF : Same F H) {n : Nat} {A : Around} (hu : A.units < cLine) (ih : ∀ x y v u, EqDv X z F n x y → RelV x v → RelV y u → SeqAt.EqP X.prog X.w A.in1 s v u true) {kvs : List (Dt × Dt)} (h : ((kvs.all fun p => atomK p.1) && (nodK kvs && kvs.all fun p => eqd n p.2)) = true) {x y : V} {v u : Value} (hx : Dv (kzX X z) F x (.dict kvs)) (hy : Dv (kzX X z) F y (.dict kvs)) (rx : RelV x v) (ry : RelV y u) :
    ∃ a b, v = .ref a ∧ u = .ref b ∧ ∀ (E Q : Value → Shared → Prop), Q (.bool true) s → wpAny (model X.prog X.w) A (richCompare .Eq (.ref a) (.ref b)) Q E s := by
  rw [Bool.and_eq_true, Bool.and_eq_true] at h
  obtain ⟨h1, h2, h3⟩ := h
  have view : ∀ {x : V} {v : Value}, Dv (kzX X z) F x (.dict kvs) → RelV x v → ∃ a ws, x = .ref a ∧ v = .ref a ∧ Rd H a (.dK ws) ∧ Paired (fun (p : Dt × Im) (q : Key × V) => p.1 = kD q.1 ∧ ImR (kzX X z) [] F p.2 q.2) (kvs.map fun p => (p.1, .d p.2)) ws := fun {x v} hx rx => by
    have S0 : DicOf [] (.d (.dict kvs)) (kvs.map fun p => (p.1, .d p.2)) := .d kvs
    have : ∃ a o, x = .ref a ∧ Rd H a o ∧ DicR (kzX X z) F (ImR (kzX X z) [] F) a o (kvs.map fun p => (p.1, .d p.2)) := by
      cases hx with
      | dK hd ha => exact ⟨_, _, rfl, .inr ⟨_, hF _ _ hd⟩, .inl ⟨_, rfl, of_dvK ha⟩⟩
      | dN hd ha => exact ⟨_, _, rfl, .inr ⟨_, hF _ _ hd⟩, .inr ⟨_, rfl, of_dvN ha⟩⟩
    obtain ⟨a, o, rfl, e, D⟩ := this
    obtain ⟨ws, rfl, p⟩ := aview I e D (by rw [List.all_map]; exact h1)
    cases rx
    exact ⟨a, ws, rfl, rfl, e, p⟩
  obtain ⟨a, ws, rfl, rfl, ea, pa⟩ := view hx rx
  obtain ⟨b, ls, rfl, rfl, eb, pb⟩ := view hy ry
  refine ⟨a, b, rfl, rfl, fun E Q q => ?_⟩
  obtain ⟨_, ya, va, ra, da⟩ := (show ObjOk X.prog X.w H s.heap a (.dK ws) from ea.ok I.hok)
  obtain ⟨_, yb, vb, rb, db⟩ := (show ObjOk X.prog X.w H s.heap b (.dK ls) from eb.ok I.hok)
  refine PySem.W.rcP_dicts (knd := mixKind X.prog X.w) (r := true) ya yb da db hu (fun _ => hits_run (F := EqDv X z F n) ih rb ra fun p hp => ?_) E Q ?_
  · obtain ⟨i, hi⟩ := List.getElem?_of_mem hp
    obtain ⟨pr, e1, e2, e3⟩ : ∃ pr, (kvs.map fun p => (p.1, Im.d p.2))[i]? = some pr ∧ pr.1 = kD p.1 ∧ ImR (kzX X z) [] F pr.2 p.2 := by
      obtain ⟨pr, e1, e2⟩ := paired_at2 pa hi
      exact ⟨pr, e1, e2⟩
    rw [List.getElem?_map] at e1
    cases e0 : kvs[i]? with
    | none => rw [e0] at e1; cases e1
    | some yx =>
      obtain ⟨y, x⟩ := yx
      rw [e0] at e1
      cases e1
      dsimp only at e2 e3
      subst e2
      have hm := List.mem_of_getElem? e0
      have g := dGet_nod h1 h2 hm
      rcases afind (R := ImR (kzX X z) [] F) p.1 pb with ⟨f1, f2⟩ | ⟨r, v, f1, f2, rv⟩
      · rw [g] at f1; cases f1
      · rw [g] at f1; cases f1
        exact ⟨v, f2, x, List.all_eq_true.mp h3 _ hm, e3, rv⟩
  · have e : va.length = vb.length := by
      rw [← ra.length, ← rb.length]
      have l1 := pa.length
      have l2 := pb.length
      rw [← l1, ← l2]
    rw [show (va.length == vb.length && true) = true from by rw [e]; simp]
    exact q
theorem eqd_run (I : Inv X pins σ H s) (hF : Same F H) : ∀ (n : Nat) (A : Around), A.units + n + 120 < cLine → ∀ (x y : V) (v u : Value), EqDv X z F n x y → RelV x v → RelV y u → SeqAt.EqP X.prog X.w A s v u true
  | 0, _, _, _, _, _, _, ⟨_, h, _⟩, _, _ => by cases h
  | n + 1, A, hu, x, y, v, u, ⟨d, h, hx, hy⟩, rx, ry => by
    unfold eqd at h
    rw [Bool.or_eq_true] at h
    have hin : ∀ x y v u, EqDv X z F n x y → RelV x v → RelV y u → SeqAt.EqP X.prog X.w A.in1 s v u true := eqd_run I hF n A.in1 (by show A.units + 1 + n + 120 < cLine; omega)
    rcases h with h | h
    · rw [Bool.and_eq_true] at h
      have g := good_of h.1
      obtain ⟨as, r1⟩ := Dv.reads I (Dv.mono hF hx) rx
      obtain ⟨bs, r2⟩ := Dv.reads I (Dv.mono hF hy) ry
      have := SeqAt.eqAt_plain d d A s v u as bs r1 r2 g.1 g.1 (by have := g.2; omega)
      rw [h.2] at this
      exact this.eqP
    · cases d with
      | list ds =>
        obtain ⟨a, b, us, ws, rfl, rfl, l1, l2, sz, he⟩ := eqd_lists I hF hin h hx hy rx ry
        by_cases e : a = b
        · subst e; exact (SeqAt.EqAt.same _).eqP
        · refine SeqAt.eqP_refs e fun E Q q => SeqAt.rcP_lists (e := fun _ => true) l1 l2 sz (by omega) he E Q ?_
          rw [show ((List.range us.size).all fun _ => true) = true from List.all_eq_true.mpr fun _ _ => rfl]
          exact q
      | dict kvs =>
        obtain ⟨a, b, rfl, rfl, f⟩ := eqd_dicts I hF (A := A) (by omega) hin h hx hy rx ry
        by_cases e : a = b
        · subst e; exact (SeqAt.EqAt.same _).eqP
        · exact SeqAt.eqP_refs e f
      | _ => cases h
end
section
variable {X : Cx} {z : Hp}
theorem op_eqD (hu : X.A.units + 200 < cLine) : OpR X (compareOp .Eq) (rDD (kzX X z) (fun x y => x = y ∧ eqdT false x = true) fun _ _ => true) := by
  intro pins s σ H x y v u Q I rx ry h
  obtain ⟨d, e, hd, he, ⟨rfl, c⟩, q⟩ := h
  have hin : ∀ x y v u, EqDv X z H 50 x y → RelV x v → RelV y u → SeqAt.EqP X.prog X.w X.A.in1 s v u true := eqd_run I (Same.refl _) 50 X.A.in1 (by show X.A.units + 1 + 50 + 120 < cLine; omega)
  have fin : EP X pins σ Q (.bool true) s := ⟨.bl true, H, I, rfl, q⟩
  cases d with
  | list ds =>
    obtain ⟨a, b, us, ws, rfl, rfl, l1, l2, sz, hh⟩ := eqd_lists I (Same.refl _) hin c hd he rx ry
    refine SeqAt.rcP_lists (e := fun _ => true) l1 l2 sz (by omega) hh _ _ ?_
    rw [show ((List.range us.size).all fun _ => true) = true from List.all_eq_true.mpr fun _ _ => rfl]
    exact fin
  | dict kvs =>
    obtain ⟨a, b, rfl, rfl, f⟩ := eqd_dicts I (Same.refl _) (A := X.A) (by omega) hin c hd he rx ry
    exact f _ _ fin
  | _ => cases c
theorem op_neD (hu : X.A.units + 200 < cLine) : OpR X (compareOp .NotEq) (rDD (kzX X z) (fun x y => x = y ∧ eqdT true x = true) fun _ _ => false) := by
  intro pins s σ H x y v u Q I rx ry h
  obtain ⟨d, e, hd, he, ⟨rfl, c⟩, q⟩ := h
  have hin : ∀ x y v u, EqDv X z H 50 x y → RelV x v → RelV y u → SeqAt.EqP X.prog X.w X.A.in1 s v u true := eqd_run I (Same.refl _) 50 X.A.in1 (by show X.A.units + 1 + 50 + 120 < cLine; omega)
  have fin : EP X pins σ Q (.bool false) s := ⟨.bl false, H, I, rfl, q⟩
  cases d with
  | list ds =>
    obtain ⟨a, b, us, ws, rfl, rfl, l1, l2, sz, hh⟩ := eqd_lists I (Same.refl _) hin c hd he rx ry
    refine SeqAt.dx_nlists (e := fun _ => true) l1 l2 sz (by omega) hh _ _ ?_
    rw [show ((List.range us.size).all fun _ => true) = true from List.all_eq_true.mpr fun _ _ => rfl]
    exact fin
  | _ => cases c
end
theorem eqd_ok {G : Sx} {M : Sto} {Q : Bool → Sto → Prop} {ne : Bool} {ra rb : Im} (h : eqdW ne ra rb M Q) : CmR G (if ne then .NotEq else .Eq) ra rb M Q := by
  unfold eqdW at h
  split at h
  · rename_i x y e1 e2
    cases ne with
    | true => exact cm_dd (fun X hX => op_neD (hu_X hX)) (asD_D e1) (asD_D e2) h.1 h.2
    | false => exact cm_dd (fun X hX => op_eqD (hu_X hX)) (asD_D e1) (asD_D e2) h.1 h.2
  · exact h.elim
end DX

namespace DX
open PySem PySem.Spec PyProof.Rows L2
variable {V : Ev}

/-- a check that speaks the truth -/
structure Snd (V : Ev) (c : Chk) : Prop where
  e : ∀ {G : Sx} {C : Ck} {e : Expr} {n : N}, GOk G V C → c.e C e n = true → ∀ {Γ : Ec} {M : Sto} {Q : QE} {R : RX}, (sem V n).e Γ M Q R → EvX G e Γ M Q (G.lx R)
  t : ∀ {G : Sx} {C : Ck} {e : Expr} {n : N}, GOk G V C → c.t C e n = true → ∀ {Γ : Ec} {M : Sto} {Q : Bool → Sto → Prop} {R : RX}, (sem V n).t Γ M Q R → EvT G e Γ M Q (G.lx R)
  a : ∀ {G : Sx} {C : Ck} {e : List Expr} {n : N}, GOk G V C → c.a C e n = true → ∀ {Γ : Ec} {M : Sto} {Q : List Im → Sto → Prop} {R : RX}, (sem V n).a Γ M Q R → EvA G e Γ M Q (G.lx R)
  o : ∀ {G : Sx} {C : Ck} {e : Option Expr} {n : N}, GOk G V C → c.o C e n = true → ∀ {Γ : Ec} {M : Sto} {Q : Option Int → Sto → Prop} {R : RX}, (sem V n).o Γ M Q R → EvO G e Γ M Q (G.lx R)
  i : ∀ {G : Sx} {C : Ck} {tg e : Expr} {n : N}, GOk G V C → c.i C tg e n = true → ∀ {Γ : Ec} {M : Sto} {Q : List Im → (Sto → Prop) → Sto → Prop} {R : RX}, (sem V n).i Γ M Q R → EvI G tg e Γ M Q (G.lx R)
  g : ∀ {G : Sx} {C : Ck} {e : Expr} {n : N}, GOk G V C → c.g C e n = true → ∀ {r : Im} {Γ : Ec} {M : Sto} {Q : Ec → Sto → Prop} {R : RX}, (sem V n).g r Γ M Q R → EvG G e r Γ M Q
  gs : ∀ {G : Sx} {C : Ck} {e : List Expr} {n : N}, GOk G V C → c.gs C e n = true → ∀ {r : List Im} {Γ : Ec} {M : Sto} {Q : Ec → Sto → Prop} {R : RX}, r.length = e.length → (sem V n).gs r Γ M Q R → EvGs G e r Γ M Q
  tg : ∀ {G : Sx} {C : Ck} {e : Expr} {n : N} {vs : List Nat}, GOk G V C → (∀ X, G.Has X → X.calm = true) → c.g C e n = true → tgIn vs n = true → ∃ T : Im → Ec → (Ec → Prop) → Prop, TgOk G e vs T ∧ ∀ {r : Im} {Γ : Ec} {M : Sto} {Q : Ec → Sto → Prop} {R : RX}, (sem V n).g r Γ M Q R → T r Γ fun Γ2 => Q Γ2 M
  tgs : ∀ {G : Sx} {C : Ck} {e : List Expr} {n : N} {vs : List Nat}, GOk G V C → (∀ X, G.Has X → X.calm = true) → c.gs C e n = true → tgIn vs n = true → ∃ T : List Im → Ec → (Ec → Prop) → Prop, TgsOk G e vs T ∧ ∀ {r : List Im} {Γ : Ec} {M : Sto} {Q : Ec → Sto → Prop} {R : RX}, (sem V n).gs r Γ M Q R → T r Γ fun Γ2 => Q Γ2 M
  s : ∀ {G : Sx} {C : Ck} {e : Stmt} {n : N}, GOk G V C → c.s C e n = true → ∀ {Γ : Ec} {M : Sto} {K : Ec → Sto → Prop} {P : Ps}, (sem V n).s G.n Γ M K P → ExX G e Γ M (G.lp K P)
  ss : ∀ {G : Sx} {C : Ck} {e : List Stmt} {n : N}, GOk G V C → c.ss C e n = true → ∀ {Γ : Ec} {M : Sto} {K : Ec → Sto → Prop} {P : Ps}, (sem V n).s G.n Γ M K P → ExS G e Γ M (G.lp K P)
theorem and2 {a b : Bool} (h : (a && b) = true) : a = true ∧ b = true := by rw [Bool.and_eq_true] at h; exact h
theorem nott {a : Bool} (h : (!a) = true) : a = false := by cases a <;> simp_all
theorem evg_unl {G : Sx} (h0 : G.hot = none) {Γ : Ec} {M : Sto} {pos : Pos} {ts : List Expr} {k : Nat} {ds : List Dt} {n : Nat} {r : Im} {Q : Ec → Sto → Prop} (hn : ∀ env, (assignEach ts env).length = n) (hst : ∀ env, (assignEach ts env).findIdx? (·.1) = none) (hr : AsL M r (ds.map .d)) (hl : ds.length = n)
    (h : EvGs G ts (ds.map .d) Γ M Q) : EvG G (.Tuple ts k pos) r Γ M Q := fun A F σ H v Qv S L rv hQ => by
  obtain ⟨a, vs, rfl, hs, rs⟩ := hr.sq S rv
  have := rs.len
  rw [List.length_map] at this
  exact gS_of (t := gUnl G.K n (gSs G ts)) (fun X hX => by rw [← hX.K]; exact pg_unl (hX.calm h0) (pgs_S hX ts) (hn _) (hst _)) ⟨_, _, rfl, hs, by omega, h A F σ H _ Qv S L rs hQ⟩
section
variable {c : Chk} (H : Snd V c)
include H
theorem snd_a {G : Sx} {C : Ck} {e : List Expr} {n : N} (O : GOk G V C) (h : stepA c C e n = true) {Γ : Ec} {M : Sto} {Q : List Im → Sto → Prop} {R : RX} (q : (sem V n).a Γ M Q R) : EvA G e Γ M Q (G.lx R) := by
  unfold stepA at h
  split at h
  · exact eva_nil q
  · obtain ⟨h1, h⟩ := and2 h
    obtain ⟨h2, h3⟩ := and2 h
    exact eva_cons (notStar_A h1 _) ((H.e O h2 q).imp fun r M1 q => H.a O h3 q)
  · cases h
theorem snd_o {G : Sx} {C : Ck} {e : Option Expr} {n : N} (O : GOk G V C) (h : stepO c C e n = true) {Γ : Ec} {M : Sto} {Q : Option Int → Sto → Prop} {R : RX} (q : (sem V n).o Γ M Q R) : EvO G e Γ M Q (G.lx R) := by
  have key : ∀ {e : Expr} {n : N}, c.e C e n = true → (sem V n).e Γ M (fun r M1 => match r with
      | .d (.int i) => Q (some i) M1
      | _ => False) R → EvO G (some e) Γ M Q (G.lx R) := fun {e n} h q => evo_some ((H.e O h q).imp fun r M1 q => by
    split at q
    · exact ⟨_, rfl, q⟩
    · exact q.elim)
  unfold stepO at h
  split at h
  · exact evo_none q
  · exact key h q
  · exact key h q
  · exact key h q
  · exact key h q
  · exact key h q
  · exact key h q
  · exact key h q
  · exact key h q
  · cases h
theorem snd_g {G : Sx} {C : Ck} {e : Expr} {n : N} (O : GOk G V C) (h : stepG c C e n = true) {r : Im} {Γ : Ec} {M : Sto} {Q : Ec → Sto → Prop} {R : RX} (q : (sem V n).g r Γ M Q R) : EvG G e r Γ M Q := by
  unfold stepG at h
  split at h
  · split at h
    · obtain ⟨h1, h2, h3, h4⟩ := stOk_ok O h
      exact evg_name h4 h1 h2 h3 q
    · cases h
  · split at h
    · obtain ⟨h0, h⟩ := and2 h
      have h0 := O.cal h0
      obtain ⟨h1, h⟩ := and2 h
      obtain ⟨h2, h3⟩ := and2 h
      have h1 := of_decide_eq_true h1
      have q : ttupW _ (sem V _).gs r Γ M Q R := q
      unfold ttupW at q
      split at q
      · exact evg_tup h0 (fun env => assignEach_len _ env) (notStar_find h2) (by rw [q.1, h1]) (H.gs O h3 (by rw [List.length_map, q.1, h1]) q.2)
      · exact q.elim
    · cases h
  · cases h
theorem snd_g' {G : Sx} {C : Ck} {e : Expr} {n : N} (O : GOk G V C) (h : stepG' c C e n = true) {r : Im} {Γ : Ec} {M : Sto} {Q : Ec → Sto → Prop} {R : RX} (q : (sem V n).g r Γ M Q R) : EvG G e r Γ M Q := by
  unfold stepG' at h
  split at h
  · split at h
    · obtain ⟨h0, h⟩ := and2 h
      have h0 := O.cal h0
      obtain ⟨h1, h⟩ := and2 h
      obtain ⟨h2, h3⟩ := and2 h
      have h1 := of_decide_eq_true h1
      have q : tlstW _ (sem V _).gs r Γ M Q R := q
      unfold tlstW at q
      split at q
      · rename_i ds e
        exact evg_unl h0 (fun env => assignEach_len _ env) (notStar_find h2) (asLD_L e) (by rw [q.1, h1]) (H.gs O h3 (by rw [List.length_map, q.1, h1]) q.2)
      · exact q.elim
    · cases h
  · cases h
theorem tgIn_g' {C : Ck} {e : Expr} {n : N} {vs : List Nat} (h : stepG' c C e n = true) (hv : tgIn vs n = true) : False := by
  unfold stepG' at h
  split at h
  · cases hv
  · cases h
theorem snd_gs {G : Sx} {C : Ck} {e : List Expr} {n : N} (O : GOk G V C) (h : stepGs c C e n = true) {r : List Im} {Γ : Ec} {M : Sto} {Q : Ec → Sto → Prop} {R : RX} (hl : r.length = e.length) (q : (sem V n).gs r Γ M Q R) : EvGs G e r Γ M Q := by
  unfold stepGs at h
  split at h
  · have : r = [] := List.eq_nil_of_length_eq_zero hl
    subst this
    exact evgs_nil q
  · obtain ⟨h1, h⟩ := and2 h
    obtain ⟨h2, h3⟩ := and2 h
    cases r with
    | nil => cases hl
    | cons x xs => exact evgs_cons (notStar_each h1 _) ((H.g O h2 q).imp fun Γ1 M1 q => H.gs O h3 (by simpa using hl) q)
  · cases h
theorem snd_tg {G : Sx} {C : Ck} {e : Expr} {n : N} {vs : List Nat} (O : GOk G V C) (hc : ∀ X, G.Has X → X.calm = true) (h : stepG c C e n = true) (hv : tgIn vs n = true) : ∃ T : Im → Ec → (Ec → Prop) → Prop, TgOk G e vs T ∧ ∀ {r : Im} {Γ : Ec} {M : Sto} {Q : Ec → Sto → Prop} {R : RX}, (sem V n).g r Γ M Q R → T r Γ fun Γ2 => Q Γ2 M := by
  unfold stepG at h
  split at h
  · split at h
    · obtain ⟨h1, h2, h3, h4⟩ := stOk_ok O h
      exact ⟨_, tg_name h4 h1 h2 h3 (by simpa [tgIn] using hv), fun {r Γ M Q R} q => q⟩
    · cases h
  · split at h
    · obtain ⟨h0, h⟩ := and2 h
      have h0 := O.cal h0
      obtain ⟨h1, h⟩ := and2 h
      obtain ⟨h2, h3⟩ := and2 h
      have h1 := of_decide_eq_true h1
      obtain ⟨T, hT, hq⟩ := H.tgs O hc h3 (by simpa [tgIn] using hv)
      refine ⟨_, tg_tup (fun env => assignEach_len _ env) (notStar_find h2) hc hT, fun {r Γ M Q R} q => ?_⟩
      have q : ttupW _ (sem V _).gs r Γ M Q R := q
      unfold ttupW at q
      split at q
      · exact ⟨_, rfl, by rw [q.1, h1], hq q.2⟩
      · exact q.elim
    · cases h
  · cases h
theorem snd_tgs {G : Sx} {C : Ck} {e : List Expr} {n : N} {vs : List Nat} (O : GOk G V C) (hc : ∀ X, G.Has X → X.calm = true) (h : stepGs c C e n = true) (hv : tgIn vs n = true) : ∃ T : List Im → Ec → (Ec → Prop) → Prop, TgsOk G e vs T ∧ ∀ {r : List Im} {Γ : Ec} {M : Sto} {Q : Ec → Sto → Prop} {R : RX}, (sem V n).gs r Γ M Q R → T r Γ fun Γ2 => Q Γ2 M := by
  unfold stepGs at h
  split at h
  · exact ⟨_, tgs_nil, fun {r Γ M Q R} q => by cases r <;> exact q⟩
  · obtain ⟨h1, h⟩ := and2 h
    obtain ⟨h2, h3⟩ := and2 h
    obtain ⟨v1, v2⟩ := and2 (show (tgIn vs _ && tgIn vs _) = true from hv)
    obtain ⟨T, hT, hq⟩ := H.tg O hc h2 v1
    obtain ⟨Ts, hTs, hqs⟩ := H.tgs O hc h3 v2
    refine ⟨_, tgs_cons (notStar_each h1 _) hT hTs, fun {r Γ M Q R} q => ?_⟩
    cases r with
    | nil => exact q
    | cons x xs => 
      have := hq q
      exact hT.1 _ _ _ _ (fun Γ1 q1 => hqs q1) this
  · cases h
theorem snd_i {G : Sx} {C : Ck} {tg e : Expr} {n : N} (O : GOk G V C) (h : stepI c C tg e n = true) {Γ : Ec} {M : Sto} {Q : List Im → (Sto → Prop) → Sto → Prop} {R : RX} (q : (sem V n).i Γ M Q R) : EvI G tg e Γ M Q (G.lx R) := by
  unfold stepI at h
  split at h
  · split at h
    · obtain ⟨h1, h⟩ := and2 h
      obtain ⟨h2, h⟩ := and2 h
      obtain ⟨h3, h⟩ := and2 h
      obtain ⟨h4, h5⟩ := and2 h
      have := eq_of_beq h2; subst this
      cases tg with
      | Tuple es k p => exact evi_items (notSuper_B h3 _) h4 ((H.e O h5 q).imp fun r M1 q => by
          split at q
          · exact ⟨_, rfl, q⟩
          · exact q.elim)
      | _ => cases h1
    · cases h
  · split at h
    · obtain ⟨h2, h⟩ := and2 h
      obtain ⟨h3, h⟩ := and2 h
      obtain ⟨h4, h5⟩ := and2 h
      have := eq_of_beq h2; subst this
      exact evi_values (notSuper_B h3 _) h4 ((H.e O h5 q).imp fun r M1 q => by
          split at q
          · exact ⟨_, rfl, q⟩
          · exact q.elim)
    · cases h
  · exact evi_walk (H.e O h q)
  · split at h
    · obtain ⟨h1, h⟩ := and2 h
      obtain ⟨h2, h⟩ := and2 h
      obtain ⟨h3, h4⟩ := and2 h
      have := eq_of_beq h1
      subst this
      obtain ⟨hg, hm⟩ := bltOk_ok O h2
      exact evi_range hm hg (notStar_A h3 _) ((H.e O h4 q).imp fun r M1 q => by
        split at q
        · exact ⟨_, rfl, q.1.1, q.1.2, q.2⟩
        · exact q.elim)
    · cases h
  · split at h
    · obtain ⟨h1, h⟩ := and2 h
      obtain ⟨h2, h⟩ := and2 h
      obtain ⟨h3, h⟩ := and2 h
      obtain ⟨h4, h⟩ := and2 h
      obtain ⟨h5, h6⟩ := and2 h
      have := eq_of_beq h1
      subst this
      obtain ⟨hg, hm⟩ := bltOk_ok O h2
      exact evi_range2 hm hg (notStar_A h3 _) (notStar_A h4 _) ((H.e O h5 q).imp fun r M1 q => (H.e O h6 q).imp fun r2 M2 q => by
        split at q
        · exact ⟨_, _, rfl, rfl, q.1, q.2⟩
        · exact q.elim)
    · cases h
  · split at h
    · obtain ⟨h1, h⟩ := and2 h
      obtain ⟨h2, h⟩ := and2 h
      obtain ⟨h3, h⟩ := and2 h
      obtain ⟨h4, h⟩ := and2 h
      obtain ⟨h5, h⟩ := and2 h
      obtain ⟨h6, h⟩ := and2 h
      obtain ⟨h7, h8⟩ := and2 h
      have := eq_of_beq h1
      subst this
      obtain ⟨hg, hm⟩ := bltOk_ok O h2
      exact evi_range3 hm hg (notStar_A h3 _) (notStar_A h4 _) (notStar_A h5 _) ((H.e O h6 q).imp fun r M1 q => (H.e O h7 q).imp fun r2 M2 q => (H.e O h8 q).imp fun r3 M3 q => by
        split at q
        · exact ⟨_, _, _, rfl, rfl, rfl, q⟩
        · exact q.elim)
    · cases h
  · split at h
    · obtain ⟨h1, h⟩ := and2 h
      obtain ⟨h2, h⟩ := and2 h
      obtain ⟨h3, h4⟩ := and2 h
      have := eq_of_beq h1
      subst this
      obtain ⟨hg, hm⟩ := bltOk_ok O h2
      exact evi_rev hm hg (notStar_A h3 _) ((H.e O h4 q).imp fun r M1 q => by
        have q : revW r M1 Q := q
        unfold revW at q
        split at q
        · exact ⟨_, _, .d _, fun _ _ => .d _, by rw [← List.map_reverse]; exact q⟩
        · split at q
          · rename_i e
            exact ⟨_, _, .p e rfl, fun _ e' => .p e' rfl, by rw [← List.map_reverse]; exact q⟩
          · exact q.elim
        · exact q.elim)
    · cases h
  · cases h
end
end DX

namespace DX
open PySem PySem.Spec PyProof.Rows L2
variable {Ξ : Ev}

theorem t_plain {n : N} (h : n.plain = true) {Γ : Ec} {M : Sto} {Q : Bool → Sto → Prop} {R : RX} (q : (sem Ξ n).t Γ M Q R) : (sem Ξ n).e Γ M (fun r M1 => truW r M1 fun b => Q b M1) R := by
  cases n <;> first | exact q | cases h
theorem evt_cmpA {G : Sx} {Γ : Ec} {M : Sto} {Q : Bool → Sto → Prop} {R : QR} {pos : Pos} {a b : Expr} {op : CmpOp} (hm : behindInMarks op b = false) (h : EvX G a Γ M (fun ra Ma => EvX G b Γ Ma (fun rb Mb => CmR G op ra rb Mb Q) R) R) : EvT G (.Compare a [op] [b] pos) Γ M Q R := evt_cmp op_all h hm
theorem ev_cmpA {G : Sx} {Γ : Ec} {M : Sto} {Q : QE} {R : QR} {pos : Pos} {a b : Expr} {op : CmpOp} (hm : behindInMarks op b = false) (h : EvX G a Γ M (fun ra Ma => EvX G b Γ Ma (fun rb Mb => CmR G op ra rb Mb (fun c M' => Q (.d (.bool c)) M')) R) R) : EvX G (.Compare a [op] [b] pos) Γ M Q R :=
  (ev_cmp op_all h hm).imp fun r M' ⟨c, e, q⟩ => by rw [e]; exact q
/-- a module's constant -/
theorem ev_glob {G : Sx} {Γ : Ec} {M : Sto} {Q : QE} {R : QR} {pos : Pos} {x : Str} {u : Value} {v : V} {d : Dt} (hq : Q (.d d) M) (hm : G.mg x = some u) (hr : RelV v u) (hd : ∀ z F, Dv ⟨G.K, G.w, z⟩ F v d) (hg : G.sc.names.lookup x = some .globalImplicit) (hb : (x == ("__debug__" : Str)) = false) : EvX G (.Name x pos) Γ M Q R := fun A F σ H Qv S L hQ hR =>
  tS_of (fun X hX => pe_glob (gl_of hX hg) (by rw [hX.mg]; exact hm) hr hb) (hQ _ M A F H v hq S (ALe.refl _) (Same.refl _) (hd _ F))
/-- list(xs), as data or as a cell -/
theorem list_old {G : Sx} {M : Sto} {Q : QE} {r : Im} (hh : (∃ ds, (AsL M r (ds.map .d) ∨ r = .d (.tuple ds)) ∧ (Q (.d (.list ds)) M ∨ Q (.p M.length) (M ++ [.dl ds]))) ∨ ∃ xs, AsL M r xs ∧ Q (.p M.length) (M ++ [.lst xs])) : CalR G (rAllC G (.type "list")) [r] M Q := fun A F H vs Qv S rv hQ X hX pins s σ us I ru => by
  refine call_list_of pins s σ H vs us Qv I ru ?_
  rw [hX.K]
  cases rv with
  | cons r1 t =>
    cases t
    rcases hh with ⟨ds, hl | rfl, q⟩ | ⟨xs, hl, q⟩
    · obtain ⟨a, vs, rfl, hs, rs⟩ := hl.sq S r1
      exact ⟨_, _, rfl, .inl hs, fun l hp => q.elim (fun q => goes_lst S hQ hp rs q) fun q => goes_lstP S hQ hp (c := .dl ds) rfl rs q⟩
    · cases r1 with
      | tup hs ha => exact ⟨_, _, rfl, .inr (Same.seqT S.sub hs), fun l hp => q.elim (fun q => goes_lst S hQ hp (of_dpAll ha) q) fun q => goes_lstP S hQ hp (c := .dl ds) rfl (of_dpAll (A := A) ha) q⟩
    · obtain ⟨a, vs, rfl, hs, rs⟩ := hl.sq S r1
      exact ⟨_, _, rfl, .inl hs, fun l hp => goes_lstP S hQ hp (c := .lst xs) rfl rs q⟩
/-- a test of and, or, whatever the whole is -/
theorem evw_of_t {G : Sx} {Γ : Ec} {M : Sto} {Q : Bool → Sto → Prop} {R : QR} {op : BoolOp} {es : List Expr} {pos : Pos} (h : EvT G (.BoolOp op es pos) Γ M Q R) : EvW G (.BoolOp op es pos) Γ M Q R := fun A F σ H Qv S L hQ hR X hX wh pins s I =>
  h A F σ H Qv S L hQ hR X hX pins s I
theorem cm_imp {G : Sx} {M : Sto} {op : CmpOp} {ra rb : Im} {Q Q' : Bool → Sto → Prop} (h : CmR G op ra rb M Q) (hq : ∀ b M', Q b M' → Q' b M') : CmR G op ra rb M Q' := fun A F H va vb Qv S r1 r2 hQ =>
  h A F H va vb Qv S r1 r2 fun r M' A' F' H' v q => hQ r M' A' F' H' v (q.imp fun c q => ⟨q.1, hq _ _ q.2⟩)
section
variable {c : Chk} (H : Snd Ξ c)
include H
theorem arg1_ok {G : Sx} {C : Ck} {args : List Expr} {as : N} (O : GOk G Ξ C) (h : arg1 c C args as = true) : ∃ a n, args = [a] ∧ as = .cons n .nil ∧ notStar a = true ∧ c.e C a n = true := by
  unfold arg1 at h
  split at h
  · obtain ⟨h1, h2⟩ := and2 h
    exact ⟨_, _, rfl, rfl, h2, h1⟩
  · cases h
theorem snd_bi {G : Sx} {C : Ck} {x : Str} {args : List Expr} {f : Bi} {own : Bool} {as : N} {p pos : Pos} (O : GOk G Ξ C) (hb : bltOk C x = true) (h : biArgs c C f x args as = true) {Γ : Ec} {M : Sto} {Q : QE} {R : RX} (q : (sem Ξ as).a Γ M (fun rs M1 => biW f own rs M1 Q) R) : EvX G (.Call (.Name x p) args [] pos) Γ M Q (G.lx R) := by
  obtain ⟨hg, hm⟩ := bltOk_ok O hb
  have one : ∀ {a : Expr} {n : N} {P : Im → Sto → Prop}, (sem Ξ (.cons n .nil)).a Γ M (fun rs M1 => biW f own rs M1 Q) R → (∀ r M1, biW f own [r] M1 Q → P r M1) → c.e C a n = true → EvX G a Γ M P (G.lx R) := fun {a n P} q hp h => (H.e O h q).imp fun r M1 q => hp r M1 q
  cases f with
  | len =>
    obtain ⟨h1, h⟩ := and2 h
    have := eq_of_beq h1; subst this
    obtain ⟨a, n, rfl, rfl, h3, h2⟩ := arg1_ok H O h
    exact ev_callB calr_all PySem.boot_len hm hg (notStar_A h3 _) (fun _ _ => rfl) (eva_cons (notStar_A h3 _) ((one q (fun r M1 q => q) h2).imp fun r M1 q => eva_nil (len_ok q)))
  | int =>
    obtain ⟨h1, h⟩ := and2 h
    have := eq_of_beq h1; subst this
    obtain ⟨a, n, rfl, rfl, h3, h2⟩ := arg1_ok H O h
    exact ev_intof hm hg (notStar_A h3 _) (by decide +kernel) (one q (fun r M1 q => by
      simp only [biW] at q
      split at q
      · exact .inl ⟨_, rfl, q⟩
      · exact .inr ⟨_, rfl, q⟩
      · exact q.elim) h2)
  | list =>
    obtain ⟨h1, h'⟩ := and2 h
    obtain ⟨h0, h''⟩ := and2 h'
    have := eq_of_beq h1; subst this
    obtain ⟨a, n, rfl, rfl, h3, h2⟩ := arg1_ok H O h''
    have out : ∀ {M1 : Sto} {ds : List Dt}, outL own ds M1 Q → (Q (.d (.list ds)) M1 ∨ Q (.p M1.length) (M1 ++ [.dl ds])) := fun {M1 ds} q => by
      cases own with
      | true => exact .inr q
      | false => exact .inl q
    exact ev_callTy (T := "list") (r := rAllC G (.type "list")) calr_all (by decide +kernel) hm hg (notStar_A h3 _) (fun _ _ => rfl) (eva_cons (notStar_A h3 _) ((one q (fun r M1 q => q) h2).imp fun r M1 q => eva_nil (by
      simp only [biW] at q
      split at q
      · exact list_old (.inl ⟨_, .inr rfl, out q⟩)
      · split at q
        · rename_i e
          exact list_old (.inl ⟨_, .inl (asLD_L e), out q⟩)
        · split at q
          · rename_i kvs e
            exact list_ok (fun X hX => hX.calm (O.cal h0)) (dicI_of e) q
          · split at q
            · rename_i e2 _
              exact list_old (.inr ⟨_, asLI_L e2, q⟩)
            · exact q.elim))) (by decide +kernel) (by decide +kernel)
  | tuple =>
    obtain ⟨h1, h⟩ := and2 h
    have := eq_of_beq h1; subst this
    obtain ⟨a, n, rfl, rfl, h3, h2⟩ := arg1_ok H O h
    exact ev_tupleof hm hg (notStar_A h3 _) (by decide +kernel) (one q (fun r M1 q => by
      simp only [biW] at q
      split at q
      · exact ⟨_, .inr rfl, q⟩
      · split at q
        · rename_i e
          exact ⟨_, .inl (asLD_L e), q⟩
        · exact q.elim) h2)
  | isi T =>
    simp only [biArgs] at h
    obtain ⟨h1, h'⟩ := and2 h
    have := eq_of_beq h1; subst this
    clear h
    revert h'
    intro h
    split at h
    · obtain ⟨h2, h⟩ := and2 h
      obtain ⟨h4, h⟩ := and2 h
      obtain ⟨h5, h⟩ := and2 h
      obtain ⟨h6, h⟩ := and2 h
      obtain ⟨h7, h8⟩ := and2 h
      obtain ⟨a', n, e, rfl, h3, h2⟩ := arg1_ok H O h2
      cases e
      obtain ⟨hgT, hmT⟩ := bltOk_ok O h5
      refine ev_isi hm hg hmT hgT (of_decide_eq_true h6) (by decide +kernel) (notStar_A h3 _) (fun e => ?_) (nott h8) (one q (fun r M1 q => by
        simp only [biW] at q
        split at q
        · rename_i e
          split at q
          · rename_i e2
            exact ⟨_, _, tyW_ok e, e2, q⟩
          · exact q.elim
        · exact q.elim) h2)
      subst e
      exact absurd (nott h7) (by decide)
    · cases h
theorem snd_t {G : Sx} {C : Ck} {e : Expr} {n : N} (O : GOk G Ξ C) (h : stepT c C e n = true) {Γ : Ec} {M : Sto} {Q : Bool → Sto → Prop} {R : RX} (q : (sem Ξ n).t Γ M Q R) : EvT G e Γ M Q (G.lx R) := by
  unfold stepT at h
  split at h
  · split at h
    · exact evt_not (H.t O h q)
    · cases h
  · split at h
    · obtain ⟨h1, h⟩ := and2 h
      obtain ⟨h2, h⟩ := and2 h
      obtain ⟨h3, h4⟩ := and2 h
      have := of_decide_eq_true h1; subst this
      exact evt_cmpA (nott h2) ((H.e O h3 q).imp fun ra Ma q => (H.e O h4 q).imp fun rb Mb q => cm_ok q)
    · obtain ⟨h1, h⟩ := and2 h
      obtain ⟨h2, h⟩ := and2 h
      obtain ⟨h3, h4⟩ := and2 h
      have := of_decide_eq_true h1; subst this
      exact evt_cmpA (nott h2) ((H.e O h3 q).imp fun ra Ma q => (H.e O h4 q).imp fun rb Mb q => eqd_ok q)
    · split at h
      · exact evt_isN (H.e O h q)
      · cases h
    · split at h
      · exact evt_notN (H.e O h q)
      · cases h
    · cases h
  · split at h
    · obtain ⟨h1, h⟩ := and2 h
      obtain ⟨h2, h⟩ := and2 h
      obtain ⟨h3, h⟩ := and2 h
      obtain ⟨h4, h⟩ := and2 h
      obtain ⟨h5, h6⟩ := and2 h
      have := of_decide_eq_true h1; subst this
      have := of_decide_eq_true h2; subst this
      exact evt_ch (nott h3) ((H.e O h4 q).imp fun ra Ma q => (H.e O h5 q).imp fun rb Mb q => cm_imp (cm_ok q) fun k Mc q => ⟨fun e => (H.e O h6 (q.1 e)).imp fun rc Md q => cm_ok q, q.2⟩)
    · cases h
  · rename_i op x p
    cases op
    · exact evt_w (evw_and1 (H.t O h q))
    · exact evt_w (evw_or1 (H.t O h q))
  · split at h
    · split at h
      · obtain ⟨h1, h2⟩ := and2 h
        exact evt_w (evw_and ((H.t O h1 q).imp fun k M1 q => ⟨fun e => evw_of_t (H.t O h2 (q.1 e)), q.2⟩))
      · cases h
    · split at h
      · obtain ⟨h1, h2⟩ := and2 h
        exact evt_w (evw_or ((H.t O h1 q).imp fun k M1 q => ⟨fun e => evw_of_t (H.t O h2 (q.1 e)), q.2⟩))
      · cases h
    · cases h
  · split at h
    · have := of_decide_eq_true h; subst this
      exact evt_val (fun _ _ => rfl) (ev_bool ⟨_, rfl, q⟩)
    · cases h
  · obtain ⟨h1, h⟩ := and2 h
    obtain ⟨h2, h3⟩ := and2 h
    exact evt_truA (plT_ok h1) (H.e O h3 (t_plain h2 q))
end
end DX

namespace DX
open PySem PySem.Spec PyProof.Rows L2
variable {Ξ : Ev}

theorem allDt_eq : ∀ {rs : List Im} {ds : List Dt}, allDt rs = some ds → rs = ds.map .d
  | [], ds, h => by cases h; rfl
  | .d x :: r, ds, h => by
    simp only [allDt] at h
    cases e : allDt r with
    | none => rw [e] at h; cases h
    | some ds' => rw [e] at h; cases h; rw [allDt_eq e]; rfl
  | .p _ :: _, ds, h => by cases h
section
variable {G : Sx} {M : Sto} {Q : QE}
theorem lst_ok {own : Bool} {Γ : Ec} {R : QR} {es : List Expr} {pos : Pos} (h : EvA G es Γ M (fun rs M1 => lstW own rs M1 Q) R) : EvX G (.List es pos) Γ M Q R := by
  intro A F σ H Qv S L hQ hR
  refine tS_of (fun X hX => pe_lst (pa_S hX es)) (h A F σ H _ S L (fun rs M1 A1 F1 H1 vs q S1 a1 f1 r1 => ?_) hR)
  obtain ⟨hz, q⟩ := q
  refine ⟨by rw [← r1.len]; exact hz, fun p hp => ?_⟩
  split at q
  · rename_i ds e
    have er : rs = ds.map .d := allDt_eq e
    subst er
    cases own with
    | true => exact goes_lstP S1 (hQ.mono a1 f1) hp (c := .dl ds) rfl r1 q
    | false => exact goes_lst S1 (hQ.mono a1 f1) hp r1 q
  · cases own with
    | true => exact goes_lstP S1 (hQ.mono a1 f1) hp (c := .lst rs) rfl r1 q
    | false => exact q.elim
end

/-- a comprehension's code keeps its reading -/
def LcOk (G : Sx) (elt tg iter : Expr) (ifs : List Expr) (scope : Scope) (own : List (Str × Nat)) (Γ : Ec) (M : Sto) (Q : QE) (R : QR) : Prop :=
  ∃ (g : TG) (tt : TT), (∀ X, G.Has X → ∀ (s : Shared) (H : Hp) (C : Addr) (cl : List (Str × Addr)) (fp : List Addr), PG (X.blk s H scope (compEnvC scope cl C X.env) fp) tg g) ∧
    (∀ X, G.Has X → ∀ (s : Shared) (H : Hp) (C : Addr) (cl : List (Str × Addr)) (fp : List Addr), PTs (X.blk s H scope (compEnvC scope cl C X.env) fp) ifs tt) ∧
    ∀ A F σ H Qv, StO G.kw A M F H → SlG G A F Γ σ → Goes G A F Q Qv → Flies G A F R σ → tLc (iS G tg iter) g tt (tS (G.blk scope) elt) (own.map (·.2)) σ H Qv
section
variable {G : Sx} {Γ : Ec} {M : Sto} {Q : QE} {R : QR} {elt tg iter : Expr} {ifs : List Expr} {scope : Scope} {own : List (Str × Nat)} {pos spos py : Pos} {y : Str} {P : Pst} {i : Nat}
theorem ev_lcA (h0 : G.hot = none) (ok : blkC G.N G.sc scope own = true) (hs : ∀ env x, foldedSetIterable iter env x = pure x) (h : LcOk G elt tg iter ifs scope own Γ M Q R) : EvX G (.ListComp elt [⟨tg, iter, ifs, 0⟩] scope pos) Γ M Q R := by
  obtain ⟨g, tt, hg, ht, h⟩ := h
  intro A F σ H Qv S L hQ hR
  exact tS_of (fun X hX => pe_lc (own := own) (hX.calm h0) hX.nd (pi_S hX tg iter) (by rw [hX.N, hX.sc]; exact blkOk_by ok) (hg X hX) (ht X hX) (fun s H C cl fp => pe_S (hX.blk h0 s H scope C cl fp) elt) (hs _)) (h A F σ H Qv S L hQ hR)
theorem x_lcA (h0 : G.hot = none) (hi : G.N[i]? = some y) (hyl : G.sc.names.lookup y = some .local) (hsw : ∀ env : Env, env.scope = G.sc → swapsWith (.ListComp elt [⟨tg, iter, ifs, 0⟩] scope pos) (some (.Name y py)) spos.line env = pure true)
    (ok : blkC G.N G.sc scope own = true) (hs : ∀ env x, foldedSetIterable iter env x = pure x) (h : LcOk G elt tg iter ifs scope own Γ M (fun r M1 => P.nx (Γ.set i (some r)) M1) (P.rx Γ)) : ExX G (.Assign [.Name y py] (.ListComp elt [⟨tg, iter, ifs, 0⟩] scope pos) spos) Γ M P := by
  obtain ⟨g, tt, hg, ht, h⟩ := h
  intro A F σ H D S L hn hD
  exact sS_of (fun X hX => ps_setLc (own := own) (hX.calm h0) hX.nd (by rw [hX.N]; exact hi) (by rw [hX.sc]; exact hyl) (hsw _ hX.sc) (pi_S hX tg iter) (by rw [hX.N, hX.sc]; exact blkOk_by ok) (hg X hX) (ht X hX) (fun s H C cl fp => pe_S (hX.blk h0 s H scope C cl fp) elt) (hs _))
    (h A F σ H _ S L (fun r M1 A1 F1 H1 v q S1 a1 f1 r1 => hD.nx _ M1 A1 F1 _ H1 q S1 ((L.mono a1 f1).set r1 i (NoHot.none h0 i)) (a1.n _) f1) (hD.flies L))
end
theorem lcEnd_ok {own : Bool} {M1 M' : Sto} {Q : QE} (h : lcEnd own M1.length M' Q) : LcEnd M1 Q M' := by
  cases own with
  | true => exact .inl h
  | false =>
    simp only [lcEnd] at h
    split at h
    · rename_i e
      exact .inr (.inr ⟨_, _, e, rfl, h⟩)
    · exact h.elim
theorem push_ok {k : Nat} {y : Im} {M : Sto} {K : Sto → Prop} (h : pushW k y M K) : ∃ c acc, M[k]? = some c ∧ c.its = some acc ∧ acc.length < sizeLine ∧ K (M.set k (pushC c y)) := by
  unfold pushW at h
  split at h
  · rename_i e; exact ⟨_, _, e, rfl, by simpa using h.1, h.2⟩
  · rename_i e; exact ⟨_, _, e, rfl, h.1, h.2⟩
  · exact h.elim
section
variable {c : Chk} (H : Snd Ξ c)
include H
theorem if_ok {G : Sx} {C : Ck} {ifs : List Expr} {q : N} (O : GOk G Ξ C) (h0 : G.hot = none) (scope : Scope) (h : ifOk c (C.blk scope) ifs q = true) : ∃ tt : TT, (∀ X, G.Has X → ∀ (s : Shared) (H : Hp) (D : Addr) (cl : List (Str × Addr)) (fp : List Addr), PTs (X.blk s H scope (compEnvC scope cl D X.env) fp) ifs tt) ∧
    ∀ {Γ : Ec} {M : Sto} {Q : Bool → Sto → Prop}, (sem Ξ q).t Γ M Q NoXn → EvTs (G.blk scope) tt Γ M Q := by
  unfold ifOk at h
  split at h
  · exact ⟨tYes, fun _ _ _ _ _ _ _ => pts_nil, fun {Γ M Q} q => evts_nil q⟩
  · exact ⟨tST (G.blk scope) _, fun X hX s H D cl fp => pts_one (pt_S (hX.blk h0 s H scope D cl fp) _), fun {Γ M Q} q => evts_one ((H.t (O.blk scope) h q).impR fun _ _ _ => lx_no)⟩
  · cases h
theorem lc_ok {G : Sx} {C : Ck} {elt tg iter : Expr} {ifs : List Expr} {scope : Scope} {own : Bool} {a t it q : N} {vs : List (Str × Nat)} (O : GOk G Ξ C) (h0 : G.hot = none) (h1 : tgIn (vs.map (·.2)) t = true) (h2 : c.i C tg iter it = true) (h3 : c.g (C.blk scope) tg t = true) (h4 : c.e (C.blk scope) elt a = true) (h5 : ifOk c (C.blk scope) ifs q = true)
    {Γ : Ec} {M : Sto} {Q : QE} {R : RX} (h : (sem Ξ (.lc own a t it q vs)).e Γ M Q R) : LcOk G elt tg iter ifs scope vs Γ M Q (G.lx R) := by
  have hcb : ∀ X, (G.blk scope).Has X → X.calm = true := fun X hX => hX.calm h0
  obtain ⟨T, ⟨hm, g, hg, hgd⟩, hT⟩ := H.tg (O.blk scope) hcb h3 h1
  obtain ⟨tt, htt, hq⟩ := if_ok H O h0 scope h5
  refine ⟨g, tt, fun X hX s H C cl fp => hg _ (hX.blk h0 s H scope C cl fp), htt, fun A F σ H' Qv S L hQ hR => ?_⟩
  refine lc_core (G := G) (T := T) h0 hgd ((H.i O h2 h).imp fun xs ok M1 ⟨J, j0, step, fin⟩ => ⟨J, j0, fun i x M' hx hj => ?_, fun M' hj => ?_⟩) S L hQ hR
  · obtain ⟨hok, hb⟩ := step i x M' hx hj
    refine ⟨hok, hm _ _ _ _ (fun Γ2 h => ?_) (hT hb)⟩
    refine (hq h).imp fun b M3 ⟨q1, q2⟩ => ⟨fun e => ?_, q2⟩
    exact ((H.e (O.blk scope) h4 (q1 e)).impR fun _ _ _ => lx_no).imp fun y M4 h => push_ok h
  · obtain ⟨hok, he⟩ := fin M' hj
    exact ⟨hok, lcEnd_ok he⟩
theorem lcp_ok {G : Sx} {C : Ck} {elt tg iter : Expr} {ifs : List Expr} {scope : Scope} {own : Bool} {a t it q : N} {vs : List (Str × Nat)} (O : GOk G Ξ C) (h0 : G.hot = none) (h1 : tgIn (vs.map (·.2)) t = true) (h2 : c.i C tg iter it = true) (h3 : c.g (C.blk scope) tg t = true) (h4 : c.e (C.blk scope) elt a = true) (h5 : ifOk c (C.blk scope) ifs q = true)
    {Γ : Ec} {M : Sto} {Q : QE} {R : RX} (h : (sem Ξ (.lcp own a t it q vs)).e Γ M Q R) : LcOk G elt tg iter ifs scope vs Γ M Q (G.lx R) := by
  have hcb : ∀ X, (G.blk scope).Has X → X.calm = true := fun X hX => hX.calm h0
  obtain ⟨T, ⟨hm, g, hg, hgd⟩, hT⟩ := H.tg (O.blk scope) hcb h3 h1
  obtain ⟨tt, htt, hq⟩ := if_ok H O h0 scope h5
  refine ⟨g, tt, fun X hX s H C cl fp => hg _ (hX.blk h0 s H scope C cl fp), htt, fun A F σ H' Qv S L hQ hR => ?_⟩
  refine lc_core (G := G) (T := T) h0 hgd ((H.i O h2 h).imp fun xs ok M1 ⟨hz, fI, pI, step, hok, fin⟩ => ⟨fun i M' => M' = M1 ++ [.dl (((xs.take i).filter pI).map fI)], by simp, fun i x M' hx hj => ?_, fun M' hj => ?_⟩) S L hQ hR
  · subst hj
    refine ⟨hok _, hm _ _ _ _ (fun Γ2 h => ?_) (hT (step x (List.mem_of_getElem? hx) (((xs.take i).filter pI).map fI)))⟩
    refine (hq h).imp ?_
    rintro b M3 ⟨hb, rfl, q1⟩
    refine ⟨fun e => ?_, fun e => .inl ?_⟩
    · refine ((H.e (O.blk scope) h4 (q1 e)).impR fun _ _ _ => lx_no).imp ?_
      rintro y M4 ⟨rfl, rfl⟩
      refine ⟨_, _, getLast_app, rfl, ?_, ?_⟩
      · have hx' := (List.getElem?_eq_some_iff.mp hx).1
        have h4 := List.length_filter_le pI (xs.take i)
        simp only [List.length_map]
        rw [List.length_take] at h4
        omega
      · rw [setLast_app]
        refine .inl ?_
        show M1 ++ _ = M1 ++ _
        rw [filter_snoc hx, ← hb, e]
        simp [pushC]
    · show M1 ++ _ = M1 ++ _
      rw [filter_snoc hx, ← hb, e]
      simp
  · subst hj
    refine ⟨hok _, ?_⟩
    rw [List.take_of_length_le (Nat.le_refl _)]
    cases own with
    | true => exact .inl fin
    | false => exact .inr (.inl ⟨_, _, rfl, rfl, fin⟩)
theorem lcChk_ok {G : Sx} {C : Ck} {elt tg iter : Expr} {ifs : List Expr} {scope : Scope} {n : N} (O : GOk G Ξ C) (h : lcChk c C elt tg iter ifs scope n = true)
    {Γ : Ec} {M : Sto} {Q : QE} {R : RX} (q : (sem Ξ n).e Γ M Q R) : G.hot = none ∧ ∃ vs, blkC G.N G.sc scope vs = true ∧ (∀ env x, foldedSetIterable iter env x = pure x) ∧ LcOk G elt tg iter ifs scope vs Γ M Q (G.lx R) := by
  unfold lcChk at h
  split at h
  · obtain ⟨h0, h⟩ := and2 h
    have h0 := O.cal h0
    obtain ⟨h1, h⟩ := and2 h
    obtain ⟨h2, h⟩ := and2 h
    obtain ⟨h3, h⟩ := and2 h
    obtain ⟨h4, h⟩ := and2 h
    obtain ⟨h5, h⟩ := and2 h
    obtain ⟨h6, h7⟩ := and2 h
    exact ⟨h0, _, by rw [O.N, O.sc]; exact h1, notSet_F h3, lcp_ok H O h0 h2 h4 h5 h6 h7 q⟩
  · obtain ⟨h0, h⟩ := and2 h
    have h0 := O.cal h0
    obtain ⟨h1, h⟩ := and2 h
    obtain ⟨h2, h⟩ := and2 h
    obtain ⟨h3, h⟩ := and2 h
    obtain ⟨h4, h⟩ := and2 h
    obtain ⟨h5, h⟩ := and2 h
    obtain ⟨h6, h7⟩ := and2 h
    exact ⟨h0, _, by rw [O.N, O.sc]; exact h1, notSet_F h3, lc_ok H O h0 h2 h4 h5 h6 h7 q⟩
  · cases h
end
end DX

namespace DX
open PySem PySem.Spec PyProof.Rows L2
variable {Ξ : Ev}

/-- the work of a comprehension's turn, read -/
structure WkOk (Ξ : Ev) (G : Sx) (scope : Scope) (vs : List Nat) (e : Expr) (p : Pos) (tg : Expr) (ifs : List Expr) (b : N) (act : Act) (mo : Addr → Env → Sem Fin → Sem Fin) : Prop where
  pw : ∀ X, G.Has X → ∀ D, Blk X scope fun Y => PWk Y vs D (mo D Y.env) act
  tu : ∀ it D env, compTurn e 0 (.ref it) (.ref D) env = turnOf p tg ifs (.ref it) env (mo D env) (again (.compLoop e 0 (.ref it) (.ref D) env))
  act : ∀ {k : Nat} {Γ : Ec} {M : Sto} {Nx : Sto → Prop} {P : Ps}, (sem Ξ b).s k Γ M (fun _ M' => Nx M') P → ActX (G.blk scope) k act Γ M Nx
theorem cmEnd_ok {own : Bool} {M1 M' : Sto} {Q : QE} (h : cmEnd own M1 Q M') : CmEnd M1 Q M' := by
  cases own with
  | true => exact .inl (.inl h)
  | false =>
    simp only [cmEnd] at h
    split at h
    · rename_i ds e
      rcases h with ⟨e1, h⟩ | h
      · exact .inl (.inr (.inl ⟨_, _, e1, rfl, h⟩))
      · exact .inl (.inr (.inr ⟨_, _, e, rfl, h⟩))
    · rename_i kvs e
      rcases h with ⟨e1, h⟩ | h
      · exact .inr (.inl ⟨_, e1, h⟩)
      · exact .inr (.inr ⟨_, e, h⟩)
    · exact h.elim
theorem evi_impR {G : Sx} {tg e : Expr} {Γ : Ec} {M : Sto} {Q : List Im → (Sto → Prop) → Sto → Prop} {R R' : QR} (h : EvI G tg e Γ M Q R) (hr : ∀ C fs M, R C fs M → R' C fs M) : EvI G tg e Γ M Q R' := fun A F σ H Rk S L hQ hR => h A F σ H Rk S L hQ (hR.imp hr)
theorem leaf_l {c : Chk} {C : Ck} {elt : Expr} {gs : List Comprehension} {scope : Scope} {pos : Pos} {b : N} (h : leafChk c C (.ListComp elt gs scope pos) b = true) : ∃ a, b = .yl a ∧ c.e C elt a = true := by
  cases b <;> first | exact ⟨_, rfl, h⟩ | cases h
theorem leaf_d {c : Chk} {C : Ck} {kx vx : Expr} {gs : List Comprehension} {scope : Scope} {pos : Pos} {b : N} (h : leafChk c C (.DictComp kx vx gs scope pos) b = true) : ∃ a a', b = .yd a a' ∧ c.e C kx a = true ∧ c.e C vx a' = true := by
  cases b <;> first | exact ⟨_, _, rfl, and2 h⟩ | cases h
section
variable {c : Chk} (H : Snd Ξ c)
include H
theorem act_yl {G : Sx} {C : Ck} {elt : Expr} {a : N} (O : GOk G Ξ C) (h : c.e C elt a = true) {k : Nat} {Γ : Ec} {M : Sto} {Nx : Sto → Prop} {P : Ps} (q : (sem Ξ (.yl a)).s k Γ M (fun _ M' => Nx M') P) : ActX G k (actL (tS G elt)) Γ M Nx :=
  act_push (((H.e O h q).impR fun _ _ _ => lx_no).imp fun y M4 h => push_ok h)
theorem act_yd {G : Sx} {C : Ck} {kx vx : Expr} {a b : N} (O : GOk G Ξ C) (h1 : c.e C kx a = true) (h2 : c.e C vx b = true) {k : Nat} {Γ : Ec} {M : Sto} {Nx : Sto → Prop} {P : Ps} (q : (sem Ξ (.yd a b)).s k Γ M (fun _ M' => Nx M') P) : ActX G k (actD G (tS G kx) (tS G vx)) Γ M Nx :=
  act_put (((H.e O h1 q).impR fun _ _ _ => lx_no).imp fun rk M1 q => ((H.e O h2 q).impR fun _ _ _ => lx_no).imp fun rv M2 q => by
    split at q
    · exact ⟨_, rfl, q⟩
    · exact q.elim)
theorem wk_l {G : Sx} {C : Ck} {elt tg iter : Expr} {ifs : List Expr} {rest : List Comprehension} {scope : Scope} {pos : Pos} {vs : List Nat} {b : N} (O : GOk G Ξ C) (h0 : G.hot = none) (h : restChk c (C.blk scope) vs (.ListComp elt (⟨tg, iter, ifs, 0⟩ :: rest) scope pos) rest b = true) :
    ∃ act mo, WkOk Ξ G scope vs (.ListComp elt (⟨tg, iter, ifs, 0⟩ :: rest) scope pos) iter.pos tg ifs b act mo := by
  unfold restChk at h
  split at h
  · obtain ⟨a, rfl, h'⟩ := leaf_l h
    exact ⟨_, fun D env => leafM (pushM D elt env), fun X hX D s H' C' cl fp => pw_push (fun _ _ z => z) (pe_S (hX.blk h0 s H' scope C' cl fp) elt), fun it D env => rfl, fun q => act_yl H (O.blk scope) h' q⟩
  · rename_i tg1 iter1 ifs1
    split at h
    · rename_i t it q b vs1
      obtain ⟨h1, h⟩ := and2 h
      obtain ⟨h2, h⟩ := and2 h
      obtain ⟨h3, h⟩ := and2 h
      obtain ⟨h4, h⟩ := and2 h
      obtain ⟨h5, h⟩ := and2 h
      obtain ⟨h6, h7⟩ := and2 h
      have hv : ∀ i ∈ vs1, i ∈ vs := fun i hi => by simpa using List.all_eq_true.mp h1 i hi
      have O1 := O.blk scope
      have h01 : (G.blk scope).hot = none := h0
      have hcb : ∀ X, (G.blk scope).Has X → X.calm = true := fun X hX => hX.calm h0
      obtain ⟨T, ⟨hm, g, hg, hgd⟩, hT⟩ := H.tg O1 hcb h5 h2
      obtain ⟨a, rfl, h8⟩ := leaf_l h7
      obtain ⟨tt, htt, hq⟩ := if_ok H O h0 scope h6
      refine ⟨actO (iS (G.blk scope) tg1 iter1) g tt (actL (tS (G.blk scope) elt)) vs1, fun D env => outM (.ListComp elt [⟨tg, iter, ifs, 0⟩, ⟨tg1, iter1, ifs1, 0⟩] scope pos) 1 iter1 (.ref D) env, fun X hX D s H' C' cl fp => ?_, fun it D env => rfl, fun {k Γ M Nx P} q => ?_⟩
      · have hY := hX.blk h0 s H' scope C' cl fp
        exact pw_out (p := iter1.pos) (m1 := leafM (pushM D elt _)) codeOk_l2 (fun _ _ z => z) (hX.calm h0) (notSet_F h3 _) (pi_S hY tg1 iter1) (hg _ hY) (htt X hX s H' C' cl fp) (pw_push (fun _ _ z => z) (pe_S hY elt)) (fun it => rfl) hv
      · refine act_out h01 hgd ((evi_impR (H.i O1 h4 q) fun _ _ _ => lx_no).imp fun ys ok M1 ⟨hk, J, j0, step, fin⟩ => ⟨Nat.blt_eq.mp hk, J, j0, fun j y M' hy hj => ?_, fin⟩)
        obtain ⟨hok, hb⟩ := step j y M' hy hj
        refine ⟨hok, hm _ _ _ _ (fun Γ2 h => ?_) (hT hb)⟩
        exact (hq h).imp fun b M3 ⟨q1, q2⟩ => ⟨fun e => act_yl H O1 h8 (q1 e), q2⟩
    · cases h
  · cases h
theorem wk_d {G : Sx} {C : Ck} {kx vx tg iter : Expr} {ifs : List Expr} {rest : List Comprehension} {scope : Scope} {pos : Pos} {vs : List Nat} {b : N} (O : GOk G Ξ C) (h0 : G.hot = none) (h : restChk c (C.blk scope) vs (.DictComp kx vx (⟨tg, iter, ifs, 0⟩ :: rest) scope pos) rest b = true) :
    ∃ act mo, WkOk Ξ G scope vs (.DictComp kx vx (⟨tg, iter, ifs, 0⟩ :: rest) scope pos) iter.pos tg ifs b act mo := by
  unfold restChk at h
  split at h
  · obtain ⟨a, a', rfl, h'⟩ := leaf_d h
    exact ⟨_, fun D env => leafM (putM D kx vx env), fun X hX D s H' C' cl fp => pw_put (hX.blk h0 s H' scope C' cl fp) (fun _ _ z => z) (pe_S (hX.blk h0 s H' scope C' cl fp) kx) (pe_S (hX.blk h0 s H' scope C' cl fp) vx), fun it D env => rfl, fun q => act_yd H (O.blk scope) h'.1 h'.2 q⟩
  · rename_i tg1 iter1 ifs1
    split at h
    · rename_i t it q b vs1
      obtain ⟨h1, h⟩ := and2 h
      obtain ⟨h2, h⟩ := and2 h
      obtain ⟨h3, h⟩ := and2 h
      obtain ⟨h4, h⟩ := and2 h
      obtain ⟨h5, h⟩ := and2 h
      obtain ⟨h6, h7⟩ := and2 h
      have hv : ∀ i ∈ vs1, i ∈ vs := fun i hi => by simpa using List.all_eq_true.mp h1 i hi
      have O1 := O.blk scope
      have h01 : (G.blk scope).hot = none := h0
      have hcb : ∀ X, (G.blk scope).Has X → X.calm = true := fun X hX => hX.calm h0
      obtain ⟨T, ⟨hm, g, hg, hgd⟩, hT⟩ := H.tg O1 hcb h5 h2
      obtain ⟨a, a', rfl, h8⟩ := leaf_d h7
      obtain ⟨tt, htt, hq⟩ := if_ok H O h0 scope h6
      refine ⟨actO (iS (G.blk scope) tg1 iter1) g tt (actD (G.blk scope) (tS (G.blk scope) kx) (tS (G.blk scope) vx)) vs1, fun D env => outM (.DictComp kx vx [⟨tg, iter, ifs, 0⟩, ⟨tg1, iter1, ifs1, 0⟩] scope pos) 1 iter1 (.ref D) env, fun X hX D s H' C' cl fp => ?_, fun it D env => rfl, fun {k Γ M Nx P} q => ?_⟩
      · have hY := hX.blk h0 s H' scope C' cl fp
        exact pw_out (p := iter1.pos) (m1 := leafM (putM D kx vx _)) codeOk_d2 (fun _ _ z => z) (hX.calm h0) (notSet_F h3 _) (pi_S hY tg1 iter1) (hg _ hY) (htt X hX s H' C' cl fp) (pw_put hY (fun _ _ z => z) (pe_S hY kx) (pe_S hY vx)) (fun it => rfl) hv
      · refine act_out h01 hgd ((evi_impR (H.i O1 h4 q) fun _ _ _ => lx_no).imp fun ys ok M1 ⟨hk, J, j0, step, fin⟩ => ⟨Nat.blt_eq.mp hk, J, j0, fun j y M' hy hj => ?_, fin⟩)
        obtain ⟨hok, hb⟩ := step j y M' hy hj
        refine ⟨hok, hm _ _ _ _ (fun Γ2 h => ?_) (hT hb)⟩
        exact (hq h).imp fun b M3 ⟨q1, q2⟩ => ⟨fun e => act_yd H O1 h8.1 h8.2 (q1 e), q2⟩
    · cases h
  · cases h
omit H in
theorem comp_imp {G : Sx} {scope : Scope} {T : Im → Ec → (Ec → Prop) → Prop} {tt : TT} {act : Act} {vs : List (Str × Nat)} {xs : List Im} {ok : Sto → Prop} {M1 : Sto} {own dict : Bool} {e : Expr} {p : Pos} {tg : Expr} {ifs : List Expr} {mo : Addr → Env → Sem Fin → Sem Fin} {t q b : N} {Γ : Ec} {Q : QE}
    (W : WkOk Ξ G scope (vs.map (·.2)) e p tg ifs b act mo) (hm : ∀ r Γ (Qd Qd' : Ec → Prop), (∀ Γ', Qd Γ' → Qd' Γ') → T r Γ Qd → T r Γ Qd')
    (hT : ∀ {r : Im} {Γ : Ec} {M : Sto} {Q : Ec → Sto → Prop} {R : RX}, (sem Ξ t).g r Γ M Q R → T r Γ fun Γ' => Q Γ' M) (hq : ∀ {Γ : Ec} {M : Sto} {Q : Bool → Sto → Prop}, (sem Ξ q).t Γ M Q NoXn → EvTs (G.blk scope) tt Γ M Q)
    (h : ∃ J : Nat → Sto → Prop, J 0 (M1 ++ [cmNew dict]) ∧
      (∀ (i : Nat) x M', xs[i]? = some x → J i M' → ok M' ∧ (sem Ξ t).g x (wipeE Γ (vs.map (·.2))) M' (fun Γ2 M2 => (sem Ξ q).t Γ2 M2 (fun k M3 =>
        (k = true → (sem Ξ b).s M1.length Γ2 M3 (fun _ M4 => TurnsM (M1.length + 1) (J (i + 1)) M4) { rt := fun _ _ => False }) ∧ (k = false → TurnsM (M1.length + 1) (J (i + 1)) M3)) NoXn) NoXn) ∧
      (∀ M', J xs.length M' → ok M' ∧ cmEnd own M1 Q M')) :
    ∃ J : Nat → Sto → Prop, J 0 (M1 ++ [cmNew dict]) ∧
      (∀ (i : Nat) x M', xs[i]? = some x → J i M' → ok M' ∧ T x (wipeE Γ (vs.map (·.2))) (fun Γ2 => EvTs (G.blk scope) tt Γ2 M' (fun b M2 =>
        (b = true → ActX (G.blk scope) M1.length act Γ2 M2 (TurnsM (M1.length + 1) (J (i + 1)))) ∧ (b = false → TurnsM (M1.length + 1) (J (i + 1)) M2)))) ∧
      (∀ M', J xs.length M' → ok M' ∧ CmEnd M1 Q M') := by
  obtain ⟨J, j0, step, fin⟩ := h
  refine ⟨J, j0, fun i x M' hx hj => ?_, fun M' hj => ⟨(fin M' hj).1, cmEnd_ok (fin M' hj).2⟩⟩
  obtain ⟨hok, hb⟩ := step i x M' hx hj
  exact ⟨hok, hm _ _ _ _ (fun Γ2 h => (hq h).imp fun b M3 ⟨q1, q2⟩ => ⟨fun e => W.act (q1 e), q2⟩) (hT hb)⟩
theorem comp_ok {G : Sx} {C : Ck} {e : Expr} {n : N} (O : GOk G Ξ C) (h : cmChk c C e n = true) {Γ : Ec} {M : Sto} {Q : QE} {R : RX} (q : (sem Ξ n).e Γ M Q R) : G.hot = none ∧ ∃ (u0 : HO) (g : TG) (tt : TT) (act : Act) (vs : List (Str × Nat)) (tg iter : Expr),
    (∀ {A F σ H' Qv}, StO G.kw A M F H' → SlG G A F Γ σ → Goes G A F Q Qv → Flies G A F (G.lx R) σ → tCm u0 (iS G tg iter) g tt act (vs.map (·.2)) σ H' Qv) ∧
    (∀ X, G.Has X → PE X e (tCm u0 (iS G tg iter) g tt act (vs.map (·.2)))) ∧
    ∀ X, G.Has X → ∀ {i : Nat} {y : Str} {py spos : Pos}, X.N[i]? = some y → X.env.scope.names.lookup y = some .local → swapsWith e (some (.Name y py)) spos.line X.env = pure true → PS X (.Assign [.Name y py] e spos) (tAsg (tCm u0 (iS G tg iter) g tt act (vs.map (·.2))) (gName i)) := by
  unfold cmChk at h
  split at h
  case h_2 => cases h
  rename_i own d t it q' b vs
  obtain ⟨h0, h⟩ := and2 h
  have h0 := O.cal h0
  split at h
  · rename_i elt tg iter ifs rest scope pos _
    obtain ⟨h1, h⟩ := and2 h
    obtain ⟨h2, h⟩ := and2 h
    obtain ⟨h3, h⟩ := and2 h
    obtain ⟨h4, h⟩ := and2 h
    obtain ⟨h5, h⟩ := and2 h
    obtain ⟨h6, h⟩ := and2 h
    obtain ⟨h7, h8⟩ := and2 h
    have hcb : ∀ X, (G.blk scope).Has X → X.calm = true := fun X hX => hX.calm h0
    obtain ⟨T, ⟨hm, g, hg, hgd⟩, hT⟩ := H.tg (O.blk scope) hcb h6 h3
    obtain ⟨tt, htt, hq⟩ := if_ok H O h0 scope h7
    obtain ⟨act, mo, W⟩ := wk_l H O h0 h8
    have hd := nott h1; subst hd
    refine ⟨h0, .lst [], g, tt, act, vs, tg, iter, fun {A F σ H' Qv} S L hQ hR => ?_, fun X hX => ?_, fun X hX {i y py spos} hy hyl hsw => ?_⟩
    · exact cm_coreS (c0 := .dl []) (T := T) (tg := tg) (scope := scope) h0 newC_list hgd ((H.i O h5 q).imp fun xs ok M1 h => comp_imp W hm hT hq h) S L hQ hR
    · exact pe_cmL (hX.calm h0) hX.nd (pi_S hX tg iter) (by rw [hX.N, hX.sc, O.N, O.sc]; exact blkOk_by h2) (fun s H' C' cl fp => hg _ (hX.blk h0 s H' scope C' cl fp)) (htt X hX) (W.pw X hX) (notSet_F h4 _) W.tu
    · exact ps_cmL (hX.calm h0) hX.nd (pi_S hX tg iter) (by rw [hX.N, hX.sc, O.N, O.sc]; exact blkOk_by h2) (fun s H' C' cl fp => hg _ (hX.blk h0 s H' scope C' cl fp)) (htt X hX) (W.pw X hX) (notSet_F h4 _) hy hyl hsw W.tu
  · rename_i kx vx tg iter ifs rest scope pos _
    obtain ⟨h1, h⟩ := and2 h
    obtain ⟨h2, h⟩ := and2 h
    obtain ⟨h3, h⟩ := and2 h
    obtain ⟨h4, h⟩ := and2 h
    obtain ⟨h5, h⟩ := and2 h
    obtain ⟨h6, h⟩ := and2 h
    obtain ⟨h7, h8⟩ := and2 h
    have hcb : ∀ X, (G.blk scope).Has X → X.calm = true := fun X hX => hX.calm h0
    obtain ⟨T, ⟨hm, g, hg, hgd⟩, hT⟩ := H.tg (O.blk scope) hcb h6 h3
    obtain ⟨tt, htt, hq⟩ := if_ok H O h0 scope h7
    obtain ⟨act, mo, W⟩ := wk_d H O h0 h8
    subst h1
    refine ⟨h0, .dK [], g, tt, act, vs, tg, iter, fun {A F σ H' Qv} S L hQ hR => ?_, fun X hX => ?_, fun X hX {i y py spos} hy hyl hsw => ?_⟩
    · exact cm_coreS (c0 := .dd []) (T := T) (tg := tg) (scope := scope) h0 newC_dict hgd ((H.i O h5 q).imp fun xs ok M1 h => comp_imp W hm hT hq h) S L hQ hR
    · exact pe_cmD (hX.calm h0) hX.nd (pi_S hX tg iter) (by rw [hX.N, hX.sc, O.N, O.sc]; exact blkOk_by h2) (fun s H' C' cl fp => hg _ (hX.blk h0 s H' scope C' cl fp)) (htt X hX) (W.pw X hX) (notSet_F h4 _) W.tu
    · exact ps_cmD (hX.calm h0) hX.nd (pi_S hX tg iter) (by rw [hX.N, hX.sc, O.N, O.sc]; exact blkOk_by h2) (fun s H' C' cl fp => hg _ (hX.blk h0 s H' scope C' cl fp)) (htt X hX) (W.pw X hX) (notSet_F h4 _) hy hyl hsw W.tu
  · cases h
theorem snd_cm {G : Sx} {C : Ck} {e : Expr} {n : N} (O : GOk G Ξ C) (h : cmChk c C e n = true) {Γ : Ec} {M : Sto} {Q : QE} {R : RX} (q : (sem Ξ n).e Γ M Q R) : EvX G e Γ M Q (G.lx R) := by
  obtain ⟨h0, u0, g, tt, act, vs, tg, iter, k1, k2, k3⟩ := comp_ok H O h q
  exact fun A F σ H' Qv S L hQ hR => tS_of k2 (k1 S L hQ hR)
theorem x_cm {G : Sx} {C : Ck} {e : Expr} {n : N} {x : Str} {p spos : Pos} {i : Nat} (O : GOk G Ξ C) (hi : G.N[i]? = some x) (h : cmStmt c C x p e n = true) {Γ : Ec} {M : Sto} {K : Ec → Sto → Prop} {P : Ps} (q : (sem Ξ (.set i n)).s G.n Γ M K P) : ExX G (.Assign [.Name x p] e spos) Γ M (G.lp K P) := by
  unfold cmStmt at h
  obtain ⟨h1, h⟩ := and2 h
  obtain ⟨h2, h⟩ := and2 h
  have hk : G.sc.kind = .function := by rw [O.sc]; exact of_decide_eq_true h1
  have hl : G.sc.names.lookup x = some .local := by rw [O.sc]; exact of_decide_eq_true h2
  have fin : cmChk c C e n = true → (∀ env : Env, env.scope = G.sc → swapsWith e (some (.Name x p)) spos.line env = pure true) → ExX G (.Assign [.Name x p] e spos) Γ M (G.lp K P) := fun hc hsw => by
    have q' : (sem Ξ n).e Γ M (fun r M1 => K (Γ.set i (some r)) M1) (P.rx Γ) := q
    obtain ⟨h0, u0, g, tt, act, vs, tg, iter, k1, k2, k3⟩ := comp_ok H O hc q'
    intro A F σ H' D S L hn hD
    refine sS_of (fun X hX => k3 X hX (by rw [hX.N]; exact hi) (by rw [hX.sc]; exact hl) (hsw _ hX.sc)) ?_
    exact k1 S L (fun r M1 A1 F1 H1 v q S1 a1 f1 r1 => hD.nx _ M1 A1 F1 _ H1 q S1 ((L.mono a1 f1).set r1 i (NoHot.none h0 i)) (a1.n _) f1) (hD.flies L)
  split at h
  · obtain ⟨h3, h⟩ := and2 h
    obtain ⟨h4, h5⟩ := and2 h
    exact fin h5 fun env he => sw_true (by rw [he]; exact hk) (by rw [he]; exact hl) h3 (nott h4)
  · obtain ⟨h3, h⟩ := and2 h
    obtain ⟨h4, h5⟩ := and2 h
    exact fin h5 fun env he => sw_trueD (by rw [he]; exact hk) (by rw [he]; exact hl) h3 (nott h4)
  · cases h
end
end DX

namespace DX
open PySem PySem.Spec PyProof.Rows L2

section
variable {K : PySem.W.Frag} {mg : Str → Option Value}
theorem isx_sup {V : Ev} {x c : Str} {b : Bool} (h : V.isx x c = some b) : ∃ y ∈ V.xs, y.name = x ∧ ((b = true ∧ c ∈ y.sup) ∨ (b = false ∧ c ∈ y.non)) := by
  unfold Ev.isx at h
  split at h
  · rename_i y e
    have hm := List.mem_of_find?_eq_some e
    have hn := List.find?_some e
    have hn : y.name = x := of_decide_eq_true hn
    refine ⟨y, hm, hn, ?_⟩
    split at h
    · rename_i h1; cases h; exact .inl ⟨rfl, by simpa using h1⟩
    · split at h
      · rename_i h1; cases h; exact .inr ⟨rfl, by simpa using h1⟩
      · cases h
  · cases h
/-- what a class says of another -/
theorem isx_ok {V : Ev} (O : ∀ y ∈ V.xs, XcOk K mg y) {x c : Str} {b : Bool} (h : V.isx x c = some b) : ∃ D cv, mg x = some (.ref D) ∧ XFacts K D ∧ NameV mg c cv ∧ PySem.W.kitOne K (.ref D) (clU cv) = some b ∧ PySem.W.exmOne K (.ref D) (clU cv) = some b := by
  obtain ⟨y, hm, e, h'⟩ := isx_sup h
  subst e
  obtain ⟨D, h1, h2, h3, h4, _, _⟩ := (O y hm).ex
  rcases h' with ⟨rfl, hc⟩ | ⟨rfl, hc⟩
  · obtain ⟨cv, n, k, e⟩ := h3 c hc
    exact ⟨D, cv, h1, h2, n, k, e⟩
  · obtain ⟨cv, n, k, e⟩ := h4 c hc
    exact ⟨D, cv, h1, h2, n, k, e⟩
end

section
variable {G : Sx} {Γ : Ec} {M : Sto} {Q : QE} {R : QR} {pos p0 p1 p2 : Pos} {n z : Str} {i : Nat} {h : Hot} {b : Bool} {cv : Addr ⊕ String}
theorem inst_hot {X : Cx} {a D : Addr} {oe : Obj} {pn : List (Addr × Obj)} {d : Option Addr} {pins : List (Addr × Obj)} {σ : L2.St} {H : Hp} {s : Shared} (hz : Zc (.ref D) d oe) (hf : ∃ vs, oe.data = .fields vs) (hd : ∀ dd, d = some dd → ∃ vs, H dd = some (.xd vs))
    (I : Inv (X.suite a ((a, oe) :: pn)) pins σ H s) : ∃ od, PySem.W.InstAt s.heap a oe D od := by
  obtain ⟨hget, _⟩ := I.pin (a, oe) (List.mem_append.mpr (.inl List.mem_cons_self))
  obtain ⟨vs, hv⟩ := hf
  have hnc : PySem.W.notCls oe = true := by unfold PySem.W.notCls; rw [hv] <;> rfl
  cases d with
  | none => exact ⟨none, hget, hz.1, hnc, by rw [hz.2]; trivial⟩
  | some dd =>
    obtain ⟨ws, hx⟩ := hd dd rfl
    have hx : ObjOk X.prog X.w H s.heap dd (.xd ws) := I.hok dd _ hx
    obtain ⟨mA, hns, _⟩ := hx
    obtain ⟨od, ho, _⟩ := lookIn_ns hns
    exact ⟨some od, hget, hz.1, hnc, by rw [hz.2]; exact ho⟩
theorem name_pe (hv : NameV G.mg z cv) (hg : G.sc.names.lookup z = some .globalImplicit) (hd : (z == ("__debug__" : Str)) = false) : ∀ X, G.Has X → PE X (.Name z p2) (tC (clV cv)) := fun X hX => by
  cases cv with
  | inl a => exact pe_glob (v := .ref a) (gl_of hX hg) (by rw [hX.mg]; exact hv) rfl hd
  | inr T => exact pe_bltn (v := .ty T) (gl_of hX hg) (by rw [hX.mg]; exact hv.1) hv.2.1 rfl hv.2.2 hd
theorem ev_isE (hh : G.hot = some h) (hi : h.i = some i) (hN : G.N[i]? = some n) (hv : Vis G.sc n) (hd : (n == ("__debug__" : Str)) = false) (hcd : (n == ("__classdict__" : Str)) = false)
    (hz : NameV G.mg z cv) (hzg : G.sc.names.lookup z = some .globalImplicit) (hzd : (z == ("__debug__" : Str)) = false) (F : XFacts G.K h.D) (hk : PySem.W.kitOne G.K (.ref h.D) (clU cv) = some b)
    (hm : G.mg "isinstance" = none) (hg : G.sc.names.lookup ("isinstance" : Str) = some .globalImplicit) (hq : Q (.d (.bool b)) M) : EvX G (.Call (.Name "isinstance" p0) [.Name n p1, .Name z p2] [] pos) Γ M Q R := by
  intro A F0 σ H Qv S L hQ hR
  have hx := L.4 h
  refine tS_of (t := fun σ H Q => (σ[i]? = some (some (.ref h.a)) ∧ ∀ dd, h.d = some dd → ∃ vs, H dd = some (.xd vs)) ∧ Q (.bl b) H) (fun X hX => ⟨fun pins s σ H Q I q => ?_⟩) ⟨⟨L.3 h i hh hi, fun dd e => ?_⟩, hQ _ M A F0 H _ hq S (ALe.refl _) (Same.refl _) (Dv.bl b)⟩
  · obtain ⟨⟨hs, hxd⟩, q⟩ := q
    obtain ⟨X0, oe, pn, rfl, hzc, hf⟩ := hX.hot h hh
    have pn' := pe_var (X := X0.suite h.a ((h.a, oe) :: pn)) (x := n) (pos := p1) (i := i) (by rw [hX.N]; exact hN) (by rw [hX.sc]; exact hv) hd hcd
    have pz := name_pe (p2 := p2) hz hzg hzd _ hX
    refine wpAny_Call_Name_kw (ld_blt I (gl_of hX hg) (by rw [hX.mg]; exact hm) (show bootBuiltins "isinstance" = some (.builtin "isinstance") by decide +kernel) ?_ (by decide) (by decide))
    refine PyProof.Rows.callWith_builtin1 (thn ((pa_cons pn' (pa_cons pz pa_nil)).run pos pins s σ H (fun vs H1 => vs = [.ref h.a, clV cv] ∧ H1 = H) I ⟨_, hs, rfl, rfl⟩) fun us s1 ⟨vs, H1, I1, r1, e, eH⟩ => ?_) rfl rfl
    subst e eH
    cases r1 with
    | cons r1 r2 =>
      cases r2 with
      | cons r2 r3 =>
        cases r3
        obtain rfl : _ = Value.ref h.a := r1
        rename_i u2 _
        have r2 : u2 = clU cv := by cases cv <;> exact r2
        subst r2
        obtain ⟨od, J⟩ := inst_hot hzc hf hxd I1
        obtain ⟨cd, hcd, _⟩ := PySem.W.any_some F.ec.hd
        exact PySem.W.kia_one (PySem.W.kitx_exc (by rw [← hX.K] at hcd; exact Option.isSome_iff_exists.mpr ⟨cd, hcd⟩) (by rw [hX.K]; exact F.ec.hg) (by rw [hX.K]; exact F.ec.hk) (by rw [hX.K]; exact F.ec.hs) (by rw [hX.K]; exact F.ec.ha) (by rw [hX.K]; exact F.ec.hn) (by rw [hX.K]; exact F.ec.ht) (by rw [hX.K]; exact F.ec.hm))
          I1.kIn J (by rw [hX.K]; exact hk) (fun z => nomatch z) fun tk => ⟨.bl b, _, I1.kept (t' := tk) fun _ _ z => z, rfl, q⟩
  · obtain ⟨vs, e, _⟩ := hx dd hh e
    exact ⟨vs, S.sub _ _ e⟩
theorem evt_isE {Q : Bool → Sto → Prop} (hh : G.hot = some h) (hi : h.i = some i) (hN : G.N[i]? = some n) (hv : Vis G.sc n) (hd : (n == ("__debug__" : Str)) = false) (hcd : (n == ("__classdict__" : Str)) = false)
    (hz : NameV G.mg z cv) (hzg : G.sc.names.lookup z = some .globalImplicit) (hzd : (z == ("__debug__" : Str)) = false) (F : XFacts G.K h.D) (hk : PySem.W.kitOne G.K (.ref h.D) (clU cv) = some b)
    (hm : G.mg "isinstance" = none) (hg : G.sc.names.lookup ("isinstance" : Str) = some .globalImplicit) (hq : Q b M) : EvT G (.Call (.Name "isinstance" p0) [.Name n p1, .Name z p2] [] pos) Γ M Q R :=
  evt_val (fun env whole => rfl) (EvX.imp (ev_isE hh hi hN hv hd hcd hz hzg hzd F hk hm hg (Q := fun r M1 => r = .d (.bool b) ∧ M1 = M) ⟨rfl, rfl⟩) fun r M1 ⟨e1, e2⟩ => by subst e1 e2; exact ⟨b, rfl, hq⟩)

theorem ev_efld {f : Str} {x : Dt} (hh : G.hot = some h) (hi : h.i = some i) (hN : G.N[i]? = some n) (hv : Vis G.sc n) (hd : (n == ("__debug__" : Str)) = false) (hcd : (n == ("__classdict__" : Str)) = false)
    (F : XFacts G.K h.D) (hno : PySem.W.findIn G.K (.ref h.D) f = some none) (hs : h.d ≠ none) (hl : h.fs.lookup f = some x) (hq : Q (.d x) M) : EvX G (.Attribute (.Name n p1) f pos) Γ M Q R := by
  intro A F0 σ H Qv S L hQ hR
  cases e : h.d with
  | none => exact absurd e hs
  | some dd =>
    obtain ⟨ws, hw, hp⟩ := L.4 h dd hh e
    have lk : ∀ {fs : List (Str × Dt)} {ws : List (Str × V)}, Paired (fun (p : Str × Dt) (q : Str × V) => p.1 = q.1 ∧ Dv G.kw F0 q.2 p.2) fs ws → fs.lookup f = some x → ∃ v, ws.lookup f = some v ∧ Dv G.kw F0 v x := fun {fs ws} hp hl => by
      induction hp with
      | nil => cases hl
      | @cons a b as bs r t ih =>
        obtain ⟨a1, a2⟩ := a
        obtain ⟨b1, b2⟩ := b
        obtain ⟨r1, r2⟩ := r
        dsimp only at r1 r2
        subst r1
        rw [List.lookup_cons] at hl ⊢
        split at hl
        · rename_i hb
          cases hl
          exact ⟨_, rfl, r2⟩
        · exact ih hl
    obtain ⟨v, hv1, hv2⟩ := lk hp hl
    refine tS_of (t := fun σ H Q => (σ[i]? = some (some (.ref h.a)) ∧ H dd = some (.xd ws)) ∧ Q v H) (fun X hX => ⟨fun pins s σ H Q I q => ?_⟩) ⟨⟨L.3 h i hh hi, S.sub _ _ hw⟩, hQ _ M A F0 H _ hq S (ALe.refl _) (Same.refl _) hv2⟩
    obtain ⟨⟨hs, hxd⟩, q⟩ := q
    obtain ⟨X0, oe, pn, rfl, hzc, hf⟩ := hX.hot h hh
    have pn' := pe_var (X := X0.suite h.a ((h.a, oe) :: pn)) (x := n) (pos := p1) (i := i) (by rw [hX.N]; exact hN) (by rw [hX.sc]; exact hv) hd hcd
    have T : XfC X0.K h.D := by
      have ek : X0.K = G.K := hX.K
      rw [ek]
      exact ⟨F.ec.hg, F.ec.hk, F.ec.hs, F.ec.hd⟩
    have r := pe_xf (X := X0) (pos := pos) (n := f) T (by have ek : X0.K = G.K := hX.K; rw [ek]; exact hno) hzc hf pn' rfl
    exact r.run pins s σ H Q I ⟨_, hs, rfl, rfl, dd, ws, v, e, hxd, hv1, q⟩
end

section
variable {G : Sx} {Γ : Ec} {M : Sto} {P : Pst} {pos p0 p1 p2 : Pos} {z m : Str} {D : Addr} {j : Nat}
theorem x_raise (h0 : G.hot = none) (hm : G.mg z = some (.ref D)) (hg : G.sc.names.lookup z = some .globalImplicit) (hd : (z == ("__debug__" : Str)) = false) (F : XFacts G.K D)
    (hx : PySem.W.excIn G.K D [.type "ValueError", .type "Exception", .type "BaseException", .type "object"] "ValueError.__new__" = true) (h : P.ex D [] Γ M) : ExX G (.Raise (some (.Call (.Name z p0) [.Constant (.str m) j p1] [] p2)) none pos) Γ M P := by
  intro A F0 σ H Dn S L hn hD
  refine sS_of (fun X hX => ps_raise (hX.calm h0) hX.tk (pmk_own PySem.F.excBase_ValueError (by rw [hX.K]; exact hx) (by rw [hX.mg]; exact hm) (by rw [hX.K]; exact F.kC) (raises_own (by rw [hX.K]; exact F.ec.hs) (by rw [hX.K]; exact F.tC)) (gl_of hX hg) hd)) ?_
  exact (hD.ex D [] Γ M A F0 σ H h S L (ALn.refl _ _) (Same.refl _)).1 rfl
end

section
variable {G : Sx} {Γ : Ec} {M : Sto} {P : Pst} {pos np hp : Pos} {z : Str} {cv : Addr ⊕ String} {body su : List Stmt} {b0 : Stmt} {i : Option Nat} {nm : Option Str}
abbrev Sx.hotOf (G : Sx) (h : Hot) : Sx := { G with hot := some h, W := fun _ _ _ _ => False }
abbrev Sx.wi (G : Sx) (W : WX) : Sx := { G with W := W }
/-- a suite's end, seen from behind it -/
def Pst.beh (P : Pst) (i : Option Nat) : Pst := { nx := fun Γ M => P.nx (hotE i Γ) M, rt := P.rt, bk := fun Γ M => P.bk (hotE i Γ) M, ct := fun Γ M => P.ct (hotE i Γ) M }
def offS (i : Option Nat) (σ : L2.St) : L2.St := match i with
  | some i => σ.set i none
  | none => σ
def onS (i : Option Nat) (a : Addr) (σ : L2.St) : L2.St := match i with
  | some i => σ.set i (some (.ref a))
  | none => σ
theorem slh_behind {K : KW} {h : Hot} {A : List Addr} {F : Hp} {Γ : Ec} {σ : L2.St} (L : SlH K (some h) A F Γ σ) : ∀ i : Option Nat, SlH K none A F (hotE i Γ) (offS i σ)
  | none => ⟨L.1, L.2, (fun _ _ e => by cases e), fun _ _ e => by cases e⟩
  | some i => SlH.of (Sl.unset L.sl i) rfl
theorem stO_xd {K : KW} {A : List Addr} {M : Sto} {F H : Hp} (S : StO K A M F H) {d : Addr} {vs : List (Str × V)} (hz : K.z d = none) (hx : H d = some (.xd vs)) : StO K A M (upd F d (.xd vs)) H ∧ Same F (upd F d (.xd vs)) := by
  have hs : Same F (upd F d (.xd vs)) := fun b o e => by
    by_cases hb : b = d
    · subst hb
      have := S.sub _ _ e
      rw [hx] at this; cases this
      exact upd_same
    · rw [upd_ne hb]; exact e
  refine ⟨⟨fun b o e => ?_, S.len, S.nd, S.there, fun k a c e1 e2 => ?_, S.fr, S.fd, fun a o e => ?_⟩, hs⟩
  · by_cases hb : b = d
    · subst hb; rw [upd_same] at e; cases e; exact hx
    · rw [upd_ne hb] at e; exact S.sub _ _ e
  · have q := S.cel k a c e1 e2
    unfold CelR at q ⊢
    have ne : ∀ {o : HO}, H a = some o → (∀ ws, o ≠ .xd ws) → F a = none → upd F d (.xd vs) a = none := fun {o} h1 h2 h3 => by
      rw [upd_ne (fun z => by subst z; rw [hx] at h1; cases h1; exact h2 _ rfl)]; exact h3
    generalize c.gen = c' at q ⊢
    cases c' with
    | dead => trivial
    | dl _ => trivial
    | dd _ => trivial
    | lst xs => obtain ⟨z, vs', e, r⟩ := q; exact ⟨ne e (fun _ z => by cases z) z, vs', e, ImsR.mono (ALe.refl _) hs r⟩
    | dct xs =>
      obtain ⟨z, o, e, r⟩ := q
      refine ⟨ne e (fun ws z => ?_) z, o, e, r.mono hs fun _ _ => ImR.mono (ALe.refl _) hs⟩
      rcases r with ⟨ws, e, _⟩ | ⟨ws, e, _⟩
      · rw [e] at z; cases z
      · rw [e] at z; cases z
    | ins C xs => obtain ⟨z, dx, vs', e, r⟩ := q; exact ⟨ne e (fun _ z => by cases z) z, dx, vs', e, Paired.imp r fun _ _ q => ⟨q.1, ImR.mono (ALe.refl _) hs q.2⟩⟩
  · have := S.zf a o e
    rw [upd_ne (fun z => by subst z; rw [hz] at e; cases e)]; exact this
theorem names_of {X : Cx} (hX : G.Has X) (hz : NameV G.mg z cv) (hg : G.sc.names.lookup z = some .globalImplicit) (hd : (z == ("__debug__" : Str)) = false) : Names X z (clU cv) := by
  refine ⟨gl_of hX hg, hd, ?_⟩
  rw [hX.mg]
  cases cv with
  | inl a => exact .inl hz
  | inr T => exact .inr hz
theorem has_tr {X : Cx} (hX : G.Has X) {W : WX} {pn : List (Addr × Obj)} {xe : Value → Shared → Prop} (h0 : G.hot = none) (tk : Takes (X.tr pn xe) W) (po : PassesOwn (model X.prog X.w) X.A X.env xe) : (G.wi W).Has (X.tr pn xe) :=
  ⟨hX.prog, hX.w, hX.K, hX.mg, hX.base, hX.N, hX.sc, hX.nd, hX.room, hX.un, hX.calm, po, tk, hX.fn, hX.top, fun h e => by rw [show G.hot = none from h0] at e; cases e⟩
theorem has_hot {X : Cx} (hX : G.Has X) {h : Hot} {oe : Obj} {pn : List (Addr × Obj)} (hz : Zc (.ref h.D) h.d oe) (hf : ∃ vs, oe.data = .fields vs) : (G.hotOf h).Has (X.suite h.a ((h.a, oe) :: pn)) :=
  ⟨hX.prog, hX.w, hX.K, hX.mg, hX.base, hX.N, hX.sc, hX.nd, (fun e => by cases e), hX.un, (fun e => by cases e), PassesOwn.never, takes0, hX.fn, hX.top, fun h' e => by cases e; exact ⟨X, oe, pn, rfl, hz, hf⟩⟩
abbrev tsOf (G : Sx) (i : Option Nat) (su : List Stmt) : Addr → Value → Option Addr → TS := fun a cls d Dd σ H => ∃ h : Hot, (h.i = i ∧ h.a = a ∧ cls = .ref h.D ∧ h.d = d) ∧ sSs (G.hotOf h) su Dd σ H
theorem ts_ok {X : Cx} (hX : G.Has X) {a : Addr} {oe : Obj} {cls : Value} {d : Option Addr} {pn : List (Addr × Obj)} (hz : Zc cls d oe) (hf : ∃ vs, oe.data = .fields vs) {i : Option Nat} {su : List Stmt} : PSs (X.suite a ((a, oe) :: pn)) su (tsOf G i su a cls d) :=
  ⟨fun pins s σ H Dd I ⟨h, ⟨_, e2, e3, e4⟩, q⟩ => by subst e2 e3 e4; exact q _ (has_hot hX hz hf) pins s I⟩
theorem x_try (h0 : G.hot = none) (htop : G.top = true) (hz : NameV G.mg z cv) (hg : G.sc.names.lookup z = some .globalImplicit) (hd : (z == ("__debug__" : Str)) = false)
    (hi : match nm, i with
      | none, none => True
      | some m, some j => G.N[j]? = some m ∧ G.sc.names.lookup m = some .local
      | _, _ => False) {E : Addr → List (Str × Dt) → Ec → Sto → Prop}
    (hb : ∀ W, ExS (G.wi W) body Γ M { P with ex := E })
    (hE : ∀ C fs Γ1 M1, E C fs Γ1 M1 → ∃ b, PySem.W.exmOne G.K (.ref C) (clU cv) = some b ∧ (b = true → hotB i Γ1 = true ∧ ∀ h : Hot, h.i = i → h.D = C → h.fs = fs → (fs ≠ [] → h.d ≠ none) → ExS (G.hotOf h) (b0 :: su) (hotE i Γ1) M1 (P.beh i)) ∧ (b = false → P.ex C fs Γ1 M1)) :
    ExX G (.Try body [.ExceptHandler (some (.Name z np)) nm (b0 :: su) hp] [] [] pos) Γ M P := by
  intro A F σ H D S L hn hD
  -- the wish's core
  have core : ∀ (W : WX) (D' : Ends) (C : Addr) (fs : List (Str × Dt)) (Γ' : Ec) (M' : Sto) (A' : List Addr) (F' : Hp) (σ' : L2.St) (H' : Hp), E C fs Γ' M' → StO G.kw A' M' F' H' → SlG G A' F' Γ' σ' → ALn G.n A A' → Same F F' →
      (∀ σ'' H'', D'.nx σ'' H'' ↔ D.nx (offS i σ'') H'') → D'.rt = D.rt → (∀ σ'' H'', D'.bk σ'' H'' ↔ D.bk (offS i σ'') H'') → (∀ σ'' H'', D'.ct σ'' H'' ↔ D.ct (offS i σ'') H'') →
      FlyE G.kw F' H' C fs fun v d => ∃ b, PySem.W.exmOne G.K v (clU cv) = some b ∧ (b = true → ∀ a, H' a = none → tsOf G i (b0 :: su) a v d D' (onS i a σ') H') ∧ (b = false → G.W v d σ' H') := by
    intro W D' C fs Γ' M' A' F' σ' H' e S' L' a' f' dn dr db dc
    obtain ⟨b, hb1, ht, hf⟩ := hE C fs Γ' M' e
    have hl : G.n ≤ M'.length := by rw [← S'.len]; exact a'.len (by rw [S.len]; exact hn)
    have go : ∀ (d : Option Addr) (F2 : Hp), StO G.kw A' M' F2 H' → Same F' F2 → (fs ≠ [] → d ≠ none) → (∀ dd, d = some dd → ∃ vs, F2 dd = some (.xd vs) ∧ Paired (fun (p : Str × Dt) (q : Str × V) => p.1 = q.1 ∧ Dv G.kw F2 q.2 p.2) fs vs) → b = true → ∀ a, H' a = none → tsOf G i (b0 :: su) a (.ref C) d D' (onS i a σ') H' := fun d F2 S2 f2 hne hxd eb a ha => by
      refine ⟨⟨i, a, C, d, fs⟩, ⟨rfl, rfl, rfl, rfl⟩, ?_⟩
      refine (ht eb).2 ⟨i, a, C, d, fs⟩ rfl rfl rfl hne A' F2 _ H' D' S2 ?_ hl ?_
      · have L2 : Sl G.kw A' F2 Γ' σ' := (SlH.mono (ALe.refl _) f2 L').sl
        cases i with
        | none => exact ⟨L2.1, L2.2, (fun h j e1 e2 => by cases e1; cases e2), fun h dd e1 e2 => by cases e1; exact hxd dd e2⟩
        | some j =>
          have L3 := Sl.unset L2 j
          refine ⟨by simp [L2.1, hotE, onS], fun k r e => ?_, fun h k e1 e2 => ?_, fun h dd e1 e2 => by cases e1; exact hxd dd e2⟩
          · obtain ⟨v, h1, h2⟩ := L3.2 k r e
            refine ⟨v, ?_, h2⟩
            by_cases hk : j = k
            · subst hk
              have hj : j < σ'.length := by
                have := (List.getElem?_eq_some_iff.mp h1).1
                simpa using this
              rw [List.getElem?_set_self hj] at h1; cases h1
            · show (σ'.set j _)[k]? = _
              rw [List.getElem?_set_ne hk] at h1 ⊢; exact h1
          · cases e1
            cases e2
            have hj : j < σ'.length := by
              have := (ht eb).1
              rw [L2.1]
              exact Nat.blt_eq.mp this
            show (σ'.set j _)[j]? = _
            rw [List.getElem?_set_self hj]
      · have fF : Same F F2 := f'.trans f2
        refine ⟨fun Γ2 M2 A2 F3 σ2 H2 q S3 L3 a3 f3 => ?_, fun r M2 A2 F3 H2 v q S3 r3 a3 f3 => ?_, fun Γ2 M2 A2 F3 σ2 H2 q S3 L3 a3 f3 => ?_, fun Γ2 M2 A2 F3 σ2 H2 q S3 L3 a3 f3 => ?_, fun _ _ _ _ _ _ _ _ q => q.elim⟩
        · exact (dn _ _).mpr (hD.nx _ M2 A2 F3 _ H2 q S3 (by have := slh_behind L3 i; rw [← h0] at this; exact this) (a'.trans a3) (fF.trans f3))
        · rw [dr]; exact hD.rt r M2 A2 F3 H2 v q S3 r3 (a'.trans a3) (fF.trans f3)
        · exact (db _ _).mpr (hD.bk _ M2 A2 F3 _ H2 q S3 (by have := slh_behind L3 i; rw [← h0] at this; exact this) (a'.trans a3) (fF.trans f3))
        · exact (dc _ _).mpr (hD.ct _ M2 A2 F3 _ H2 q S3 (by have := slh_behind L3 i; rw [← h0] at this; exact this) (a'.trans a3) (fF.trans f3))
    refine ⟨fun e0 => ⟨b, hb1, go none F' S' (Same.refl _) (fun z => absurd e0 z) (fun dd e => by cases e), fun eb => (hD.ex C fs Γ' M' A' F' σ' H' (hf eb) S' L' a' f').1 e0⟩, fun e0 d vs hz hx hp => ⟨b, hb1, ?_, fun eb => (hD.ex C fs Γ' M' A' F' σ' H' (hf eb) S' L' a' f').2 e0 d vs hz hx hp⟩⟩
    obtain ⟨S2, f2⟩ := stO_xd S' hz hx
    exact go (some d) _ S2 f2 (fun _ z => by cases z) (fun dd e => by cases e; exact ⟨vs, upd_same, Paired.imp hp fun _ _ q => ⟨q.1, Dv.mono f2 q.2⟩⟩)
  cases i with
  | none =>
    cases nm with
    | some m => exact hi.elim
    | none =>
      refine sS_of (t := fun D σ H => sSs (G.wi (wOnly G.K (clU cv) (tsOf G none (b0 :: su)) G.W D)) body D σ H) (fun X hX => by
        rw [← hX.K]
        exact ps_try_only (tb := fun W => sSs (G.wi W) body) (ts := tsOf G none (b0 :: su)) (hX.top htop).1 (hX.top htop).2 (names_of hX hz hg hd) hX.tk (fun W pn xe tk po => pss_S (has_tr hX h0 tk po) _) (fun a oe cls d pn hz hf => ts_ok hX hz hf)) ?_
      refine hb _ A F σ H D S L hn ⟨hD.nx, hD.rt, hD.bk, hD.ct, fun C fs Γ' M' A' F' σ' H' e S' L' a' f' => ?_⟩
      exact core (fun _ _ _ _ => False) D C fs Γ' M' A' F' σ' H' e S' L' a' f' (fun _ _ => Iff.rfl) rfl (fun _ _ => Iff.rfl) (fun _ _ => Iff.rfl)
  | some j =>
    cases nm with
    | none => exact hi.elim
    | some m =>
      refine sS_of (t := fun D σ H => sSs (G.wi (wAs G.K (clU cv) j (tsOf G (some j) (b0 :: su)) G.W D)) body D σ H) (fun X hX => by
        rw [← hX.K]
        exact ps_try_as (tb := fun W => sSs (G.wi W) body) (ts := tsOf G (some j) (b0 :: su)) (hX.top htop).1 (hX.top htop).2 hX.nd (by rw [hX.N]; exact hi.1) (by show X.env.scope.names.lookup m = _; rw [hX.sc]; exact hi.2) (names_of hX hz hg hd) hX.tk (fun W pn xe tk po => pss_S (has_tr hX h0 tk po) _) (fun a oe cls d pn hz hf => ts_ok hX hz hf)) ?_
      refine hb _ A F σ H D S L hn ⟨hD.nx, hD.rt, hD.bk, hD.ct, fun C fs Γ' M' A' F' σ' H' e S' L' a' f' => ?_⟩
      exact core (fun _ _ _ _ => False) _ C fs Γ' M' A' F' σ' H' e S' L' a' f' (fun _ _ => Iff.rfl) rfl (fun _ _ => Iff.rfl) (fun _ _ => Iff.rfl)
end
end DX

namespace DX
open PySem PySem.Spec PyProof.Rows L2
variable {Ξ : Ev}
theorem allD_map : ∀ ds : List Dt, AllD (ds.map .d) ds
  | [] => trivial
  | d :: ds => ⟨rfl, allD_map ds⟩
theorem m1_of {X : Cx} {o e : Expr} {m : Str} {apos cpos : Pos} (h2 : notSuper o = true) (h3 : notStar e = true) (h4 : (apos.endLine == cpos.line) = true) : M1 X o m apos e cpos :=
  ⟨notSuper_B h2 _ _, by rw [notStar_A h3 []]; rfl, h4, by rw [notStar_A h3 []]; rfl⟩
theorem m2_of {X : Cx} {o e f : Expr} {m : Str} {apos cpos : Pos} (h2 : notSuper o = true) (h3 : notStar e = true) (h4 : (apos.endLine == cpos.line) = true) (h5 : notStar f = true) : M2 X o m apos e f cpos :=
  ⟨notSuper_B h2 _ _, by rw [notStar_A h3 [f], notStar_A h5 []]; rfl, h4, by rw [notStar_A h3 [f], notStar_A h5 []]; rfl⟩
section
variable {c : Chk} (H : Snd Ξ c)
include H
theorem snd_call {G : Sx} {C : Ck} {g : FnE} {args : List Expr} {as : N} {p pos : Pos} (O : GOk G Ξ C) (h0 : G.hot = none) (D : DefOk G.P G.w G.K G.mg G.base G.k g) (hg : G.sc.names.lookup g.name = some .globalImplicit) (hd : dbg g.name = false) (h : callArgs c C args as = true) {Γ : Ec} {M : Sto} {Q : QE} {R : RX} (q : (sem Ξ as).a Γ M (fun rs M1 => callW g.sp (rs ++ g.df.map .d) M1 Q R) R) : EvX G (.Call (.Name g.name p) args [] pos) Γ M Q (G.lx R) := by
  unfold callArgs at h
  split at h
  · split at h
    · exact n_call0 h0 D hg q hd
    · cases h
  · rename_i a es
    obtain ⟨h4, h5⟩ := and2 h
    rw [List.all_cons] at h4
    exact n_call h0 D hg (notStar_A (and2 h4).1 _) (notStar_As (and2 h4).2) (H.a O h5 q) hd
theorem ne_ok {args : List Expr} {C : Ck} {as : N} (h : neArgs c C args as = true) : ∃ a es, args = a :: es ∧ notStar a = true ∧ es.all notStar = true ∧ c.a C (a :: es) as = true := by
  unfold neArgs at h
  split at h
  · cases h
  · rename_i a es
    obtain ⟨h4, h5⟩ := and2 h
    rw [List.all_cons] at h4
    exact ⟨a, es, rfl, (and2 h4).1, (and2 h4).2, h5⟩
theorem lstAt_ok {k : Nat} {M : Sto} {K : Prop} (h : lstAt k M K) : (∃ c xs, M[k]? = some c ∧ c.its = some xs) ∧ K := by
  unfold lstAt at h
  split at h
  · rename_i e; exact ⟨⟨_, _, e, rfl⟩, h⟩
  · rename_i e; exact ⟨⟨_, _, e, rfl⟩, h⟩
  · exact h.elim
theorem pair_ok {G : Sx} {C : Ck} (O : GOk G Ξ C) {Γ : Ec} {R : RX} : ∀ {ks : List (Option Expr)} {vs : List Expr} {as : N}, pairChk c C ks vs as = true → ∃ l : List (Expr × Expr), ks = (l.map (·.1)).map some ∧ vs = l.map (·.2) ∧ l.length = ks.length ∧
    ∀ {M : Sto} {Q : List Im → Sto → Prop}, (sem Ξ as).a Γ M Q R → EvPs G Γ (G.lx R) l M fun ps M' => Q (flatP ps) M'
  | [], [], as, h => by
    cases as <;> first | exact ⟨[], rfl, rfl, rfl, fun q => q⟩ | cases h
  | some k :: ks, v :: vs, as, h => by
    cases as with
    | cons a r0 =>
      cases r0 with
      | cons b r =>
        obtain ⟨h1, h⟩ := and2 (show (c.e C k a && (c.e C v b && pairChk c C ks vs r)) = true from h)
        obtain ⟨h2, h3⟩ := and2 h
        obtain ⟨l, e1, e2, e3, f⟩ := pair_ok O (R := R) h3
        refine ⟨(k, v) :: l, by rw [e1]; rfl, by rw [e2]; rfl, by rw [List.length_cons, List.length_cons, e3], fun {M Q} q => ?_⟩
        exact (H.e O h1 q).imp fun rk M1 q => (H.e O h2 q).imp fun rv M2 q => f q
      | _ => cases h
    | _ => cases h
  | [], _ :: _, as, h => by cases as <;> cases h
  | some _ :: _, [], as, h => by cases as <;> cases h
  | none :: _, vs, as, h => by cases vs <;> cases as <;> cases h
theorem snd_e {G : Sx} {C : Ck} {e : Expr} {n : N} (O : GOk G Ξ C) (h : stepE Ξ c C e n = true) {Γ : Ec} {M : Sto} {Q : QE} {R : RX} (q : (sem Ξ n).e Γ M Q R) : EvX G e Γ M Q (G.lx R) := by
  unfold stepE at h
  split at h
  · -- names
    split at h
    · obtain ⟨h1, h2, h3, h4⟩ := nmOk_ok O h
      simp only [sem] at q
      split at q
      · rename_i e; exact ev_name q e h1 h2 h3 h4
      · exact q.elim
    · split at h
      · rename_i d e
        obtain ⟨h1, h⟩ := and2 h
        obtain ⟨h2, h3⟩ := and2 h
        have := of_decide_eq_true h1; subst this
        simp only [sem] at q
        rw [e] at q
        obtain ⟨u, v, hm, hr, hd⟩ := O.cs d (List.mem_of_getElem? e)
        exact ev_glob q hm hr hd (glb_ok O h2) (nott h3)
      · cases h
    · cases h
  · -- constants
    split at h
    · have := of_decide_eq_true h; subst this; exact ev_int q
    · have := of_decide_eq_true h; subst this; exact ev_bool q
    · exact ev_none q
    · have := of_decide_eq_true h; subst this; exact ev_str q
    · cases h
  · -- operators
    split at h
    · rename_i op own a b
      obtain ⟨h1, h⟩ := and2 h
      obtain ⟨h2, h3⟩ := and2 h
      have := of_decide_eq_true h1; subst this
      have q2 : EvX G _ Γ M (fun ra Ma => EvX G _ Γ Ma (fun rb Mb => binW op own ra rb Mb Q) (G.lx R)) (G.lx R) := (H.e O h2 q).imp fun ra Ma q => H.e O h3 q
      cases op with
      | add => exact ev_add (q2.imp fun ra Ma q => q.imp fun rb Mb q => add_ok q)
      | sub => exact ev_sub (q2.imp fun ra Ma q => q.imp fun rb Mb q => by
          simp only [binW] at q
          split at q
          · exact ⟨_, _, rfl, rfl, q⟩
          · exact q.elim)
      | mul => exact ev_op op_all (q2.imp fun ra Ma q => q.imp fun rb Mb q => mul_ok q)
      | fdiv => exact ev_fdiv (q2.imp fun ra Ma q => q.imp fun rb Mb q => by
          simp only [binW] at q
          split at q
          · exact ⟨_, _, rfl, rfl, q⟩
          · exact q.elim)
      | mod => exact ev_mod (q2.imp fun ra Ma q => q.imp fun rb Mb q => by
          simp only [binW] at q
          split at q
          · exact ⟨_, _, rfl, rfl, q⟩
          · exact q.elim)
      | pow => exact ev_pow (q2.imp fun ra Ma q => q.imp fun rb Mb q => by
          simp only [binW] at q
          split at q
          · exact ⟨_, _, rfl, rfl, q⟩
          · exact q.elim)
    · cases h
  · split at h
    · exact ev_neg ((H.e O h q).imp fun r M1 q => by
        split at q
        · exact ⟨_, rfl, q⟩
        · exact q.elim)
    · cases h
  · split at h
    · exact ev_not ((H.e O h q).imp fun r M1 q => by
        split at q
        · exact ⟨_, rfl, q⟩
        · exact q.elim)
    · cases h
  · -- comparisons
    split at h
    · obtain ⟨h1, h⟩ := and2 h
      obtain ⟨h2, h⟩ := and2 h
      obtain ⟨h3, h4⟩ := and2 h
      have := of_decide_eq_true h1; subst this
      exact ev_cmpA (nott h2) ((H.e O h3 q).imp fun ra Ma q => (H.e O h4 q).imp fun rb Mb q => cm_ok q)
    · obtain ⟨h1, h⟩ := and2 h
      obtain ⟨h2, h⟩ := and2 h
      obtain ⟨h3, h4⟩ := and2 h
      have := of_decide_eq_true h1; subst this
      exact ev_cmpA (nott h2) ((H.e O h3 q).imp fun ra Ma q => (H.e O h4 q).imp fun rb Mb q => cm_imp (eqd_ok q) fun _ _ q => q)
    · split at h
      · exact ev_isN (H.e O h q)
      · cases h
    · cases h
  · exact ev_one (H.e O h q)
  · split at h
    · split at h
      · obtain ⟨h1, h2⟩ := and2 h
        exact ev_and ((H.e O h1 q).imp fun r M1 q => by
          split at q
          · exact ⟨_, rfl, fun e => H.e O h2 (q.1 e), q.2⟩
          · exact q.elim)
      · cases h
    · split at h
      · obtain ⟨h1, h2⟩ := and2 h
        exact ev_or ((H.e O h1 q).imp fun r M1 q => by
          split at q
          · exact ⟨_, rfl, fun e => H.e O h2 (q.1 e), q.2⟩
          · exact q.elim)
      · cases h
    · cases h
  · split at h
    · obtain ⟨h1, h⟩ := and2 h
      obtain ⟨h2, h3⟩ := and2 h
      exact ev_ifx ((H.t O h1 q).imp fun k M1 q => ⟨fun e => H.e O h2 (q.1 e), fun e => H.e O h3 (q.2 e)⟩)
    · cases h
  · -- calls
    split at h
    · split at h
      · rename_i g e
        obtain ⟨h0, h⟩ := and2 h
        obtain ⟨h1, h⟩ := and2 h
        obtain ⟨h2, h⟩ := and2 h
        obtain ⟨h3, h4⟩ := and2 h
        have := of_decide_eq_true h1; subst this
        simp only [sem] at q
        rw [e] at q
        exact snd_call H O (O.cal h0) ((O.fs g (List.mem_of_getElem? e)).up (Nat.sub_le _ _)) (glb_ok O h2) (nott h3) h4 q
      · cases h
    · obtain ⟨h1, h2⟩ := and2 h
      exact snd_bi H O h1 h2 q
    · cases h
  · -- methods
    split at h
    · obtain ⟨h1, h⟩ := and2 h
      obtain ⟨h2, h⟩ := and2 h
      obtain ⟨h3, h⟩ := and2 h
      obtain ⟨h4, h7⟩ := and2 h
      have := eq_of_beq h1; subst this
      split at h7
      · obtain ⟨h5, h6⟩ := and2 h7
        refine ev_append (notSuper_B h2 _) (notStar_A h5 _) h3 ((H.e O h4 q).imp fun ro M1 q => ?_)
        split at q
        · rename_i k
          obtain ⟨⟨c1, xs, e1, e2⟩, q⟩ := lstAt_ok H q
          exact ⟨k, c1, xs, rfl, e1, e2, (H.e O h6 q).imp fun re M2 q => push_ok q⟩
        · exact q.elim
      · cases h7
    · obtain ⟨h1, h⟩ := and2 h
      obtain ⟨h2, h⟩ := and2 h
      obtain ⟨h3, h⟩ := and2 h
      obtain ⟨h4, h7⟩ := and2 h
      have := eq_of_beq h1; subst this
      split at h7
      · refine ev_pop (notSuper_B h2 _) h3 ((H.e O h4 q).imp fun ro M1 q => ?_)
        split at q
        · rename_i k
          unfold popW at q
          split at q
          · rename_i ds e
            obtain ⟨i, x, rfl, q⟩ := q
            exact ⟨k, _, i.map .d, .d x, .dl i, rfl, e, by simp [Cel.its], rfl, q⟩
          · rename_i ds e
            obtain ⟨i, x, rfl, q⟩ := q
            exact ⟨k, _, i, x, .lst i, rfl, e, rfl, rfl, q⟩
          · exact q.elim
        · exact q.elim
      · cases h7
    · cases h
  · split at h
    · exact lst_ok (H.a O h q)
    · cases h
  · split at h
    · exact ev_tup ((H.a O h q).imp2 fun rs M1 q => by
        obtain ⟨hz, q⟩ := q
        split at q
        · rename_i ds e
          exact ⟨hz, ds, by rw [allDt_eq e]; exact allD_map ds, q⟩
        · exact q.elim)
    · cases h
  · split at h
    · obtain ⟨h1, h⟩ := and2 h
      obtain ⟨h2, h3⟩ := and2 h
      exact ev_slice ((H.e O h1 q).imp fun r M1 q => (H.o O h2 q).imp fun l M2 q => (H.o O h3 q).imp fun u M3 q => slc_ok q)
    · cases h
  · split at h
    · obtain ⟨h1, h⟩ := and2 h
      obtain ⟨h2, h3⟩ := and2 h
      exact ev_ixA (notSlice_ix h1) ((H.e O h2 q).imp fun r M1 q => (H.e O h3 q).imp fun l M2 q => ixA_ok q)
    · cases h
  · -- comprehensions
    obtain ⟨h0, vs, h1, h2, h3⟩ := lcChk_ok H O h q
    exact ev_lcA h0 h1 h2 h3
  · cases h
theorem snd_x {G : Sx} {C : Ck} {e : Expr} {n : N} (O : GOk G Ξ C) (h : stepX Ξ c C e n = true) {Γ : Ec} {M : Sto} {Q : QE} {R : RX} (q : (sem Ξ n).e Γ M Q R) : EvX G e Γ M Q (G.lx R) := by
  unfold stepX at h
  split at h
  · -- builtins of data
    rename_i f as
    split at h
    · obtain ⟨h0, h⟩ := and2 h
      obtain ⟨h1, h⟩ := and2 h
      obtain ⟨h2, h3⟩ := and2 h
      obtain ⟨a, es, rfl, h4, h5, h6⟩ := ne_ok H h3
      have := eq_of_beq h2; subst this
      obtain ⟨hg, hm⟩ := bltOk_ok O h1
      have q3 : EvA G (a :: es) Γ M (fun rs M1 => CalR G (rAllC G (bfId f)) rs M1 Q) (G.lx R) := (H.a O h6 q).imp2 fun rs M1 q => by
        split at q
        · rename_i ds e; exact bf_ok (O.cal h0) e q
        · exact q.elim
      have hb : ∀ {p2 pos : Pos} (id : String), bfId f = .builtin id → bootBuiltins f.name = some (.builtin id) → f.name ≠ "__name__" → (f.name == ("__debug__" : Str)) = false → EvX G (.Call (.Name f.name p2) (a :: es) [] pos) Γ M Q (G.lx R) := fun {p2 pos} id e1 e2 e3 e4 =>
        ev_callB (by rw [← e1]; exact calr_all) e2 hm hg (notStar_A h4 _) (notStar_As h5) q3 e3 e4
      cases f with
      | ord => exact hb _ rfl (by decide +kernel) (by decide +kernel) (by decide +kernel)
      | chr => exact hb _ rfl (by decide +kernel) (by decide +kernel) (by decide +kernel)
      | abs => exact hb _ rfl (by decide +kernel) (by decide +kernel) (by decide +kernel)
      | all => exact hb _ rfl (by decide +kernel) (by decide +kernel) (by decide +kernel)
      | any => exact hb _ rfl (by decide +kernel) (by decide +kernel) (by decide +kernel)
      | sum => exact hb _ rfl (by decide +kernel) (by decide +kernel) (by decide +kernel)
      | min => exact hb _ rfl (by decide +kernel) (by decide +kernel) (by decide +kernel)
      | max => exact hb _ rfl (by decide +kernel) (by decide +kernel) (by decide +kernel)
      | str => exact ev_callTy calr_all (by decide +kernel) hm hg (notStar_A h4 _) (notStar_As h5) q3 (by decide +kernel) (by decide +kernel)
    · cases h
  · split at h
    · obtain ⟨h0, h⟩ := and2 h
      obtain ⟨h1, h⟩ := and2 h
      obtain ⟨h2, h⟩ := and2 h
      obtain ⟨h3, h4⟩ := and2 h
      have := eq_of_beq h2; subst this
      obtain ⟨hg, hm⟩ := bltOk_ok O h1
      exact ev_sort (O.cal h0) hg hm (notStar_A h3 _) ((H.e O h4 q).imp fun r M1 q => by
        split at q
        · rename_i ds e; exact ⟨ds, srcL_of e, q⟩
        · exact q.elim)
    · cases h
  · split at h
    · split at h
      · rename_i g e
        obtain ⟨h00, h⟩ := and2 h
        obtain ⟨h0, h⟩ := and2 h
        obtain ⟨h1, h⟩ := and2 h
        obtain ⟨h2, h⟩ := and2 h
        obtain ⟨h3, h⟩ := and2 h
        obtain ⟨h4, h⟩ := and2 h
        obtain ⟨h5, h⟩ := and2 h
        obtain ⟨h6, h⟩ := and2 h
        obtain ⟨h7, h8⟩ := and2 h
        have := eq_of_beq h2; subst this
        have := eq_of_beq h3; subst this
        have := of_decide_eq_true h4; subst this
        obtain ⟨hg, hm⟩ := bltOk_ok O h1
        simp only [sem] at q
        rw [e] at q
        have D := O.fs g (List.mem_of_getElem? e)
        obtain ⟨⟨S, hsp⟩, hdf⟩ := keyOk_ok h0
        exact ev_sortK (O.cal h00) D (by have := O.kk; omega) hdf hsp (glb_ok O h5) (nott h6) hg hm (notStar_A h7 _) ((H.e O h8 q).imp fun r M1 q => by
          unfold sortW at q
          rw [hsp, hdf] at q
          split at q
          · rename_i ds S' e1 e2 e3
            cases e2
            exact ⟨_, srcL_of e1, q⟩
          · exact q.elim)
      · cases h
    · cases h
  · split at h
    · split at h
      · rename_i g e
        obtain ⟨h00, h⟩ := and2 h
        obtain ⟨h0, h⟩ := and2 h
        obtain ⟨h1, h⟩ := and2 h
        obtain ⟨h2, h⟩ := and2 h
        obtain ⟨h3, h⟩ := and2 h
        obtain ⟨h4, h⟩ := and2 h
        obtain ⟨h5, h⟩ := and2 h
        obtain ⟨h6, h⟩ := and2 h
        obtain ⟨h7, h8⟩ := and2 h
        have := eq_of_beq h2; subst this
        have := eq_of_beq h3; subst this
        have := of_decide_eq_true h4; subst this
        obtain ⟨hg, hm⟩ := bltOk_ok O h1
        simp only [sem] at q
        rw [e] at q
        have D := O.fs g (List.mem_of_getElem? e)
        obtain ⟨⟨S, hsp⟩, hdf⟩ := keyOk_ok h0
        exact ev_minK (O.cal h00) D (by have := O.kk; omega) hdf hsp (glb_ok O h5) (nott h6) hg hm (notStar_A h7 _) ((H.e O h8 q).imp fun r M1 q => by rw [hsp, hdf] at q; exact q)
      · cases h
    · cases h
  · split at h
    · obtain ⟨h1, h⟩ := and2 h
      obtain ⟨h2, h⟩ := and2 h
      obtain ⟨h3, h⟩ := and2 h
      obtain ⟨h4, h⟩ := and2 h
      obtain ⟨h5, h6⟩ := and2 h
      have := of_decide_eq_true h1; subst this
      have := of_decide_eq_true h2; subst this
      exact ev_ch (nott h3) ((H.e O h4 q).imp fun ra Ma q => (H.e O h5 q).imp fun rb Mb q => cm_imp (cm_ok q) fun k Mc q => ⟨fun e => (H.e O h6 (q.1 e)).imp fun rc Md q => cm_ok q, q.2⟩)
    · cases h
  · split at h
    · exact ev_dnew q
    · cases h
  · split at h
    · obtain ⟨h1, h⟩ := and2 h
      obtain ⟨h2, h⟩ := and2 h
      obtain ⟨h3, h⟩ := and2 h
      obtain ⟨h4, h⟩ := and2 h
      obtain ⟨h5, h6⟩ := and2 h
      have := eq_of_beq h1; subst this
      refine ev_extend (notSuper_B h2 _) (notStar_A h3 _) h4 ((H.e O h5 q).imp fun ro M1 q => ?_)
      split at q
      · rename_i k
        obtain ⟨⟨c1, xs, e1, e2⟩, q⟩ := lstAt_ok H q
        exact ⟨k, c1, xs, rfl, e1, e2, (H.e O h6 q).imp fun re M2 q => ext_ok q⟩
      · exact q.elim
    · cases h
  · split at h
    · obtain ⟨h1, h⟩ := and2 h
      obtain ⟨h2, h3⟩ := and2 h
      obtain ⟨l, rfl, rfl, el, f⟩ := pair_ok H O h3
      have h1 := Nat.le_of_ble_eq_true h1
      have h2 := Nat.le_of_ble_eq_true h2
      exact disp_ok (fun e => by subst e; cases h1) (by omega) (f q)
    · cases h
  · split at h
    · obtain ⟨h1, h⟩ := and2 h
      obtain ⟨h2, h⟩ := and2 h
      obtain ⟨h3, h4⟩ := and2 h
      have := eq_of_beq h2; subst this
      obtain ⟨hg, hm⟩ := bltOk_ok O h1
      exact ev_callTy (T := "dict") (r := rAllC G (.type "dict")) calr_all (by decide +kernel) hm hg (notStar_A h3 _) (fun _ _ => rfl) (eva_cons (notStar_A h3 _) ((H.e O h4 q).imp fun r M1 q => eva_nil (dcp_ok q))) (by decide +kernel) (by decide +kernel)
    · cases h
  · -- isinstance of the exception at hand
    unfold isEChk at h
    split at h
    · rename_i i hc
      split at h
      · obtain ⟨h1, h⟩ := and2 h
        obtain ⟨h2, h⟩ := and2 h
        obtain ⟨h3, h⟩ := and2 h
        obtain ⟨h4, h⟩ := and2 h
        obtain ⟨h5, h6⟩ := and2 h
        have := eq_of_beq h2; subst this
        have := of_decide_eq_true h4; subst this
        obtain ⟨hg, hm⟩ := bltOk_ok O h1
        obtain ⟨n1, n2, n3, n4⟩ := nmOk_ok O h3
        obtain ⟨hh, x, e1, e2, e3, e4, _⟩ := O.h1 (some i) hc
        simp only [sem] at q
        rw [e3] at q
        dsimp only at q
        split at q
        · rename_i b eb
          obtain ⟨D, cv, m1, F, nv, k1, _⟩ := isx_ok O.xs eb
          rw [e4] at m1
          cases m1
          exact ev_isE e1 e2 n1 n2 n3 n4 nv (glb_ok O h5) (nott h6) F k1 hm hg q
        · exact q.elim
      · cases h
    · cases h
  · -- an attribute of the exception at hand
    unfold efldChk at h
    split at h
    · rename_i i hc
      split at h
      · obtain ⟨h3, h⟩ := and2 h
        obtain ⟨h4, h5⟩ := and2 h
        have := of_decide_eq_true h4; subst this
        obtain ⟨n1, n2, n3, n4⟩ := nmOk_ok O h3
        obtain ⟨hh, x, e1, e2, e3, e4, e5⟩ := O.h1 (some i) hc
        simp only [sem] at q
        rw [e3] at q
        dsimp only at q
        split at q
        · rename_i d ed
          split at q
          · rename_i y ey
            have hm := List.mem_of_find?_eq_some ey
            have hn := List.find?_some ey
            have hn : y.name = x := of_decide_eq_true hn
            subst hn
            obtain ⟨D, m1, F, _, _, hfl, _⟩ := (O.xs y hm).ex
            rw [e4] at m1
            cases m1
            exact ev_efld e1 e2 n1 n2 n3 n4 F (hfl _ (by simpa using q.1)) (e5 (fun z => by rw [z] at ed; cases ed)) ed q.2
          · exact q.elim
        · exact q.elim
      · cases h
    · cases h
  · split at h
    · obtain ⟨h1, h⟩ := and2 h
      obtain ⟨h2, h⟩ := and2 h
      obtain ⟨h3, h⟩ := and2 h
      obtain ⟨h4, h⟩ := and2 h
      obtain ⟨h5, h6⟩ := and2 h
      have := eq_of_beq h1; subst this
      exact ev_m1 PySem.F.slot_dict_get PySem.F.type_dict_get (fun X hX => m1_of h2 h3 h4) ((H.e O h5 q).imp fun ro M1 q => by
        obtain ⟨kvs, hd, q⟩ := isDic_ok q
        exact ⟨kvs, hd, (H.e O h6 q).imp fun rk M2 q => dget_ok1 q⟩)
    · cases h
  · split at h
    · obtain ⟨h1, h⟩ := and2 h
      obtain ⟨h2, h⟩ := and2 h
      obtain ⟨h3, h⟩ := and2 h
      obtain ⟨h4, h⟩ := and2 h
      obtain ⟨h4', h⟩ := and2 h
      obtain ⟨h5, h⟩ := and2 h
      obtain ⟨h6, h7⟩ := and2 h
      have := eq_of_beq h1; subst this
      exact ev_m2 PySem.F.slot_dict_get PySem.F.type_dict_get (fun X hX => m2_of h2 h3 h4 h4') ((H.e O h5 q).imp fun ro M1 q => by
        obtain ⟨kvs, hd, q⟩ := isDic_ok q
        exact ⟨kvs, hd, (H.e O h6 q).imp fun rk M2 q => (H.e O h7 q).imp fun rx M3 q => dget_ok2 q⟩)
    · cases h
  · split at h
    · obtain ⟨h1, h⟩ := and2 h
      obtain ⟨h2, h⟩ := and2 h
      obtain ⟨h3, h⟩ := and2 h
      obtain ⟨h4, h⟩ := and2 h
      obtain ⟨h4', h⟩ := and2 h
      obtain ⟨h5, h⟩ := and2 h
      obtain ⟨h6, h7⟩ := and2 h
      have := eq_of_beq h1; subst this
      exact ev_m2 PySem.F.slot_dict_setdefault PySem.F.type_dict_setdefault (fun X hX => m2_of h2 h3 h4 h4') ((H.e O h5 q).imp fun ro M1 q => by
        obtain ⟨kvs, hd, q⟩ := isDic_ok q
        exact ⟨kvs, hd, (H.e O h6 q).imp fun rk M2 q => (H.e O h7 q).imp fun rx M3 q => dsetd_ok q⟩)
    · cases h
  · cases h
end
end DX

namespace DX
open PySem PySem.Spec PyProof.Rows L2
variable {Ξ : Ev}
theorem x_setA {G : Sx} {Γ : Ec} {M : Sto} {P : Pst} {pos p2 : Pos} {e : Expr} {i : Nat} {x : Str} (hh : NoHot G i) (hi : G.N[i]? = some x) (hx : Loc G.sc x) (hf : G.fn x = true ∨ G.sc.names.lookup x = some .local) (hs : ∀ env : Env, env.scope = G.sc → swapsWith e (some (.Name x p2)) pos.line env = pure false)
    (h : EvX G e Γ M (fun r M1 => P.nx (Γ.set i (some r)) M1) (P.rx Γ)) : ExX G (.Assign [.Name x p2] e pos) Γ M P := fun A F σ H D S L hn hD =>
  sS_of (fun X hX => ps_set hX.nd (by rw [hX.N]; exact hi) (by rw [hX.sc]; exact hx) (pe_S hX e) (hs _ hX.sc) (by rw [hX.fn, hX.sc]; exact hf)) (h A F σ H _ S L (fun r M1 A1 F1 H1 v q S1 a1 f1 r1 =>
    hD.nx _ M1 A1 F1 _ H1 q S1 ((L.mono a1 f1).set r1 i hh) (a1.n _) f1) (hD.flies L))
theorem sw_cell {elt : Expr} {gs : List Comprehension} {scope : Scope} {pos py : Pos} {y : Str} {l : Nat} {env : Env} (hy : env.scope.names.lookup y = some .cell) : swapsWith (.ListComp elt gs scope pos) (some (.Name y py)) l env = pure false := by
  have ky : env.kindOf y = some .cell := hy
  unfold swapsWith
  simp only [ky]
  have e : (some NameKind.cell == some NameKind.local) = false := by decide
  rw [e, Bool.and_false, Bool.false_and, Bool.false_and]
theorem notTup_sw {ts : List Expr} {k : Nat} {tp : Pos} {e : Expr} (h : (match e with
      | .Tuple .. => false
      | e => notComp e) = true) (env : Env) : swappedStores [.Tuple ts k tp] e env = pure none := by
  unfold swappedStores
  cases e <;> first | rfl | cases h
theorem notTup_nc {e : Expr} (h : (match e with
      | .Tuple .. => false
      | e => notComp e) = true) : notComp e = true := by
  cases e <;> first | rfl | cases h
theorem notSlice_asg {o i : Expr} {p : Pos} (h : notSlice i = true) : ∀ v env, assign (.Subscript o i p) env v = (do
      let ov ← holding [v] (eval o env)
      let iv ← holding [v, ov] (eval i env)
      standAt p
      holding [v, ov, iv] (setItem ov iv v)
      release [v, ov, iv] []) := fun v env => by
  cases i <;> first | rfl | cases h
theorem set_ok {ro ri re : Im} {M : Sto} {K : Sto → Prop} (h : setW0 ro ri re M K) : ∃ k c xs z j c', ro = .p k ∧ ri = .d (.int z) ∧ M[k]? = some c ∧ c.its = some xs ∧ ixN xs.length z = some j ∧ c'.its = some (xs.set j re) ∧ K (M.set k c') := by
  unfold setW0 at h
  split at h
  · rename_i k z
    split at h
    · rename_i ds x e
      split at h
      · rename_i j e2
        exact ⟨k, _, _, z, j, .dl (ds.set j x), rfl, rfl, e, rfl, by rw [List.length_map]; exact e2, by simp [Cel.its, List.map_set], h⟩
      · exact h.elim
    · rename_i e
      split at h
      · rename_i j e2
        exact ⟨k, _, _, z, j, .lst (List.set _ j _), rfl, rfl, e, rfl, e2, rfl, h⟩
      · exact h.elim
    · exact h.elim
  · exact h.elim
theorem setA_ok {ro ri re : Im} {M : Sto} {K : Sto → Prop} (h : setW ro ri re M K) : (∃ k c xs z j c', ro = .p k ∧ ri = .d (.int z) ∧ M[k]? = some c ∧ c.its = some xs ∧ ixN xs.length z = some j ∧ c'.its = some (xs.set j re) ∧ K (M.set k c')) ∨ ∃ k key, ro = .p k ∧ ri = .d key ∧ dsetW k key re M K := by
  unfold setW at h
  split at h
  · split at h
    · exact .inr ⟨_, _, rfl, rfl, h⟩
    · exact h.elim
  · exact .inl (set_ok h)
theorem fo_unset : ∀ (is : List Nat) (Γ : Ec), Fo (unsetE is Γ) Γ
  | [], Γ => Fo.refl Γ
  | i :: is, Γ => by
    have one : ∀ (Γ : Ec) (i : Nat), Fo (Γ.set i none) Γ := by
      intro Γ
      induction Γ with
      | nil => intro i; cases i <;> exact trivial
      | cons o r ih =>
        intro i
        cases i with
        | zero => exact Fo.refl r
        | succ i =>
          cases o with
          | none => exact ih i
          | some x => exact ⟨rfl, ih i⟩
    have tr : ∀ {a b c : Ec}, Fo a b → Fo b c → Fo a c := by
      intro a
      induction a with
      | nil => intro b c h1 h2; cases b with
        | nil => exact h2
        | cons => exact h1.elim
      | cons x a ih =>
        intro b c h1 h2
        cases b with
        | nil => cases x <;> exact h1.elim
        | cons y b =>
          cases c with
          | nil => cases y <;> exact h2.elim
          | cons w c =>
            cases x with
            | none => cases y with
              | none => exact ih h1 h2
              | some y => exact ih h1 h2.2
            | some x =>
              obtain ⟨rfl, h1⟩ := h1
              exact ⟨h2.1, ih h1 h2.2⟩
    exact tr (fo_unset is (Γ.set i none)) (one Γ i)
theorem imb_ok {n : Nat} : ∀ {r : Im}, imb n r = true → ImB n r
  | .d _, _ => trivial
  | .p k, h => by
    show k < n
    exact Nat.blt_eq.mp h
theorem imbs_ok {n : Nat} : ∀ {xs : List Im}, imbs n xs = true → ∀ x ∈ xs, ImB n x
  | [], _, x, h => absurd h (by simp)
  | y :: r, h, x, hx => by
    obtain ⟨h1, h2⟩ := and2 h
    rcases List.mem_cons.mp hx with rfl | hx
    · exact imb_ok h1
    · exact imbs_ok h2 x hx
theorem celb_ok {n : Nat} : ∀ {c : Cel}, celb n c = true → CelB n c
  | .dead, _ => trivial
  | .dl _, _ => trivial
  | .dd _, _ => trivial
  | .lst xs, h => imbs_ok h
  | .dct kvs, h => fun p hp => imbs_ok h p.2 (List.mem_map.mpr ⟨p, hp, rfl⟩)
  | .ins _ fs, h => fun p hp => imbs_ok h p.2 (List.mem_map.mpr ⟨p, hp, rfl⟩)
theorem stob_ok {n : Nat} : ∀ {M : Sto}, stob n M = true → StoB n M
  | [], _, c, h => absurd h (by simp)
  | d :: M, h, c, hc => by
    obtain ⟨h1, h2⟩ := and2 h
    rcases List.mem_cons.mp hc with rfl | hc
    · exact celb_ok h1
    · exact stob_ok h2 c hc
theorem ecb_ok {n : Nat} : ∀ {Γ : Ec}, ecb n Γ = true → EcB n Γ
  | [], _, r, h => absurd h (by simp)
  | none :: Γ, h, r, hr => by
    rcases List.mem_cons.mp hr with e | hr
    · cases e
    · exact ecb_ok (Γ := Γ) h r hr
  | some x :: Γ, h, r, hr => by
    obtain ⟨h1, h2⟩ := and2 h
    rcases List.mem_cons.mp hr with e | hr
    · cases e; exact imb_ok h1
    · exact ecb_ok h2 r hr
theorem x_nx {G : Sx} {st : Stmt} {Γ : Ec} {M : Sto} {P : Pst} {N N' : Ec → Sto → Prop} (h : ExX G st Γ M { P with nx := N }) (hn : ∀ Γ M, N Γ M → N' Γ M) : ExX G st Γ M { P with nx := N' } := fun A F σ H D S L hl hD =>
  h A F σ H D S L hl ⟨fun Γ' M' A' F' σ' H' q => hD.nx Γ' M' A' F' σ' H' (hn Γ' M' q), hD.rt, hD.bk, hD.ct, hD.ex⟩
section
variable {c : Chk} (H : Snd Ξ c)
include H
theorem snd_s0 {G : Sx} {C : Ck} {e : Stmt} {n : N} (O : GOk G Ξ C) (h : stepS0 c C e n = true) {Γ : Ec} {M : Sto} {K : Ec → Sto → Prop} {P : Ps} (q : (sem Ξ n).s G.n Γ M K P) : ExX G e Γ M (G.lp K P) := by
  unfold stepS0 at h
  split at h
  · -- x = e
    split at h
    · obtain ⟨h1, h⟩ := and2 h
      obtain ⟨n1, n2, n3, n4⟩ := stOk_ok O h1
      rcases Bool.or_eq_true_iff.mp h with h | h
      · obtain ⟨h2, h3⟩ := and2 h
        have q2 := H.e O h2 q
        rcases Bool.or_eq_true_iff.mp h3 with h3 | h3
        · exact x_setA n4 n1 n2 n3 (fun env _ => notComp_S h3 _ _ env) q2
        · unfold lcCell at h3
          split at h3
          · exact x_setA n4 n1 n2 n3 (fun env he => sw_cell (by rw [he, O.sc]; exact of_decide_eq_true h3)) q2
          · cases h3
      · rcases Bool.or_eq_true_iff.mp h with h | h
        case inr => exact x_cm H O n1 h q
        unfold lcStmt at h
        split at h
        · obtain ⟨h2, h⟩ := and2 h
          obtain ⟨h3, h⟩ := and2 h
          obtain ⟨h4, h⟩ := and2 h
          obtain ⟨h5, h6⟩ := and2 h
          obtain ⟨h0, vs, k1, k2, k3⟩ := lcChk_ok H O h6 q
          exact x_lcA h0 n1 (by rw [O.sc]; exact of_decide_eq_true h3) (fun env he => sw_true (by rw [he, O.sc]; exact of_decide_eq_true h2) (by rw [he, O.sc]; exact of_decide_eq_true h3) h4 (nott h5)) k1 k2 k3
        · cases h
    · cases h
  · split at h
    · obtain ⟨h1, h⟩ := and2 h
      obtain ⟨h2, h3⟩ := and2 h
      exact x_asg (fun env => by simp only [swapsWithSole]; exact notComp_S (notTup_nc h3) _ _ env) (notTup_sw h3) (fun _ => rfl) ((H.e O h2 q).imp fun r M1 q => H.g O h1 q)
    · cases h
  · split at h
    · obtain ⟨h1, h⟩ := and2 h
      obtain ⟨h2, h⟩ := and2 h
      obtain ⟨h3, h⟩ := and2 h
      obtain ⟨h4, h5⟩ := and2 h
      exact x_setItemA (notSlice_asg h4) (fun env => by simp only [swapsWithSole]; exact notComp_S h5 _ _ env) (fun env => by unfold swappedStores; cases ‹Expr› <;> rfl) (fun _ => rfl) ((H.e O h1 q).imp fun re M1 q => (H.e O h2 q).imp fun ro M2 q => (H.e O h3 q).imp fun ri M3 q => setA_ok q)
    · cases h
  · split at h
    · obtain ⟨h1, h2⟩ := and2 h
      exact x_expr (fun env => notComp_S h2 _ _ env) (H.e O h1 q)
    · cases h
  · split at h
    · exact x_ret (H.e O h q)
    · cases h
  · split at h
    · exact x_retN q
    · cases h
  · split at h
    · exact x_pass q
    · cases h
  · split at h
    · exact x_break q
    · cases h
  · split at h
    · exact x_cont q
    · cases h
  · split at h
    · obtain ⟨h1, h⟩ := and2 h
      obtain ⟨h2, h3⟩ := and2 h
      exact x_if ((H.t O h1 q).imp fun k M1 q => ⟨fun e => H.ss O h2 (q.1 e), fun e => H.ss O h3 (q.2 e)⟩)
    · cases h
  · split at h
    · obtain ⟨h0, h⟩ := and2 h
      obtain ⟨h1, h⟩ := and2 h
      obtain ⟨h2, h⟩ := and2 h
      obtain ⟨h3, h4⟩ := and2 h
      refine x_for (O.cal h0) (notSet_F h1) ((H.i O h3 q).imp fun xs ok M1 ⟨J, j0, step, fin⟩ => ⟨J, j0, fun i x Γ' M' hx hj => ?_, fun Γ' M' hj => fin Γ' M' hj⟩)
      obtain ⟨hok, hb⟩ := step i x Γ' M' hx hj
      refine ⟨hok, (H.g (O.at M1.length) h2 hb).imp fun Γ2 M2 q => ?_⟩
      exact H.ss (G := G.at M1.length) (O.at M1.length) h4 q
    · cases h
  · split at h
    · obtain ⟨h1, h2⟩ := and2 h
      obtain ⟨J, m0, j0, step⟩ := q
      refine x_while J m0 j0 fun m Γ' M' hj => (H.t O h1 (step m Γ' M' hj)).imp fun b M2 q => ⟨fun e => ?_, q.2⟩
      exact H.ss (G := G.at M.length) (O.at M.length) h2 (q.1 e)
    · cases h
  · cases h
theorem snd_sx (HH : ∀ h, Snd { Ξ with hot := h } c) {G : Sx} {C : Ck} {e : Stmt} {n : N} (O : GOk G Ξ C) (h : stepSx Ξ c C e n = true) {Γ : Ec} {M : Sto} {K : Ec → Sto → Prop} {P : Ps} (q : (sem Ξ n).s G.n Γ M K P) : ExX G e Γ M (G.lp K P) := by
  unfold stepSx at h
  split at h
  · exact q.elim
  · split at h
    · obtain ⟨h0, h⟩ := and2 h
      obtain ⟨h1, h⟩ := and2 h
      obtain ⟨h2, h⟩ := and2 h
      obtain ⟨h3, h4⟩ := and2 h
      have := of_decide_eq_true h1; subst this
      split at h4
      · rename_i y ey
        have hm := List.mem_of_find?_eq_some ey
        have hn := List.find?_some ey
        have hn := of_decide_eq_true hn
        subst hn
        obtain ⟨D, m1, F, _, _, _, hx⟩ := (O.xs y hm).ex
        exact x_raise (O.cal h0) m1 (glb_ok O h2) (nott h3) F (hx (List.isEmpty_iff.mp h4)) ⟨_, m1, q⟩
      · cases h4
    · cases h
  · rename_i b y i u
    split at h
    · rename_i x np nm b0 su hp pos
      obtain ⟨h0, h⟩ := and2 h
      obtain ⟨ht, h⟩ := and2 h
      obtain ⟨h1, h⟩ := and2 h
      obtain ⟨hk, h⟩ := and2 h
      obtain ⟨h2, h⟩ := and2 h
      obtain ⟨h3, h⟩ := and2 h
      obtain ⟨h4, h⟩ := and2 h
      obtain ⟨h5, h6⟩ := and2 h
      have := of_decide_eq_true h1; subst this
      have h00 := O.cal h0
      have q : (sem Ξ b).s G.n Γ M K { P with ex := fun z fs Γ1 M1 => match Ξ.isx z x with
        | some true => guardB (hotB i Γ1) ((sem { Ξ with hot := some (z, fs) } u).s G.n (hotE i Γ1) M1 (fun Γ2 M2 => K (hotE i Γ2) M2) { rt := P.rt, bk := fun Γ2 M2 => P.bk (hotE i Γ2) M2, ct := fun Γ2 M2 => P.ct (hotE i Γ2) M2 })
        | some false => P.ex z fs Γ1 M1
        | none => False } := q
      obtain ⟨cv, nv⟩ : ∃ cv, NameV G.mg x cv := by
        obtain ⟨y, hy, hc⟩ := List.any_eq_true.mp hk
        obtain ⟨D, _, _, s1, s2, _⟩ := (O.xs y hy).ex
        rcases Bool.or_eq_true_iff.mp hc with hc | hc
        · obtain ⟨cv, nv, _⟩ := s1 x (by simpa using hc); exact ⟨cv, nv⟩
        · obtain ⟨cv, nv, _⟩ := s2 x (by simpa using hc); exact ⟨cv, nv⟩
      have uniq : ∀ cv', NameV G.mg x cv' → cv' = cv := fun cv' nv' => by
        cases cv with
        | inl a => cases cv' with
          | inl a' => have := (show G.mg x = _ from nv).symm.trans nv'; cases this; rfl
          | inr T => have := (show G.mg x = _ from nv).symm.trans nv'.1; cases this
        | inr T => cases cv' with
          | inl a' => have := (show G.mg x = _ from nv').symm.trans nv.1; cases this
          | inr T' => have := nv.2.1.symm.trans nv'.2.1; cases this; rfl
      refine x_try (i := i) h00 (O.top ht) nv (glb_ok O h2) (nott h3) ?_ (E := fun C fs Γ1 M1 => ∃ z, G.mg z = some (.ref C) ∧ (match Ξ.isx z x with
        | some true => guardB (hotB i Γ1) ((sem { Ξ with hot := some (z, fs) } u).s G.n (hotE i Γ1) M1 (fun Γ2 M2 => K (hotE i Γ2) M2) { rt := P.rt, bk := fun Γ2 M2 => P.bk (hotE i Γ2) M2, ct := fun Γ2 M2 => P.ct (hotE i Γ2) M2 })
        | some false => P.ex z fs Γ1 M1
        | none => False)) (fun W => H.ss (G := G.wi W) ⟨O.N, O.sc, O.fn, O.bl, O.cs, O.kk, O.fs, O.xs, O.h0, O.h1, O.top⟩ h4 q) fun D fs Γ1 M1 ⟨z, mz, e⟩ => ?_
      · split at h6
        · trivial
        · obtain ⟨k1, k2⟩ := and2 h6
          exact ⟨by rw [O.N]; exact of_decide_eq_true k1, by rw [O.sc]; exact of_decide_eq_true k2⟩
        · cases h6
      · split at e
        · rename_i eb
          obtain ⟨D', cv', m1, F, nv', k1, e1⟩ := isx_ok O.xs eb
          rw [mz] at m1; cases m1
          obtain rfl := uniq _ nv'
          cases hB : hotB i Γ1 with
          | false => rw [hB] at e; exact e.elim
          | true =>
            rw [hB] at e
            refine ⟨true, e1, fun _ => ⟨rfl, fun h g1 g2 g3 g4 => ?_⟩, fun e => nomatch e⟩
            have O' : GOk (G.hotOf h) { Ξ with hot := some (z, fs) } { C with hot := some i } := ⟨O.N, O.sc, O.fn, O.bl, O.cs, O.kk, O.fs, O.xs, (fun e => nomatch e), (fun j ej => by cases ej; exact ⟨h, z, rfl, g1, by rw [g3], by rw [g2]; exact mz, by rw [g3]; exact g4⟩), O.top⟩
            have := (HH (some (z, fs))).ss (G := G.hotOf h) O' h5 (P := { rt := P.rt, bk := fun Γ2 M2 => P.bk (hotE i Γ2) M2, ct := fun Γ2 M2 => P.ct (hotE i Γ2) M2 }) e
            exact fun A F σ H D S L hn hD => this A F σ H D S L hn ⟨hD.nx, hD.rt, hD.bk, hD.ct, fun _ _ _ _ _ _ _ _ q => by obtain ⟨_, _, q⟩ := q; exact q.elim⟩
        · rename_i eb
          obtain ⟨D', cv', m1, F, nv', k1, e1⟩ := isx_ok O.xs eb
          rw [mz] at m1; cases m1
          obtain rfl := uniq _ nv'
          exact ⟨false, e1, (fun e => nomatch e), fun _ => ⟨z, mz, e⟩⟩
        · exact e.elim
    · cases h
  · cases h
theorem snd_s (HH : ∀ h, Snd { Ξ with hot := h } c) {G : Sx} {C : Ck} {e : Stmt} {n : N} (O : GOk G Ξ C) (h : stepS Ξ c C e n = true) {Γ : Ec} {M : Sto} {K : Ec → Sto → Prop} {P : Ps} (q : (sem Ξ n).s G.n Γ M K P) : ExX G e Γ M (G.lp K P) := by
  unfold stepS at h
  split at h
  · rename_i i a
    split at h
    · obtain ⟨h1, h2⟩ := and2 h
      obtain ⟨n1, n2, n3, n4⟩ := stOk_ok O h1
      have q : (match Γ[i]? with
        | some (some (.d (.int k))) => (sem Ξ a).e Γ M (fun r M1 => match r with
          | .d (.int j) => K (Γ.set i (some (.d (.int (k + j))))) M1
          | _ => False) (P.rx Γ)
        | _ => False) := q
      split at q
      · rename_i k e
        exact x_augI n4 (fun X hX => ip_add) n1 n2 n3 e ((H.e O h2 q).imp fun r M1 q => by
          split at q
          · exact ⟨_, rfl, q⟩
          · exact q.elim)
      · exact q.elim
    · cases h
  · obtain ⟨K', q, hk⟩ := q
    exact x_nx (P := G.lp K P) (N := K') (H.s O h q) hk
  · rcases Bool.or_eq_true_iff.mp h with h | h
    · exact snd_s0 H O h q
    · exact snd_sx H HH O h q
theorem snd_ss {G : Sx} {C : Ck} {e : List Stmt} {n : N} (O : GOk G Ξ C) (h : stepSs c C e n = true) {Γ : Ec} {M : Sto} {K : Ec → Sto → Prop} {P : Ps} (q : (sem Ξ n).s G.n Γ M K P) : ExS G e Γ M (G.lp K P) := by
  unfold stepSs at h
  split at h
  · have : e = [] := List.isEmpty_iff.mp h
    subst this
    exact xs_nil q
  · rename_i i r
    have q : (match Γ[i]? with
      | some (some (.p k)) => match M[k]? with
        | some (.dl ds) => (sem Ξ r).s G.n (fzE k (.list ds) Γ) (M.set k .dead) K P
        | some (.dd kvs) => (sem Ξ r).s G.n (fzE k (.dict kvs) Γ) (M.set k .dead) K P
        | _ => (sem Ξ r).s G.n Γ M K P
      | _ => (sem Ξ r).s G.n Γ M K P) := q
    split at q
    · split at q
      · exact xs_fz _ _ (by assumption) rfl (H.ss O h q)
      · exact xs_fzD _ (by assumption) (H.ss O h q)
      · exact H.ss O h q
    · exact H.ss O h q
  · rename_i r
    obtain ⟨ks, q⟩ := (show ∃ ks : List Nat, fzW ks Γ M (fun Γ1 M1 => (sem Ξ r).s G.n Γ1 M1 K P) from q)
    exact xs_fzW ks (fzW_imp (fun Γ1 M1 q => H.ss O h q) ks q)
  · rename_i is r
    exact xs_fo (fo_unset is Γ) (H.ss O h q)
  · rename_i m r
    obtain ⟨q1, q2⟩ := (show _ ∧ (sem Ξ r).s G.n Γ (M.take m) K P from q)
    obtain ⟨h1, q1⟩ := and2 q1
    obtain ⟨h2, q1⟩ := and2 q1
    obtain ⟨h3, h4⟩ := and2 q1
    have hm : m ≤ M.length := Nat.le_of_ble_eq_true h2
    have hl : (M.take m).length = m := by rw [List.length_take]; omega
    refine xs_see ⟨Fo.refl Γ, ⟨M.drop m, (List.take_append_drop m M).symm⟩, ?_, ?_, ?_⟩ (H.ss O h q2)
    · rw [hl]; exact stob_ok h4
    · rw [hl]; exact ecb_ok h3
    · rw [hl]; exact Nat.le_of_ble_eq_true h1
  · split at h
    · obtain ⟨h1, h2⟩ := and2 h
      exact xs_cons (x_nx (P := G.lp K P) (H.s O h1 (K := fun Γ1 M1 => (sem Ξ _).s G.n Γ1 M1 K P) q) fun Γ1 M1 q => H.ss O h2 q)
    · cases h
  · cases h
end
theorem snd_step {c : Chk} (HH : ∀ h, Snd { Ξ with hot := h } c) : Snd Ξ (c.step Ξ) := by
  have H : Snd Ξ c := HH Ξ.hot
  constructor
  · intro G C e n O h Γ M Q R q
    rcases Bool.or_eq_true_iff.mp h with h | h
    · exact snd_e H O h q
    · rcases Bool.or_eq_true_iff.mp h with h | h
      · exact snd_x H O h q
      · exact snd_cm H O h q
  · intro G C e n O h Γ M Q R q; exact snd_t H O h q
  · intro G C e n O h Γ M Q R q; exact snd_a H O h q
  · intro G C e n O h Γ M Q R q; exact snd_o H O h q
  · intro G C tg e n O h Γ M Q R q; exact snd_i H O h q
  · intro G C e n O h r Γ M Q R q
    rcases Bool.or_eq_true_iff.mp h with h | h
    · exact snd_g H O h q
    · exact snd_g' H O h q
  · intro G C e n O h r Γ M Q R hl q; exact snd_gs H O h hl q
  · intro G C e n vs O hc h hv
    rcases Bool.or_eq_true_iff.mp h with h | h
    · exact snd_tg H O hc h hv
    · exact (tgIn_g' H h hv).elim
  · intro G C e n vs O hc h hv; exact snd_tgs H O hc h hv
  · intro G C e n O h Γ M K P q; exact snd_s H HH O h q
  · intro G C e n O h Γ M K P q; exact snd_ss H O h q
theorem snd_zero : Snd Ξ .zero := by
  constructor <;> intros <;> contradiction
theorem snd_chkH : ∀ (f : Nat) (h : Option (Str × List (Str × Dt))), Snd { Ξ with hot := h } (chk Ξ f)
  | 0, _ => snd_zero
  | f + 1, h => snd_step (Ξ := { Ξ with hot := h }) (snd_chkH f)
theorem snd_chk (f : Nat) : Snd Ξ (chk Ξ f) := snd_chkH f Ξ.hot
end DX

namespace DX
open PySem PySem.Spec PyProof.Rows L2

/-- what is handed back, as data -/
def retP (Q : Dt → Prop) (r : Im) (M : Sto) : Prop := match r with
  | .d x => Q x
  | .p k => match M[k]? with
    | some c => match c.dat with
      | some x => Q x
      | none => False
    | none => False
theorem trim0 {K : KW} {A : List Addr} {M : Sto} {F H : Hp} (S : StO K A M F H) : StO K [] [] F H := by
  have := StO.trim (M := []) (L := M) S (fun c h => absurd h (by simp))
  simpa using this
theorem ret_ok {K : KW} {A : List Addr} {M : Sto} {F H : Hp} {r : Im} {v : V} {Q : Dt → Prop} (h : retP Q r M) (S : StO K A M F H) (rv : ImR K A F r v) : ∃ x F', Q x ∧ StO K A (match r with
    | .d _ => M
    | .p k => M.set k .dead) F' H ∧ Same F F' ∧ Dv K F' v x := by
  cases r with
  | d x => exact ⟨x, F, h, S, Same.refl _, rv⟩
  | p k =>
    simp only [retP] at h
    split at h
    · rename_i c e
      split at h
      · rename_i x hx
        obtain ⟨a, ea, rfl⟩ := rv
        obtain ⟨hF, o, hH, dv⟩ := S.dat ea e hx
        exact ⟨x, _, h, S.freeze ea hF hH, same_updF hF, dv⟩
      · exact h.elim
    · exact h.elim
section
variable {P : Program} {w : World} {K : PySem.W.Frag} {mg : Str → Option Value} {base : Heap}
/-- what a def's code leans on -/
structure Nds (P : Program) (w : World) (K : PySem.W.Frag) (mg : Str → Option Value) (base : Heap) (k : Nat) (Ξ : Ev) (bl : List Str) : Prop where
  bl : ∀ x ∈ bl, mg x = none
  cs : ∀ c ∈ Ξ.cs, ∃ u v, mg c.1 = some u ∧ RelV v u ∧ ∀ z F, Dv ⟨K, w, z⟩ F v c.2
  fs : ∀ g ∈ Ξ.fs, DefOk P w K mg base k g
  xs : ∀ y ∈ Ξ.xs, XcOk K mg y
abbrev ckOf (N : List Str) (st : Stmt) (bl : List Str) : Ck := ⟨N, defScope st, fun _ => true, bl, none, true⟩
theorem def_pure {x qual : Str} {st : Stmt} {f : Addr} {fd : FuncData} {N ps : List Str} {k fuel : Nat} {Ξ : Ev} {bl : List Str} {ir : DX.N} {S : List Dt → (Dt → Prop) → (Str → List (Str × Dt) → Prop) → Prop} (Fu : Fun K x qual st f fd) (Sc : FnScope N ps (defScope st))
    (hc : (chk Ξ fuel).ss (ckOf N st bl) (defBody st) ir = true) (nd : Nds P w K mg base k Ξ bl) (len : ∀ ds Q R, S ds Q R → ds.length = ps.length)
    (body : ∀ ds Q R, S ds Q R → (sem Ξ ir).s 0 ((ds.map Im.d).map some ++ List.replicate (N.length - ds.length) none) [] (fun _ _ => Q .none) { rt := retP Q, ex := fun C fs _ _ => R C fs }) :
    FnOk P w K mg base (L2.CX P w) (k + 3) f fd ps (spFn K w mg (.pure S)) := by
  refine def_core Fu Sc (fun vs H Q E h => ?_) (fun vs H Q E h => ?_)
  · obtain ⟨z, F, ds, Qd, Rd, S1, r1, hs, _⟩ := h
    have := (of_dpAll (A := []) r1).len
    rw [List.length_map] at this
    rw [← this]
    exact len _ _ _ hs
  · obtain ⟨z, F, ds, Qd, Rd, S1, r1, hs, hQ, hE⟩ := h
    refine ⟨z, 0, [], [], F, ds.map .d, S1, of_dpAll r1, Nat.zero_le _, Sx.lp (defG P w K mg base N (defScope st) (k + 2) 0 (fun cls d _ H => E cls d H) z) (fun _ _ => Qd .none) { rt := retP Qd, ex := fun C fs _ _ => Rd C fs }, ?_, ?_⟩
    · have hb := body ds Qd Rd hs
      have O : GOk (defG P w K mg base N (defScope st) (k + 2) 0 (fun cls d _ H => E cls d H) z) Ξ (ckOf N st bl) := ⟨rfl, rfl, rfl, nd.bl, nd.cs, Nat.le_add_left 2 k, nd.fs, nd.xs, (fun _ => rfl), (fun _ e => nomatch e), fun _ => rfl⟩
      rw [List.length_map]
      exact (snd_chk fuel).ss O hc hb
    · refine ⟨?_, ?_, fun _ _ _ _ _ _ q => q.elim, fun _ _ _ _ _ _ q => q.elim, ?_⟩
      · intro Γ' M' A' F' σ' H' q S' L' a f
        exact hQ .none F' H' .non q (trim0 S') f .non
      · intro r M' A' F' H' v q S' rv a f
        obtain ⟨x, F2, q, S2, f2, dv⟩ := ret_ok q S' rv
        exact hQ x F2 H' v q (trim0 S2) (f.trans f2) dv
      · intro C fs Γ' M' A' F' σ' H' q S' L' a f
        obtain ⟨x, hx, q⟩ := q
        exact hE x C fs F' H' hx q (trim0 S') f
theorem defOk_mk {k : Nat} {g : FnE} {f : Addr} {fd : FuncData} {ps : List Str} (h : FnOk P w K mg base (L2.CX P w) k f fd ps (spFn K w mg g.sp)) (m : mg g.name = some (.ref f)) (kp : PySem.W.keepIn K (.ref f) = true) (b : Binds K fd ps []) (hd : g.df = []) : DefOk P w K mg base k g :=
  ⟨k, f, fd, ps, [], [], h, Nat.le_refl _, m, kp, b, .nil, fun _ _ => by rw [hd]; exact .nil⟩
end

def ptrs : List Im → List Nat
  | [] => []
  | .d _ :: r => ptrs r
  | .p k :: r => k :: ptrs r
def renum (n : Nat) : List Im → List Im
  | [] => []
  | .d x :: r => .d x :: renum n r
  | .p _ :: r => .p n :: renum (n + 1) r
def flatC : Cel → Bool
  | .dl _ => true
  | .dd _ => true
  | _ => false
def getAll (M : Sto) : List Nat → Option (List Cel)
  | [] => some []
  | k :: ks => match M[k]?, getAll M ks with
    | some c, some cs => some (c :: cs)
    | _, _ => none
def setAll (M : Sto) : List Nat → List Cel → Sto
  | k :: ks, c :: cs => setAll (M.set k c) ks cs
  | _, _ => M
def memB (k : Nat) : List Nat → Bool
  | [] => false
  | j :: ks => Nat.beq k j || memB k ks
def nodupB : List Nat → Bool
  | [] => true
  | k :: ks => !(memB k ks) && nodupB ks
abbrev MutS := List Im → List Cel → (Dt → List Cel → Prop) → (Str → List (Str × Dt) → List Cel → Prop) → Prop
def flatAs (n : Nat) (cs : List Cel) : Bool := Nat.beq cs.length n && cs.all flatC
def ifB (b : Bool) (K : Prop) : Prop := match b with
  | true => K
  | false => False
theorem ifB_ok {b : Bool} {K : Prop} (h : ifB b K) : b = true ∧ K := by cases b; exact h.elim; exact ⟨rfl, h⟩
/-- a promise over the handed cells alone, seen over the caller's store -/
def genMut (S : MutS) (rs : List Im) (M : Sto) (Q : QE) (R : RX) : Prop := match getAll M (ptrs rs) with
  | some cs => ifB (nodupB (ptrs rs) && cs.all flatC) (S (renum 0 rs) cs (fun x cs' => ifB (flatAs cs.length cs') (Q (.d x) (setAll M (ptrs rs) cs'))) (fun C fs cs' => ifB (flatAs cs.length cs') (R C fs (setAll M (ptrs rs) cs'))))
  | none => False
end DX

namespace DX
open PySem PySem.Spec PyProof.Rows L2

theorem flat_cel {K : PySem.W.Frag} {w : World} {z z' : Hp} {A A' : List Addr} {F H : Hp} {a : Addr} {c : Cel} (h : flatC c = true) (hc : CelR ⟨K, w, z⟩ A F H a c) : CelR ⟨K, w, z'⟩ A' F H a c := by
  cases c with
  | dl ds =>
    obtain ⟨hF, vs, hH, r⟩ := hc
    exact ⟨hF, vs, hH, of_dpAll (DvAll.kz (dpAll_of r))⟩
  | dd kvs =>
    obtain ⟨hF, o, hH, r⟩ := hc
    refine ⟨hF, o, hH, ?_⟩
    rcases r with ⟨ws, e, p⟩ | ⟨ws, e, p⟩
    · exact .inl ⟨ws, e, of_dvK (DvK.kz (dvK_of p))⟩
    · exact .inr ⟨ws, e, of_dvN (DvN.kz (dvN_of p))⟩
  | _ => cases h
theorem memB_iff {k : Nat} : ∀ {ks : List Nat}, memB k ks = true ↔ k ∈ ks
  | [] => by simp [memB]
  | j :: ks => by
    simp only [memB, Bool.or_eq_true, List.mem_cons, memB_iff (ks := ks)]
    rw [Nat.beq_eq]
theorem nodupB_ok : ∀ {ks : List Nat}, nodupB ks = true → ks.Nodup
  | [], _ => List.nodup_nil
  | k :: ks, h => by
    obtain ⟨h1, h2⟩ := and2 h
    rw [List.nodup_cons]
    exact ⟨fun m => by have h1 := nott h1; rw [memB_iff.mpr m] at h1; exact Bool.noConfusion h1, nodupB_ok h2⟩
theorem getAll_len : ∀ {M : Sto} {ks : List Nat} {cs : List Cel}, getAll M ks = some cs → cs.length = ks.length
  | _, [], _, h => by cases h; rfl
  | M, k :: ks, cs, h => by
    simp only [getAll] at h
    split at h
    · rename_i e; cases h; simp [getAll_len e]
    · cases h
theorem getAll_get : ∀ {M : Sto} {ks : List Nat} {cs : List Cel}, getAll M ks = some cs → ∀ {j k : Nat}, ks[j]? = some k → ∃ c, cs[j]? = some c ∧ M[k]? = some c
  | _, [], _, _, j, k, e => by simp at e
  | M, k0 :: ks, cs, h, j, k, e => by
    simp only [getAll] at h
    split at h
    · rename_i e1 e2
      cases h
      cases j with
      | zero => simp at e; subst e; exact ⟨_, rfl, e1⟩
      | succ j => obtain ⟨c, h1, h2⟩ := getAll_get e2 (j := j) (k := k) (by simpa using e); exact ⟨c, by simpa using h1, h2⟩
    · cases h
theorem setAll_len : ∀ (ks : List Nat) (cs : List Cel) (M : Sto), (setAll M ks cs).length = M.length
  | [], cs, M => by cases cs <;> rfl
  | _ :: _, [], _ => rfl
  | k :: ks, c :: cs, M => by
    show (setAll (M.set k c) ks cs).length = _
    rw [setAll_len ks cs, List.length_set]
theorem setAll_out : ∀ (ks : List Nat) (cs : List Cel) (M : Sto) {k : Nat}, k ∉ ks → (setAll M ks cs)[k]? = M[k]?
  | [], cs, M, _, _ => by cases cs <;> rfl
  | _ :: _, [], _, _, _ => rfl
  | k0 :: ks, c :: cs, M, k, h => by
    show (setAll (M.set k0 c) ks cs)[k]? = _
    rw [setAll_out ks cs _ (fun m => h (List.mem_cons_of_mem _ m)), List.getElem?_set_ne (fun e => h (by rw [e]; exact List.mem_cons_self))]
theorem setAll_in : ∀ (ks : List Nat) (cs : List Cel) (M : Sto) {j k : Nat}, ks.Nodup → ks.length ≤ cs.length → ks[j]? = some k → k < M.length → (setAll M ks cs)[k]? = cs[j]?
  | [], _, _, j, k, _, _, e, _ => by simp at e
  | _ :: _, [], _, _, _, _, hl, _, _ => by simp at hl
  | k0 :: ks, c :: cs, M, j, k, hn, hl, e, hk => by
    rw [List.nodup_cons] at hn
    show (setAll (M.set k0 c) ks cs)[k]? = _
    cases j with
    | zero =>
      simp at e; subst e
      rw [setAll_out ks cs _ hn.1, List.getElem?_set_self hk]; rfl
    | succ j =>
      rw [setAll_in ks cs _ (j := j) hn.2 (by simpa using hl) (by simpa using e) (by simpa using hk)]; rfl
section
variable {K : PySem.W.Frag} {w : World} {z : Hp} {A : List Addr} {M : Sto} {F H : Hp}
/-- the places of the handed cells -/
def adrs (A : List Addr) (ks : List Nat) : List Addr := ks.filterMap fun k => A[k]?
theorem adrs_get : ∀ {ks : List Nat} {cs : List Cel}, A.length = M.length → getAll M ks = some cs → ∀ {j : Nat}, (adrs A ks)[j]? = (ks[j]?).bind fun k => A[k]?
  | [], _, _, _, j => by simp [adrs]
  | k :: ks, cs, hl, h, j => by
    simp only [getAll] at h
    split at h
    · rename_i e1 e2
      have hk : k < A.length := by rw [hl]; exact (List.getElem?_eq_some_iff.mp e1).1
      have e : adrs A (k :: ks) = A[k] :: adrs A ks := by unfold adrs; rw [List.filterMap_cons, List.getElem?_eq_getElem hk]
      rw [e]
      cases j with
      | zero => simp [List.getElem?_eq_getElem hk]
      | succ j => simpa using adrs_get hl e2 (j := j)
    · cases h
theorem adrs_len : ∀ {ks : List Nat} {cs : List Cel}, A.length = M.length → getAll M ks = some cs → (adrs A ks).length = ks.length
  | [], _, _, _ => rfl
  | k :: ks, cs, hl, h => by
    simp only [getAll] at h
    split at h
    · rename_i e1 e2
      have hk : k < A.length := by rw [hl]; exact (List.getElem?_eq_some_iff.mp e1).1
      have e : adrs A (k :: ks) = A[k] :: adrs A ks := by unfold adrs; rw [List.filterMap_cons, List.getElem?_eq_getElem hk]
      rw [e, List.length_cons, List.length_cons, adrs_len hl e2]
    · cases h
theorem adrs_mem {ks : List Nat} {a : Addr} (h : a ∈ adrs A ks) : ∃ k ∈ ks, A[k]? = some a := by
  obtain ⟨k, h1, h2⟩ := List.mem_filterMap.mp h
  exact ⟨k, h1, h2⟩
theorem adrs_nodup (hn : A.Nodup) : ∀ {ks : List Nat}, ks.Nodup → (adrs A ks).Nodup
  | [], _ => List.nodup_nil
  | k :: ks, h => by
    rw [List.nodup_cons] at h
    unfold adrs
    rw [List.filterMap_cons]
    cases e : A[k]? with
    | none => exact adrs_nodup hn h.2
    | some a =>
      dsimp only
      rw [List.nodup_cons]
      refine ⟨fun m => ?_, adrs_nodup hn h.2⟩
      obtain ⟨j, hj, e2⟩ := adrs_mem m
      have := nd_ix hn e e2
      subst this
      exact h.1 hj
theorem renum_ims : ∀ (rs : List Im) (vs : List V) (n : Nat) (Pr : List Addr), Pr.length = n → ImsR ⟨K, w, z⟩ A F rs vs → (∀ k ∈ ptrs rs, k < A.length) → ∀ z', ImsR ⟨K, w, z'⟩ (Pr ++ adrs A (ptrs rs)) F (renum n rs) vs
  | [], _, _, _, _, h, _, _ => by cases h; exact .nil
  | .d x :: r, _, n, Pr, hp, h, hk, z' => by
    cases h with
    | cons h1 h2 => exact .cons (Dv.kz h1) (renum_ims r _ n Pr hp h2 hk z')
  | .p k :: r, _, n, Pr, hp, h, hk, z' => by
    cases h with
    | cons h1 h2 =>
      obtain ⟨a, ea, rfl⟩ := h1
      have e : adrs A (ptrs (.p k :: r)) = a :: adrs A (ptrs r) := by
        show adrs A (k :: ptrs r) = _
        unfold adrs; rw [List.filterMap_cons, ea]
      rw [e]
      refine .cons ⟨a, by rw [List.getElem?_append_right (by omega)]; simp [hp], rfl⟩ ?_
      have := renum_ims r _ (n + 1) (Pr ++ [a]) (by simp [hp]) h2 (fun j hj => hk j (List.mem_cons_of_mem _ hj)) z'
      rw [List.append_assoc] at this
      exact this
theorem mut_in (S : StO ⟨K, w, z⟩ A M F H) {ks : List Nat} {cs : List Cel} (hg : getAll M ks = some cs) (hn : ks.Nodup) (hf : cs.all flatC = true) : StO ⟨K, w, zIn z A (adrs A ks) F H⟩ (adrs A ks) cs F H := by
  have mA : ∀ a ∈ adrs A ks, a ∈ A := fun a h => by obtain ⟨k, _, e⟩ := adrs_mem h; exact List.mem_of_getElem? e
  refine ⟨S.sub, by rw [adrs_len S.len hg, getAll_len hg], adrs_nodup S.nd hn, fun a h => S.there a (mA a h), fun j a c e1 e2 => ?_, fun a o e => ?_, fun a h => ?_, fun a o e => ?_⟩
  · rw [adrs_get S.len hg] at e1
    obtain ⟨k, hk, ea⟩ := Option.bind_eq_some_iff.mp e1
    obtain ⟨c', h1, h2⟩ := getAll_get hg hk
    rw [e2] at h1; cases h1
    exact flat_cel (List.all_eq_true.mp hf c (List.mem_of_getElem? e2)) (S.cel k a c ea h2)
  · simp only [zIn] at e
    split at e
    · exact e
    · exact S.fr a o e
  · show zIn z A (adrs A ks) F H a = none
    unfold zIn
    rw [if_neg (fun q => q.2.2 h)]
    exact S.fd a (mA a h)
  · simp only [zIn] at e
    split at e
    · rename_i q; exact q.2.1
    · exact S.zf a o e
theorem mut_out (S : StO ⟨K, w, z⟩ A M F H) {ks : List Nat} {cs cs' : List Cel} (hg : getAll M ks = some cs) (hn : ks.Nodup) (hl : cs'.length = cs.length) (hf : cs'.all flatC = true) {A' : List Addr} {M' : Sto} {F2 H2 : Hp}
    (S2 : StO ⟨K, w, zIn z A (adrs A ks) F H⟩ A' M' F2 H2) (ha : ALn cs.length (adrs A ks) A') (hm : M'.take cs.length = cs') (f2 : Same F F2) : StO ⟨K, w, z⟩ A (setAll M ks cs') F2 H2 := by
  have mA : ∀ a ∈ adrs A ks, a ∈ A := fun a h => by obtain ⟨k, _, e⟩ := adrs_mem h; exact List.mem_of_getElem? e
  have zA : ∀ a, a ∈ A → F a = none → a ∉ adrs A ks → zIn z A (adrs A ks) F H a = H a := fun a h1 h2 h3 => by unfold zIn; rw [if_pos ⟨h1, h2, h3⟩]
  have zO : ∀ a o, z a = some o → zIn z A (adrs A ks) F H a = some o := fun a o e => by
    unfold zIn
    rw [if_neg (fun h => by have := S.fd a h.1; dsimp only at this; rw [this] at e; cases e)]; exact e
  have kl := getAll_len hg
  have al := adrs_len S.len hg
  have hH : ∀ a, a ∈ A → a ∉ adrs A ks → ∀ o, H a = some o → H2 a = some o := fun a h1 h2 o e => by
    cases hF : F a with
    | none => exact S2.fr a o (by show zIn z A (adrs A ks) F H a = some o; rw [zA a h1 hF h2]; exact e)
    | some u =>
      have := S.sub a u hF
      rw [e] at this; cases this
      exact S2.sub a _ (f2 a _ hF)
  have inA : ∀ j a, (adrs A ks)[j]? = some a → A'[j]? = some a := fun j a e => ha j a (by rw [kl, ← al]; exact (List.getElem?_eq_some_iff.mp e).1) e
  refine ⟨S2.sub, by rw [setAll_len]; exact S.len, S.nd, fun a h => ?_, fun k a c e1 e2 => ?_, fun a o e => S2.fr a o (zO a o e), S.fd, fun a o e => S2.zf a o (zO a o e)⟩
  · by_cases hp : a ∈ adrs A ks
    · obtain ⟨j, hj⟩ := List.getElem?_of_mem hp
      exact S2.there a (List.mem_of_getElem? (inA j a hj))
    · cases e : H a with
      | none => exact absurd e (S.there a h)
      | some o => rw [hH a h hp o e]; simp
  · by_cases hk : k ∈ ks
    · obtain ⟨j, hj⟩ := List.getElem?_of_mem hk
      have hkl : k < M.length := by rw [← S.len]; exact (List.getElem?_eq_some_iff.mp e1).1
      rw [setAll_in ks cs' M hn (by omega) hj hkl] at e2
      have ej : (adrs A ks)[j]? = some a := by rw [adrs_get S.len hg, hj]; exact e1
      have e3 : M'[j]? = some c := by
        have hjl := (List.getElem?_eq_some_iff.mp hj).1
        rw [← hm, List.getElem?_take, if_pos (by omega)] at e2; exact e2
      exact flat_cel (List.all_eq_true.mp hf c (List.mem_of_getElem? e2)) (S2.cel j a c (inA j a ej) e3)
    · rw [setAll_out ks cs' M hk] at e2
      have hp : a ∉ adrs A ks := fun h => by
        obtain ⟨k', hk', e'⟩ := adrs_mem h
        have := nd_ix S.nd e1 e'
        subst this
        exact hk hk'
      have hA : a ∈ A := List.mem_of_getElem? e1
      refine CelR.mono (ALe.refl _) f2 (fun hF => ?_) (hH a hA hp) (S.cel k a c e1 e2)
      cases e : H a with
      | none => exact absurd e (S.there a hA)
      | some o => exact S2.zf a o (by show zIn z A (adrs A ks) F H a = some o; rw [zA a hA hF hp]; exact e)
end
/-- what is handed back by a def that changes what it is handed: the data, the handed cells -/
def retM (n : Nat) (Q : Dt → List Cel → Prop) (r : Im) (M : Sto) : Prop := match r with
  | .d x => Q x (M.take n)
  | .p k => match M[k]? with
    | some c => match c.dat with
      | some x => Q x ((M.set k .dead).take n)
      | none => False
    | none => False
theorem retM_ok {n : Nat} {K : KW} {A : List Addr} {M : Sto} {F H : Hp} {r : Im} {v : V} {Q : Dt → List Cel → Prop} (h : retM n Q r M) (S : StO K A M F H) (rv : ImR K A F r v) : ∃ x F' M', Q x (M'.take n) ∧ StO K A M' F' H ∧ Same F F' ∧ Dv K F' v x := by
  cases r with
  | d x => exact ⟨x, F, M, h, S, Same.refl _, rv⟩
  | p k =>
    simp only [retM] at h
    split at h
    · rename_i c e
      split at h
      · rename_i x hx
        obtain ⟨a, ea, rfl⟩ := rv
        obtain ⟨hF, o, hH, dv⟩ := S.dat ea e hx
        exact ⟨x, _, _, h, S.freeze ea hF hH, same_updF hF, dv⟩
      · exact h.elim
    · exact h.elim
theorem ptrs_lt {K : KW} {A : List Addr} {F : Hp} : ∀ {rs : List Im} {vs : List V}, ImsR K A F rs vs → ∀ k ∈ ptrs rs, k < A.length
  | [], _, _, k, h => by simp [ptrs] at h
  | .d _ :: r, _, .cons _ h2, k, h => ptrs_lt h2 k h
  | .p j :: r, _, .cons h1 h2, k, h => by
    rcases List.mem_cons.mp h with e | h
    · subst e; obtain ⟨a, e, _⟩ := h1; exact (List.getElem?_eq_some_iff.mp e).1
    · exact ptrs_lt h2 k h
theorem renum_len : ∀ (n : Nat) (rs : List Im), (renum n rs).length = rs.length
  | _, [] => rfl
  | n, .d _ :: r => by simp [renum, renum_len n r]
  | n, .p _ :: r => by simp [renum, renum_len (n + 1) r]
section
variable {P : Program} {w : World} {K : PySem.W.Frag} {mg : Str → Option Value} {base : Heap}
theorem def_mut {x qual : Str} {st : Stmt} {f : Addr} {fd : FuncData} {N ps : List Str} {k fuel : Nat} {Ξ : Ev} {bl : List Str} {ir : DX.N} {S : MutS} (Fu : Fun K x qual st f fd) (Sc : FnScope N ps (defScope st))
    (hc : (chk Ξ fuel).ss (ckOf N st bl) (defBody st) ir = true) (nd : Nds P w K mg base k Ξ bl) (len : ∀ rs cs Q R, S rs cs Q R → rs.length = ps.length)
    (body : ∀ rs cs Q R, S rs cs Q R → (sem Ξ ir).s cs.length (rs.map some ++ List.replicate (N.length - rs.length) none) cs (fun _ M' => Q .none (M'.take cs.length)) { rt := retM cs.length Q, ex := fun C fs _ M' => R C fs (M'.take cs.length) }) :
    FnOk P w K mg base (L2.CX P w) (k + 3) f fd ps (spFn K w mg (.gen (genMut S))) := by
  refine def_core Fu Sc (fun vs H Q E h => ?_) (fun vs H Q E h => ?_)
  · obtain ⟨z, A, M, F, rs, Qd, Rd, S1, r1, hs, _⟩ := h
    unfold genMut at hs
    split at hs
    · have := len _ _ _ _ (ifB_ok hs).2
      rw [renum_len] at this
      rw [← r1.len]; exact this
    · exact hs.elim
  · obtain ⟨z, A, M, F, rs, Qd, Rd, S1, r1, hs, hQ, hE⟩ := h
    unfold genMut at hs
    split at hs
    · rename_i cs hg
      obtain ⟨hb, hs⟩ := ifB_ok hs
      obtain ⟨hb1, hb2⟩ := and2 hb
      have hnd := nodupB_ok hb1
      have kl := getAll_len hg
      refine ⟨zIn z A (adrs A (ptrs rs)) F H, cs.length, adrs A (ptrs rs), cs, F, renum 0 rs, mut_in S1 hg hnd hb2, by simpa using renum_ims rs vs 0 [] rfl r1 (ptrs_lt r1) _, Nat.le_refl _,
        Sx.lp (defG P w K mg base N (defScope st) (k + 2) cs.length (fun cls d _ H => E cls d H) (zIn z A (adrs A (ptrs rs)) F H)) _ _, (snd_chk fuel).ss (C := ckOf N st bl) ⟨rfl, rfl, rfl, nd.bl, nd.cs, Nat.le_add_left 2 k, nd.fs, nd.xs, (fun _ => rfl), (fun _ e => nomatch e), fun _ => rfl⟩ hc (body _ _ _ _ hs), ?_⟩
      refine ⟨?_, ?_, fun _ _ _ _ _ _ q => q.elim, fun _ _ _ _ _ _ q => q.elim, ?_⟩
      · intro Γ' M' A' F' σ' H' q S' L' a f
        obtain ⟨q1, q⟩ := ifB_ok q
        obtain ⟨q1, q2⟩ := and2 q1
        exact hQ _ _ A F' H' .non q (mut_out S1 hg hnd (Nat.beq_eq.mp q1) q2 S' a rfl f) (ALe.refl _) f Dv.non
      · intro r M' A' F' H' v q S' rv a f
        obtain ⟨x, F2, M2, q, S2, f2, dv⟩ := retM_ok (n := cs.length) (Q := fun x cs' => ifB (flatAs cs.length cs') (Qd (.d x) (setAll M (ptrs rs) cs'))) q S' rv
        obtain ⟨q1, q⟩ := ifB_ok q
        obtain ⟨q1, q2⟩ := and2 q1
        exact hQ _ _ A F2 H' v q (mut_out S1 hg hnd (Nat.beq_eq.mp q1) q2 S2 a rfl (f.trans f2)) (ALe.refl _) (f.trans f2) dv.kz
      · intro C fs Γ' M' A' F' σ' H' q S' L' a f
        obtain ⟨x, hx, q⟩ := q
        obtain ⟨q1, q⟩ := ifB_ok q
        obtain ⟨q1, q2⟩ := and2 q1
        exact (hE x C fs _ A F' H' hx q (mut_out S1 hg hnd (Nat.beq_eq.mp q1) q2 S' a rfl f) (ALe.refl _) f).kz (zIn_none S1 _)
    · exact hs.elim
end
end DX

namespace DX
open PySem PySem.Spec PyProof.Rows L2
local macro_rules | `(tactic| walk_at "w") => `(tactic| conv => whnf)
abbrev dI (ns : List Int) : List Dt := ns.map PyData.int
theorem dI_len (ns : List Int) : (dI ns).length = ns.length := by simp [dI]
theorem atD_nat {α : Type} {xs : List α} {j : Nat} {v : α} (h : xs[j]? = some v) : atD xs (j : Int) = some v := atI_nat h
def cell0 (ns : List Int) (k : Int) : Int := if 0 < ns.length then ns.getD (k % ns.length).toNat 0 else 0
def cell1 (c : Int) : Int := if c < 0 then 1 - 2 * c else c
def first0 (c k : Int) : Int := ((c + 7) * 48271 + (k + 3) * 69621) % 2147483647
def second0 (c k f : Int) : Int := ((f + 11) * 16807 + (c + 1) * 40692 + k) % 2147483399
def numL (ns : List Int) (k : Int) : Int :=
  let c := cell1 (cell0 ns k)
  if 1000000000 ≤ c ∧ k < ns.length then c else (first0 c k * 2147483399 + second0 c k (first0 c k) * 31 + c) % 4611686014132420609
theorem cell0_bd {ns : List Int} {k : Int} {b : Nat} (h : ∀ x ∈ ns, x.natAbs < 2 ^ b) : (cell0 ns k).natAbs < 2 ^ b := by
  unfold cell0
  split
  · rw [List.getD_eq_getElem?_getD]
    cases e : ns[(k % (ns.length : Int)).toNat]? with
    | none => simpa using Nat.pow_pos (n := b) (show 0 < 2 by decide)
    | some x => exact h x (List.mem_of_getElem? e)
  · simpa using Nat.pow_pos (n := b) (show 0 < 2 by decide)
theorem cell1_bd {c : Int} {b : Nat} (h : c.natAbs < 2 ^ b) : 0 ≤ cell1 c ∧ (cell1 c).natAbs < 2 ^ (b + 2) := by
  have e : 2 ^ (b + 2) = 4 * 2 ^ b := by rw [Nat.pow_add]; omega
  have := Nat.pow_pos (n := b) (show 0 < 2 by decide)
  unfold cell1
  rw [e]
  split <;> omega
theorem numL_bd {ns : List Int} {k : Int} {b : Nat} (h : ∀ x ∈ ns, x.natAbs < 2 ^ b) : 0 ≤ numL ns k ∧ (numL ns k).natAbs < 2 ^ (b + 64) := by
  have h1 := cell1_bd (cell0_bd (k := k) h)
  have e1 : 2 ^ (b + 64) = 2 ^ (b + 2) * 2 ^ 62 := by rw [← Nat.pow_add]
  have p := Nat.pow_pos (n := b + 2) (show 0 < 2 by decide)
  have e2 : (2 : Nat) ^ 62 = 4611686018427387904 := by decide
  unfold numL
  rw [e1, e2]
  dsimp only
  split
  · exact ⟨h1.1, by omega⟩
  · have h2 := Int.emod_nonneg (first0 (cell1 (cell0 ns k)) k * 2147483399 + second0 (cell1 (cell0 ns k)) k (first0 (cell1 (cell0 ns k)) k) * 31 + cell1 (cell0 ns k)) (show (4611686014132420609 : Int) ≠ 0 by decide)
    have h3 := Int.emod_lt_of_pos (first0 (cell1 (cell0 ns k)) k * 2147483399 + second0 (cell1 (cell0 ns k)) k (first0 (cell1 (cell0 ns k)) k) * 31 + cell1 (cell0 ns k)) (show (0 : Int) < 4611686014132420609 by decide)
    exact ⟨h2, by omega⟩
theorem first0_bd (c k : Int) : 0 ≤ first0 c k ∧ first0 c k < 2147483647 := ⟨Int.emod_nonneg _ (by decide), Int.emod_lt_of_pos _ (by decide)⟩
theorem second0_bd (c k f : Int) : 0 ≤ second0 c k f ∧ second0 c k f < 2147483399 := ⟨Int.emod_nonneg _ (by decide), Int.emod_lt_of_pos _ (by decide)⟩
theorem add8_bd {c d : Int} {b : Nat} (h : c.natAbs < 2 ^ (b + 2)) (hd : d.natAbs ≤ 8) : (c + d).natAbs < 2 ^ (b + 6) := by
  have e : 2 ^ (b + 6) = 2 ^ (b + 2) * 16 := by rw [show b + 6 = b + 2 + 4 by omega, Nat.pow_add (m := b + 2)]
  have e2 : 2 ^ (b + 2) = 2 ^ b * 4 := by rw [Nat.pow_add]
  have p := Nat.pow_pos (n := b) (show 0 < 2 by decide)
  rw [e]
  omega
theorem pow_le2 {a b : Nat} (h : a ≤ b) : 2 ^ a ≤ 2 ^ b := Nat.pow_le_pow_right (by decide) h
-- _law_number: slots 0:script 1:k 2:cell 3:first 4:second
def ir_law_number : DX.N := (.cons (.set 2 (.int 0))
(.cons (.join (.ite (.cmp .gt (.bi .len false (.cons (.slot 0) .nil)) (.int 0))
(.cons (.set 2 (.ix (.slot 0) (.bin .mod false (.bi .int false (.cons (.slot 1) .nil)) (.bi .len false (.cons (.slot 0) .nil)))))
.nil)
.nil))
(.cons (.join (.ite (.cmp .lt (.slot 2) (.int 0))
(.cons (.set 2 (.bin .sub false (.int 1) (.bin .mul false (.int 2) (.slot 2))))
.nil)
.nil))
(.cons (.ite (.and (.cmp .ge (.slot 2) (.bin .pow false (.int 10) (.int 9))) (.cmp .lt (.slot 1) (.bi .len false (.cons (.slot 0) .nil))))
(.cons (.ret (.slot 2))
.nil)
.nil)
(.cons (.set 3 (.bin .mod false (.bi .int false (.cons (.bin .add false (.bin .mul false (.bin .add false (.slot 2) (.int 7)) (.int 48271)) (.bin .mul false (.bin .add false (.slot 1) (.int 3)) (.int 69621))) .nil)) (.int 2147483647)))
(.cons (.set 4 (.bin .mod false (.bi .int false (.cons (.bin .add false (.bin .add false (.bin .mul false (.bin .add false (.slot 3) (.int 11)) (.int 16807)) (.bin .mul false (.bin .add false (.slot 2) (.int 1)) (.int 40692))) (.slot 1)) .nil)) (.int 2147483399)))
(.cons (.ret (.bin .mod false (.bi .int false (.cons (.bin .add false (.bin .add false (.bin .mul false (.slot 3) (.int 2147483399)) (.bin .mul false (.slot 4) (.int 31))) (.slot 2)) .nil)) (.int 4611686014132420609)))
.nil)))))))
def ev_law_number : Ev := { fs := [], cs := [] }
abbrev nm_law_number : List Str := ["script", "k", "cell", "first", "second"]
abbrev pa_law_number : List Str := ["script", "k"]
abbrev bl_law_number : List Str := ["len", "int"]
-- _law_take: slots 0:box 1:size 2:digit
def ir_law_take : DX.N := (.cons (.set 2 (.bin .mod false (.bi .int false (.cons (.ix (.slot 0) (.int 0)) .nil)) (.slot 1)))
(.cons (.asg (.tix (.slot 0) (.int 0)) (.bin .fdiv false (.ix (.slot 0) (.int 0)) (.slot 1)))
(.cons (.ret (.slot 2))
.nil)))
def ev_law_take : Ev := { fs := [], cs := [] }
abbrev nm_law_take : List Str := ["box", "size", "digit"]
abbrev pa_law_take : List Str := ["box", "size"]
abbrev bl_law_take : List Str := ["int"]

def S_law_number : List Dt → (Dt → Prop) → (Str → List (Str × Dt) → Prop) → Prop := fun ds Q R => match ds with
  | [.list xs, .int k] => ∃ ns b, xs = dI ns ∧ k.natAbs < 2 ^ 40 ∧ (∀ x ∈ ns, x.natAbs < 2 ^ b) ∧ b ≤ 100000000 ∧ Q (.int (numL ns k))
  | _ => False
abbrev sp_law_number : FnSp := .pure S_law_number
theorem b_law_number {ns : List Int} {k : Int} {b : Nat} {Q : Dt → Prop} {R : Str → List (Str × Dt) → Prop} (hk : k.natAbs < 2 ^ 40) (hx : ∀ x ∈ ns, x.natAbs < 2 ^ b) (hb : b ≤ 100000000) (hq : Q (.int (numL ns k))) :
    (sem ev_law_number ir_law_number).s 0 [some (.d (.list (dI ns))), some (.d (.int k)), none, none, none] [] (fun _ _ => Q .none) { rt := retP Q, ex := fun C fs _ _ => R C fs } := by
  have c0 := cell0_bd (k := k) hx
  have c1 := cell1_bd c0
  refine ⟨fun Γ' M' => Γ' = [some (.d (.list (dI ns))), some (.d (.int k)), some (.d (.int (cell0 ns k))), none, none] ∧ M' = [], ?_, ?_⟩
  · refine ⟨fun h => ?_, fun h => ?_⟩
    · rw [dI_len] at h
      have hc : 0 < ns.length := by have := of_decide_eq_true h; omega
      refine ⟨by rw [dI_len]; omega, ?_⟩
      walk_at "w"
      rw [dI_len]
      have h1 := Int.emod_nonneg k (show (ns.length : Int) ≠ 0 by omega)
      have h2 := Int.emod_lt_of_pos k (show (0 : Int) < ns.length by omega)
      have hi : (k % (ns.length : Int)).toNat < ns.length := by omega
      rw [show k % (ns.length : Int) = (((k % (ns.length : Int)).toNat : Nat) : Int) by omega, atD_nat (v := .int (cell0 ns k)) (by
        simp only [dI, List.getElem?_map, List.getElem?_eq_getElem hi, Option.map_some]
        unfold cell0
        rw [if_pos hc, List.getD_eq_getElem?_getD, List.getElem?_eq_getElem hi]
        rfl)]
      exact ⟨rfl, rfl⟩
    · rw [dI_len] at h
      have hc : ¬ 0 < ns.length := by have := of_decide_eq_false h; omega
      refine ⟨?_, rfl⟩
      unfold cell0
      rw [if_neg hc]
      rfl
  rintro Γ' M' ⟨rfl, rfl⟩
  generalize hce : cell0 ns k = c at *
  refine ⟨fun Γ' M' => Γ' = [some (.d (.list (dI ns))), some (.d (.int k)), some (.d (.int (cell1 c))), none, none] ∧ M' = [], ?_, ?_⟩
  · refine ⟨fun h => ?_, fun h => ?_⟩
    · refine ⟨mulx_ok (a := 64) (b := b) (by decide) c0 (by omega), ?_⟩
      have h := of_decide_eq_true h
      refine ⟨?_, rfl⟩
      unfold cell1
      rw [if_pos h]
      rfl
    · have h := of_decide_eq_false h
      refine ⟨?_, rfl⟩
      unfold cell1
      rw [if_neg h]
  rintro Γ' M' ⟨rfl, rfl⟩
  have hnum : numL ns k = if 1000000000 ≤ cell1 c ∧ k < ns.length then cell1 c else (first0 (cell1 c) k * 2147483399 + second0 (cell1 c) k (first0 (cell1 c) k) * 31 + cell1 c) % 4611686014132420609 := by
    unfold numL; rw [hce]
  generalize hc1 : cell1 c = d at *
  have rest : ¬ (1000000000 ≤ d ∧ k < ns.length) → (sem ev_law_number (ir_law_number.tl.tl.tl.tl)).s 0 [some (.d (.list (dI ns))), some (.d (.int k)), some (.d (.int d)), none, none] [] (fun _ _ => Q .none) { rt := retP Q, ex := fun C fs _ _ => R C fs } := fun hno => by
    rw [hnum, if_neg hno] at hq
    have d7 : (d + 7).natAbs < 2 ^ (b + 6) := add8_bd c1.2 (by decide)
    have d1 : (d + 1).natAbs < 2 ^ (b + 6) := add8_bd c1.2 (by decide)
    have f0 := first0_bd d k
    have s0 := second0_bd d k (first0 d k)
    refine ⟨mulx_ok (a := b + 6) (b := 64) d7 (by decide) (by omega), ?_⟩
    refine ⟨mulx_ok (a := 64) (b := 64) (by omega) (by decide) (by decide), ?_⟩
    refine ⟨by decide, ?_⟩
    refine ⟨mulx_ok (a := 64) (b := 64) (by omega) (by decide) (by decide), ?_⟩
    refine ⟨mulx_ok (a := b + 6) (b := 64) d1 (by decide) (by omega), ?_⟩
    refine ⟨by decide, ?_⟩
    refine ⟨mulx_ok (a := 64) (b := 64) (by omega) (by decide) (by decide), ?_⟩
    refine ⟨mulx_ok (a := 64) (b := 64) (by omega) (by decide) (by decide), ?_⟩
    exact ⟨by decide, hq⟩
  refine ⟨⟨by decide, by decide⟩, fun h => ?_, fun h => ?_⟩
  · walk_at "w"
    have h : 1000000000 ≤ d := of_decide_eq_true h
    refine ⟨fun h2 => ?_, fun h2 => ?_⟩
    · rw [dI_len] at h2
      have h2 := of_decide_eq_true h2
      rw [hnum, if_pos ⟨h, h2⟩] at hq
      exact hq
    · rw [dI_len] at h2
      have h2 := of_decide_eq_false h2
      exact rest fun q => h2 q.2
  · have h : ¬ 1000000000 ≤ d := of_decide_eq_false h
    exact ⟨fun q => Bool.noConfusion q, fun _ => rest fun q => h q.1⟩
def S_law_take : MutS := fun rs cs Q R => match rs, cs with
  | [.p 0, .d (.int m)], [.dl [.int n]] => (0 < m ∧ m.natAbs < 2 ^ 200) ∧ Q (.int (n % m)) [.dl [.int (n / m)]]
  | _, _ => False
abbrev sp_law_take : FnSp := .gen (genMut S_law_take)
section
variable {P : Program} {w : World} {K : PySem.W.Frag} {mg : Str → Option Value} {base : Heap}
theorem ok_law_number {k : Nat} {st : Stmt} {f : Addr} {fd : FuncData} (Fu : Fun K "_law_number" "_law_number" st f fd) (Sc : FnScope nm_law_number pa_law_number (defScope st)) (hc : (chk ev_law_number 60).ss (ckOf nm_law_number st bl_law_number) (defBody st) ir_law_number = true) (nd : Nds P w K mg base k ev_law_number bl_law_number) :
    FnOk P w K mg base (L2.CX P w) (k + 3) f fd pa_law_number (spFn K w mg sp_law_number) := by
  refine def_pure Fu Sc hc nd (fun ds Q R h => ?_) (fun ds Q R h => ?_)
  · unfold S_law_number at h
    split at h
    · rfl
    · exact h.elim
  · unfold S_law_number at h
    split at h
    · obtain ⟨ns, b, rfl, h1, h2, h3, hq⟩ := h
      exact b_law_number h1 h2 h3 hq
    · exact h.elim
theorem ok_law_take {k : Nat} {st : Stmt} {f : Addr} {fd : FuncData} (Fu : Fun K "_law_take" "_law_take" st f fd) (Sc : FnScope nm_law_take pa_law_take (defScope st)) (hc : (chk ev_law_take 60).ss (ckOf nm_law_take st bl_law_take) (defBody st) ir_law_take = true) (nd : Nds P w K mg base k ev_law_take bl_law_take) :
    FnOk P w K mg base (L2.CX P w) (k + 3) f fd pa_law_take (spFn K w mg sp_law_take) := by
  refine def_mut Fu Sc hc nd (fun rs cs Q R h => ?_) (fun rs cs Q R h => ?_)
  · unfold S_law_take at h
    split at h
    · rfl
    · exact h.elim
  · unfold S_law_take at h
    split at h
    · obtain ⟨⟨h1, h2⟩, hq⟩ := h
      exact ⟨h1, wide_div (b := 200) h1 h2 (by decide) (by decide), hq⟩
    · exact h.elim
end
end DX

namespace DX
open PySem PySem.Spec PyProof.Rows L2
theorem fa_nil {α : Type} {p : α → Prop} : ∀ x ∈ ([] : List α), p x := fun _ h => absurd h (by simp)
theorem fa_cons {α : Type} {p : α → Prop} {a : α} {l : List α} (h : p a) (t : ∀ x ∈ l, p x) : ∀ x ∈ a :: l, p x := fun x hx => by
  rcases List.mem_cons.mp hx with rfl | hx
  · exact h
  · exact t x hx
theorem dvAll_ints {K : KW} {H : Hp} : ∀ ns : List Int, DvAll K H (ns.map V.int) (dI ns)
  | [] => .nil
  | n :: ns => .cons (.int n) (dvAll_ints ns)
theorem bits_lt {z : Int} {b : Nat} (h : Builtin.Int.intBits z ≤ b) : z.natAbs < 2 ^ b := by
  unfold Builtin.Int.intBits at h
  split at h
  · rename_i h0
    have : z = 0 := by simpa using h0
    subst this
    exact Nat.pow_pos (by decide)
  · exact Nat.lt_of_lt_of_le Nat.lt_log2_self (Nat.pow_le_pow_right (by decide) h)
/-- a law's promise: nothing is raised -/
def sp0 (K : PySem.W.Frag) (w : World) (S : List Dt → (Dt → Prop) → (Str → List (Str × Dt) → Prop) → Prop) : Sp := fun vs H Q E =>
  ∃ z F ds Qd, StO ⟨K, w, z⟩ [] [] F H ∧ DvAll ⟨K, w, z⟩ F vs ds ∧ S ds Qd (fun _ _ => False) ∧ (∀ x F' H' v, Qd x → StO ⟨K, w, z⟩ [] [] F' H' → Same F F' → Dv ⟨K, w, z⟩ F' v x → Q v H')
theorem sp0_of {P : Program} {w : World} {K : PySem.W.Frag} {mg : Str → Option Value} {base : Heap} {k : Nat} {f : Addr} {fd : FuncData} {ps : List Str} {CX : CXT} {S : List Dt → (Dt → Prop) → (Str → List (Str × Dt) → Prop) → Prop} (h : FnOk P w K mg base CX k f fd ps (spFn K w mg (.pure S))) : FnOk P w K mg base CX k f fd ps (sp0 K w S) :=
  h.imp fun vs H Q E ⟨z, F, ds, Qd, S0, dv, hS, hQ⟩ => ⟨z, F, ds, Qd, fun _ _ => False, S0, dv, hS, hQ, fun _ _ _ _ _ _ q => q.elim⟩
theorem law_sp {K : PySem.W.Frag} {w : World} {S : List Dt → (Dt → Prop) → (Str → List (Str × Dt) → Prop) → Prop} {H : Hp} {a : Addr} {ns : List Int} (hS : SqL K H a (ns.map V.int)) (h : S [.list (dI ns)] (fun x => x = .bool true) (fun _ _ => False)) :
    sp0 K w S [.ref a] H (fun v _ => v = .bl true) (fun _ _ _ => False) :=
  ⟨fun _ => none, H, [.list (dI ns)], fun x => x = .bool true,
    ⟨Same.refl _, rfl, List.nodup_nil, fun a h => absurd h (by simp), fun k a c h => absurd h (by simp), fun _ _ e => by (exact nomatch e), fun a h => absurd h (by simp), fun _ _ e => by (exact nomatch e)⟩, .cons (Dv.lst hS (dvAll_ints ns)) .nil, h,
    fun x F' H' v q S f dv => by subst q; cases dv; rfl⟩
theorem cx_none {P : Program} {w : World} {H : Hp} {s : Shared} {e : Value} {s' : Shared} (h : L2.CX P w [] H s (fun _ _ _ => False) e s') : False := by
  obtain ⟨_, _, _, _, _, _, _, _, _, _, _, _, z⟩ := h
  exact z
theorem se_mk {n : Nat} {Γ Γ' : Ec} {M0 M : Sto} (L : Sto) (fo : Fo Γ' Γ) (e : M0 = M ++ L) (hb : (ecb M.length Γ' && stob M.length M) = true) (hn : n ≤ M.length) : Se n Γ M0 Γ' M :=
  ⟨fo, ⟨L, e⟩, stob_ok (and2 hb).2, ecb_ok (and2 hb).1, hn⟩

def sclR : Dt → Value → Bool
  | .none, .none => true
  | .bool b, .bool c => b == c
  | .int i, .int j _ => decide (i = j)
  | .str x, .str y _ => decide (x = y)
  | _, _ => false
def sclV : Dt → V
  | .bool b => .bl b
  | .int i => .int i
  | .str x => .str x
  | _ => .non
theorem sclR_rel {d : Dt} {u : Value} (h : sclR d u = true) : RelV (sclV d) u ∧ ∀ (K : KW) (F : Hp), Dv K F (sclV d) d := by
  cases d <;> cases u <;> first | (cases h; done) | skip
  case none.none => exact ⟨rfl, fun _ _ => .non⟩
  case bool.bool b c =>
    have : b = c := by simpa [sclR] using h
    subst this
    exact ⟨rfl, fun _ _ => .bl _⟩
  case int.int i j t =>
    have : i = j := of_decide_eq_true h
    subst this
    exact ⟨⟨_, rfl⟩, fun _ _ => .int _⟩
  case str.str x y t =>
    have : x = y := of_decide_eq_true h
    subst this
    exact ⟨⟨_, rfl⟩, fun _ _ => .str _⟩
def sclRs : List Dt → List Value → Bool
  | [], [] => true
  | d :: ds, u :: us => sclR d u && sclRs ds us
  | _, _ => false
theorem sclRs_ok : ∀ {ds : List Dt} {us : List Value}, sclRs ds us = true → Vals (ds.map sclV) us ∧ ∀ (K : KW) (F : Hp), DvAll K F (ds.map sclV) ds
  | [], [], _ => ⟨.nil, fun _ _ => .nil⟩
  | [], _ :: _, h => by cases h
  | _ :: _, [], h => by cases h
  | d :: ds, u :: us, h => by
    simp only [sclRs, Bool.and_eq_true] at h
    obtain ⟨h1, h2⟩ := sclR_rel h.1
    obtain ⟨h3, h4⟩ := sclRs_ok h.2
    exact ⟨.cons h1 h3, fun K F => .cons (h2 K F) (h4 K F)⟩
def tupO (o : Obj) (ds : List Dt) : Bool := match o with
  | ⟨.type c, _, .seq its _, _⟩ => decide (c = "tuple") && (decide (its.size ≤ sizeLine) && sclRs ds its.toList)
  | _ => false
theorem tupO_ok {K : PySem.W.Frag} {w : World} {o : Obj} {a : Addr} {ds : List Dt} (hl : K.lookup a = some o) (h : tupO o ds = true) : ∀ z F, Dv ⟨K, w, z⟩ F (.ref a) (.tuple ds) := by
  obtain ⟨oc, od, dt, osl⟩ := o
  unfold tupO at h
  split at h
  · rename_i c d its n sl e
    cases e
    simp only [Bool.and_eq_true, decide_eq_true_eq] at h
    obtain ⟨h1, h2, h3⟩ := h
    obtain ⟨r, dv⟩ := sclRs_ok h3
    exact fun z F => .tup (.inr ⟨_, its, n, hl, congrArg Value.type h1, rfl, h2, r⟩) (dv _ _)
  · cases h

theorem x_pair {K : PySem.W.Frag} {D C : Addr} {b : Bool} (iC : PySem.W.isClsIn K C = true) (tC : PySem.W.typeIn K (.ref C) = some (.type "type")) (sC : PySem.W.subIn K (.ref C) (.type "BaseException") = some true)
    (sDD : PySem.W.subIn K (.ref D) (.ref D) = some true) (sDC : PySem.W.subIn K (.ref D) (.ref C) = some b) : PySem.W.kitOne K (.ref D) (clU (.inl C)) = some b ∧ PySem.W.exmOne K (.ref D) (clU (.inl C)) = some b := by
  have e1 : PySem.W.kitCls K (.ref D) (.ref C) = some b := by
    unfold PySem.W.kitCls
    dsimp only
    rw [show ((PySem.W.clsIn K C).isSome && PySem.W.typeIn K (.ref C) == some (.type "type")) = true by rw [tC]; unfold PySem.W.isClsIn at iC; rw [iC]; rfl, if_pos rfl]
    exact sDC
  refine ⟨?_, ?_⟩
  · show PySem.W.kitOne K (.ref D) (.ref C) = some b
    unfold PySem.W.kitOne
    split
    · rename_i h
      have e := Value.ref.inj (beq_iff_eq.mp h)
      subst e
      rw [← sDD, sDC]
    · exact e1
  · show PySem.W.exmOne K (.ref D) (.ref C) = some b
    unfold PySem.W.exmOne
    rw [show (PySem.W.subIn K (.ref C) (.type "BaseException") == some true) = true by rw [sC]; rfl, if_pos rfl]
    exact e1
theorem x_pairT {K : PySem.W.Frag} {D : Addr} {T : String} {b : Bool} (m : PySem.W.kitMeta T = true) (sT : PySem.W.subIn K (.type T) (.type "BaseException") = some true) (sDT : PySem.W.subIn K (.ref D) (.type T) = some b) : PySem.W.kitOne K (.ref D) (clU (.inr T)) = some b ∧ PySem.W.exmOne K (.ref D) (clU (.inr T)) = some b := by
  have e1 : PySem.W.kitCls K (.ref D) (.type T) = some b := by
    unfold PySem.W.kitCls
    dsimp only
    rw [m, if_pos rfl]
    exact sDT
  refine ⟨?_, ?_⟩
  · show PySem.W.kitOne K (.ref D) (.type T) = some b
    unfold PySem.W.kitOne
    rw [show ((Value.ref D) == (Value.type T)) = false from rfl, if_neg Bool.false_ne_true]
    exact e1
  · show PySem.W.exmOne K (.ref D) (.type T) = some b
    unfold PySem.W.exmOne
    rw [show (PySem.W.subIn K (.type T) (.type "BaseException") == some true) = true by rw [sT]; rfl, if_pos rfl]
    exact e1
theorem xp_mk {K : PySem.W.Frag} {mg : Str → Option Value} {D : Addr} {c : Str} {b : Bool} (cv : Addr ⊕ String) (nv : NameV mg c cv) (h : PySem.W.kitOne K (.ref D) (clU cv) = some b ∧ PySem.W.exmOne K (.ref D) (clU cv) = some b) :
    ∃ cv, NameV mg c cv ∧ PySem.W.kitOne K (.ref D) (clU cv) = some b ∧ PySem.W.exmOne K (.ref D) (clU cv) = some b := ⟨cv, nv, h⟩
end DX

namespace DX
open PySem PySem.Spec PyProof.Rows L2
theorem lt_irr (x : Dt) : PySem.W.dataLt x x = false := (listOrd PyProof.Rows.itemOrd).irrefl _
theorem lt_trans' {x y z : Dt} (h : PySem.W.dataLt x y = true) (h' : PySem.W.dataLt y z = true) : PySem.W.dataLt x z = true := (listOrd PyProof.Rows.itemOrd).trans _ _ _ h h'
theorem lt_asy {x y : Dt} (h : PySem.W.dataLt x y = true) : PySem.W.dataLt y x = false := by
  cases e : PySem.W.dataLt y x with
  | false => rfl
  | true => have := lt_trans' h e; rw [lt_irr] at this; cases this
theorem toks_eqv1 {x y : Dt} (h : PySem.W.alike x y = true) (e : PyData.eqv x y = true) : PySem.W.keyToks x = PySem.W.keyToks y := (PySem.W.toks_eqv x y h).1 e
theorem not_lt_eqv {x y : Dt} (h : PySem.W.alike x y = true) (e : PyData.eqv x y = true) : PySem.W.dataLt x y = false := by
  unfold PySem.W.dataLt
  rw [toks_eqv1 h e]
  exact (listOrd PyProof.Rows.itemOrd).irrefl _
theorem eqv_not_lt {x y : Dt} (h : PySem.W.alike x y = true) (h1 : PySem.W.dataLt x y = false) (h2 : PySem.W.dataLt y x = false) : PyData.eqv x y = true := by
  cases e : PyData.eqv x y with
  | true => rfl
  | false =>
    have k := (PySem.W.toks_eqv x y h).2 e
    have ek : PySem.W.keyToks x = PySem.W.keyToks y := (listOrd PyProof.Rows.itemOrd).total _ _ h1 h2
    have a1 := k [.inl 0] [.inl 1]
    have a2 := k [.inl 0] [.inl 0]
    rw [ek, PySem.W.lex_pre] at a1 a2
    rw [a2.symm] at a1
    exact absurd a1 (by decide)
theorem le_or {x y : Dt} (h : PySem.W.alike x y = true) : (!PySem.W.dataLt y x) = (PySem.W.dataLt x y || PyData.eqv x y) := by
  cases e : PySem.W.dataLt x y with
  | true => rw [lt_asy e]; rfl
  | false =>
    cases e2 : PySem.W.dataLt y x with
    | true =>
      cases e3 : PyData.eqv x y with
      | false => rfl
      | true =>
        have := toks_eqv1 h e3
        unfold PySem.W.dataLt at e2
        rw [this] at e2
        exact absurd (e2.symm.trans ((listOrd PyProof.Rows.itemOrd).irrefl _)) (by decide)
    | false => rw [eqv_not_lt h e e2]; rfl
/-- a value: a whole number or a text -/
def isVal : Dt → Bool
  | .int _ => true
  | .str _ => true
  | _ => false
/-- its place in the order -/
def voD : Dt → Dt
  | .str s => .tuple [.int 1, .int 0, .str s]
  | d => .tuple [.int 0, d, .str ""]
theorem isVal_cases {d : Dt} (h : isVal d = true) : (∃ i, d = .int i) ∨ ∃ s, d = .str s := by
  cases d <;> first | (cases h; done) | exact .inl ⟨_, rfl⟩ | exact .inr ⟨_, rfl⟩
theorem vo_alike {a b : Dt} (ha : isVal a = true) (hb : isVal b = true) : PySem.W.alike (voD a) (voD b) = true := by
  rcases isVal_cases ha with ⟨i, rfl⟩ | ⟨s, rfl⟩ <;> rcases isVal_cases hb with ⟨j, rfl⟩ | ⟨t, rfl⟩ <;> rfl
theorem vos_alike : ∀ {a b : List Dt}, (∀ x ∈ a, isVal x = true) → (∀ x ∈ b, isVal x = true) → PySem.W.alikeAll (a.map voD) (b.map voD) = true
  | [], b, _, _ => by cases b <;> rfl
  | x :: a, [], _, _ => rfl
  | x :: a, y :: b, ha, hb => by
    show (PySem.W.alike (voD x) (voD y) && PySem.W.alikeAll (a.map voD) (b.map voD)) = true
    rw [vo_alike (ha x List.mem_cons_self) (hb y List.mem_cons_self), vos_alike (fun x h => ha x (List.mem_cons_of_mem _ h)) (fun x h => hb x (List.mem_cons_of_mem _ h))]
    rfl
theorem good_vo {a : Dt} (ha : isVal a = true) : good (voD a) = true := by
  rcases isVal_cases ha with ⟨i, rfl⟩ | ⟨s, rfl⟩ <;> rfl
theorem ltOk_vo {a b : Dt} (ha : isVal a = true) (hb : isVal b = true) : ltOk (voD a) (voD b) = true := by
  rcases isVal_cases ha with ⟨i, rfl⟩ | ⟨s, rfl⟩ <;> rcases isVal_cases hb with ⟨j, rfl⟩ | ⟨t, rfl⟩ <;> rfl
theorem eqv_val {a b : Dt} (ha : isVal a = true) (hb : isVal b = true) : PyData.eqv a b = true ↔ a = b := by
  rcases isVal_cases ha with ⟨i, rfl⟩ | ⟨s, rfl⟩ <;> rcases isVal_cases hb with ⟨j, rfl⟩ | ⟨t, rfl⟩ <;> simp [PyData.eqv]
theorem eqv_vals : ∀ {a b : List Dt}, (∀ x ∈ a, isVal x = true) → (∀ x ∈ b, isVal x = true) → (PyData.eqvAll a b = true ↔ a = b)
  | [], [], _, _ => by simp [PyData.eqvAll]
  | [], _ :: _, _, _ => by simp [PyData.eqvAll]
  | _ :: _, [], _, _ => by simp [PyData.eqvAll]
  | x :: a, y :: b, ha, hb => by
    rw [PyData.eqvAll, Bool.and_eq_true, eqv_val (ha x List.mem_cons_self) (hb y List.mem_cons_self), eqv_vals (fun x h => ha x (List.mem_cons_of_mem _ h)) (fun x h => hb x (List.mem_cons_of_mem _ h))]
    simp
/-- sizes and depths -/
theorem depthAll_le {n : Nat} : ∀ {xs : List Dt}, (∀ x ∈ xs, x.depth ≤ n) → PyData.depthAll xs ≤ n
  | [], _ => by simp [PyData.depthAll]
  | x :: xs, h => by
    rw [PyData.depthAll]
    exact Nat.max_le.mpr ⟨h x List.mem_cons_self, depthAll_le fun y hy => h y (List.mem_cons_of_mem _ hy)⟩
theorem plainAll_of : ∀ {xs : List Dt}, (∀ x ∈ xs, x.plain = true) → PyData.plainAll xs = true
  | [], _ => rfl
  | x :: xs, h => by rw [PyData.plainAll, h x List.mem_cons_self, plainAll_of fun y hy => h y (List.mem_cons_of_mem _ hy)]; rfl
/-- no dict, of at most this depth -/
def flatN (n : Nat) (x : Dt) : Prop := x.plain = true ∧ x.depth ≤ n
theorem good_flat {n : Nat} {x : Dt} (h : flatN n x) (hn : n ≤ 100) : good x = true := by
  unfold good
  rw [h.1, decide_eq_true (Nat.le_trans h.2 hn)]
  rfl
theorem flat_list {n : Nat} {xs : List Dt} (h : ∀ x ∈ xs, flatN n x) : flatN (n + 1) (.list xs) := by
  refine ⟨?_, ?_⟩
  · rw [PyData.plain]; exact plainAll_of fun x hx => (h x hx).1
  · have := depthAll_le fun x hx => (h x hx).2
    show PyData.depth (.list xs) ≤ n + 1
    rw [PyData.depth]; omega
theorem flat_tuple {n : Nat} {xs : List Dt} (h : ∀ x ∈ xs, flatN n x) : flatN (n + 1) (.tuple xs) := by
  refine ⟨?_, ?_⟩
  · rw [PyData.plain]; exact plainAll_of fun x hx => (h x hx).1
  · have := depthAll_le fun x hx => (h x hx).2
    show PyData.depth (.tuple xs) ≤ n + 1
    rw [PyData.depth]; omega
theorem flat_val {a : Dt} (ha : isVal a = true) : flatN 0 a := by
  rcases isVal_cases ha with ⟨i, rfl⟩ | ⟨s, rfl⟩ <;> exact ⟨rfl, Nat.le_refl 0⟩
theorem eqv_refl {x : Dt} (h : x.plain = true) : PyData.eqv x x = true := PySem.SeqAt.eqv_refl_plain x h
/-- items of a list in pairs -/
theorem fil_true {α : Type} {xs : List α} : xs.filter (fun _ => true) = xs := by
  induction xs with
  | nil => rfl
  | cons x xs ih => simp
end DX

namespace DX
open PySem PySem.Spec PyProof.Rows L2
abbrev RS := Str → List (Str × Dt) → Prop
abbrev PS := List Dt → (Dt → Prop) → RS → Prop
def dk : Nat → Dt → Prop
  | _, .none => True
  | _, .bool _ => True
  | _, .int _ => True
  | _, .str s => s.length ≤ 10000
  | n + 1, .list ds => ds.length ≤ 10000 ∧ ∀ d ∈ ds, dk n d
  | n + 1, .tuple ds => ds.length ≤ 10000 ∧ ∀ d ∈ ds, dk n d
  | _, _ => False
theorem lz10000 {n : Nat} (h : n ≤ 10000) : n ≤ sizeLine := Nat.le_trans h (by decide)
theorem dk_flat : ∀ {n : Nat} {d : Dt}, dk n d → flatN n d
  | _, .none, _ => ⟨rfl, Nat.zero_le _⟩
  | _, .bool _, _ => ⟨rfl, Nat.zero_le _⟩
  | _, .int _, _ => ⟨rfl, Nat.zero_le _⟩
  | _, .str _, _ => ⟨rfl, Nat.zero_le _⟩
  | n + 1, .list _, h => flat_list fun x hx => dk_flat ((show _ ∧ ∀ d ∈ _, dk n d from h).2 x hx)
  | n + 1, .tuple _, h => flat_tuple fun x hx => dk_flat ((show _ ∧ ∀ d ∈ _, dk n d from h).2 x hx)
  | 0, .list _, h => h.elim
  | 0, .tuple _, h => h.elim
  | 0, .dict _, h => h.elim
  | _ + 1, .dict _, h => h.elim
theorem dk_good {n : Nat} {d : Dt} (h : dk n d) (hn : n ≤ 100) : good d = true := good_flat (dk_flat h) hn
theorem dk_tup {n : Nat} {ds : List Dt} (h : dk (n + 1) (.tuple ds)) : ds.length ≤ 10000 ∧ ∀ d ∈ ds, dk n d := h
theorem dk_lst {n : Nat} {ds : List Dt} (h : dk (n + 1) (.list ds)) : ds.length ≤ 10000 ∧ ∀ d ∈ ds, dk n d := h
theorem dk_up : ∀ {n m : Nat} {d : Dt}, dk n d → n ≤ m → dk m d
  | _, _, .none, _, _ => by simp [dk]
  | _, _, .bool _, _, _ => by simp [dk]
  | _, _, .int _, _, _ => by simp [dk]
  | _, _, .str _, h, _ => by simp only [dk] at h ⊢; exact h
  | n + 1, m + 1, .list _, h, e => ⟨(dk_lst h).1, fun x hx => dk_up ((dk_lst h).2 x hx) (Nat.le_of_succ_le_succ e)⟩
  | n + 1, m + 1, .tuple _, h, e => ⟨(dk_tup h).1, fun x hx => dk_up ((dk_tup h).2 x hx) (Nat.le_of_succ_le_succ e)⟩
  | 0, _, .list _, h, _ => h.elim
  | 0, _, .tuple _, h, _ => h.elim
  | 0, _, .dict _, h, _ => h.elim
  | _ + 1, _, .dict _, h, _ => h.elim
theorem dk_notDic {n : Nat} {d : Dt} (h : dk n d) : notDic d = true := by
  cases d <;> first | rfl | (cases n <;> exact h.elim)
theorem dk_str {n : Nat} {s : Str} (h : dk n (.str s)) : s.length ≤ 10000 := by cases n <;> exact h
theorem eqW_ok {x y : Dt} {K : Bool → Prop} (hx : good x = true) (hy : good y = true) (h : K (PyData.eqv x y)) : eqW x y K := by
  unfold eqW
  split
  · rename_i i j
    have e : PyData.eqv (.int i) (.int j) = decide (i = j) := by simp [PyData.eqv, decide_eq_true_eq]; try rfl
    rw [e] at h; exact h
  · rename_i a b
    have e : PyData.eqv (.str a) (.str b) = decide (a = b) := by simp [PyData.eqv]; try rfl
    rw [e] at h; exact h
  · exact ⟨hx, hy, h⟩
/-- the text s -/
def isS (s : Str) : Dt → Bool
  | .str x => decide (x = s)
  | _ => false
theorem eqv_S {s : Str} (d : Dt) : PyData.eqv d (.str s) = isS s d := by
  cases d <;> simp [PyData.eqv, isS] <;> rfl
theorem eqv_S' {s : Str} (d : Dt) : PyData.eqv (.str s) d = isS s d := by
  cases d <;> simp [PyData.eqv, isS, eq_comm] <;> rfl
theorem isS_eq {s : Str} {d : Dt} (h : isS s d = true) : d = .str s := by
  cases d <;> simp [isS] at h
  rw [h]
theorem eqW_tf {x y : Dt} {A B : Prop} (hx : good x = true) (hy : good y = true) (h1 : PyData.eqv x y = true → A) (h2 : PyData.eqv x y = false → B) : eqW x y fun b => (b = true → A) ∧ (b = false → B) := eqW_ok hx hy ⟨h1, h2⟩
theorem eqW_ft {x y : Dt} {A B : Prop} (hx : good x = true) (hy : good y = true) (h1 : PyData.eqv x y = true → A) (h2 : PyData.eqv x y = false → B) : eqW x y fun b => (b = false → B) ∧ (b = true → A) := eqW_ok hx hy ⟨h2, h1⟩
theorem neW_tf {x y : Dt} {A B : Prop} (hx : good x = true) (hy : good y = true) (h1 : PyData.eqv x y = true → A) (h2 : PyData.eqv x y = false → B) : eqW x y fun b => ((!b) = true → B) ∧ ((!b) = false → A) := eqW_ok hx hy ⟨fun e => h2 (by simpa using e), fun e => h1 (by simpa using e)⟩
theorem neW_ft {x y : Dt} {A B : Prop} (hx : good x = true) (hy : good y = true) (h1 : PyData.eqv x y = true → A) (h2 : PyData.eqv x y = false → B) : eqW x y fun b => ((!b) = false → A) ∧ ((!b) = true → B) := eqW_ok hx hy ⟨fun e => h1 (by simpa using e), fun e => h2 (by simpa using e)⟩
abbrev lenOf (S : PS) (n : Nat) : Prop := ∀ ds Q R, S ds Q R → ds.length = n
abbrev bodyOf (S : PS) (ev : Ev) (ir : N) (nm : List Str) : Prop := ∀ ds Q R, S ds Q R → (sem ev ir).s 0 ((ds.map Im.d).map some ++ List.replicate (nm.length - ds.length) none) [] (fun _ _ => Q .none) { rt := retP Q, ex := fun C fs _ _ => R C fs }
abbrev mlen (S : MutS) (n : Nat) : Prop := ∀ rs cs Q R, S rs cs Q R → rs.length = n
abbrev mbody (S : MutS) (ev : Ev) (ir : N) (nm : List Str) : Prop := ∀ rs cs Q R, S rs cs Q R → (sem ev ir).s cs.length (rs.map some ++ List.replicate (nm.length - rs.length) none) cs (fun _ M' => Q .none (M'.take cs.length)) { rt := retM cs.length Q, ex := fun C fs _ M' => R C fs (M'.take cs.length) }
def N.jn : N → N
  | .join a => a
  | a => a
def N.brT : N → N
  | .ite _ t _ => t
  | a => a
def N.brF : N → N
  | .ite _ _ f => f
  | a => a
def N.bod : N → N
  | .while_ _ b => b
  | .for_ _ _ b => b
  | .try_ b _ _ _ => b
  | a => a
end DX

namespace DX
open PySem PySem.Spec PyProof.Rows L2
noncomputable instance : DecidableEq Dt := fun a b => Classical.propDecidable _
mutual
theorem nk_inj : ∀ {a b : Dt} {x : NestedKey}, nkD a = some x → nkD b = some x → a = b
  | .none, b, x, h, h' => by cases h; cases b <;> simp [nkD] at h' <;> rfl
  | .int i, b, x, h, h' => by cases h; cases b <;> simp [nkD] at h' <;> rw [h']
  | .str s, b, x, h, h' => by cases h; cases b <;> simp [nkD] at h' <;> rw [h']
  | .tuple xs, b, x, h, h' => by
    simp only [nkD, Option.map_eq_some_iff] at h
    obtain ⟨ks, h1, rfl⟩ := h
    cases b <;> simp [nkD] at h'
    rename_i ys
    rw [nks_inj h1 h']
  | .bool _, _, _, h, _ => by simp [nkD] at h
  | .list _, _, _, h, _ => by simp [nkD] at h
  | .dict _, _, _, h, _ => by simp [nkD] at h
theorem nks_inj : ∀ {a b : List Dt} {x : List NestedKey}, nkAll a = some x → nkAll b = some x → a = b
  | [], b, x, h, h' => by
    cases h
    cases b with
    | nil => rfl
    | cons y b =>
      simp only [nkAll] at h'
      split at h' <;> simp at h'
  | a0 :: a, b, x, h, h' => by
    simp only [nkAll] at h
    split at h
    · rename_i k ks e1 e2
      cases h
      cases b with
      | nil => simp [nkAll] at h'
      | cons y b =>
        simp only [nkAll] at h'
        split at h'
        · rename_i k' ks' e1' e2'
          cases h'
          rw [nk_inj e1 e1', nks_inj e2 e2']
        · cases h'
    · cases h
end
/-- data that can be keys -/
def ky (d : Dt) : Bool := (nkD d).isSome
theorem keyB_eq {a b : Dt} (ha : ky a = true) (hb : ky b = true) : keyB a b = decide (a = b) := by
  obtain ⟨x, hx⟩ := Option.isSome_iff_exists.mp ha
  obtain ⟨y, hy⟩ := Option.isSome_iff_exists.mp hb
  rw [keyB_nk hx hy]
  by_cases e : a = b
  · subst e; rw [hx] at hy; cases hy; simp
  · have : x ≠ y := fun z => by subst z; exact e (nk_inj hx hy)
    rw [decide_eq_false e, decide_eq_false this]
theorem dGet_none {α : Type} {kvs : List (Dt × α)} {k : Dt} (hk : ky k = true) (h : ∀ p ∈ kvs, ky p.1 = true) : dGet kvs k = none ↔ k ∉ kvs.map (·.1) := by
  unfold dGet
  rw [Option.map_eq_none_iff, List.find?_eq_none]
  constructor
  · intro f m
    obtain ⟨p, hp, e⟩ := List.mem_map.mp m
    have := f p hp
    rw [keyB_eq (h p hp) hk] at this
    simp [e] at this
  · intro f p hp
    rw [keyB_eq (h p hp) hk]
    simp only [decide_eq_true_eq]
    intro e
    exact f (List.mem_map.mpr ⟨p, hp, e⟩)
theorem dGet_isSome {α : Type} {kvs : List (Dt × α)} {k : Dt} (hk : ky k = true) (h : ∀ p ∈ kvs, ky p.1 = true) : (dGet kvs k).isSome = decide (k ∈ kvs.map (·.1)) := by
  have := dGet_none hk h
  cases e : dGet kvs k with
  | none => rw [e] at this; simp only [true_iff] at this; simp [this]
  | some v =>
    rw [e] at this
    simp only [reduceCtorEq, false_iff, Classical.not_not] at this
    simp [this]
/-- the keys behind a store -/
noncomputable def addK (ks : List Dt) (k : Dt) : List Dt := if k ∈ ks then ks else ks ++ [k]
theorem dPut_keys {α : Type} {kvs : List (Dt × α)} {k : Dt} {v : α} (hk : ky k = true) (h : ∀ p ∈ kvs, ky p.1 = true) : (dPut kvs k v).map (·.1) = addK (kvs.map (·.1)) k := by
  unfold dPut addK
  rw [dGet_isSome hk h]
  by_cases e : k ∈ kvs.map (·.1)
  · rw [if_pos (decide_eq_true e), if_pos e, List.map_map]
    refine List.map_congr_left fun p hp => ?_
    show (if keyB p.1 k then (p.1, v) else p).1 = p.1
    split <;> rfl
  · rw [if_neg (by simpa using e), if_neg e]
    simp
theorem addK_mem {ks : List Dt} {k x : Dt} : x ∈ addK ks k ↔ x ∈ ks ∨ x = k := by
  unfold addK
  split
  · rename_i h
    exact ⟨.inl, fun q => q.elim id fun e => e ▸ h⟩
  · simp
theorem addK_nodup {ks : List Dt} {k : Dt} (h : ks.Nodup) : (addK ks k).Nodup := by
  unfold addK
  split
  · exact h
  · rename_i hk
    rw [List.nodup_append]
    exact ⟨h, by simp, fun a ha b hb => by simp at hb; subst hb; exact fun e => hk (e ▸ ha)⟩
theorem addK_len {ks : List Dt} {k : Dt} : (addK ks k).length ≤ ks.length + 1 := by
  unfold addK; split <;> simp

theorem dl_irr (x : Dt) : PySem.W.dataLt x x = false := lt_irr x
theorem dl_total {x y : Dt} (h1 : PySem.W.dataLt x y = false) (h2 : PySem.W.dataLt y x = false) : PySem.W.keyToks x = PySem.W.keyToks y := (listOrd PyProof.Rows.itemOrd).total _ _ h1 h2
theorem dl_asy {x y : Dt} (h : PySem.W.dataLt x y = true) : PySem.W.dataLt y x = false := lt_asy h
theorem dl_tr {x y z : Dt} (h : PySem.W.dataLt x y = true) (h' : PySem.W.dataLt y z = true) : PySem.W.dataLt x z = true := lt_trans' h h'
/-- the key tells the data, among those with P -/
def KInj (P : Dt → Prop) (kf : Dt → Dt) : Prop := ∀ x y, P x → P y → PySem.W.keyToks (kf x) = PySem.W.keyToks (kf y) → x = y
theorem dl_tot {P : Dt → Prop} {kf : Dt → Dt} (hi : KInj P kf) {x y : Dt} (hx : P x) (hy : P y) (hn : x ≠ y) (h : PySem.W.dataLt (kf x) (kf y) = false) : PySem.W.dataLt (kf y) (kf x) = true := by
  cases e : PySem.W.dataLt (kf y) (kf x) with
  | true => rfl
  | false => exact absurd (hi x y hx hy (dl_total h e)) hn
/-- in strict order -/
def Asc (kf : Dt → Dt) (l : List Dt) : Prop := l.Pairwise fun a b => PySem.W.dataLt (kf a) (kf b) = true
theorem asc_uniq {kf : Dt → Dt} : ∀ {l m : List Dt}, Asc kf l → Asc kf m → (∀ x, x ∈ l ↔ x ∈ m) → l = m
  | [], [], _, _, _ => rfl
  | [], y :: m, _, _, h => absurd ((h y).mpr List.mem_cons_self) (by simp)
  | x :: l, [], _, _, h => absurd ((h x).mp List.mem_cons_self) (by simp)
  | x :: l, y :: m, hl, hm, h => by
    have hl' := List.pairwise_cons.mp hl
    have hm' := List.pairwise_cons.mp hm
    have e : x = y := by
      rcases List.mem_cons.mp ((h x).mp List.mem_cons_self) with e | hx
      · exact e
      · rcases List.mem_cons.mp ((h y).mpr List.mem_cons_self) with e | hy
        · exact e.symm
        · have a := hm'.1 x hx
          have b := hl'.1 y hy
          rw [dl_asy a] at b; cases b
    subst e
    have hxl : x ∉ l := fun z => by have := hl'.1 x z; rw [dl_irr] at this; cases this
    have hxm : x ∉ m := fun z => by have := hm'.1 x z; rw [dl_irr] at this; cases this
    rw [asc_uniq hl'.2 hm'.2 fun z => ?_]
    constructor
    · intro hz
      rcases List.mem_cons.mp ((h z).mp (List.mem_cons_of_mem _ hz)) with e | q
      · exact absurd (e ▸ hz) hxl
      · exact q
    · intro hz
      rcases List.mem_cons.mp ((h z).mpr (List.mem_cons_of_mem _ hz)) with e | q
      · exact absurd (e ▸ hz) hxm
      · exact q
theorem asc_nodup {kf : Dt → Dt} {l : List Dt} (h : Asc kf l) : l.Nodup := List.Pairwise.imp (fun {a b} q e => by subst e; rw [dl_irr] at q; cases q) h
/-- a list sorted by its keys -/
def srt (kf : Dt → Dt) (l : List Dt) : List Dt := l.mergeSort (PySem.W.dataLe false kf)
theorem srt_mem {kf : Dt → Dt} {l : List Dt} {x : Dt} : x ∈ srt kf l ↔ x ∈ l := List.mem_mergeSort
theorem srt_len {kf : Dt → Dt} {l : List Dt} : (srt kf l).length = l.length := List.length_mergeSort l
theorem srt_pw (kf : Dt → Dt) (l : List Dt) : (srt kf l).Pairwise fun a b => PySem.W.dataLt (kf b) (kf a) = false := by
  have := List.pairwise_mergeSort (le := PySem.W.dataLe false kf) (fun a b c => (PySem.W.sortLe_total (listOrd PyProof.Rows.itemOrd) false fun b => PySem.W.keyToks (kf b)).trans a b c) (fun a b => Bool.or_eq_true_iff.mpr ((PySem.W.sortLe_total (listOrd PyProof.Rows.itemOrd) false fun b => PySem.W.keyToks (kf b)).total a b)) l
  refine List.Pairwise.imp (fun {a b} h => ?_) this
  have h : (!PySem.W.dataLt (kf b) (kf a)) = true := h
  simpa using h
theorem srt_asc {P : Dt → Prop} {kf : Dt → Dt} (hi : KInj P kf) {l : List Dt} (hp : ∀ x ∈ l, P x) (hn : l.Nodup) : Asc kf (srt kf l) := by
  have h1 := srt_pw kf l
  have h2 : (srt kf l).Nodup := (List.mergeSort_perm l _).nodup_iff.mpr hn
  have hp' : ∀ x ∈ srt kf l, P x := fun x hx => hp x (srt_mem.mp hx)
  generalize srt kf l = m at h1 h2 hp'
  induction m with
  | nil => exact List.Pairwise.nil
  | cons x m ih =>
    rw [List.pairwise_cons] at h1
    rw [List.nodup_cons] at h2
    refine List.pairwise_cons.mpr ⟨fun y hy => ?_, ih h1.2 h2.2 fun z hz => hp' z (List.mem_cons_of_mem _ hz)⟩
    exact dl_tot hi (hp' y (List.mem_cons_of_mem _ hy)) (hp' x List.mem_cons_self) (fun e => h2.1 (e ▸ hy)) (h1.1 y hy)
theorem asc_sub {kf : Dt → Dt} {l m : List Dt} (h : Asc kf m) (hs : List.Sublist l m) : Asc kf l := List.Pairwise.sublist hs h
/-- what stands in order stays -/
theorem srt_of_asc {P : Dt → Prop} {kf : Dt → Dt} (hi : KInj P kf) {l : List Dt} (hp : ∀ x ∈ l, P x) (h : Asc kf l) : srt kf l = l :=
  asc_uniq (srt_asc hi hp (asc_nodup h)) h fun x => srt_mem
theorem srt_congr {P : Dt → Prop} {kf : Dt → Dt} (hi : KInj P kf) {l m : List Dt} (hp : ∀ x ∈ l, P x) (hn : l.Nodup) (hm : m.Nodup) (h : ∀ x, x ∈ l ↔ x ∈ m) : srt kf l = srt kf m :=
  asc_uniq (srt_asc hi hp hn) (srt_asc hi (fun x hx => hp x ((h x).mpr hx)) hm) fun x => by rw [srt_mem, srt_mem]; exact h x

def rowV (d : Dt) : Prop := ∃ vs, d = .tuple vs ∧ (∀ v ∈ vs, isVal v = true) ∧ vs.length ≤ 1000
def roD : Dt → Dt
  | .tuple vs => .list (vs.map voD)
  | d => d
theorem tok_cons {x y : Dt} {l m : List (Int ⊕ List Nat)} (h : PySem.W.alike x y = true) (e : PySem.W.keyToks x ++ l = PySem.W.keyToks y ++ m) : PyData.eqv x y = true := by
  cases hq : PyData.eqv x y with
  | true => rfl
  | false =>
    exfalso
    have k := (PySem.W.toks_eqv x y h).2 hq
    have h0 : PyProof.Rows.lexLt PyProof.Rows.itemOrd (PySem.W.keyToks x) (PySem.W.keyToks y) = false := by
      rw [← k l m, e]
      exact (listOrd PyProof.Rows.itemOrd).irrefl _
    have h1 : PyProof.Rows.lexLt PyProof.Rows.itemOrd (PySem.W.keyToks y) (PySem.W.keyToks x) = false := by
      have h' : PySem.W.alike y x = true := (by rw [PySem.W.alike_comm]; exact h)
      have hq' : PyData.eqv y x = false := by rw [PySem.W.eqv_comm]; exact hq
      rw [← (PySem.W.toks_eqv y x h').2 hq' m l, e]
      exact (listOrd PyProof.Rows.itemOrd).irrefl _
    have := eqv_not_lt h h0 h1
    rw [hq] at this; cases this
theorem tok_alls : ∀ {a b : List Dt} {l m : List (Int ⊕ List Nat)}, PySem.W.alikeAll a b = true → PySem.W.keyToksAll a ++ l = PySem.W.keyToksAll b ++ m → PyData.eqvAll a b = true ∧ l = m
  | [], [], l, m, _, e => by simpa [PySem.W.keyToksAll, PyData.eqvAll] using e
  | [], y :: b, l, m, _, e => by simp [PySem.W.keyToksAll] at e
  | x :: a, [], l, m, _, e => by simp [PySem.W.keyToksAll] at e
  | x :: a, y :: b, l, m, h, e => by
    rw [PySem.W.alikeAll, Bool.and_eq_true] at h
    simp only [PySem.W.keyToksAll, List.cons_append, List.append_assoc, List.cons.injEq, true_and] at e
    have e1 := tok_cons h.1 e
    have e2 := toks_eqv1 h.1 e1
    rw [e2] at e
    have e3 := List.append_cancel_left e
    obtain ⟨h3, h4⟩ := tok_alls h.2 e3
    rw [PyData.eqvAll, e1, h3]
    exact ⟨rfl, h4⟩
theorem eqv_vo {a b : Dt} (ha : isVal a = true) (hb : isVal b = true) (h : PyData.eqv (voD a) (voD b) = true) : a = b := by
  rcases isVal_cases ha with ⟨i, rfl⟩ | ⟨s, rfl⟩ <;> rcases isVal_cases hb with ⟨j, rfl⟩ | ⟨t, rfl⟩ <;> simpa [voD, PyData.eqv, PyData.eqvAll] using h
theorem vos_inj : ∀ {a b : List Dt}, (∀ x ∈ a, isVal x = true) → (∀ x ∈ b, isVal x = true) → PyData.eqvAll (a.map voD) (b.map voD) = true → a = b
  | [], [], _, _, _ => rfl
  | [], _ :: _, _, _, h => by simp [PyData.eqvAll] at h
  | _ :: _, [], _, _, h => by simp [PyData.eqvAll] at h
  | x :: a, y :: b, ha, hb, h => by
    rw [List.map_cons, List.map_cons, PyData.eqvAll, Bool.and_eq_true] at h
    rw [eqv_vo (ha x List.mem_cons_self) (hb y List.mem_cons_self) h.1, vos_inj (fun x h => ha x (List.mem_cons_of_mem _ h)) (fun x h => hb x (List.mem_cons_of_mem _ h)) h.2]
theorem ro_alike {r s : Dt} (hr : rowV r) (hs : rowV s) : PySem.W.alike (roD r) (roD s) = true := by
  obtain ⟨a, rfl, ha, _⟩ := hr
  obtain ⟨b, rfl, hb, _⟩ := hs
  exact vos_alike ha hb
theorem ro_inj : KInj rowV roD := by
  rintro _ _ ⟨a, rfl, ha, _⟩ ⟨b, rfl, hb, _⟩ h
  have h : PySem.W.keyToksAll (a.map voD) = PySem.W.keyToksAll (b.map voD) := h
  have := (tok_alls (l := []) (m := []) (vos_alike ha hb) (by rw [h])).1
  rw [vos_inj ha hb this]
theorem vo_flat {v : Dt} (h : isVal v = true) : flatN 1 (voD v) := by
  rcases isVal_cases h with ⟨i, rfl⟩ | ⟨s, rfl⟩ <;> exact ⟨rfl, Nat.le_refl 1⟩
theorem ro_flat {r : Dt} (h : rowV r) : flatN 2 (roD r) := by
  obtain ⟨a, rfl, ha, _⟩ := h
  exact flat_list fun x hx => by
    obtain ⟨v, hv, rfl⟩ := List.mem_map.mp hx
    exact vo_flat (ha v hv)
theorem rowV_flat {r : Dt} (h : rowV r) : flatN 1 r := by
  obtain ⟨a, rfl, ha, _⟩ := h
  exact flat_tuple fun x hx => flat_val (ha x hx)
theorem rowV_good {r : Dt} (h : rowV r) : good r = true := good_flat (rowV_flat h) (by decide)
theorem ro_ltOk {r s : Dt} (hr : rowV r) (hs : rowV s) : ltOk (roD r) (roD s) = true := by
  have h1 := ro_alike hr hs
  have h2 := good_flat (ro_flat hr) (by decide)
  obtain ⟨a, rfl, ha, _⟩ := hr
  show (PySem.W.alike _ _ && good _ && _) = true
  rw [h1, h2]; rfl
theorem vals_ky : ∀ {a : List Dt}, (∀ x ∈ a, isVal x = true) → ∃ ks, nkAll a = some ks ∧ NestedKey.depthAll ks = 0
  | [], _ => ⟨[], rfl, rfl⟩
  | x :: a, h => by
    obtain ⟨ks, e, d⟩ := vals_ky fun y hy => h y (List.mem_cons_of_mem _ hy)
    rcases isVal_cases (h x List.mem_cons_self) with ⟨i, rfl⟩ | ⟨s, rfl⟩
    · exact ⟨_, by simp only [nkAll, nkD, e]; rfl, by simp [NestedKey.depthAll, NestedKey.depth, d]⟩
    · exact ⟨_, by simp only [nkAll, nkD, e]; rfl, by simp [NestedKey.depthAll, NestedKey.depth, d]⟩
theorem rowV_ky {r : Dt} (h : rowV r) : ky r = true ∧ tupK r = true := by
  obtain ⟨a, rfl, ha, _⟩ := h
  obtain ⟨ks, e, d⟩ := vals_ky ha
  have e2 : nkD (.tuple a) = some (.tup ks) := by simp [nkD, e]
  refine ⟨by unfold ky; rw [e2]; rfl, ?_⟩
  unfold tupK
  dsimp only
  rw [e2]
  simp [NestedKey.depth, d]
theorem row_eqv {r s : Dt} (hr : rowV r) (hs : rowV s) : PyData.eqv r s = decide (r = s) := by
  obtain ⟨a, rfl, ha, _⟩ := hr
  obtain ⟨b, rfl, hb, _⟩ := hs
  have := eqv_vals ha hb
  by_cases e : a = b
  · subst e
    rw [decide_eq_true rfl]
    exact this.mpr rfl
  · rw [decide_eq_false (fun z => e (by cases z; rfl))]
    cases q : PyData.eqv (.tuple a) (.tuple b) with
    | false => rfl
    | true => exact absurd (this.mp q) e
theorem rows_sortOk {rows : List Dt} (h : ∀ r ∈ rows, rowV r) : sortOk (rows.map roD) := by
  refine ⟨fun d hd d' hd' => ?_, .inr fun d hd => ?_, fun d hd => ?_⟩
  · obtain ⟨r, hr, rfl⟩ := List.mem_map.mp hd
    obtain ⟨r', hr', rfl⟩ := List.mem_map.mp hd'
    exact ro_alike (h r hr) (h r' hr')
  · obtain ⟨r, hr, rfl⟩ := List.mem_map.mp hd
    obtain ⟨a, rfl, _⟩ := h r hr
    exact ⟨fun e => (by cases e), fun xs e => (by cases e)⟩
  · obtain ⟨r, hr, rfl⟩ := List.mem_map.mp hd
    exact Nat.le_trans (ro_flat (h r hr)).2 (by decide)
end DX

namespace DX
open PySem PySem.Spec PyProof.Rows L2

def putAll {α : Type} (kvs : List (Dt × α)) (ps : List (Dt × α)) : List (Dt × α) := ps.foldl (fun d p => dPut d p.1 p.2) kvs
theorem putAll_app {α : Type} (kvs ps qs : List (Dt × α)) : putAll kvs (ps ++ qs) = putAll (putAll kvs ps) qs := List.foldl_append ..
theorem take_flat {α β : Type} {xs : List α} {i : Nat} {x : α} (f : α → List β) (h : xs[i]? = some x) : (xs.take (i + 1)).flatMap f = (xs.take i).flatMap f ++ f x := by
  rw [List.take_add_one, h]; simp
theorem take_flat_len {α β : Type} {xs : List α} {i : Nat} {x : α} (f : α → List β) (h : xs[i]? = some x) : ((xs.take i).flatMap f).length + (f x).length ≤ (xs.flatMap f).length := by
  rw [← List.length_append, ← take_flat f h]
  conv => rhs; rw [← List.take_append_drop (i + 1) xs, List.flatMap_append, List.length_append]
  exact Nat.le_add_right _ _
theorem mem_put {α : Type} {kvs : List (Dt × α)} {k : Dt} {v : α} {p : Dt × α} (h : p ∈ dPut kvs k v) : p.1 = k ∨ ∃ q ∈ kvs, q.1 = p.1 := by
  unfold dPut at h
  split at h
  · obtain ⟨q, hq, e⟩ := List.mem_map.mp h
    refine .inr ⟨q, hq, ?_⟩
    rw [← e]
    split <;> rfl
  · rcases List.mem_append.mp h with h | h
    · exact .inr ⟨p, h, rfl⟩
    · simp at h; subst h; exact .inl rfl
theorem mem_putAll {α : Type} : ∀ {ps kvs : List (Dt × α)} {p : Dt × α}, p ∈ putAll kvs ps → (∃ q ∈ ps, q.1 = p.1) ∨ ∃ q ∈ kvs, q.1 = p.1
  | [], kvs, p, h => .inr ⟨p, h, rfl⟩
  | q :: ps, kvs, p, h => by
    rcases mem_putAll (ps := ps) h with ⟨q', h1, h2⟩ | ⟨q', h1, h2⟩
    · exact .inl ⟨q', List.mem_cons_of_mem _ h1, h2⟩
    · rcases mem_put h1 with h3 | ⟨q'', h3, h4⟩
      · exact .inl ⟨q, List.mem_cons_self, by rw [← h2, ← h3]⟩
      · exact .inr ⟨q'', h3, by rw [h4, h2]⟩
theorem len_put {α : Type} (kvs : List (Dt × α)) (k : Dt) (v : α) : (dPut kvs k v).length ≤ kvs.length + 1 := by
  unfold dPut; split <;> simp
theorem len_putAll {α : Type} : ∀ (ps kvs : List (Dt × α)), (putAll kvs ps).length ≤ kvs.length + ps.length
  | [], kvs => Nat.le_refl _
  | p :: ps, kvs => by
    have := len_putAll ps (dPut kvs p.1 p.2)
    have := len_put kvs p.1 p.2
    show (putAll (dPut kvs p.1 p.2) ps).length ≤ _
    rw [List.length_cons]; omega
/-- the kind of a dict's keys -/
inductive KeyK where
  | atom | tup
def KeyK.b : KeyK → Dt → Bool
  | .atom => atomK
  | .tup => tupK
theorem kind_of {α : Type} (K : KeyK) {kvs : List (Dt × α)} {key : Dt} (hk : K.b key = true) (h : ∀ p ∈ kvs, K.b p.1 = true) : kindOk kvs key = true := by
  unfold kindOk
  cases K with
  | atom => rw [show atomK key = true from hk, show (kvs.all fun p => atomK p.1) = true from List.all_eq_true.mpr h]; rfl
  | tup => rw [show tupK key = true from hk, show (kvs.all fun p => tupK p.1) = true from List.all_eq_true.mpr h]; simp
section
variable {V : Ev} {tg q b : N} {Γ : Ec} {own : Bool} {Q : QE} {xs : List Im} {ok : Sto → Prop} {M0 : Sto} {P : Ps} {vs : List Nat}
/-- one turn of a comprehension, N what it is to reach -/
abbrev TurnC (V : Ev) (tg q b : N) (Γ : Ec) (vs : List Nat) (k : Nat) (P : Ps) (x : Im) (M : Sto) (N : Sto → Prop) : Prop := (sem V tg).g x (wipeE Γ vs) M (fun Γ2 M2 => (sem V q).t Γ2 M2 (fun c M3 => (c = true → (sem V b).s k Γ2 M3 (fun _ M4 => N M4) P) ∧ (c = false → N M3)) NoXn) NoXn
theorem cm_list (rs : Im → List Dt) (hz : (xs.flatMap rs).length ≤ sizeLine) (hok : ∀ acc, ok (M0 ++ [.dl acc])) (step : ∀ x ∈ xs, ∀ acc (N : Sto → Prop), acc.length + (rs x).length ≤ sizeLine → N (M0 ++ [.dl (acc ++ rs x)]) → TurnC V tg q b Γ vs M0.length P x (M0 ++ [.dl acc]) N)
    (fin : cmEnd own M0 Q (M0 ++ [.dl (xs.flatMap rs)])) : ∃ J : Nat → Sto → Prop, J 0 (M0 ++ [cmNew false]) ∧
      (∀ (i : Nat) x M', xs[i]? = some x → J i M' → ok M' ∧ TurnC V tg q b Γ vs M0.length P x M' (TurnsM (M0.length + 1) (J (i + 1)))) ∧
      (∀ M', J xs.length M' → ok M' ∧ cmEnd own M0 Q M') := by
  refine ⟨fun i M' => M' = M0 ++ [.dl ((xs.take i).flatMap rs)], by simp [cmNew], fun i x M' hx hj => ?_, fun M' hj => ?_⟩
  · subst hj
    have hl := take_flat_len rs hx
    exact ⟨hok _, step x (List.mem_of_getElem? hx) _ _ (by omega) (.inl (by dsimp only; rw [take_flat rs hx]))⟩
  · subst hj
    rw [List.take_of_length_le (Nat.le_refl _)]
    exact ⟨hok _, fin⟩
theorem cf_list {acc0 : List Dt} {N : Sto → Prop} (rs : Im → List Dt) (hz : acc0.length + (xs.flatMap rs).length ≤ sizeLine) (hok : ∀ acc, ok (M0 ++ [.dl acc])) (step : ∀ x ∈ xs, ∀ acc (N : Sto → Prop), acc.length + (rs x).length ≤ sizeLine → N (M0 ++ [.dl (acc ++ rs x)]) → TurnC V tg q b Γ vs M0.length P x (M0 ++ [.dl acc]) N)
    (fin : N (M0 ++ [.dl (acc0 ++ xs.flatMap rs)])) : Nat.blt M0.length (M0 ++ [Cel.dl acc0]).length = true ∧ ∃ J : Nat → Sto → Prop, J 0 (M0 ++ [.dl acc0]) ∧
      (∀ (i : Nat) x M', xs[i]? = some x → J i M' → ok M' ∧ TurnC V tg q b Γ vs M0.length P x M' (TurnsM (M0 ++ [Cel.dl acc0]).length (J (i + 1)))) ∧
      (∀ M', J xs.length M' → ok M' ∧ N M') := by
  refine ⟨by rw [Nat.blt_eq]; simp, fun i M' => M' = M0 ++ [.dl (acc0 ++ (xs.take i).flatMap rs)], by simp, fun i x M' hx hj => ?_, fun M' hj => ?_⟩
  · subst hj
    have hl := take_flat_len rs hx
    exact ⟨hok _, step x (List.mem_of_getElem? hx) _ _ (by rw [List.length_append]; omega) (.inl (by dsimp only; rw [take_flat rs hx, List.append_assoc]))⟩
  · subst hj
    rw [List.take_of_length_le (Nat.le_refl _)]
    exact ⟨hok _, fin⟩
theorem cm_dict (K : KeyK) (rs : Im → List (Dt × Dt)) (hz : (xs.flatMap rs).length ≤ sizeLine) (hK : ∀ x ∈ xs, ∀ p ∈ rs x, K.b p.1 = true) (hok : ∀ kvs, ok (M0 ++ [.dd kvs]))
    (step : ∀ x ∈ xs, ∀ kvs (N : Sto → Prop), (∀ p ∈ kvs, K.b p.1 = true) → kvs.length + (rs x).length ≤ sizeLine → N (M0 ++ [.dd (putAll kvs (rs x))]) → TurnC V tg q b Γ vs M0.length P x (M0 ++ [.dd kvs]) N)
    (fin : cmEnd own M0 Q (M0 ++ [.dd (putAll [] (xs.flatMap rs))])) : ∃ J : Nat → Sto → Prop, J 0 (M0 ++ [cmNew true]) ∧
      (∀ (i : Nat) x M', xs[i]? = some x → J i M' → ok M' ∧ TurnC V tg q b Γ vs M0.length P x M' (TurnsM (M0.length + 1) (J (i + 1)))) ∧
      (∀ M', J xs.length M' → ok M' ∧ cmEnd own M0 Q M') := by
  refine ⟨fun i M' => M' = M0 ++ [.dd (putAll [] ((xs.take i).flatMap rs))], by simp [cmNew, putAll], fun i x M' hx hj => ?_, fun M' hj => ?_⟩
  · subst hj
    have hl := take_flat_len rs hx
    have hl2 := len_putAll ((xs.take i).flatMap rs) []
    refine ⟨hok _, step x (List.mem_of_getElem? hx) _ _ (fun p hp => ?_) (by rw [List.length_nil] at hl2; omega) (.inl (by dsimp only; rw [take_flat rs hx, putAll_app]))⟩
    rcases mem_putAll hp with ⟨q, h1, h2⟩ | ⟨q, h1, _⟩
    · obtain ⟨y, hy, h3⟩ := List.mem_flatMap.mp h1
      rw [← h2]
      exact hK y (List.mem_of_mem_take hy) q h3
    · cases h1
  · subst hj
    rw [List.take_of_length_le (Nat.le_refl _)]
    exact ⟨hok _, fin⟩
theorem cf_dict {kvs0 : List (Dt × Dt)} {N : Sto → Prop} (K : KeyK) (rs : Im → List (Dt × Dt)) (hz : kvs0.length + (xs.flatMap rs).length ≤ sizeLine) (h0 : ∀ p ∈ kvs0, K.b p.1 = true) (hK : ∀ x ∈ xs, ∀ p ∈ rs x, K.b p.1 = true) (hok : ∀ kvs, ok (M0 ++ [.dd kvs]))
    (step : ∀ x ∈ xs, ∀ kvs (N : Sto → Prop), (∀ p ∈ kvs, K.b p.1 = true) → kvs.length + (rs x).length ≤ sizeLine → N (M0 ++ [.dd (putAll kvs (rs x))]) → TurnC V tg q b Γ vs M0.length P x (M0 ++ [.dd kvs]) N)
    (fin : N (M0 ++ [.dd (putAll kvs0 (xs.flatMap rs))])) : Nat.blt M0.length (M0 ++ [Cel.dd kvs0]).length = true ∧ ∃ J : Nat → Sto → Prop, J 0 (M0 ++ [.dd kvs0]) ∧
      (∀ (i : Nat) x M', xs[i]? = some x → J i M' → ok M' ∧ TurnC V tg q b Γ vs M0.length P x M' (TurnsM (M0 ++ [Cel.dd kvs0]).length (J (i + 1)))) ∧
      (∀ M', J xs.length M' → ok M' ∧ N M') := by
  refine ⟨by rw [Nat.blt_eq]; simp, fun i M' => M' = M0 ++ [.dd (putAll kvs0 ((xs.take i).flatMap rs))], by simp [putAll], fun i x M' hx hj => ?_, fun M' hj => ?_⟩
  · subst hj
    have hl := take_flat_len rs hx
    have hl2 := len_putAll ((xs.take i).flatMap rs) kvs0
    refine ⟨hok _, step x (List.mem_of_getElem? hx) _ _ (fun p hp => ?_) (by omega) (.inl (by dsimp only; rw [take_flat rs hx, putAll_app]))⟩
    rcases mem_putAll hp with ⟨q, h1, h2⟩ | ⟨q, h1, h2⟩
    · obtain ⟨y, hy, h3⟩ := List.mem_flatMap.mp h1
      rw [← h2]
      exact hK y (List.mem_of_mem_take hy) q h3
    · rw [← h2]; exact h0 q h1
  · subst hj
    rw [List.take_of_length_le (Nat.le_refl _)]
    exact ⟨hok _, fin⟩
end
end DX

namespace DX
open PySem PySem.Spec PyProof.Rows L2
local macro_rules | `(tactic| walk_at "w") => `(tactic| conv => whnf)
abbrev cv_BARRED : Dt := .int 37
abbrev cv_MOST_INTEGER : Dt := .int 1000000000000
abbrev cv_MOST_SIGNS : Dt := .int 40
def signC (c : Nat) : Bool := decide ((32 : Int) ≤ (c : Int)) && (decide ((c : Int) ≤ 126) && !decide ((c : Int) = 37))
def valB : Dt → Bool
  | .int i => decide (-1000000000000 ≤ i) && decide (i ≤ 1000000000000)
  | .str s => decide ((s.length : Int) ≤ 40) && s.cps.toList.all signC
  | _ => false
def dataOk (d : Dt) : Prop := notDic d = true ∧ ∀ s, d = .str s → s.length ≤ sizeLine
def S_is_integer : PS := fun ds Q R => match ds with
  | [d] => notDic d = true ∧ Q (.bool (match d with
    | .int _ => true
    | _ => false))
  | _ => False
abbrev sp_is_integer : FnSp := .pure S_is_integer
def S_is_sign : PS := fun ds Q R => match ds with
  | [.str x] => x.length = 1 ∧ Q (.bool (signC (x.cps.getD 0 0)))
  | _ => False
abbrev sp_is_sign : FnSp := .pure S_is_sign
def S_is_value : PS := fun ds Q R => match ds with
  | [d] => dataOk d ∧ Q (.bool (valB d))
  | _ => False
abbrev sp_is_value : FnSp := .pure S_is_value
abbrev sp_law_is_value : FnSp := .pure S_is_value
def S_value_order : PS := fun ds Q R => match ds with
  | [d] => isVal d = true ∧ Q (voD d)
  | _ => False
abbrev sp_value_order : FnSp := .pure S_value_order
abbrev sp_law_order : FnSp := .pure S_value_order
def S_row_order : PS := fun ds Q R => match ds with
  | [.tuple vs] => ((∀ v ∈ vs, isVal v = true) ∧ vs.length ≤ sizeLine) ∧ Q (.list (vs.map voD))
  | _ => False
abbrev sp_row_order : FnSp := .pure S_row_order
abbrev sp_law_row_order : FnSp := .pure S_row_order
-- is_sign: slots 0:sign
def ir_is_sign : DX.N := (.cons (.ret (.and (.chain .le .le (.int 32) (.bf .ord (.cons (.slot 0) .nil)) (.int 126)) (.cmp .ne (.bf .ord (.cons (.slot 0) .nil)) (.glob 0))))
.nil)
def ev_is_sign : Ev := { fs := [], cs := [("BARRED", cv_BARRED)] }
abbrev nm_is_sign : List Str := ["sign"]
abbrev pa_is_sign : List Str := ["sign"]
abbrev bl_is_sign : List Str := ["ord"]
-- is_integer: slots 0:data
def ir_is_integer : DX.N := (.cons (.ret (.and (.bi (.isi "int") false (.cons (.slot 0) .nil)) (.not (.bi (.isi "bool") false (.cons (.slot 0) .nil)))))
.nil)
def ev_is_integer : Ev := { fs := [], cs := [] }
abbrev nm_is_integer : List Str := ["data"]
abbrev pa_is_integer : List Str := ["data"]
abbrev bl_is_integer : List Str := ["isinstance", "bool", "int"]
-- is_value: slots 0:data 1:sign
def ir_is_value : DX.N := (.cons (.ite (.call 0 (.cons (.slot 0) .nil))
(.cons (.ret (.chain .le .le (.neg (.glob 0)) (.slot 0) (.glob 0)))
.nil)
.nil)
(.cons (.ret (.and (.bi (.isi "str") false (.cons (.slot 0) .nil)) (.and (.cmp .le (.bi .len false (.cons (.slot 0) .nil)) (.glob 1)) (.bf .all (.cons (.lcp false (.call 1 (.cons (.slot 1) .nil)) (.tslot 1) (.walk (.slot 0)) .nil [(Str.ofString "sign", 1)]) .nil)))))
.nil))
def ev_is_value : Ev := { fs := [⟨"is_integer", sp_is_integer, []⟩, ⟨"is_sign", sp_is_sign, []⟩], cs := [("MOST_INTEGER", cv_MOST_INTEGER), ("MOST_SIGNS", cv_MOST_SIGNS)] }
abbrev nm_is_value : List Str := ["data", "sign"]
abbrev pa_is_value : List Str := ["data"]
abbrev bl_is_value : List Str := ["all", "len", "isinstance", "str"]
-- _law_is_value: slots 0:data 1:sign
def ir_law_is_value : DX.N := (.cons (.ite (.bi (.isi "bool") false (.cons (.slot 0) .nil))
(.cons (.ret (.bool false))
.nil)
.nil)
(.cons (.ite (.bi (.isi "int") false (.cons (.slot 0) .nil))
(.cons (.ret (.and (.cmp .ge (.slot 0) (.neg (.bin .pow false (.int 10) (.int 12)))) (.cmp .le (.slot 0) (.bin .pow false (.int 10) (.int 12)))))
.nil)
.nil)
(.cons (.ite (.or (.not (.bi (.isi "str") false (.cons (.slot 0) .nil))) (.cmp .gt (.bi .len false (.cons (.slot 0) .nil)) (.int 40)))
(.cons (.ret (.bool false))
.nil)
.nil)
(.cons (.ret (.cmp .eq (.bi .len false (.cons (.lcp false (.slot 1) (.tslot 1) (.walk (.slot 0)) (.or (.cmp .lt (.bf .ord (.cons (.slot 1) .nil)) (.int 32)) (.or (.cmp .gt (.bf .ord (.cons (.slot 1) .nil)) (.int 126)) (.cmp .eq (.bf .ord (.cons (.slot 1) .nil)) (.int 37)))) [(Str.ofString "sign", 1)]) .nil)) (.int 0)))
.nil))))
def ev_law_is_value : Ev := { fs := [], cs := [] }
abbrev nm_law_is_value : List Str := ["data", "sign"]
abbrev pa_law_is_value : List Str := ["data"]
abbrev bl_law_is_value : List Str := ["isinstance", "bool", "int", "len", "str", "ord"]
-- value_order: slots 0:value
def ir_value_order : DX.N := (.cons (.ite (.bi (.isi "int") false (.cons (.slot 0) .nil))
(.cons (.ret (.tup (.cons (.int 0) (.cons (.slot 0) (.cons (.str (Str.ofString "")) .nil)))))
.nil)
.nil)
(.cons (.ret (.tup (.cons (.int 1) (.cons (.int 0) (.cons (.slot 0) .nil)))))
.nil))
def ev_value_order : Ev := { fs := [], cs := [] }
abbrev nm_value_order : List Str := ["value"]
abbrev pa_value_order : List Str := ["value"]
abbrev bl_value_order : List Str := ["isinstance", "int"]
-- row_order: slots 0:row 1:value
def ir_row_order : DX.N := (.cons (.ret (.lcp false (.call 0 (.cons (.slot 1) .nil)) (.tslot 1) (.walk (.slot 0)) .nil [(Str.ofString "value", 1)]))
.nil)
def ev_row_order : Ev := { fs := [⟨"value_order", sp_value_order, []⟩], cs := [] }
abbrev nm_row_order : List Str := ["row", "value"]
abbrev pa_row_order : List Str := ["row"]
abbrev bl_row_order : List Str := []
-- _law_order: slots 0:value
def ir_law_order : DX.N := (.cons (.ite (.bi (.isi "str") false (.cons (.slot 0) .nil))
(.cons (.ret (.tup (.cons (.int 1) (.cons (.int 0) (.cons (.slot 0) .nil)))))
.nil)
.nil)
(.cons (.ret (.tup (.cons (.int 0) (.cons (.slot 0) (.cons (.str (Str.ofString "")) .nil)))))
.nil))
def ev_law_order : Ev := { fs := [], cs := [] }
abbrev nm_law_order : List Str := ["value"]
abbrev pa_law_order : List Str := ["value"]
abbrev bl_law_order : List Str := ["isinstance", "str"]
-- _law_row_order: slots 0:row 1:value
def ir_law_row_order : DX.N := (.cons (.ret (.lcp false (.call 0 (.cons (.slot 1) .nil)) (.tslot 1) (.walk (.slot 0)) .nil [(Str.ofString "value", 1)]))
.nil)
def ev_law_row_order : Ev := { fs := [⟨"_law_order", sp_law_order, []⟩], cs := [] }
abbrev nm_law_row_order : List Str := ["row", "value"]
abbrev pa_law_row_order : List Str := ["row"]
abbrev bl_law_row_order : List Str := []

theorem valB_int (i : Int) : valB (.int i) = (decide (-1000000000000 ≤ i) && decide (i ≤ 1000000000000)) := rfl
theorem valB_str (s : Str) : valB (.str s) = (decide ((s.length : Int) ≤ 40) && s.cps.toList.all signC) := rfl
theorem l_is_integer : lenOf S_is_integer 1 := fun ds Q R h => by
  unfold S_is_integer at h; split at h
  · rfl
  · exact h.elim
theorem b_is_integer : bodyOf S_is_integer ev_is_integer ir_is_integer nm_is_integer := fun ds Q R h => by
  unfold S_is_integer at h; split at h
  · obtain ⟨h1, hq⟩ := h
    rename_i d
    cases d with
    | dict _ => cases h1
    | none => exact ⟨fun e => (by cases e), fun _ => hq⟩
    | bool b => exact ⟨fun _ => hq, fun e => (by cases e)⟩
    | int i => exact ⟨fun _ => hq, fun e => (by cases e)⟩
    | str s => exact ⟨fun e => (by cases e), fun _ => hq⟩
    | list s => exact ⟨fun e => (by cases e), fun _ => hq⟩
    | tuple s => exact ⟨fun e => (by cases e), fun _ => hq⟩
  · exact h.elim
theorem l_is_sign : lenOf S_is_sign 1 := fun ds Q R h => by
  unfold S_is_sign at h; split at h
  · rfl
  · exact h.elim
theorem b_is_sign : bodyOf S_is_sign ev_is_sign ir_is_sign nm_is_sign := fun ds Q R h => by
  unfold S_is_sign at h; split at h
  · obtain ⟨h1, hq⟩ := h
    rename_i x
    unfold signC at hq
    refine ⟨h1, fun e => ⟨fun e2 => ⟨h1, ?_⟩, fun e2 => ?_⟩, fun e => ⟨fun e' => (by cases e'), fun _ => ?_⟩⟩
    · walk_at "w"; rw [e, e2] at hq; exact hq
    · walk_at "w"; rw [e, e2] at hq; exact hq
    · walk_at "w"; rw [e] at hq; exact hq
  · exact h.elim
theorem l_is_value : lenOf S_is_value 1 := fun ds Q R h => by
  unfold S_is_value at h; split at h
  · rfl
  · exact h.elim
theorem trOks_map {α : Type} (f : α → Bool) : ∀ xs : List α, trOks (xs.map fun x => .bool (f x)) = true
  | [] => rfl
  | x :: xs => by show (true && trOks _) = true; rw [trOks_map f xs]; rfl
theorem all_truthy {α : Type} (f : α → Bool) : ∀ xs : List α, (xs.map fun x => PyData.bool (f x)).all PyData.truthy = xs.all f
  | [] => rfl
  | x :: xs => by rw [List.map_cons, List.all_cons, List.all_cons, all_truthy f xs]; rfl
def chD : Im → Nat
  | .d (.str x) => x.cps.getD 0 0
  | _ => 0
def datD : Im → Dt
  | .d x => x
  | _ => .none
theorem fil_zero {α : Type} (p : α → Bool) : ∀ xs : List α, decide (((xs.filter fun x => !p x).length : Int) = 0) = xs.all p
  | [] => rfl
  | x :: xs => by
    rw [List.all_cons, List.filter_cons]
    cases e : p x with
    | true => simpa using fil_zero p xs
    | false =>
      rw [if_pos (by rfl), List.length_cons, Bool.false_and]
      exact decide_eq_false (by omega)
theorem b_is_value : bodyOf S_is_value ev_is_value ir_is_value nm_is_value := fun ds Q R h => by
  unfold S_is_value at h; split at h
  · obtain ⟨⟨h1, h2⟩, hq⟩ := h
    rename_i d
    cases d with
    | dict _ => cases h1
    | none => exact ⟨rfl, fun e => (by cases e), fun _ => ⟨fun e => (by cases e), fun _ => hq⟩⟩
    | bool b => exact ⟨rfl, fun e => (by cases e), fun _ => ⟨fun e => (by cases e), fun _ => hq⟩⟩
    | int i =>
      refine ⟨rfl, fun _ => ⟨fun e => ?_, fun e => ?_⟩, fun e => (by cases e)⟩
      · walk_at "w"; rw [valB_int, e] at hq; exact hq
      · walk_at "w"; rw [valB_int, e] at hq; exact hq
    | str s =>
      have hz := h2 s rfl
      refine ⟨rfl, fun e => (by cases e), fun _ => ⟨fun _ => ⟨hz, fun e => ?_, fun e => ?_⟩, fun e => (by cases e)⟩⟩
      · have hl : (s.cps.toList.map fun c => Im.d (.str ⟨#[c]⟩)).length ≤ sizeLine := by rw [List.length_map]; exact hz
        refine ⟨hl, fun x => .bool (signC (chD x)), fun _ => true, fun x hx acc => ?_, fun _ => trivial, ?_⟩
        · obtain ⟨c, _, rfl⟩ := List.mem_map.mp hx
          exact ⟨rfl, rfl, fun _ => ⟨rfl, rfl, rfl⟩⟩
        · walk_at "w"
          rw [fil_true]
          refine ⟨trOks_map _ _, ?_⟩
          rw [all_truthy]
          rw [valB_str, e] at hq
          have : ((s.cps.toList.map fun c => Im.d (.str ⟨#[c]⟩)).all fun x => signC (chD x)) = s.cps.toList.all signC := by rw [List.all_map]; rfl
          rw [this]
          exact hq
      · walk_at "w"; rw [valB_str, e] at hq; exact hq
    | list s => exact ⟨rfl, fun e => (by cases e), fun _ => ⟨fun e => (by cases e), fun _ => hq⟩⟩
    | tuple s => exact ⟨rfl, fun e => (by cases e), fun _ => ⟨fun e => (by cases e), fun _ => hq⟩⟩
  · exact h.elim
theorem cpow10 : CPow 10 12 := ⟨by decide, by decide, by decide⟩
theorem sg_lt {c : Nat} (e : decide ((c : Int) < 32) = true) : true = !signC c := by
  unfold signC
  have := of_decide_eq_true e
  rw [decide_eq_false (by omega : ¬ ((32 : Int) ≤ (c : Int)))]
  rfl
theorem sg_gt {c : Nat} (e : decide ((126 : Int) < (c : Int)) = true) : true = !signC c := by
  unfold signC
  have := of_decide_eq_true e
  rw [decide_eq_false (by omega : ¬ ((c : Int) ≤ 126)), Bool.false_and, Bool.and_false]
  rfl
theorem sg_eq {c : Nat} (e : decide ((c : Int) < 32) = false) (e2 : decide ((126 : Int) < (c : Int)) = false) : decide ((c : Int) = 37) = !signC c := by
  unfold signC
  have := of_decide_eq_false e
  have := of_decide_eq_false e2
  rw [decide_eq_true (by omega : ((32 : Int) ≤ (c : Int))), decide_eq_true (by omega : ((c : Int) ≤ 126)), Bool.true_and, Bool.true_and, Bool.not_not]
theorem l_law_is_value : lenOf S_is_value 1 := l_is_value
theorem b_law_is_value : bodyOf S_is_value ev_law_is_value ir_law_is_value nm_law_is_value := fun ds Q R h => by
  unfold S_is_value at h; split at h
  · obtain ⟨⟨h1, h2⟩, hq⟩ := h
    rename_i d
    cases d with
    | dict _ => cases h1
    | none => exact ⟨fun e => (by cases e), fun _ => ⟨fun e => (by cases e), fun _ => ⟨fun e => (by cases e), fun _ => ⟨fun _ => hq, fun e => (by cases e)⟩⟩⟩⟩
    | bool b => exact ⟨fun _ => hq, fun e => (by cases e)⟩
    | int i =>
      refine ⟨fun e => (by cases e), fun _ => ⟨fun _ => ⟨cpow10, fun e => ⟨cpow10, ?_⟩, fun e => ?_⟩, fun e => (by cases e)⟩⟩
      · walk_at "w"; rw [valB_int, show decide (-1000000000000 ≤ i) = true from e] at hq; exact hq
      · walk_at "w"; rw [valB_int, show decide (-1000000000000 ≤ i) = false from e] at hq; exact hq
    | str s =>
      have hz := h2 s rfl
      have hl : (s.cps.toList.map fun c => Im.d (.str ⟨#[c]⟩)).length ≤ sizeLine := by rw [List.length_map]; exact hz
      refine ⟨fun e => (by cases e), fun _ => ⟨fun e => (by cases e), fun _ => ⟨fun _ => ⟨hz, fun e => ?_, fun e => ?_⟩, fun e => (by cases e)⟩⟩⟩
      · walk_at "w"
        have e' : decide ((s.length : Int) ≤ 40) = false := by have := of_decide_eq_true e; exact decide_eq_false (by omega)
        rw [valB_str, e'] at hq; exact hq
      · have e' : decide ((s.length : Int) ≤ 40) = true := by have := of_decide_eq_false e; exact decide_eq_true (by omega)
        refine ⟨hl, datD, fun x => !signC (chD x), fun x hx acc => ?_, fun _ => trivial, ?_⟩
        · obtain ⟨c, _, rfl⟩ := List.mem_map.mp hx
          exact ⟨rfl, fun e => ⟨rfl, fun e2 => ⟨rfl, sg_eq e e2, rfl, fun _ => ⟨rfl, rfl⟩⟩, fun e2 => ⟨sg_gt e2, rfl, fun _ => ⟨rfl, rfl⟩⟩⟩, fun e => ⟨sg_lt e, rfl, fun _ => ⟨rfl, rfl⟩⟩⟩
        · walk_at "w"
          rw [List.length_map, fil_zero]
          rw [valB_str, e'] at hq
          have : ((s.cps.toList.map fun c => Im.d (.str ⟨#[c]⟩)).all fun x => signC (chD x)) = s.cps.toList.all signC := by rw [List.all_map]; rfl
          rw [this]
          exact hq
    | list s => exact ⟨fun e => (by cases e), fun _ => ⟨fun e => (by cases e), fun _ => ⟨fun e => (by cases e), fun _ => ⟨fun _ => hq, fun e => (by cases e)⟩⟩⟩⟩
    | tuple s => exact ⟨fun e => (by cases e), fun _ => ⟨fun e => (by cases e), fun _ => ⟨fun e => (by cases e), fun _ => ⟨fun _ => hq, fun e => (by cases e)⟩⟩⟩⟩
  · exact h.elim
theorem lz3 : 3 ≤ sizeLine := by decide
theorem lz2 : 2 ≤ sizeLine := by decide
theorem l_value_order : lenOf S_value_order 1 := fun ds Q R h => by
  unfold S_value_order at h; split at h
  · rfl
  · exact h.elim
theorem l_law_order : lenOf S_value_order 1 := l_value_order
theorem b_value_order : bodyOf S_value_order ev_value_order ir_value_order nm_value_order := fun ds Q R h => by
  unfold S_value_order at h; split at h
  · obtain ⟨h1, hq⟩ := h
    rcases isVal_cases h1 with ⟨i, rfl⟩ | ⟨s, rfl⟩
    · exact ⟨fun _ => ⟨lz3, hq⟩, fun e => (by cases e)⟩
    · exact ⟨fun e => (by cases e), fun _ => ⟨lz3, hq⟩⟩
  · exact h.elim
theorem b_law_order : bodyOf S_value_order ev_law_order ir_law_order nm_law_order := fun ds Q R h => by
  unfold S_value_order at h; split at h
  · obtain ⟨h1, hq⟩ := h
    rcases isVal_cases h1 with ⟨i, rfl⟩ | ⟨s, rfl⟩
    · exact ⟨fun e => (by cases e), fun _ => ⟨lz3, hq⟩⟩
    · exact ⟨fun _ => ⟨lz3, hq⟩, fun e => (by cases e)⟩
  · exact h.elim
theorem l_row_order : lenOf S_row_order 1 := fun ds Q R h => by
  unfold S_row_order at h; split at h
  · rfl
  · exact h.elim
theorem l_law_row_order : lenOf S_row_order 1 := l_row_order
theorem map_vo (vs : List Dt) : ((vs.map Im.d).filter fun _ => true).map (fun x => voD (datD x)) = vs.map voD := by
  rw [fil_true, List.map_map]; rfl
theorem b_row_order : bodyOf S_row_order ev_row_order ir_row_order nm_row_order := fun ds Q R h => by
  unfold S_row_order at h; split at h
  · obtain ⟨⟨h1, h2⟩, hq⟩ := h
    rename_i vs
    refine ⟨by rw [List.length_map]; exact h2, fun x => voD (datD x), fun _ => true, fun x hx acc => ?_, fun _ => trivial, ?_⟩
    · obtain ⟨d, hd, rfl⟩ := List.mem_map.mp hx
      exact ⟨rfl, rfl, fun _ => ⟨h1 d hd, rfl, rfl⟩⟩
    · walk_at "w"
      rw [map_vo]; exact hq
  · exact h.elim
theorem b_law_row_order : bodyOf S_row_order ev_law_row_order ir_law_row_order nm_law_row_order := fun ds Q R h => by
  unfold S_row_order at h; split at h
  · obtain ⟨⟨h1, h2⟩, hq⟩ := h
    rename_i vs
    refine ⟨by rw [List.length_map]; exact h2, fun x => voD (datD x), fun _ => true, fun x hx acc => ?_, fun _ => trivial, ?_⟩
    · obtain ⟨d, hd, rfl⟩ := List.mem_map.mp hx
      exact ⟨rfl, rfl, fun _ => ⟨h1 d hd, rfl, rfl⟩⟩
    · walk_at "w"
      rw [map_vo]; exact hq
  · exact h.elim
theorem lzn {n : Nat} (h : n ≤ 1000000) : n ≤ sizeLine := Nat.le_trans h (by decide)
theorem lzr {n : Nat} (h : Nat.ble n 1000000 = true) : n ≤ sizeLine := lzn (Nat.le_of_ble_eq_true h)
theorem lzl {n : Nat} (h : n < 1000000) : n < sizeLine := Nat.lt_of_lt_of_le h (by decide)
theorem ltr {n : Nat} (h : Nat.blt n 1000000 = true) : n < sizeLine := lzl (Nat.blt_eq.mp h)
theorem at_mod {α : Type} {ds : List α} {m : Int} (n : Int) (h : (ds.length : Int) = m) (h0 : 0 < m) : ∃ x ∈ ds, atD ds (n % m) = some x := by
  have h1 := Int.emod_nonneg n (show m ≠ 0 by omega)
  have h2 := Int.emod_lt_of_pos n h0
  have hi : (n % m).toNat < ds.length := by omega
  refine ⟨ds[(n % m).toNat], List.getElem_mem hi, ?_⟩
  have := atD_nat (v := ds[(n % m).toNat]) (List.getElem?_eq_getElem hi)
  rwa [show (((n % m).toNat : Nat) : Int) = n % m by omega] at this
theorem fo_o (o : Option Im) {a b : Ec} (h : Fo a b) : Fo (none :: a) (o :: b) := h
theorem nat_bd {n : Nat} (h : n ≤ 1000000) : ((n : Int)).natAbs < 2 ^ 200 := by
  have : ((n : Int)).natAbs < 2 ^ 30 := by
    have e : (2 : Nat) ^ 30 = 1073741824 := by decide
    omega
  exact Nat.lt_of_lt_of_le this (pow_le2 (by decide))
theorem num_bd {k : Int} (h0 : 0 ≤ k) (h1 : k < 1000) : k.natAbs < 2 ^ 40 := by
  have e : (2 : Nat) ^ 40 = 1099511627776 := by decide
  omega
theorem cut_from {α : Type} {xs : List α} {i : Int} (h0 : 0 ≤ i) : cutL xs (some i) none = xs.drop i.toNat := by
  have e1 : HT.sIx xs.length 0 (some i) = min i.toNat xs.length := by unfold HT.sIx; dsimp only; rw [if_neg (by omega)]
  have e2 : HT.sIx xs.length xs.length none = xs.length := rfl
  unfold cutL
  rw [e1, e2, List.take_of_length_le (by rw [List.length_drop]; omega)]
  by_cases h : i.toNat ≤ xs.length
  · rw [Nat.min_eq_left h]
  · rw [Nat.min_eq_right (by omega), List.drop_length, List.drop_of_length_le (by omega)]
theorem cut_to {α : Type} {xs : List α} {i : Int} (h0 : 0 ≤ i) : cutL xs none (some i) = xs.take i.toNat := by
  have e1 : HT.sIx xs.length xs.length (some i) = min i.toNat xs.length := by unfold HT.sIx; dsimp only; rw [if_neg (by omega)]
  have e2 : HT.sIx xs.length 0 none = 0 := rfl
  unfold cutL
  rw [e1, e2, List.drop_zero, Nat.sub_zero]
  by_cases h : i.toNat ≤ xs.length
  · rw [Nat.min_eq_left h]
  · rw [Nat.min_eq_right (by omega), List.take_length, List.take_of_length_le (by omega)]
theorem cut_both {α : Type} {xs : List α} {i j : Int} (h0 : 0 ≤ i) (h1 : i ≤ j) : cutL xs (some i) (some j) = (xs.drop i.toNat).take (j.toNat - i.toNat) := by
  have e1 : HT.sIx xs.length 0 (some i) = min i.toNat xs.length := by unfold HT.sIx; dsimp only; rw [if_neg (by omega)]
  have e2 : HT.sIx xs.length xs.length (some j) = min j.toNat xs.length := by unfold HT.sIx; dsimp only; rw [if_neg (by omega)]
  unfold cutL
  rw [e1, e2]
  by_cases h : i.toNat ≤ xs.length
  · rw [Nat.min_eq_left h]
    by_cases h' : j.toNat ≤ xs.length
    · rw [Nat.min_eq_left h']
    · rw [Nat.min_eq_right (by omega), List.take_of_length_le (by rw [List.length_drop]; omega), List.take_of_length_le (by rw [List.length_drop]; omega)]
  · rw [List.drop_of_length_le (show xs.length ≤ i.toNat by omega), List.drop_of_length_le (show xs.length ≤ min i.toNat xs.length by omega)]
    simp
theorem mem_im {xs : List Dt} {i : Nat} {x : Im} (h : (xs.map Im.d)[i]? = some x) : ∃ d, xs[i]? = some d ∧ d ∈ xs ∧ x = .d d := by
  rw [List.getElem?_map] at h
  cases e : xs[i]? with
  | none => rw [e] at h; cases h
  | some d => rw [e] at h; cases h; exact ⟨d, rfl, List.mem_of_getElem? e, rfl⟩
theorem atD_last {α : Type} {xs : List α} {x : α} (h : xs.getLast? = some x) : atD xs (-1) = some x := by
  have hn : xs ≠ [] := fun e => by subst e; cases h
  have hl : 0 < xs.length := List.length_pos_iff.mpr hn
  rw [List.getLast?_eq_getElem?] at h
  unfold atD
  rw [show ixN xs.length (-1) = some (xs.length - 1) by unfold ixN; (first | (rw [if_neg (by omega), if_pos (by omega)]; congr 1; omega) | (split <;> (first | (congr 1; omega) | omega)))]
  exact h
def bx (b : Nat) (n : Int) : Prop := 0 ≤ n ∧ n.natAbs < 2 ^ b
theorem bx_num {b : Nat} {ns : List Int} {k : Int} (h : ∀ x ∈ ns, x.natAbs < 2 ^ b) : bx (b + 64) (numL ns k) := numL_bd h
theorem bx_one {b : Nat} {n : Int} (h : bx b n) : ∀ x ∈ [n], x.natAbs < 2 ^ b := fun x hx => by simp at hx; subst hx; exact h.2
theorem bx_div {b : Nat} {n m : Int} (h : bx b n) (hm : 0 < m) : bx b (n / m) := by
  have h1 : 0 ≤ n / m := Int.ediv_nonneg h.1 (by omega)
  have h2 : n / m ≤ n := Int.ediv_le_self m h.1
  exact ⟨h1, Nat.lt_of_le_of_lt (by omega) h.2⟩
/-- a take from a box -/
theorem take_ok {n m : Int} (h : 0 < m) (h2 : m.natAbs < 1000000) : 0 < m ∧ m.natAbs < 2 ^ 200 := ⟨h, by
  have : m.natAbs < 2 ^ 30 := by
    have e : (2 : Nat) ^ 30 = 1073741824 := by decide
    omega
  exact Nat.lt_of_lt_of_le this (pow_le2 (by decide))⟩
end DX

namespace K13
open PySem PySem.Spec PyProof.Rows L2 DX
def gConst (d : Dt) : Prop := d = .int 0 ∨ d = .int 1 ∨ d = .int 2 ∨ d = .str "a"
def gName (d : Dt) : Prop := d = .str "X" ∨ d = .str "Y" ∨ d = .str "Z" ∨ d = .str "N"
def gTerm (wild : Bool) (d : Dt) : Prop := (∃ n, gName n ∧ d = .tuple [.str "var", n]) ∨ (wild = true ∧ d = .tuple [.str "any"]) ∨ ∃ c, gConst c ∧ d = .tuple [.str "value", c]
def gRel (d : Dt) : Prop := d = .str "p" ∨ d = .str "q" ∨ d = .str "r" ∨ d = .str "d0" ∨ d = .str "d1" ∨ d = .str "d2" ∨ d = .str "d3" ∨ d = .str "d4"
def gAtom (wild : Bool) (d : Dt) : Prop := ∃ r ts, gRel r ∧ d = .tuple [r, .tuple ts] ∧ (ts.length = 1 ∨ ts.length = 2) ∧ ∀ t ∈ ts, gTerm wild t
def gIs (d : Dt) : Prop := ∃ a, gAtom true a ∧ d = .tuple [.str "is", a]
def gLit (d : Dt) : Prop := gIs d ∨ (∃ a, gAtom true a ∧ d = .tuple [.str "not", a]) ∨
  (∃ o x y, (o = .str "=" ∨ o = .str "!=" ∨ o = .str "<" ∨ o = .str "<=") ∧ gTerm false x ∧ gTerm false y ∧ d = .tuple [.str "test", o, x, y]) ∨
  ∃ v o x y, gName v ∧ (o = .str "+" ∨ o = .str "-" ∨ o = .str "*") ∧ gTerm false x ∧ gTerm false y ∧ d = .tuple [.str "let", v, o, x, y]
def gBody (d : Dt) : Prop := ∃ ls, d = .tuple ls ∧ 0 < ls.length ∧ ls.length ≤ 8 ∧ ∀ l ∈ ls, gLit l
def gRule (d : Dt) : Prop := (∃ h b, gAtom false h ∧ gBody b ∧ d = .tuple [.str "rule", h, b]) ∨
  ∃ r ts f ks b, gRel r ∧ ts.length ≤ 2 ∧ (∀ t ∈ ts, gTerm false t) ∧ (f = .str "count" ∨ f = .str "sum" ∨ f = .str "min" ∨ f = .str "max") ∧ 0 < ks.length ∧ ks.length ≤ 2 ∧ (∀ t ∈ ks, gTerm false t) ∧ gBody b ∧
    d = .tuple [.str "fold", .tuple [r, .tuple ts], f, .tuple ks, b]
def rels (xs : List Dt) : Prop := (∀ x ∈ xs, gRel x) ∧ xs.length ≤ 20
def nams (xs : List Dt) : Prop := (∀ x ∈ xs, gName x) ∧ xs.length ≤ 200
def S_law_const : MutS := fun rs cs Q R => match rs, cs with
  | [.p 0], [.dl [.int n]] => ∀ d, gConst d → ∀ m, Q d [.dl [.int m]]
  | _, _ => False
abbrev sp_law_const : FnSp := .gen (genMut S_law_const)
def S_law_term : MutS := fun rs cs Q R => match rs, cs with
  | [.p 0, .d (.list ns), .d (.bool w)], [.dl [.int n]] => nams ns ∧ ∀ d, gTerm w d → ∀ m, Q d [.dl [.int m]]
  | _, _ => False
abbrev sp_law_term : FnSp := .gen (genMut S_law_term)
def S_law_width : PS := fun ds Q R => match ds with
  | [d] => gRel d ∧ ∀ n : Int, n = 1 ∨ n = 2 → Q (.int n)
  | _ => False
abbrev sp_law_width : FnSp := .pure S_law_width
def S_law_atom : MutS := fun rs cs Q R => match rs, cs with
  | [.p 0, .d r, .d (.list ns), .d (.bool w)], [.dl [.int n]] => gRel r ∧ nams ns ∧ ∀ ts, (ts.length = 1 ∨ ts.length = 2) → (∀ t ∈ ts, gTerm w t) → ∀ m, Q (.tuple [r, .tuple ts]) [.dl [.int m]]
  | _, _ => False
abbrev sp_law_atom : FnSp := .gen (genMut S_law_atom)
def S_law_once : PS := fun ds Q R => match ds with
  | [.list xs] => nams xs ∧ ∀ ys, (∀ y ∈ ys, y ∈ xs) → ys.length ≤ xs.length → Q (.list ys)
  | _ => False
abbrev sp_law_once : FnSp := .pure S_law_once
def S_law_names : MutS := fun rs cs Q R => match rs, cs with
  | [.p 0], [.dl body] => ((∀ l ∈ body, gIs l) ∧ body.length ≤ 8) ∧ ∀ ns, (∀ x ∈ ns, gName x) → ns.length ≤ 16 → Q (.list ns) [.dl body]
  | _, _ => False
abbrev sp_law_names : FnSp := .gen (genMut S_law_names)
def S_law_extras : MutS := fun rs cs Q R => match rs, cs with
  | [.p 0, .p 1, .d (.list lower), .d (.bool rc)], [.dl body, .dl [.int n]] => ((∀ l ∈ body, gIs l) ∧ 0 < body.length ∧ body.length ≤ 3) ∧ (rels lower ∧ 0 < lower.length) ∧
      ∀ ls ns body' m, gBody (.tuple ls) → nams ns → Q (.list [.tuple ls, .list ns]) [.dl body', .dl [.int m]]
  | _, _ => False
abbrev sp_law_extras : FnSp := .gen (genMut S_law_extras)
def S_law_body : PS := fun ds Q R => match ds with
  | [.int n, .list lower, .list own] => n.natAbs < 2 ^ 1048700 ∧ (rels lower ∧ 0 < lower.length) ∧ rels own ∧ ∀ ls ns, gBody (.tuple ls) → nams ns → Q (.list [.tuple ls, .list ns])
  | _ => False
abbrev sp_law_body : FnSp := .pure S_law_body
def S_law_rule : PS := fun ds Q R => match ds with
  | [.int n, h, .list lower, .list own] => n.natAbs < 2 ^ 1048700 ∧ gRel h ∧ (rels lower ∧ 0 < lower.length) ∧ rels own ∧ ∀ d, gRule d → Q d
  | _ => False
abbrev sp_law_rule : FnSp := .pure S_law_rule
noncomputable section
def gVal (d : Dt) : Prop := (∃ i : Int, d = .int i ∧ i.natAbs ≤ 1000000000000) ∨ ∃ s : Str, d = .str s ∧ s.length ≤ 1
def bdD (x y z n : Dt) : Dt := .dict [(.str "X", x), (.str "Y", y), (.str "Z", z), (.str "N", n)]
def gBd (d : Dt) : Prop := ∃ x y z n, gVal x ∧ gVal y ∧ gVal z ∧ gVal n ∧ d = bdD x y z n
def bdG (b k : Dt) : Dt := match b with
  | .dict kvs => (dGet kvs k).getD .none
  | _ => .none
def tvD (b : Dt) : Dt → Dt
  | .tuple [k, v] => if isS "value" k then v else bdG b v
  | _ => .none
def rowK (ts : List Dt) (b : Dt) : Dt := .tuple (ts.map (tvD b))
def tms (ts : List Dt) : Prop := (∀ t ∈ ts, gTerm false t) ∧ ts.length ≤ 2
def bds (fs : List Dt) : Prop := (∀ b ∈ fs, gBd b) ∧ fs.length ≤ 30
def rowsP (ts fs : List Dt) : List Dt := fs.foldl (fun ks b => addK ks (rowK ts b)) []
def grpP (g r : Dt) : List (Dt × List Dt) → List (Dt × List Dt)
  | [] => [(g, [r])]
  | (h, rs) :: t => if h = g then (h, addK rs r) :: t else (h, rs) :: grpP g r t
def grps (ts ks fs : List Dt) : List (Dt × List Dt) := fs.foldl (fun gs b => grpP (rowK ts b) (rowK ks b) gs) []
def firD : Dt → Dt
  | .tuple (v :: _) => v
  | _ => .none
def intV : Dt → Int
  | .int i => i
  | _ => 0
def isI : Dt → Bool
  | .int _ => true
  | _ => false
def totL (vs : List Dt) : Int := ((vs.filter isI).map intV).sum
def foldV (kd : Dt) (rows : List Dt) : Dt :=
  if isS "count" kd then .int rows.length
  else if isS "sum" kd then (if -1000000000000 ≤ totL (rows.map firD) ∧ totL (rows.map firD) ≤ 1000000000000 then .int (totL (rows.map firD)) else .none)
  else if isS "min" kd then ((srt voD (rows.map firD)).head?).getD .none
  else ((srt voD (rows.map firD)).getLast?).getD .none
def gKind (f : Dt) : Prop := f = .str "count" ∨ f = .str "sum" ∨ f = .str "min" ∨ f = .str "max"
def gRow (r : Dt) : Prop := ∃ vs, r = .tuple vs ∧ (∀ v ∈ vs, gVal v) ∧ 0 < vs.length ∧ vs.length ≤ 3
def rowsOk (rows : List Dt) : Prop := (∀ r ∈ rows, gRow r) ∧ 0 < rows.length ∧ rows.length ≤ 40
def tupL : Dt → List Dt
  | .tuple vs => vs
  | _ => []
def noneB : Dt → Bool
  | .none => true
  | _ => false
def foldL (f : Dt) (gs : List (Dt × List Dt)) : List Dt := (gs.filter fun p => !noneB (foldV f p.2)).map fun p => .tuple (tupL p.1 ++ [foldV f p.2])
def madeP (rule : Dt) (fs : List Dt) : List Dt := match rule with
  | .tuple [_, .tuple [_, .tuple ts], _] => rowsP ts fs
  | .tuple [_, .tuple [_, .tuple ts], f, .tuple ks, _] => foldL f (grps ts ks fs)
  | _ => []
end
def S_law_ways : PS := fun ds Q R => match ds with
  | [.int n] => n.natAbs < 2 ^ 1048800 ∧ 0 ≤ n ∧ ∀ fs, bds fs → Q (.list fs)
  | _ => False
abbrev sp_law_ways : FnSp := .pure S_law_ways
def S_resolved : PS := fun ds Q R => match ds with
  | [t, b] => gTerm false t ∧ gBd b ∧ Q (tvD b t)
  | _ => False
abbrev sp_resolved : FnSp := .pure S_resolved
abbrev sp_law_value : FnSp := .pure S_resolved
def S_row_of : PS := fun ds Q R => match ds with
  | [.tuple ts, b] => tms ts ∧ gBd b ∧ Q (rowK ts b)
  | _ => False
abbrev sp_row_of : FnSp := .pure S_row_of
def ruleF (r : Dt) (ts : List Dt) (f : Dt) (ks : List Dt) : Prop := ∃ h b, tms ts ∧ gKind f ∧ 0 < ks.length ∧ tms ks ∧ r = .tuple [.str "fold", .tuple [h, .tuple ts], f, .tuple ks, b]
def ruleP (r : Dt) (ts : List Dt) : Prop := ∃ h b, tms ts ∧ r = .tuple [.str "rule", .tuple [h, .tuple ts], b]
def grpD (gs : List (Dt × List Dt)) : Dt := .dict (gs.map fun p => (p.1, .list p.2))
def S_groups_of : PS := fun ds Q R => match ds with
  | [r, .list fs] => ∃ ts f ks, ruleF r ts f ks ∧ bds fs ∧ Q (grpD ((grps ts ks fs).map fun p => (p.1, srt roD p.2)))
  | _ => False
abbrev sp_groups_of : FnSp := .pure S_groups_of
def S_folded : PS := fun ds Q R => match ds with
  | [kd, .list rows] => gKind kd ∧ rowsOk rows ∧ Q (foldV kd rows)
  | _ => False
abbrev sp_folded : FnSp := .pure S_folded
abbrev sp_law_fold : FnSp := .pure S_folded
def gR (r : Dt) : Prop := (∃ ts, ruleP r ts) ∨ ∃ ts f ks, ruleF r ts f ks
def S_rows_made : PS := fun ds Q R => match ds with
  | [r, .list fs] => gR r ∧ bds fs ∧ Q (.list (madeP r fs))
  | _ => False
abbrev sp_rows_made : FnSp := .pure S_rows_made
def S_law_rows : PS := fun ds Q R => match ds with
  | [r, .list fs] => gR r ∧ bds fs ∧ Q (.dict ((madeP r fs).map fun x => (x, .bool true)))
  | _ => False
abbrev sp_law_rows : FnSp := .pure S_law_rows
def S_law : PS := fun ds Q R => ∃ ns : List Int, ds = [.list (dI ns)] ∧ ns.length ≤ 63 ∧ (∀ x ∈ ns, x.natAbs < 2 ^ 1048576) ∧ Q (.bool true)
end K13

namespace K13
open PySem PySem.Spec PyProof.Rows L2 DX
abbrev cv_BARRED : Dt := .int 37
abbrev cv_MOST_INTEGER : Dt := .int 1000000000000
abbrev cv_MOST_SIGNS : Dt := .int 40
def xsL : List Xc := []
-- _law_const: slots 0:box
def ir_law_const : DX.N := (.cons (.ret (.ix (.lst false (.cons (.int 0) (.cons (.int 1) (.cons (.int 2) (.cons (.str (Str.ofString "a")) .nil))))) (.call 0 (.cons (.slot 0) (.cons (.int 4) .nil)))))
.nil)
def ev_law_const : Ev := { fs := [⟨"_law_take", sp_law_take, []⟩], cs := [] }
abbrev nm_law_const : List Str := ["box"]
abbrev pa_law_const : List Str := ["box"]
abbrev bl_law_const : List Str := []
-- _law_term: slots 0:box 1:names 2:wild 3:kind
def ir_law_term : DX.N := (.cons (.set 3 (.call 0 (.cons (.slot 0) (.cons (.int 16) .nil))))
(.cons (.ite (.and (.cmp .lt (.slot 3) (.int 14)) (.cmp .gt (.bi .len false (.cons (.slot 1) .nil)) (.int 0)))
(.cons (.ret (.tup (.cons (.str (Str.ofString "var")) (.cons (.ix (.slot 1) (.call 0 (.cons (.slot 0) (.cons (.bi .len false (.cons (.slot 1) .nil)) .nil)))) .nil))))
.nil)
.nil)
(.cons (.ite (.and (.cmp .eq (.slot 3) (.int 14)) (.slot 2))
(.cons (.ret (.tup (.cons (.str (Str.ofString "any")) .nil)))
.nil)
.nil)
(.cons (.ret (.tup (.cons (.str (Str.ofString "value")) (.cons (.call 1 (.cons (.slot 0) .nil)) .nil))))
.nil))))
def ev_law_term : Ev := { fs := [⟨"_law_take", sp_law_take, []⟩, ⟨"_law_const", sp_law_const, []⟩], cs := [] }
abbrev nm_law_term : List Str := ["box", "names", "wild", "kind"]
abbrev pa_law_term : List Str := ["box", "names", "wild"]
abbrev bl_law_term : List Str := ["len"]
-- _law_width: slots 0:name
def ir_law_width : DX.N := (.cons (.ret (.ix (.lst false (.cons (.int 2) (.cons (.int 1) .nil))) (.bi .int false (.cons (.cmp .isIn (.slot 0) (.lst false (.cons (.str (Str.ofString "q")) (.cons (.str (Str.ofString "d0")) (.cons (.str (Str.ofString "d3")) .nil))))) .nil))))
.nil)
def ev_law_width : Ev := { fs := [], cs := [] }
abbrev nm_law_width : List Str := ["name"]
abbrev pa_law_width : List Str := ["name"]
abbrev bl_law_width : List Str := ["int"]
-- _law_atom: slots 0:box 1:name 2:names 3:wild 4:k
def ir_law_atom : DX.N := (.cons (.ret (.tup (.cons (.slot 1) (.cons (.bi .tuple false (.cons (.lc false (.call 0 (.cons (.slot 0) (.cons (.slot 2) (.cons (.slot 3) .nil)))) (.tslot 4) (.range (.call 1 (.cons (.slot 1) .nil))) .nil [(Str.ofString "k", 4)]) .nil)) .nil))))
.nil)
def ev_law_atom : Ev := { fs := [⟨"_law_term", sp_law_term, []⟩, ⟨"_law_width", sp_law_width, []⟩], cs := [] }
abbrev nm_law_atom : List Str := ["box", "name", "names", "wild", "k"]
abbrev pa_law_atom : List Str := ["box", "name", "names", "wild"]
abbrev bl_law_atom : List Str := ["tuple", "range"]
-- _law_once: slots 0:items 1:found 2:item
def ir_law_once : DX.N := (.cons (.set 1 (.lst true .nil))
(.cons (.for_ (.tslot 2) (.walk (.slot 0))
(.cons (.ite (.cmp .notIn (.slot 2) (.slot 1))
(.cons (.expr (.app (.slot 1) (.slot 2)))
.nil)
.nil)
.nil))
(.cons (.ret (.slot 1))
.nil)))
def ev_law_once : Ev := { fs := [], cs := [] }
abbrev nm_law_once : List Str := ["items", "found", "item"]
abbrev pa_law_once : List Str := ["items"]
abbrev bl_law_once : List Str := []
-- _law_names: slots 0:body 1:found 2:literal 3:term
def ir_law_names : DX.N := (.cons (.set 1 (.lst false .nil))
(.cons (.for_ (.tslot 2) (.walk (.slot 0))
(.cons (.ite (.cmp .eq (.ix (.slot 2) (.int 0)) (.str (Str.ofString "is")))
(.cons (.set 1 (.bin .add false (.slot 1) (.lcp false (.ix (.slot 3) (.int 1)) (.tslot 3) (.walk (.ix (.ix (.slot 2) (.int 1)) (.int 1))) (.and (.cmp .eq (.ix (.slot 3) (.int 0)) (.str (Str.ofString "var"))) (.cmp .notIn (.ix (.slot 3) (.int 1)) (.slot 1))) [(Str.ofString "term", 3)])))
.nil)
.nil)
.nil))
(.cons (.ret (.sort false (.call 0 (.cons (.slot 1) .nil))))
.nil)))
def ev_law_names : Ev := { fs := [⟨"_law_once", sp_law_once, []⟩], cs := [] }
abbrev nm_law_names : List Str := ["body", "found", "literal", "term"]
abbrev pa_law_names : List Str := ["body"]
abbrev bl_law_names : List Str := ["sorted"]
-- _law_extras: slots 0:body 1:box 2:lower 3:recursive 4:names 5:kind 6:sign 7:target 8:spot
def ir_law_extras : DX.N := (.cons (.set 4 (.call 0 (.cons (.slot 0) .nil)))
(.cons (.set 5 (.call 1 (.cons (.slot 1) (.cons (.int 8) .nil))))
(.cons (.join (.ite (.cmp .lt (.slot 5) (.int 2))
(.cons (.expr (.app (.slot 0) (.tup (.cons (.str (Str.ofString "not")) (.cons (.call 2 (.cons (.slot 1) (.cons (.ix (.slot 2) (.call 1 (.cons (.slot 1) (.cons (.bi .len false (.cons (.slot 2) .nil)) .nil)))) (.cons (.slot 4) (.cons (.bool true) .nil))))) .nil)))))
.nil)
.nil))
(.cons (.join (.ite (.or (.cmp .eq (.slot 5) (.int 2)) (.cmp .eq (.slot 5) (.int 3)))
(.cons (.set 6 (.ix (.lst false (.cons (.str (Str.ofString "=")) (.cons (.str (Str.ofString "!=")) (.cons (.str (Str.ofString "<")) (.cons (.str (Str.ofString "<=")) .nil))))) (.call 1 (.cons (.slot 1) (.cons (.int 4) .nil)))))
(.cons (.expr (.app (.slot 0) (.tup (.cons (.str (Str.ofString "test")) (.cons (.slot 6) (.cons (.call 3 (.cons (.slot 1) (.cons (.slot 4) (.cons (.bool false) .nil)))) (.cons (.call 3 (.cons (.slot 1) (.cons (.slot 4) (.cons (.bool false) .nil)))) .nil)))))))
.nil))
.nil))
(.cons (.join (.ite (.and (.not (.slot 3)) (.cmp .eq (.slot 5) (.int 4)))
(.cons (.set 6 (.ix (.lst false (.cons (.str (Str.ofString "+")) (.cons (.str (Str.ofString "-")) (.cons (.str (Str.ofString "*")) .nil)))) (.call 1 (.cons (.slot 1) (.cons (.int 3) .nil)))))
(.cons (.set 7 (.ix (.lst false (.cons (.str (Str.ofString "N")) (.cons (.str (Str.ofString "N")) (.cons (.str (Str.ofString "X")) .nil)))) (.call 1 (.cons (.slot 1) (.cons (.int 3) .nil)))))
(.cons (.expr (.app (.slot 0) (.tup (.cons (.str (Str.ofString "let")) (.cons (.slot 7) (.cons (.slot 6) (.cons (.call 3 (.cons (.slot 1) (.cons (.slot 4) (.cons (.bool false) .nil)))) (.cons (.call 3 (.cons (.slot 1) (.cons (.slot 4) (.cons (.bool false) .nil)))) .nil))))))))
(.cons (.set 4 (.sort false (.call 4 (.cons (.bin .add false (.slot 4) (.lst false (.cons (.slot 7) .nil))) .nil))))
.nil))))
.nil))
(.cons (.set 8 (.call 1 (.cons (.slot 1) (.cons (.bi .len false (.cons (.slot 0) .nil)) .nil))))
(.cons (.ret (.lst false (.cons (.bi .tuple false (.cons (.bin .add false (.slc false (.slot 0) (.slot 8) .nil) (.slc false (.slot 0) .nil (.slot 8))) .nil)) (.cons (.slot 4) .nil))))
.nil)))))))
def ev_law_extras : Ev := { fs := [⟨"_law_names", sp_law_names, []⟩, ⟨"_law_take", sp_law_take, []⟩, ⟨"_law_atom", sp_law_atom, []⟩, ⟨"_law_term", sp_law_term, []⟩, ⟨"_law_once", sp_law_once, []⟩], cs := [] }
abbrev nm_law_extras : List Str := ["body", "box", "lower", "recursive", "names", "kind", "sign", "target", "spot"]
abbrev pa_law_extras : List Str := ["body", "box", "lower", "recursive"]
abbrev bl_law_extras : List Str := ["len", "sorted", "tuple"]
-- _law_body: slots 0:number 1:lower 2:own 3:box 4:body 5:choice 6:k 7:recursive 8:literal
def ir_law_body : DX.N := (.cons (.set 3 (.lst true (.cons (.slot 0) .nil)))
(.cons (.set 4 (.lst true .nil))
(.cons (.set 5 (.bin .add false (.bin .add false (.slot 1) (.slot 2)) (.slot 2)))
(.cons (.for_ (.tslot 6) (.range (.bin .add false (.int 1) (.call 0 (.cons (.slot 3) (.cons (.int 2) .nil)))))
(.cons (.expr (.app (.slot 4) (.tup (.cons (.str (Str.ofString "is")) (.cons (.call 1 (.cons (.slot 3) (.cons (.ix (.slot 5) (.call 0 (.cons (.slot 3) (.cons (.bi .len false (.cons (.slot 5) .nil)) .nil)))) (.cons (.lst false (.cons (.str (Str.ofString "X")) (.cons (.str (Str.ofString "Y")) (.cons (.str (Str.ofString "Z")) .nil)))) (.cons (.bool true) .nil))))) .nil)))))
.nil))
(.cons (.join (.ite (.cmp .eq (.call 0 (.cons (.slot 3) (.cons (.int 5) .nil))) (.int 0))
(.cons (.expr (.app (.slot 4) (.tup (.cons (.str (Str.ofString "is")) (.cons (.call 1 (.cons (.slot 3) (.cons (.str (Str.ofString "q")) (.cons (.lst false (.cons (.str (Str.ofString "X")) (.cons (.str (Str.ofString "Z")) .nil))) (.cons (.bool false) .nil))))) .nil)))))
.nil)
.nil))
(.cons (.set 7 (.cmp .gt (.bi .len false (.cons (.lcp false (.slot 8) (.tslot 8) (.walk (.slot 4)) (.cmp .isIn (.ix (.ix (.slot 8) (.int 1)) (.int 0)) (.slot 2)) [(Str.ofString "literal", 8)]) .nil)) (.int 0)))
(.cons (.ret (.call 2 (.cons (.slot 4) (.cons (.lst true (.cons (.call 3 (.cons (.lst false (.cons (.slot 0) .nil)) (.cons (.int 8) .nil))) .nil)) (.cons (.slot 1) (.cons (.slot 7) .nil))))))
.nil)))))))
def ev_law_body : Ev := { fs := [⟨"_law_take", sp_law_take, []⟩, ⟨"_law_atom", sp_law_atom, []⟩, ⟨"_law_extras", sp_law_extras, []⟩, ⟨"_law_number", sp_law_number, []⟩], cs := [] }
abbrev nm_law_body : List Str := ["number", "lower", "own", "box", "body", "choice", "k", "recursive", "literal"]
abbrev pa_law_body : List Str := ["number", "lower", "own"]
abbrev bl_law_body : List Str := ["range", "len"]
-- _law_rule: slots 0:number 1:head 2:lower 3:own 4:box 5:kind 6:body 7:names 8:terms 9:keys 10:k
def ir_law_rule : DX.N := (.cons (.set 4 (.lst true (.cons (.call 0 (.cons (.lst false (.cons (.slot 0) .nil)) (.cons (.int 7) .nil))) .nil)))
(.cons (.set 5 (.call 1 (.cons (.slot 4) (.cons (.int 5) .nil))))
(.cons (.join (.ite (.cmp .eq (.slot 5) (.int 0))
(.cons (.set 3 (.lst false .nil))
.nil)
.nil))
(.cons (.asg (.tlst 2 (.cons (.tslot 6) (.cons (.tslot 7) .nil))) (.call 2 (.cons (.slot 0) (.cons (.slot 2) (.cons (.slot 3) .nil)))))
(.cons (.set 8 (.bi .tuple false (.cons (.lc false (.call 3 (.cons (.slot 4) (.cons (.slot 7) (.cons (.bool false) .nil)))) (.tslot 10) (.range (.call 4 (.cons (.slot 1) .nil))) .nil [(Str.ofString "k", 10)]) .nil)))
(.cons (.ite (.cmp .gt (.slot 5) (.int 0))
(.cons (.ret (.tup (.cons (.str (Str.ofString "rule")) (.cons (.tup (.cons (.slot 1) (.cons (.slot 8) .nil))) (.cons (.slot 6) .nil)))))
.nil)
.nil)
(.cons (.set 9 (.bi .tuple false (.cons (.lc false (.call 3 (.cons (.slot 4) (.cons (.slot 7) (.cons (.bool false) .nil)))) (.tslot 10) (.range (.bin .add false (.int 1) (.call 1 (.cons (.slot 4) (.cons (.int 2) .nil))))) .nil [(Str.ofString "k", 10)]) .nil)))
(.cons (.ret (.tup (.cons (.str (Str.ofString "fold")) (.cons (.tup (.cons (.slot 1) (.cons (.slc false (.slot 8) (.int 1) .nil) .nil))) (.cons (.ix (.lst false (.cons (.str (Str.ofString "count")) (.cons (.str (Str.ofString "sum")) (.cons (.str (Str.ofString "min")) (.cons (.str (Str.ofString "max")) .nil))))) (.call 1 (.cons (.slot 4) (.cons (.int 4) .nil)))) (.cons (.slot 9) (.cons (.slot 6) .nil)))))))
.nil))))))))
def ev_law_rule : Ev := { fs := [⟨"_law_number", sp_law_number, []⟩, ⟨"_law_take", sp_law_take, []⟩, ⟨"_law_body", sp_law_body, []⟩, ⟨"_law_term", sp_law_term, []⟩, ⟨"_law_width", sp_law_width, []⟩], cs := [] }
abbrev nm_law_rule : List Str := ["number", "head", "lower", "own", "box", "kind", "body", "names", "terms", "keys", "k"]
abbrev pa_law_rule : List Str := ["number", "head", "lower", "own"]
abbrev bl_law_rule : List Str := ["tuple", "range"]
-- _law_ways: slots 0:number 1:found 2:k 3:box 4:bound 5:name
def ir_law_ways : DX.N := (.cons (.set 1 (.lst true .nil))
(.cons (.for_ (.tslot 2) (.range (.call 0 (.cons (.lst true (.cons (.slot 0) .nil)) (.cons (.int 15) .nil))))
(.cons (.set 3 (.lst true (.cons (.call 1 (.cons (.lst false (.cons (.slot 0) .nil)) (.cons (.bin .add false (.int 10) (.slot 2)) .nil))) .nil)))
(.cons (.set 4 .dnew)
(.cons (.for_ (.tslot 5) (.walk (.lst false (.cons (.str (Str.ofString "X")) (.cons (.str (Str.ofString "Y")) (.cons (.str (Str.ofString "Z")) (.cons (.str (Str.ofString "N")) .nil))))))
(.cons (.asg (.tix (.slot 4) (.slot 5)) (.ix (.lst false (.cons (.int 0) (.cons (.int 1) (.cons (.int 2) (.cons (.str (Str.ofString "a")) (.cons (.bin .pow false (.int 10) (.int 12)) (.cons (.neg (.bin .pow false (.int 10) (.int 12))) .nil))))))) (.call 0 (.cons (.slot 3) (.cons (.int 6) .nil)))))
.nil))
(.cons .fzl
(.cons (.expr (.app (.slot 1) (.slot 4)))
(.cons (.ite (.cmp .eq (.call 0 (.cons (.slot 3) (.cons (.int 3) .nil))) (.int 0))
(.cons (.expr (.app (.slot 1) (.dcp false (.slot 4))))
.nil)
.nil)
.nil)))))))
(.cons (.ret (.slot 1))
.nil)))
def ev_law_ways : Ev := { fs := [⟨"_law_take", sp_law_take, []⟩, ⟨"_law_number", sp_law_number, []⟩], cs := [] }
abbrev nm_law_ways : List Str := ["number", "found", "k", "box", "bound", "name"]
abbrev pa_law_ways : List Str := ["number"]
abbrev bl_law_ways : List Str := ["range", "dict"]
-- resolved: slots 0:term 1:bound
def ir_resolved : DX.N := (.cons (.ite (.cmp .eq (.ix (.slot 0) (.int 0)) (.str (Str.ofString "value")))
(.cons (.ret (.ix (.slot 0) (.int 1)))
.nil)
.nil)
(.cons (.ite (.cmp .eq (.ix (.slot 0) (.int 0)) (.str (Str.ofString "var")))
(.cons (.ret (.dget (.slot 1) (.ix (.slot 0) (.int 1))))
.nil)
.nil)
(.cons (.ret .non)
.nil)))
def ev_resolved : Ev := { fs := [], cs := [] }
abbrev nm_resolved : List Str := ["term", "bound"]
abbrev pa_resolved : List Str := ["term", "bound"]
abbrev bl_resolved : List Str := []
-- row_of: slots 0:terms 1:bound 2:term
def ir_row_of : DX.N := (.cons (.ret (.bi .tuple false (.cons (.lcp false (.call 0 (.cons (.slot 2) (.cons (.slot 1) .nil))) (.tslot 2) (.walk (.slot 0)) .nil [(Str.ofString "term", 2)]) .nil)))
.nil)
def ev_row_of : Ev := { fs := [⟨"resolved", sp_resolved, []⟩], cs := [] }
abbrev nm_row_of : List Str := ["terms", "bound", "term"]
abbrev pa_row_of : List Str := ["terms", "bound"]
abbrev bl_row_of : List Str := ["tuple"]
-- value_order: slots 0:value
def ir_value_order : DX.N := (.cons (.ite (.bi (.isi "int") false (.cons (.slot 0) .nil))
(.cons (.ret (.tup (.cons (.int 0) (.cons (.slot 0) (.cons (.str (Str.ofString "")) .nil)))))
.nil)
.nil)
(.cons (.ret (.tup (.cons (.int 1) (.cons (.int 0) (.cons (.slot 0) .nil)))))
.nil))
def ev_value_order : Ev := { fs := [], cs := [] }
abbrev nm_value_order : List Str := ["value"]
abbrev pa_value_order : List Str := ["value"]
abbrev bl_value_order : List Str := ["isinstance", "int"]
-- row_order: slots 0:row 1:value
def ir_row_order : DX.N := (.cons (.ret (.lcp false (.call 0 (.cons (.slot 1) .nil)) (.tslot 1) (.walk (.slot 0)) .nil [(Str.ofString "value", 1)]))
.nil)
def ev_row_order : Ev := { fs := [⟨"value_order", sp_value_order, []⟩], cs := [] }
abbrev nm_row_order : List Str := ["row", "value"]
abbrev pa_row_order : List Str := ["row"]
abbrev bl_row_order : List Str := []
-- groups_of: slots 0:rule 1:found 2:groups 3:bound 4:group 5:rows
def ir_groups_of : DX.N := (.cons (.set 2 .dnew)
(.cons (.for_ (.tslot 3) (.walk (.slot 1))
(.cons (.set 4 (.dsetd (.slot 2) (.call 0 (.cons (.ix (.ix (.slot 0) (.int 1)) (.int 1)) (.cons (.slot 3) .nil))) .dnew))
(.cons (.asg (.tix (.slot 4) (.call 0 (.cons (.ix (.slot 0) (.int 3)) (.cons (.slot 3) .nil)))) (.bool true))
.nil)))
(.cons .fzl
(.cons (.ret (.cm false true (.ttup 2 (.cons (.tslot 4) (.cons (.tslot 5) .nil))) (.items (.slot 2)) .nil (.yd (.slot 4) (.sortk false 1 (.slot 5))) [(Str.ofString "group", 4), (Str.ofString "rows", 5)]))
.nil))))
def ev_groups_of : Ev := { fs := [⟨"row_of", sp_row_of, []⟩, ⟨"row_order", sp_row_order, []⟩], cs := [] }
abbrev nm_groups_of : List Str := ["rule", "found", "groups", "bound", "group", "rows"]
abbrev pa_groups_of : List Str := ["rule", "found"]
abbrev bl_groups_of : List Str := ["sorted"]
-- is_integer: slots 0:data
def ir_is_integer : DX.N := (.cons (.ret (.and (.bi (.isi "int") false (.cons (.slot 0) .nil)) (.not (.bi (.isi "bool") false (.cons (.slot 0) .nil)))))
.nil)
def ev_is_integer : Ev := { fs := [], cs := [] }
abbrev nm_is_integer : List Str := ["data"]
abbrev pa_is_integer : List Str := ["data"]
abbrev bl_is_integer : List Str := ["isinstance", "bool", "int"]
-- is_sign: slots 0:sign
def ir_is_sign : DX.N := (.cons (.ret (.and (.chain .le .le (.int 32) (.bf .ord (.cons (.slot 0) .nil)) (.int 126)) (.cmp .ne (.bf .ord (.cons (.slot 0) .nil)) (.glob 0))))
.nil)
def ev_is_sign : Ev := { fs := [], cs := [("BARRED", cv_BARRED)] }
abbrev nm_is_sign : List Str := ["sign"]
abbrev pa_is_sign : List Str := ["sign"]
abbrev bl_is_sign : List Str := ["ord"]
-- is_value: slots 0:data 1:sign
def ir_is_value : DX.N := (.cons (.ite (.call 0 (.cons (.slot 0) .nil))
(.cons (.ret (.chain .le .le (.neg (.glob 0)) (.slot 0) (.glob 0)))
.nil)
.nil)
(.cons (.ret (.and (.bi (.isi "str") false (.cons (.slot 0) .nil)) (.and (.cmp .le (.bi .len false (.cons (.slot 0) .nil)) (.glob 1)) (.bf .all (.cons (.lcp false (.call 1 (.cons (.slot 1) .nil)) (.tslot 1) (.walk (.slot 0)) .nil [(Str.ofString "sign", 1)]) .nil)))))
.nil))
def ev_is_value : Ev := { fs := [⟨"is_integer", sp_is_integer, []⟩, ⟨"is_sign", sp_is_sign, []⟩], cs := [("MOST_INTEGER", cv_MOST_INTEGER), ("MOST_SIGNS", cv_MOST_SIGNS)] }
abbrev nm_is_value : List Str := ["data", "sign"]
abbrev pa_is_value : List Str := ["data"]
abbrev bl_is_value : List Str := ["all", "len", "isinstance", "str"]
-- folded: slots 0:kind 1:rows 2:firsts 3:total 4:row 5:value
def ir_folded : DX.N := (.cons (.ite (.cmp .eq (.slot 0) (.str (Str.ofString "count")))
(.cons (.ret (.bi .len false (.cons (.slot 1) .nil)))
.nil)
.nil)
(.cons (.set 2 (.lcp false (.ix (.slot 4) (.int 0)) (.tslot 4) (.walk (.slot 1)) .nil [(Str.ofString "row", 4)]))
(.cons (.ite (.cmp .eq (.slot 0) (.str (Str.ofString "sum")))
(.cons (.set 3 (.bf .sum (.cons (.lcp false (.slot 5) (.tslot 5) (.walk (.slot 2)) (.bi (.isi "int") false (.cons (.slot 5) .nil)) [(Str.ofString "value", 5)]) .nil)))
(.cons (.ret (.ife (.call 0 (.cons (.slot 3) .nil)) (.slot 3) .non))
.nil))
.nil)
(.cons (.ite (.cmp .eq (.slot 0) (.str (Str.ofString "min")))
(.cons (.ret (.mink false 1 (.slot 2)))
.nil)
.nil)
(.cons (.ret (.mink true 1 (.slot 2)))
.nil)))))
def ev_folded : Ev := { fs := [⟨"is_value", sp_is_value, []⟩, ⟨"value_order", sp_value_order, []⟩], cs := [] }
abbrev nm_folded : List Str := ["kind", "rows", "firsts", "total", "row", "value"]
abbrev pa_folded : List Str := ["kind", "rows"]
abbrev bl_folded : List Str := ["len", "sum", "isinstance", "int", "min", "max"]
-- rows_made: slots 0:rule 1:found 2:made 3:group 4:rows 5:value 6:bound
def ir_rows_made : DX.N := (.cons (.ite (.cmp .eq (.ix (.slot 0) (.int 0)) (.str (Str.ofString "rule")))
(.cons (.ret (.bi .list false (.cons (.cm false true (.tslot 6) (.walk (.slot 1)) .nil (.yd (.call 0 (.cons (.ix (.ix (.slot 0) (.int 1)) (.int 1)) (.cons (.slot 6) .nil))) (.bool true)) [(Str.ofString "bound", 6)]) .nil)))
.nil)
.nil)
(.cons (.set 2 (.lst true .nil))
(.cons (.for_ (.ttup 2 (.cons (.tslot 3) (.cons (.tslot 4) .nil))) (.items (.call 1 (.cons (.slot 0) (.cons (.slot 1) .nil))))
(.cons (.set 5 (.call 2 (.cons (.ix (.slot 0) (.int 2)) (.cons (.slot 4) .nil))))
(.cons (.ite (.isNN (.slot 5))
(.cons (.expr (.app (.slot 2) (.bin .add false (.slot 3) (.tup (.cons (.slot 5) .nil)))))
.nil)
.nil)
.nil)))
(.cons (.ret (.slot 2))
.nil))))
def ev_rows_made : Ev := { fs := [⟨"row_of", sp_row_of, []⟩, ⟨"groups_of", sp_groups_of, []⟩, ⟨"folded", sp_folded, []⟩], cs := [] }
abbrev nm_rows_made : List Str := ["rule", "found", "made", "group", "rows", "value", "bound"]
abbrev pa_rows_made : List Str := ["rule", "found"]
abbrev bl_rows_made : List Str := ["list"]
-- _law_value: slots 0:term 1:bound
def ir_law_value : DX.N := (.cons (.ite (.cmp .eq (.ix (.slot 0) (.int 0)) (.str (Str.ofString "value")))
(.cons (.ret (.ix (.slot 0) (.int 1)))
.nil)
.nil)
(.cons (.ret (.dget (.slot 1) (.ix (.slot 0) (.int 1))))
.nil))
def ev_law_value : Ev := { fs := [], cs := [] }
abbrev nm_law_value : List Str := ["term", "bound"]
abbrev pa_law_value : List Str := ["term", "bound"]
abbrev bl_law_value : List Str := []
-- _law_order: slots 0:value
def ir_law_order : DX.N := (.cons (.ite (.bi (.isi "str") false (.cons (.slot 0) .nil))
(.cons (.ret (.tup (.cons (.int 1) (.cons (.int 0) (.cons (.slot 0) .nil)))))
.nil)
.nil)
(.cons (.ret (.tup (.cons (.int 0) (.cons (.slot 0) (.cons (.str (Str.ofString "")) .nil)))))
.nil))
def ev_law_order : Ev := { fs := [], cs := [] }
abbrev nm_law_order : List Str := ["value"]
abbrev pa_law_order : List Str := ["value"]
abbrev bl_law_order : List Str := ["isinstance", "str"]
-- _law_fold: slots 0:kind 1:rows 2:firsts 3:total 4:row 5:value
def ir_law_fold : DX.N := (.cons (.set 2 (.lcp false (.ix (.slot 4) (.int 0)) (.tslot 4) (.walk (.slot 1)) .nil [(Str.ofString "row", 4)]))
(.cons (.ite (.cmp .eq (.slot 0) (.str (Str.ofString "count")))
(.cons (.ret (.bi .len false (.cons (.slot 2) .nil)))
.nil)
.nil)
(.cons (.ite (.cmp .eq (.slot 0) (.str (Str.ofString "sum")))
(.cons (.set 3 (.bf .sum (.cons (.lcp false (.slot 5) (.tslot 5) (.walk (.slot 2)) (.not (.bi (.isi "str") false (.cons (.slot 5) .nil))) [(Str.ofString "value", 5)]) .nil)))
(.cons (.ret (.ix (.lst false (.cons .non (.cons (.slot 3) .nil))) (.bi .int false (.cons (.and (.cmp .le (.slot 3) (.bin .pow false (.int 10) (.int 12))) (.cmp .ge (.slot 3) (.neg (.bin .pow false (.int 10) (.int 12))))) .nil))))
.nil))
.nil)
(.cons (.set 2 (.sortk false 0 (.slot 2)))
(.cons (.ret (.ix (.lst false (.cons (.ix (.slot 2) (.int 0)) (.cons (.ix (.slot 2) (.neg (.int 1))) .nil))) (.bi .int false (.cons (.cmp .eq (.slot 0) (.str (Str.ofString "max"))) .nil))))
.nil)))))
def ev_law_fold : Ev := { fs := [⟨"_law_order", sp_law_order, []⟩], cs := [] }
abbrev nm_law_fold : List Str := ["kind", "rows", "firsts", "total", "row", "value"]
abbrev pa_law_fold : List Str := ["kind", "rows"]
abbrev bl_law_fold : List Str := ["len", "sum", "isinstance", "str", "int", "sorted"]
-- _law_rows: slots 0:rule 1:found 2:rows 3:groups 4:bound 5:row 6:keys 7:value 8:term
def ir_law_rows : DX.N := (.cons (.set 2 .dnew)
(.cons (.set 3 .dnew)
(.cons (.for_ (.tslot 4) (.walk (.slot 1))
(.cons (.set 5 (.bi .tuple false (.cons (.lcp false (.call 0 (.cons (.slot 8) (.cons (.slot 4) .nil))) (.tslot 8) (.walk (.ix (.ix (.slot 0) (.int 1)) (.int 1))) .nil [(Str.ofString "term", 8)]) .nil)))
(.cons (.ite (.cmp .eq (.ix (.slot 0) (.int 0)) (.str (Str.ofString "rule")))
(.cons (.asg (.tix (.slot 2) (.slot 5)) (.bool true))
.nil)
(.cons (.set 6 (.dsetd (.slot 3) (.slot 5) .dnew))
(.cons (.asg (.tix (.slot 6) (.bi .tuple false (.cons (.lcp false (.call 0 (.cons (.slot 8) (.cons (.slot 4) .nil))) (.tslot 8) (.walk (.ix (.slot 0) (.int 3))) .nil [(Str.ofString "term", 8)]) .nil))) (.bool true))
.nil)))
.nil)))
(.cons .fzl
(.cons (.for_ (.tslot 5) (.walk (.slot 3))
(.cons (.set 7 (.call 1 (.cons (.ix (.slot 0) (.int 2)) (.cons (.bi .list false (.cons (.ix (.slot 3) (.slot 5)) .nil)) .nil))))
(.cons (.ite (.isNN (.slot 7))
(.cons (.asg (.tix (.slot 2) (.bin .add false (.slot 5) (.tup (.cons (.slot 7) .nil)))) (.bool true))
.nil)
.nil)
.nil)))
(.cons .fzl
(.cons (.ret (.slot 2))
.nil)))))))
def ev_law_rows : Ev := { fs := [⟨"_law_value", sp_law_value, []⟩, ⟨"_law_fold", sp_law_fold, []⟩], cs := [] }
abbrev nm_law_rows : List Str := ["rule", "found", "rows", "groups", "bound", "row", "keys", "value", "term"]
abbrev pa_law_rows : List Str := ["rule", "found"]
abbrev bl_law_rows : List Str := ["tuple", "list"]
-- _law_row_order: slots 0:row 1:value
def ir_law_row_order : DX.N := (.cons (.ret (.lcp false (.call 0 (.cons (.slot 1) .nil)) (.tslot 1) (.walk (.slot 0)) .nil [(Str.ofString "value", 1)]))
.nil)
def ev_law_row_order : Ev := { fs := [⟨"_law_order", sp_law_order, []⟩], cs := [] }
abbrev nm_law_row_order : List Str := ["row", "value"]
abbrev pa_law_row_order : List Str := ["row"]
abbrev bl_law_row_order : List Str := []
-- law: slots 0:script 1:k 2:number 3:rule 4:found 5:passed 6:told 7:due 8:rows 9:bound 10:kind
def ir_law : DX.N := (.cons (.for_ (.tslot 1) (.range (.int 16))
(.cons (.set 2 (.call 0 (.cons (.slot 0) (.cons (.slot 1) .nil))))
(.cons (.set 3 (.call 1 (.cons (.slot 2) (.cons (.ix (.lst false (.cons (.str (Str.ofString "d0")) (.cons (.str (Str.ofString "d1")) (.cons (.str (Str.ofString "d3")) (.cons (.str (Str.ofString "d4")) .nil))))) (.call 2 (.cons (.lst true (.cons (.slot 2) .nil)) (.cons (.int 4) .nil)))) (.cons (.lst false (.cons (.str (Str.ofString "p")) (.cons (.str (Str.ofString "q")) (.cons (.str (Str.ofString "r")) .nil)))) (.cons (.lst false .nil) .nil))))))
(.cons (.set 4 (.call 3 (.cons (.call 0 (.cons (.lst false (.cons (.slot 2) .nil)) (.cons (.int 3) .nil))) .nil)))
(.cons (.set 5 (.lcp false (.dcp false (.slot 9)) (.tslot 9) (.walk (.slot 4)) .nil [(Str.ofString "bound", 9)]))
(.cons (.set 6 (.call 4 (.cons (.slot 3) (.cons (.slot 5) .nil))))
(.cons (.set 7 (.call 5 (.cons (.slot 3) (.cons (.slot 4) .nil))))
(.cons (.ite (.or (.not (.bi (.isi "list") false (.cons (.slot 6) .nil))) (.or (.cmp .ne (.bi .len false (.cons (.slot 6) .nil)) (.bi .len false (.cons (.slot 7) .nil))) (.eqd true (.slot 5) (.slot 4))))
(.cons (.ret (.bool false))
.nil)
.nil)
(.cons (.ite (.cmp .ne (.sortk false 6 (.slot 6)) (.sortk false 6 (.slot 7)))
(.cons (.ret (.bool false))
.nil)
.nil)
(.cons (.set 8 .dnew)
(.cons (.for_ (.tslot 9) (.walk (.bin .add false (.slot 4) (.lst false (.cons (.ddisp false (.cons (.str (Str.ofString "X")) (.cons (.str (Str.ofString "b")) (.cons (.str (Str.ofString "Y")) (.cons (.int 3) .nil))))) .nil))))
(.cons (.asg (.tix (.slot 8) (.tup (.cons (.ix (.slot 9) (.str (Str.ofString "X"))) (.cons (.ix (.slot 9) (.str (Str.ofString "Y"))) .nil)))) (.bool true))
.nil))
(.cons (.set 8 (.bi .list false (.cons (.slot 8) .nil)))
(.cons (.for_ (.tslot 10) (.walk (.lst false (.cons (.str (Str.ofString "count")) (.cons (.str (Str.ofString "sum")) (.cons (.str (Str.ofString "min")) (.cons (.str (Str.ofString "max")) .nil))))))
(.cons (.ite (.cmp .ne (.call 7 (.cons (.slot 10) (.cons (.bi .list false (.cons (.slot 8) .nil)) .nil))) (.call 8 (.cons (.slot 10) (.cons (.slot 8) .nil))))
(.cons (.ret (.bool false))
.nil)
.nil)
.nil))
.nil)))))))))))))
(.cons (.ret (.and (.cmp .eq (.call 7 (.cons (.str (Str.ofString "sum")) (.cons (.lst false (.cons (.tup (.cons (.str (Str.ofString "a")) .nil)) (.cons (.tup (.cons (.str (Str.ofString "b")) .nil)) .nil))) .nil))) (.int 0)) (.cmp .eq (.call 7 (.cons (.str (Str.ofString "max")) (.cons (.lst false (.cons (.tup (.cons (.str (Str.ofString "a")) .nil)) (.cons (.tup (.cons (.int 5) .nil)) .nil))) .nil))) (.str (Str.ofString "a")))))
.nil))
def ev_law : Ev := { fs := [⟨"_law_number", sp_law_number, []⟩, ⟨"_law_rule", sp_law_rule, []⟩, ⟨"_law_take", sp_law_take, []⟩, ⟨"_law_ways", sp_law_ways, []⟩, ⟨"rows_made", sp_rows_made, []⟩, ⟨"_law_rows", sp_law_rows, []⟩, ⟨"_law_row_order", sp_law_row_order, []⟩, ⟨"folded", sp_folded, []⟩, ⟨"_law_fold", sp_law_fold, []⟩], cs := [] }
abbrev nm_law : List Str := ["script", "k", "number", "rule", "found", "passed", "told", "due", "rows", "bound", "kind"]
abbrev pa_law : List Str := ["script"]
abbrev bl_law : List Str := ["range", "dict", "len", "isinstance", "list", "sorted"]
end K13

namespace K13
open PySem PySem.Spec PyProof.Rows L2 DX
local macro_rules | `(tactic| walk_at "w") => `(tactic| conv => whnf)
theorem lz1 : 1 ≤ sizeLine := by decide
theorem lz4 : 4 ≤ sizeLine := by decide
theorem l_law_const : mlen S_law_const 1 := fun rs cs Q R h => by
  unfold S_law_const at h; split at h
  · rfl
  · exact h.elim
theorem b_law_const : mbody S_law_const ev_law_const ir_law_const nm_law_const := fun rs cs Q R h => by
  unfold S_law_const at h; split at h
  · rename_i n
    obtain ⟨x, hx, ex⟩ := at_mod (ds := ([.int 0, .int 1, .int 2, .str "a"] : List Dt)) n (m := 4) rfl (by decide)
    refine ⟨lz4, ⟨by decide, by decide⟩, ?_⟩
    walk_at "w"
    rw [ex]
    simp only [List.mem_cons, List.not_mem_nil, or_false] at hx
    exact h x hx _
  · exact h.elim
theorem l_law_width : lenOf S_law_width 1 := fun ds Q R h => by
  unfold S_law_width at h; split at h
  · rfl
  · exact h.elim
theorem b_law_width : bodyOf S_law_width ev_law_width ir_law_width nm_law_width := fun ds Q R h => by
  unfold S_law_width at h; split at h
  · obtain ⟨hr, hq⟩ := h
    rcases hr with rfl | rfl | rfl | rfl | rfl | rfl | rfl | rfl
    · exact ⟨lz2, lz3, rfl, by decide +kernel, hq 2 (.inr rfl)⟩
    · exact ⟨lz2, lz3, rfl, by decide +kernel, hq 1 (.inl rfl)⟩
    · exact ⟨lz2, lz3, rfl, by decide +kernel, hq 2 (.inr rfl)⟩
    · exact ⟨lz2, lz3, rfl, by decide +kernel, hq 1 (.inl rfl)⟩
    · exact ⟨lz2, lz3, rfl, by decide +kernel, hq 2 (.inr rfl)⟩
    · exact ⟨lz2, lz3, rfl, by decide +kernel, hq 2 (.inr rfl)⟩
    · exact ⟨lz2, lz3, rfl, by decide +kernel, hq 1 (.inl rfl)⟩
    · exact ⟨lz2, lz3, rfl, by decide +kernel, hq 2 (.inr rfl)⟩
  · exact h.elim
theorem l_law_once : lenOf S_law_once 1 := fun ds Q R h => by
  unfold S_law_once at h; split at h
  · rfl
  · exact h.elim
theorem nam_flat {x : Dt} (h : gName x) : flatN 0 x := by
  rcases h with rfl | rfl | rfl | rfl <;> exact ⟨rfl, Nat.le_refl 0⟩
theorem b_law_once : bodyOf S_law_once ev_law_once ir_law_once nm_law_once := fun ds Q R h => by
  unfold S_law_once at h; split at h
  · rename_i xs
    obtain ⟨hn, hq⟩ := h
    refine ⟨Nat.zero_le _, fun i Γ M => (∃ o, Γ = [some (.d (.list xs)), some (.p 0), o]) ∧ ∃ ys, M = [.dl ys] ∧ (∀ y ∈ ys, y ∈ xs) ∧ ys.length ≤ i, ⟨⟨_, rfl⟩, [], rfl, fun y h => absurd h (by simp), Nat.le_refl 0⟩, fun i x Γ M hx hj => ⟨trivial, ?_⟩, fun Γ M hj => ⟨trivial, ?_⟩⟩
    · obtain ⟨⟨o, rfl⟩, ys, rfl, hy, hl⟩ := hj
      obtain ⟨d, hd, rfl⟩ : ∃ d ∈ xs, x = .d d := by
        have := List.mem_of_getElem? hx
        simpa [eq_comm] using this
      have g1 : good d = true := good_flat (nam_flat (hn.1 d hd)) (by decide)
      have g2 : good (.list ys) = true := good_flat (flat_list fun y h => nam_flat (hn.1 y (hy y h))) (by decide)
      have hi : i < xs.length := by
        have := (List.getElem?_eq_some_iff.mp hx).1
        simpa using this
      have := hn.2
      have hz : sizeLine = 16777216 := rfl
      refine ⟨g1, g2, fun _ => ⟨by omega, .inl ⟨_, Fo.refl _, ⟨_, rfl⟩, ys ++ [d], rfl, fun y h => ?_, by simp; omega⟩⟩, fun _ => .inl ⟨_, Fo.refl _, ⟨_, rfl⟩, ys, rfl, hy, by omega⟩⟩
      rcases List.mem_append.mp h with h | h
      · exact hy y h
      · simp at h; subst h; exact hd
    · obtain ⟨⟨o, rfl⟩, ys, rfl, hy, hl⟩ := hj
      exact hq ys hy (by simpa using hl)
  · exact h.elim
theorem l_law_term : mlen S_law_term 3 := fun rs cs Q R h => by
  unfold S_law_term at h; split at h
  · rfl
  · exact h.elim
theorem b_law_term : mbody S_law_term ev_law_term ir_law_term nm_law_term := fun rs cs Q R h => by
  unfold S_law_term at h; split at h
  · rename_i ns w n
    obtain ⟨hn, h⟩ := h
    have hval : ∀ c, gConst c → ∀ m, Q (.tuple [.str "value", c]) [.dl [.int m]] := fun c hc m => h _ (.inr (.inr ⟨c, hc, rfl⟩)) m
    have rest : (sem ev_law_term ir_law_term.tl.tl).s 1 [some (.p 0), some (.d (.list ns)), some (.d (.bool w)), some (.d (.int (n % 16)))] [.dl [.int (n / 16)]] (fun _ M' => Q .none (M'.take 1)) { rt := retM 1 Q, ex := fun C fs _ M' => R C fs (M'.take 1) } := by
      refine ⟨fun e1 => ⟨fun e2 => ⟨lz1, ?_⟩, fun e2 => fun c hc m => ⟨lz2, hval c hc m⟩⟩, fun e1 => ⟨fun e => (by cases e), fun _ => fun c hc m => ⟨lz2, hval c hc m⟩⟩⟩
      exact h _ (.inr (.inl ⟨e2, rfl⟩)) _
    refine ⟨⟨by decide, by decide⟩, fun e1 => ⟨fun e2 => ?_, fun e2 => ?_⟩, fun e1 => ?_⟩
    · have e2 : (0 : Int) < ns.length := of_decide_eq_true e2
      obtain ⟨x, hx, ex⟩ := at_mod (ds := ns) (n / 16) (m := (ns.length : Int)) rfl e2
      refine ⟨⟨e2, ?_⟩, ?_⟩
      · have := hn.2
        have : ((ns.length : Int)).natAbs < 2 ^ 30 := by
          have e : (2 : Nat) ^ 30 = 1073741824 := by decide
          omega
        exact Nat.lt_of_lt_of_le this (pow_le2 (by decide))
      · walk_at "w"
        rw [ex]
        exact ⟨lz2, h _ (.inl ⟨x, hn.1 x hx, rfl⟩) _⟩
    · exact rest
    · exact ⟨fun e => (by cases e), fun _ => rest⟩
  · exact h.elim
theorem l_law_atom : mlen S_law_atom 4 := fun rs cs Q R h => by
  unfold S_law_atom at h; split at h
  · rfl
  · exact h.elim
theorem intsL_lt {lo : Int} {n i : Nat} {x : Im} (h : (intsL lo n)[i]? = some x) : i < n := by
  have := (List.getElem?_eq_some_iff.mp h).1
  simpa [intsL] using this
theorem b_law_atom : mbody S_law_atom ev_law_atom ir_law_atom nm_law_atom := fun rs cs Q R h => by
  unfold S_law_atom at h; split at h
  · rename_i r ns w n
    obtain ⟨hr, hn, h⟩ := h
    refine ⟨hr, fun z hz => ?_⟩
    have hz' : (z.toNat = 1 ∨ z.toNat = 2) ∧ -(2 ^ 62) ≤ z ∧ z < 2 ^ 62 := by
      rcases hz with rfl | rfl <;> decide
    refine ⟨hz'.2, fun i M => ∃ m ts, M = [.dl [.int m], .dl ts] ∧ ts.length = i ∧ ∀ t ∈ ts, gTerm w t, ⟨n, [], rfl, rfl, fun t h => absurd h (by simp)⟩, fun i x M' hx hj => ⟨trivial, ?_⟩, fun M' hj => ⟨trivial, ?_⟩⟩
    · have hi := intsL_lt hx
      obtain ⟨m, ts, rfl, hl, ht⟩ := hj
      refine ⟨fun _ => ⟨hn, fun d hd m' => ?_⟩, fun e => (by cases e)⟩
      refine ⟨?_, .inl ⟨m', ts ++ [d], rfl, by simp [hl], fun t h => ?_⟩⟩
      · have : sizeLine = 16777216 := rfl
        omega
      · rcases List.mem_append.mp h with h | h
        · exact ht t h
        · simp at h; subst h; exact hd
    · obtain ⟨m, ts, rfl, hl, ht⟩ := hj
      have hl : ts.length = z.toNat := by simpa [intsL] using hl
      exact ⟨lz2, h ts (by omega) ht _⟩
  · exact h.elim
theorem l_law_names : mlen S_law_names 1 := fun rs cs Q R h => by
  unfold S_law_names at h; split at h
  · rfl
  · exact h.elim
def t1D : Im → Dt
  | .d (.tuple [_, b]) => b
  | _ => .none
def isV : Im → Bool
  | .d (.tuple (a :: _)) => isS "var" a
  | _ => false
theorem nam_str {x : Dt} (h : gName x) : ∃ s, x = .str s := by
  rcases h with rfl | rfl | rfl | rfl <;> exact ⟨_, rfl⟩
theorem nam_sort {xs : List Dt} (h : ∀ x ∈ xs, gName x) : sortOk xs := by
  refine ⟨fun d hd d' hd' => ?_, .inr fun d hd => ?_, fun d hd => Nat.le_trans (nam_flat (h d hd)).2 (by decide)⟩
  · obtain ⟨s, rfl⟩ := nam_str (h d hd)
    obtain ⟨t, rfl⟩ := nam_str (h d' hd')
    rfl
  · obtain ⟨s, rfl⟩ := nam_str (h d hd)
    exact ⟨fun e => (by cases e), fun xs e => (by cases e)⟩
/-- what a term is, for the walk -/
theorem term_cases {w : Bool} {d : Dt} (h : gTerm w d) : (∃ n, gName n ∧ d = .tuple [.str "var", n]) ∨ ∃ k r, d = .tuple (.str k :: r) ∧ k ≠ "var" := by
  rcases h with h | ⟨_, rfl⟩ | ⟨c, _, rfl⟩
  · exact .inl h
  · exact .inr ⟨_, _, rfl, by decide +kernel⟩
  · exact .inr ⟨_, _, rfl, by decide +kernel⟩
theorem b_law_names : mbody S_law_names ev_law_names ir_law_names nm_law_names := fun rs cs Q R h => by
  unfold S_law_names at h; split at h
  · rename_i body
    obtain ⟨⟨hb, hbl⟩, h⟩ := h
    refine ⟨Nat.zero_le _, fun i Γ M => (∃ o o' found, Γ = [some (.p 0), some (.d (.list found)), o, o'] ∧ (∀ x ∈ found, gName x) ∧ found.length ≤ 2 * i) ∧ M = [.dl body], ⟨⟨_, _, [], rfl, fun x h => absurd h (by simp), Nat.le_refl 0⟩, rfl⟩, fun i x Γ M hx hj => ?_, fun Γ M hj => ?_⟩
    · obtain ⟨⟨o, o', found, rfl, hf, hl⟩, rfl⟩ := hj
      refine ⟨rfl, ?_⟩
      obtain ⟨d, hd, rfl⟩ : ∃ d ∈ body, x = .d d := by
        have := List.mem_of_getElem? hx
        simpa [eq_comm] using this
      obtain ⟨a, ⟨r, ts, hr, rfl, hts, hg⟩, rfl⟩ := hb d hd
      have hz : sizeLine = 16777216 := rfl
      have hi : i < body.length := by
        have := (List.getElem?_eq_some_iff.mp hx).1
        simpa using this
      have g2 : good (.list found) = true := good_flat (flat_list fun y h => nam_flat (hf y h)) (by decide)
      refine ⟨fun _ => ?_, fun e => (by simp at e)⟩
      refine ⟨by rw [List.length_map]; omega, t1D, fun x => isV x && !(found.any fun y => PyData.eqv y (t1D x)), fun x hx acc => ?_, fun _ => trivial, ?_⟩
      · obtain ⟨t, ht, rfl⟩ := List.mem_map.mp hx
        rcases term_cases (hg t ht) with ⟨n, hn, rfl⟩ | ⟨k, r', rfl, hk⟩
        · have g1 : good n = true := good_flat (nam_flat hn) (by decide)
          have ev : isV (.d (.tuple [.str "var", n])) = true := (show isS "var" (.str "var") = true by decide +kernel)
          refine ⟨fun _ => ⟨g1, g2, ?_, rfl, fun _ => ⟨rfl, rfl⟩⟩, fun e => (by simp at e)⟩
          show (!_) = (isV _ && !_)
          rw [ev, Bool.true_and]
          rfl
        · have ev : isV (.d (.tuple (.str k :: r'))) = false := decide_eq_false hk
          walk_at "w"
          rw [show atD (PyData.str k :: r') 0 = some (.str k) from atD_nat (j := 0) rfl]
          refine ⟨fun e => absurd (of_decide_eq_true e) hk, fun _ => ⟨?_, rfl, fun e => (by cases e)⟩⟩
          show false = (isV _ && _)
          rw [ev, Bool.false_and]
      · have hnl : (((ts.map Im.d).filter fun x => isV x && !(found.any fun y => PyData.eqv y (t1D x))).map t1D).length ≤ 2 := by
          rw [List.length_map]
          refine Nat.le_trans (List.length_filter_le _ _) ?_
          rw [List.length_map]; omega
        refine ⟨by omega, .inl ⟨_, Fo.refl _, ⟨_, _, _, rfl, fun y hy => ?_, by rw [List.length_append]; omega⟩, rfl⟩⟩
        rcases List.mem_append.mp hy with hy | hy
        · exact hf y hy
        · obtain ⟨x, hx, rfl⟩ := List.mem_map.mp hy
          obtain ⟨hx, hv⟩ := List.mem_filter.mp hx
          obtain ⟨t, ht, rfl⟩ := List.mem_map.mp hx
          rcases term_cases (hg t ht) with ⟨n, hn, rfl⟩ | ⟨k, r', rfl, hk⟩
          · exact hn
          · have ev : isV (.d (.tuple (.str k :: r'))) = false := decide_eq_false hk
            rw [ev] at hv; cases hv
    · obtain ⟨⟨o, o', found, rfl, hf, hl⟩, rfl⟩ := hj
      refine ⟨rfl, ?_⟩
      have hl : found.length ≤ 2 * body.length := by simpa using hl
      refine ⟨⟨hf, by omega⟩, fun ys hy hyl => ?_⟩
      refine ⟨nam_sort fun x h => hf x (hy x h), ?_⟩
      exact h _ (fun x hx => hf x (hy x (List.mem_mergeSort.mp hx))) (by rw [List.length_mergeSort]; omega)
  · exact h.elim
end K13

namespace K13
open PySem PySem.Spec PyProof.Rows L2 DX
local macro_rules | `(tactic| walk_at "w") => `(tactic| conv => whnf)
theorem l_law_extras : mlen S_law_extras 4 := fun rs cs Q R h => by
  unfold S_law_extras at h; split at h
  · rfl
  · exact h.elim
theorem lz5 : 5 ≤ sizeLine := by decide
theorem cut_from {α : Type} {xs : List α} {i : Int} (h0 : 0 ≤ i) (h1 : i ≤ xs.length) : cutL xs (some i) none = xs.drop i.toNat := by
  have e1 : HT.sIx xs.length 0 (some i) = i.toNat := by unfold HT.sIx; dsimp only; rw [if_neg (by omega)]; omega
  have e2 : HT.sIx xs.length xs.length none = xs.length := rfl
  unfold cutL
  rw [e1, e2, List.take_of_length_le]
  rw [List.length_drop]; omega
theorem cut_to {α : Type} {xs : List α} {i : Int} (h0 : 0 ≤ i) (h1 : i ≤ xs.length) : cutL xs none (some i) = xs.take i.toNat := by
  have e1 : HT.sIx xs.length xs.length (some i) = i.toNat := by unfold HT.sIx; dsimp only; rw [if_neg (by omega)]; omega
  have e2 : HT.sIx xs.length 0 none = 0 := rfl
  unfold cutL
  rw [e1, e2]
  simp
/-- between the parts of _law_extras -/
def exJ (lower : List Dt) (rc : Bool) (kd : Int) (n N : Nat) (Γ : Ec) (M : Sto) : Prop := ∃ o6 o7 ns body m, Γ = [some (.p 0), some (.p 1), some (.d (.list lower)), some (.d (.bool rc)), some (.d (.list ns)), some (.d (.int kd)), o6, o7, none] ∧ M = [.dl body, .dl [.int m]] ∧ nams ns ∧ ns.length ≤ N ∧ (∀ l ∈ body, gLit l) ∧ 0 < body.length ∧ body.length ≤ n
theorem small_bd {n : Nat} (h : n ≤ 1000) : ((n : Int)).natAbs < 2 ^ 200 := by
  have : ((n : Int)).natAbs < 2 ^ 30 := by
    have e : (2 : Nat) ^ 30 = 1073741824 := by decide
    omega
  exact Nat.lt_of_lt_of_le this (pow_le2 (by decide))
theorem app_lit {body : List Dt} {d : Dt} (h : ∀ l ∈ body, gLit l) (hd : gLit d) : ∀ l ∈ body ++ [d], gLit l := fun l hl => by
  rcases List.mem_append.mp hl with hl | hl
  · exact h l hl
  · simp at hl; subst hl; exact hd
theorem b_law_extras : mbody S_law_extras ev_law_extras ir_law_extras nm_law_extras := fun rs cs Q R h => by
  unfold S_law_extras at h; split at h
  · rename_i lower rc body n
    obtain ⟨⟨hb, hb0, hbl⟩, ⟨hlow, hlow0⟩, h⟩ := h
    have hz : sizeLine = 16777216 := rfl
    refine ⟨⟨hb, by omega⟩, fun ns hns hnl => ⟨⟨by decide, by decide⟩, ?_⟩⟩
    have hns' : nams ns := ⟨hns, by omega⟩
    refine ⟨exJ lower rc (n % 8) 4 16, ⟨fun e1 => ?_, fun e1 => ?_⟩, fun Γ M hj => ?_⟩
    · obtain ⟨x, hx, ex⟩ := at_mod (ds := lower) (n / 8) (m := (lower.length : Int)) rfl (by omega)
      refine ⟨⟨by omega, small_bd (by have := hlow.2; omega)⟩, ?_⟩
      walk_at "w"
      rw [ex]
      refine ⟨hlow.1 x hx, hns', fun ts htl ht m => ⟨lz2, ?_, ?_⟩⟩
      · show body.length < sizeLine
        omega
      · exact ⟨_, _, ns, _, _, rfl, rfl, hns', by omega, app_lit (fun l hl => .inl (hb l hl)) (.inr (.inl ⟨_, ⟨x, ts, hlow.1 x hx, rfl, htl, ht⟩, rfl⟩)), by simp, by simp; omega⟩
    · exact ⟨_, _, ns, _, _, rfl, rfl, hns', by omega, fun l hl => .inl (hb l hl), hb0, by omega⟩
    obtain ⟨o6, o7, ns, body, m, rfl, rfl, hns, hnl, hb, hb0, hbl⟩ := hj
    refine ⟨exJ lower rc (n % 8) 5 16, ?_, fun Γ M hj => ?_⟩
    · have test : (sem ev_law_extras (ir_law_extras.tl.tl.tl.hd.jn.brT)).s 2 [some (.p 0), some (.p 1), some (.d (.list lower)), some (.d (.bool rc)), some (.d (.list ns)), some (.d (.int (n % 8))), o6, o7, none] [.dl body, .dl [.int m]] (exJ lower rc (n % 8) 5 16) { rt := retM 2 Q, ex := fun C fs _ M' => R C fs (M'.take 2) } := by
        obtain ⟨x, hx, ex⟩ := at_mod (ds := ([.str "=", .str "!=", .str "<", .str "<="] : List Dt)) m (m := 4) rfl (by decide)
        refine ⟨lz4, ⟨by decide, by decide⟩, ?_⟩
        walk_at "w"
        rw [ex]
        simp only [List.mem_cons, List.not_mem_nil, or_false] at hx
        refine ⟨hns, fun t1 h1 m1 => ⟨hns, fun t2 h2 m2 => ⟨lz4, ?_, ?_⟩⟩⟩
        · show body.length < sizeLine
          omega
        · exact ⟨_, _, ns, _, _, rfl, rfl, hns, hnl, app_lit hb (.inr (.inr (.inl ⟨x, t1, t2, hx, h1, h2, rfl⟩))), by simp, by simp; omega⟩
      exact ⟨fun e1 => ⟨fun e2 => test, fun e2 => ⟨_, _, ns, _, _, rfl, rfl, hns, hnl, hb, hb0, by omega⟩⟩, fun e1 => ⟨fun _ => test, fun e => (by cases e)⟩⟩
    obtain ⟨o6, o7, ns, body, m, rfl, rfl, hns, hnl, hb, hb0, hbl⟩ := hj
    refine ⟨exJ lower rc (n % 8) 6 17, ⟨fun e1 => ⟨fun e2 => ?_, fun e2 => ?_⟩, fun e1 => ⟨fun e => (by cases e), fun e2 => ?_⟩⟩, fun Γ M hj => ?_⟩
    · obtain ⟨x, hx, ex⟩ := at_mod (ds := ([.str "+", .str "-", .str "*"] : List Dt)) m (m := 3) rfl (by decide)
      obtain ⟨y, hy, ey⟩ := at_mod (ds := ([.str "N", .str "N", .str "X"] : List Dt)) (m / 3) (m := 3) rfl (by decide)
      refine ⟨lz3, ⟨by decide, by decide⟩, ?_⟩
      walk_at "w"
      rw [ex]
      refine ⟨lz3, ⟨by decide, by decide⟩, ?_⟩
      walk_at "w"
      rw [ey]
      simp only [List.mem_cons, List.not_mem_nil, or_false] at hx hy
      have hyn : gName y := by
        rcases hy with rfl | rfl | rfl
        · exact .inr (.inr (.inr rfl))
        · exact .inr (.inr (.inr rfl))
        · exact .inl rfl
      refine ⟨hns, fun t1 h1 m1 => ⟨hns, fun t2 h2 m2 => ⟨lz5, ?_, ?_⟩⟩⟩
      · show body.length < sizeLine
        omega
      refine ⟨lz1, ?_, ?_⟩
      · show ns.length + 1 ≤ sizeLine
        omega
      have hn2 : ∀ z ∈ ns ++ [y], gName z := fun z hz => by
        rcases List.mem_append.mp hz with hz | hz
        · exact hns.1 z hz
        · simp at hz; subst hz; exact hyn
      refine ⟨⟨hn2, by simp; omega⟩, fun ys hy hyl => ?_⟩
      refine ⟨nam_sort fun z hz => hn2 z (hy z hz), ?_⟩
      have hyl : ys.length ≤ ns.length + 1 := by simpa using hyl
      exact ⟨_, _, _, _, _, rfl, rfl, ⟨fun z hz => hn2 z (hy z (List.mem_mergeSort.mp hz)), by rw [List.length_mergeSort]; omega⟩, by rw [List.length_mergeSort]; omega, app_lit hb (.inr (.inr (.inr ⟨y, x, t1, t2, hyn, hx, h1, h2, rfl⟩))), by simp, by simp; omega⟩
    · exact ⟨_, _, ns, _, _, rfl, rfl, hns, by omega, hb, hb0, by omega⟩
    · exact ⟨_, _, ns, _, _, rfl, rfl, hns, by omega, hb, hb0, by omega⟩
    obtain ⟨o6, o7, ns, body, m, rfl, rfl, hns, hnl, hb, hb0, hbl⟩ := hj
    have hsp := Int.emod_nonneg m (show (body.length : Int) ≠ 0 by omega)
    have hsp2 := Int.emod_lt_of_pos m (show (0 : Int) < body.length by omega)
    refine ⟨⟨by omega, small_bd (by omega)⟩, ?_⟩
    generalize m % (body.length : Int) = sp at *
    have hcl : cutL body (some sp) none = body.drop sp.toNat := cut_from hsp (by omega)
    have hcr : cutL body none (some sp) = body.take sp.toNat := cut_to hsp (by omega)
    have hlen : (cutL body (some sp) none ++ cutL body none (some sp)).length = body.length := by
      rw [hcl, hcr, List.length_append, List.length_drop, List.length_take]; omega
    refine ⟨by rw [← List.length_append, hlen]; omega, lz2, h _ ns _ _ ⟨_, rfl, by omega, by omega, fun l hl => ?_⟩ hns⟩
    rw [hcl, hcr] at hl
    rcases List.mem_append.mp hl with hl | hl
    · exact hb l (List.mem_of_mem_drop hl)
    · exact hb l (List.mem_of_mem_take hl)
  · exact h.elim
theorem nam3 : nams [.str "X", .str "Y", .str "Z"] := ⟨fun x hx => by
  simp only [List.mem_cons, List.not_mem_nil, or_false] at hx
  rcases hx with rfl | rfl | rfl
  · exact .inl rfl
  · exact .inr (.inl rfl)
  · exact .inr (.inr (.inl rfl)), by decide⟩
theorem nam2 : nams [.str "X", .str "Z"] := ⟨fun x hx => by
  simp only [List.mem_cons, List.not_mem_nil, or_false] at hx
  rcases hx with rfl | rfl
  · exact .inl rfl
  · exact .inr (.inr (.inl rfl)), by decide⟩
theorem rel_flat {x : Dt} (h : gRel x) : flatN 0 x := by
  rcases h with rfl | rfl | rfl | rfl | rfl | rfl | rfl | rfl <;> exact ⟨rfl, Nat.le_refl 0⟩
theorem gAtom_wild {w : Bool} {a : Dt} (h : gAtom w a) : gAtom true a := by
  obtain ⟨r, ts, h1, h2, h3, h4⟩ := h
  refine ⟨r, ts, h1, h2, h3, fun t ht => ?_⟩
  rcases h4 t ht with h | ⟨_, h⟩ | h
  · exact .inl h
  · exact .inr (.inl ⟨rfl, h⟩)
  · exact .inr (.inr h)
theorem l_law_body : lenOf S_law_body 3 := fun ds Q R h => by
  unfold S_law_body at h; split at h <;> first | rfl | exact h.elim
def inOwn (own : List Dt) : Im → Bool
  | .d (.tuple [_, .tuple (r :: _)]) => own.any fun y => PyData.eqv y r
  | _ => false
theorem b_law_body : bodyOf S_law_body ev_law_body ir_law_body nm_law_body := fun ds Q R h => by
  unfold S_law_body at h; split at h
  · rename_i n lower own
    obtain ⟨hn, ⟨hlow, hlow0⟩, hown, hq⟩ := h
    have hz : sizeLine = 16777216 := rfl
    have hll := hlow.2
    have hol := hown.2
    refine ⟨lz1, Nat.zero_le _, by omega, by rw [List.length_append]; omega, ?_⟩
    have hch : ∀ x ∈ lower ++ own ++ own, gRel x := fun x hx => by
      rcases List.mem_append.mp hx with hx | hx
      · rcases List.mem_append.mp hx with hx | hx
        · exact hlow.1 x hx
        · exact hown.1 x hx
      · exact hown.1 x hx
    have hcl : (lower ++ own ++ own).length ≤ 60 := by rw [List.length_append, List.length_append]; omega
    have hc0 : 0 < (lower ++ own ++ own).length := by rw [List.length_append, List.length_append]; omega
    walk_at "w"
    generalize lower ++ own ++ own = ch at hch hcl hc0
    have h2 := Int.emod_nonneg n (show (2 : Int) ≠ 0 by decide)
    have h3 := Int.emod_lt_of_pos n (show (0 : Int) < 2 by decide)
    refine ⟨⟨by decide, by decide⟩, ⟨by omega, by omega⟩, fun i Γ M => ∃ o m body, Γ = [some (.d (.int n)), some (.d (.list lower)), some (.d (.list own)), some (.p 0), some (.p 1), some (.d (.list ch)), o, none, none] ∧ M = [.dl [.int m], .dl body] ∧ (∀ l ∈ body, gIs l) ∧ body.length = i, ⟨_, _, [], rfl, rfl, fun l h => absurd h (by simp), rfl⟩, fun i x Γ M hx hj => ⟨trivial, ?_⟩, fun Γ M hj => ⟨trivial, ?_⟩⟩
    · have hi := intsL_lt hx
      obtain ⟨hi2, rfl⟩ := intsL_get hx
      obtain ⟨o, m, body, rfl, rfl, hb, hbl⟩ := hj
      obtain ⟨x, hx, ex⟩ := at_mod (ds := ch) m (m := (ch.length : Int)) rfl (by omega)
      refine ⟨⟨by omega, small_bd (by omega)⟩, ?_⟩
      walk_at "w"
      rw [ex]
      refine ⟨lz3, hch x hx, nam3, fun ts htl ht m' => ⟨lz2, ?_, .inl ⟨_, Fo.refl _, _, m', _, rfl, rfl, fun l hl => ?_, by simp [hbl]⟩⟩⟩
      · show body.length < sizeLine
        omega
      · rcases List.mem_append.mp hl with hl | hl
        · exact hb l hl
        · simp at hl; subst hl
          exact ⟨_, ⟨x, ts, hch x hx, rfl, htl, ht⟩, rfl⟩
    · obtain ⟨o, m, body, rfl, rfl, hb, hbl⟩ := hj
      have hbl : body.length = (1 + n % 2).toNat := by simpa [intsL] using hbl
      refine ⟨fun Γ M => ∃ m body, Γ = [some (.d (.int n)), some (.d (.list lower)), some (.d (.list own)), some (.p 0), some (.p 1), some (.d (.list ch)), o, none, none] ∧ M = [.dl [.int m], .dl body] ∧ (∀ l ∈ body, gIs l) ∧ 0 < body.length ∧ body.length ≤ 3, ⟨⟨by decide, by decide⟩, fun e => ?_, fun e => ?_⟩, ?_⟩
      · refine ⟨lz2, .inr (.inl rfl), nam2, fun ts htl ht m' => ⟨lz2, ?_, m', _, rfl, rfl, fun l hl => ?_, by simp, by simp; omega⟩⟩
        · show body.length < sizeLine
          omega
        · rcases List.mem_append.mp hl with hl | hl
          · exact hb l hl
          · simp at hl; subst hl
            exact ⟨_, gAtom_wild ⟨_, ts, .inr (.inl rfl), rfl, htl, ht⟩, rfl⟩
      · exact ⟨_, _, rfl, rfl, hb, by omega, by omega⟩
      rintro Γ M ⟨m, body, rfl, rfl, hb, hb0, hb3⟩
      have gown : good (.list own) = true := good_flat (flat_list fun x hx => rel_flat (hown.1 x hx)) (by decide)
      refine ⟨by rw [List.length_map]; omega, datD, fun x => inOwn own x, fun x hx acc => ?_, fun _ => rfl, ?_⟩
      · obtain ⟨l, hl, rfl⟩ := List.mem_map.mp hx
        obtain ⟨a, ⟨r, ts, hr, rfl, htl, ht⟩, rfl⟩ := hb l hl
        have gr : good r = true := good_flat (rel_flat hr) (by decide)
        exact ⟨gr, gown, rfl, rfl, fun _ => ⟨rfl, rfl⟩⟩
      · refine ⟨lz1, [n], 1048700, rfl, num_bd (by decide) (by decide), fun x hx => (by simp at hx; subst hx; exact hn), by decide, lz1, ?_⟩
        refine ⟨⟨hb, hb0, hb3⟩, ⟨hlow, hlow0⟩, fun ls ns body' m' hgb hns => hq ls ns hgb hns⟩
  · exact h.elim
theorem l_law_rule : lenOf S_law_rule 4 := fun ds Q R h => by
  unfold S_law_rule at h; split at h <;> first | rfl | exact h.elim
theorem b_law_rule : bodyOf S_law_rule ev_law_rule ir_law_rule nm_law_rule := fun ds Q R h => by
  unfold S_law_rule at h; split at h
  · rename_i n hd lower own
    obtain ⟨hn, hh, hlow, hown, hq⟩ := h
    have hz : sizeLine = 16777216 := rfl
    refine ⟨lz1, [n], 1048700, rfl, num_bd (by decide) (by decide), fun x hx => (by simp at hx; subst hx; exact hn), by decide, lz1, ⟨by decide, by decide⟩, ?_⟩
    generalize numL [n] 7 = N0
    refine ⟨fun Γ M => ∃ own, rels own ∧ Γ = [some (.d (.int n)), some (.d hd), some (.d (.list lower)), some (.d (.list own)), some (.p 0), some (.d (.int (N0 % 5))), none, none, none, none, none] ∧ M = [.dl [.int (N0 / 5)]], ⟨fun e => ?_, fun e => ?_⟩, ?_⟩
    · exact ⟨Nat.zero_le _, [], ⟨fun x h => absurd h (by simp), by decide⟩, rfl, rfl⟩
    · exact ⟨own, hown, rfl, rfl⟩
    rintro Γ M ⟨own, hown, rfl, rfl⟩
    refine ⟨hn, hlow, hown, fun ls ns hgb hns => ⟨rfl, hh, fun w hw => ?_⟩⟩
    have hw' : (w.toNat = 1 ∨ w.toNat = 2) ∧ -(2 ^ 62) ≤ w ∧ w < 2 ^ 62 := by
      rcases hw with rfl | rfl <;> decide
    refine ⟨hw'.2, fun i M => ∃ m ts, M = [.dl [.int m], .dl ts] ∧ ts.length = i ∧ ∀ t ∈ ts, gTerm false t, ⟨_, [], rfl, rfl, fun t h => absurd h (by simp)⟩, fun i x M' hx hj => ⟨trivial, ?_⟩, fun M' hj => ⟨trivial, ?_⟩⟩
    · have hi := intsL_lt hx
      obtain ⟨m, ts, rfl, hl, ht⟩ := hj
      refine ⟨fun _ => ⟨hns, fun d hd m' => ?_⟩, fun e => (by cases e)⟩
      refine ⟨by omega, .inl ⟨m', ts ++ [d], rfl, by simp [hl], fun t h => ?_⟩⟩
      rcases List.mem_append.mp h with h | h
      · exact ht t h
      · simp at h; subst h; exact hd
    · obtain ⟨m, ts, rfl, hl, ht⟩ := hj
      have hl : ts.length = w.toNat := by simpa [intsL] using hl
      refine ⟨fun e => ?_, fun e => ?_⟩
      · exact ⟨lz2, lz3, hq _ (.inl ⟨_, _, ⟨hd, ts, hh, rfl, by omega, ht⟩, hgb, rfl⟩)⟩
      · have h2 := Int.emod_nonneg m (show (2 : Int) ≠ 0 by decide)
        have h3 := Int.emod_lt_of_pos m (show (0 : Int) < 2 by decide)
        refine ⟨⟨by decide, by decide⟩, ⟨by omega, by omega⟩, fun i M => ∃ m ks, M = [.dl [.int m], .dead, .dl ks] ∧ ks.length = i ∧ ∀ t ∈ ks, gTerm false t, ⟨_, [], rfl, rfl, fun t h => absurd h (by simp)⟩, fun i x M' hx hj => ⟨trivial, ?_⟩, fun M' hj => ⟨trivial, ?_⟩⟩
        · have hi := intsL_lt hx
          obtain ⟨m', ks, rfl, hl', ht'⟩ := hj
          refine ⟨fun _ => ⟨hns, fun d hd m' => ?_⟩, fun e => (by cases e)⟩
          refine ⟨by omega, .inl ⟨m', ks ++ [d], rfl, by simp [hl'], fun t h => ?_⟩⟩
          rcases List.mem_append.mp h with h | h
          · exact ht' t h
          · simp at h; subst h; exact hd
        · obtain ⟨m', ks, rfl, hl', ht'⟩ := hj
          have hl' : ks.length = (1 + m % 2).toNat := by simpa [intsL] using hl'
          obtain ⟨f, hf, ef⟩ := at_mod (ds := ([.str "count", .str "sum", .str "min", .str "max"] : List Dt)) m' (m := 4) rfl (by decide)
          refine ⟨lz2, lz4, ⟨by decide, by decide⟩, ?_⟩
          walk_at "w"
          rw [ef]
          have hcl : cutL ts (some 1) none = ts.drop 1 := cut_from (i := 1) (by decide) (by omega)
          refine ⟨lz5, hq _ (.inr ⟨hd, _, f, ks, _, hh, ?_, ?_, ?_, by omega, by omega, ht', hgb, rfl⟩)⟩
          · rw [hcl, List.length_drop]; omega
          · rw [hcl]; exact fun t h => ht t (List.mem_of_mem_drop h)
          · simpa using hf
  · exact h.elim
end K13

namespace K13
open PySem PySem.Spec PyProof.Rows L2 DX
local macro_rules | `(tactic| walk_at "w") => `(tactic| conv => whnf)
theorem gVal_is {d : Dt} (h : gVal d) : isVal d = true := by
  rcases h with ⟨i, rfl, _⟩ | ⟨s, rfl, _⟩ <;> rfl
theorem gConst_val {d : Dt} (h : gConst d) : gVal d := by
  rcases h with rfl | rfl | rfl | rfl
  · exact .inl ⟨0, rfl, by decide⟩
  · exact .inl ⟨1, rfl, by decide⟩
  · exact .inl ⟨2, rfl, by decide⟩
  · exact .inr ⟨_, rfl, by decide⟩
theorem dg_name {x y z n k : Dt} (hx : gVal x) (hy : gVal y) (hz : gVal z) (hn : gVal n) (hk : gName k) : ∃ v, gVal v ∧ dGet [(PyData.str "X", x), (.str "Y", y), (.str "Z", z), (.str "N", n)] k = some v := by
  have a1 : keyB (.str "X") (.str "X") = true := by decide +kernel
  have a2 : keyB (.str "X") (.str "Y") = false := by decide +kernel
  have a3 : keyB (.str "X") (.str "Z") = false := by decide +kernel
  have a4 : keyB (.str "X") (.str "N") = false := by decide +kernel
  have b2 : keyB (.str "Y") (.str "Y") = true := by decide +kernel
  have b3 : keyB (.str "Y") (.str "Z") = false := by decide +kernel
  have b4 : keyB (.str "Y") (.str "N") = false := by decide +kernel
  have c3 : keyB (.str "Z") (.str "Z") = true := by decide +kernel
  have c4 : keyB (.str "Z") (.str "N") = false := by decide +kernel
  have d4 : keyB (.str "N") (.str "N") = true := by decide +kernel
  rcases hk with rfl | rfl | rfl | rfl
  · exact ⟨x, hx, by simp [dGet, a1]⟩
  · exact ⟨y, hy, by simp [dGet, a2, b2]⟩
  · exact ⟨z, hz, by simp [dGet, a3, b3, c3]⟩
  · exact ⟨n, hn, by simp [dGet, a4, b4, c4, d4]⟩
theorem dGet_im {kvs : List (Dt × Dt)} {k x : Dt} (h : dGet kvs k = some x) : dGet (kvs.map fun p => (p.1, Im.d p.2)) k = some (.d x) := by
  unfold dGet at h ⊢
  rw [List.find?_map]
  cases e : kvs.find? fun p => keyB p.1 k with
  | none => rw [e] at h; cases h
  | some p =>
    rw [e] at h
    have : (kvs.find? ((fun p : Dt × Im => keyB p.1 k) ∘ fun p : Dt × Dt => (p.1, Im.d p.2))) = some p := e
    rw [this]
    cases h; rfl
theorem dgetW_d {kvs : List (Dt × Dt)} {k x : Dt} {rx : Im} {M : Sto} {Q : QE} (hk : kindOk (kvs.map fun p => (p.1, Im.d p.2)) k = true) (h : dGet kvs k = some x) (q : Q (.d x) M) : dgetW (.d (.dict kvs)) (.d k) rx M Q := by
  unfold dgetW
  show kindOk (kvs.map fun p => (p.1, Im.d p.2)) k = true ∧ _
  refine ⟨hk, ?_⟩
  rw [dGet_im h]
  exact q
theorem name_kind {x y z n k : Im} {d : Dt} (hk : gName d) : kindOk [(PyData.str "X", x), (.str "Y", y), (.str "Z", z), (.str "N", n)] d = true := by
  rcases hk with rfl | rfl | rfl | rfl <;> rfl
theorem nVar : decide ((Str.ofString "var") = (Str.ofString "value")) = false := by decide +kernel
theorem isS_val : isS "value" (.str "value") = true := by decide +kernel
theorem isS_var : isS "value" (.str "var") = false := by decide +kernel
theorem tv_var {b n : Dt} : tvD b (.tuple [.str "var", n]) = bdG b n := by
  have e : tvD b (.tuple [.str "var", n]) = (if isS "value" (.str "var") = true then n else bdG b n) := rfl
  rw [e, isS_var]; rfl
theorem tv_val {b c : Dt} : tvD b (.tuple [.str "value", c]) = c := by
  have e : tvD b (.tuple [.str "value", c]) = (if isS "value" (.str "value") = true then c else bdG b c) := rfl
  rw [e, isS_val]; rfl
theorem bd_get {b k : Dt} (hb : gBd b) (hk : gName k) : ∃ kvs, b = .dict kvs ∧ kindOk (kvs.map fun p => (p.1, Im.d p.2)) k = true ∧ dGet kvs k = some (bdG b k) ∧ gVal (bdG b k) := by
  obtain ⟨x, y, z, n, hx, hy, hz, hn, rfl⟩ := hb
  obtain ⟨v, hv, e⟩ := dg_name hx hy hz hn hk
  have e2 : bdG (bdD x y z n) k = v := by
    show (dGet _ k).getD .none = v
    rw [e]; rfl
  rw [e2]
  exact ⟨_, rfl, name_kind (k := .p 0) hk, e, hv⟩
theorem term0 {t : Dt} (h : gTerm false t) : (∃ n, gName n ∧ t = .tuple [.str "var", n]) ∨ ∃ c, gConst c ∧ t = .tuple [.str "value", c] := by
  rcases h with h | ⟨e, _⟩ | h
  · exact .inl h
  · cases e
  · exact .inr h
theorem tv_gVal {b t : Dt} (hb : gBd b) (ht : gTerm false t) : gVal (tvD b t) := by
  rcases term0 ht with ⟨n, hn, rfl⟩ | ⟨c, hc, rfl⟩
  · rw [tv_var]
    obtain ⟨_, _, _, _, h⟩ := bd_get hb hn
    exact h
  · rw [tv_val]; exact gConst_val hc
theorem l_resolved : lenOf S_resolved 2 := fun ds Q R h => by
  unfold S_resolved at h; split at h <;> first | rfl | exact h.elim
theorem b_resolved : bodyOf S_resolved ev_resolved ir_resolved nm_resolved := fun ds Q R h => by
  unfold S_resolved at h; split at h
  · obtain ⟨ht, hb, hq⟩ := h
    rcases term0 ht with ⟨n, hn, rfl⟩ | ⟨c, hc, rfl⟩
    · rw [tv_var] at hq
      obtain ⟨kvs, rfl, hk, hg, _⟩ := bd_get hb hn
      refine ⟨fun e => absurd e (by decide +kernel), fun _ => ⟨fun _ => ?_, fun e => absurd e (by decide +kernel)⟩⟩
      exact dgetW_d (rx := .d .none) hk hg hq
    · rw [tv_val] at hq
      exact ⟨fun _ => hq, fun e => absurd e (by decide +kernel)⟩
  · exact h.elim
theorem l_law_value : lenOf S_resolved 2 := l_resolved
theorem b_law_value : bodyOf S_resolved ev_law_value ir_law_value nm_law_value := fun ds Q R h => by
  unfold S_resolved at h; split at h
  · obtain ⟨ht, hb, hq⟩ := h
    rcases term0 ht with ⟨n, hn, rfl⟩ | ⟨c, hc, rfl⟩
    · rw [tv_var] at hq
      obtain ⟨kvs, rfl, hk, hg, _⟩ := bd_get hb hn
      refine ⟨fun e => absurd e (by decide +kernel), fun _ => ?_⟩
      exact dgetW_d (rx := .d .none) hk hg hq
    · rw [tv_val] at hq
      exact ⟨fun _ => hq, fun e => absurd e (by decide +kernel)⟩
  · exact h.elim
theorem l_row_of : lenOf S_row_of 2 := fun ds Q R h => by
  unfold S_row_of at h; split at h <;> first | rfl | exact h.elim
theorem row_map {b : Dt} (ts : List Dt) : (((ts.map Im.d).filter fun _ => true).map fun x => tvD b (datD x)) = ts.map (tvD b) := by
  rw [fil_true, List.map_map]; rfl
theorem b_row_of : bodyOf S_row_of ev_row_of ir_row_of nm_row_of := fun ds Q R h => by
  unfold S_row_of at h; split at h
  · rename_i ts b
    obtain ⟨ht, hb, hq⟩ := h
    refine ⟨by rw [List.length_map]; exact lzn (by have := ht.2; omega), fun x => tvD b (datD x), fun _ => true, fun x hx acc => ?_, fun _ => trivial, ?_⟩
    · obtain ⟨t, hm, rfl⟩ := List.mem_map.mp hx
      exact ⟨rfl, rfl, fun _ => ⟨ht.1 t hm, hb, rfl, rfl⟩⟩
    · walk_at "w"
      rw [row_map]
      exact hq
  · exact h.elim
theorem vo_inj : KInj (fun d => isVal d = true) voD := fun x y hx hy e => eqv_vo hx hy (tok_cons (l := []) (m := []) (vo_alike hx hy) (by rw [e]))
def isMin (m : Dt) (l : List Dt) : Prop := m ∈ l ∧ ∀ y ∈ l, PySem.W.dataLt (voD y) (voD m) = false
def isMax (m : Dt) (l : List Dt) : Prop := m ∈ l ∧ ∀ y ∈ l, PySem.W.dataLt (voD m) (voD y) = false
theorem le_tr {a b c : Dt} (ha : isVal a = true) (hb : isVal b = true) (h : PySem.W.dataLt (voD b) (voD a) = false) (h' : PySem.W.dataLt (voD c) (voD b) = false) : PySem.W.dataLt (voD c) (voD a) = false := by
  cases e : PySem.W.dataLt (voD c) (voD a) with
  | false => rfl
  | true =>
    by_cases hab : a = b
    · subst hab; rw [e] at h'; cases h'
    · have := dl_tot vo_inj hb ha (Ne.symm hab) h
      rw [dl_tr e this] at h'; cases h'
theorem min_uniq {m m' : Dt} {l : List Dt} (hl : ∀ x ∈ l, isVal x = true) (h : isMin m l) (h' : isMin m' l) : m = m' := by
  by_cases e : m = m'
  · exact e
  · have := dl_tot vo_inj (hl m h.1) (hl m' h'.1) e (h'.2 m h.1)
    rw [h.2 m' h'.1] at this; cases this
theorem max_uniq {m m' : Dt} {l : List Dt} (hl : ∀ x ∈ l, isVal x = true) (h : isMax m l) (h' : isMax m' l) : m = m' := by
  by_cases e : m = m'
  · exact e
  · have := dl_tot vo_inj (hl m h.1) (hl m' h'.1) e (h.2 m' h'.1)
    rw [h'.2 m h.1] at this; cases this
theorem best_min : ∀ (rest : List Dt) (x : Dt), (∀ y ∈ x :: rest, isVal y = true) → isMin (bestK ltB voD x rest) (x :: rest)
  | [], x, _ => ⟨List.mem_cons_self, fun y hy => by simp at hy; subst hy; exact lt_irr _⟩
  | y :: rest, x, h => by
    have hx := h x List.mem_cons_self
    have hy := h y (by simp)
    show isMin (bestK ltB voD (if PySem.W.dataLt (voD y) (voD x) then y else x) rest) _
    cases e : PySem.W.dataLt (voD y) (voD x) with
    | true =>
      have ih := best_min rest y fun z hz => h z (List.mem_cons_of_mem _ hz)
      refine ⟨List.mem_cons_of_mem _ ih.1, fun z hz => ?_⟩
      have hb := h _ (List.mem_cons_of_mem _ ih.1)
      rcases List.mem_cons.mp hz with rfl | hz
      · exact le_tr hb hy (ih.2 y List.mem_cons_self) (dl_asy e)
      · exact ih.2 z hz
    | false =>
      have ih := best_min rest x fun z hz => h z (by rcases List.mem_cons.mp hz with rfl | hz <;> simp_all)
      have hm : bestK ltB voD x rest ∈ x :: y :: rest := by
        rcases List.mem_cons.mp ih.1 with e | hm
        · rw [e]; exact List.mem_cons_self
        · exact List.mem_cons_of_mem _ (List.mem_cons_of_mem _ hm)
      refine ⟨hm, fun z hz => ?_⟩
      have hb := h _ hm
      rcases List.mem_cons.mp hz with rfl | hz
      · exact ih.2 z List.mem_cons_self
      · rcases List.mem_cons.mp hz with rfl | hz
        · exact le_tr hb hx (ih.2 x List.mem_cons_self) e
        · exact ih.2 z (List.mem_cons_of_mem _ hz)
theorem best_max : ∀ (rest : List Dt) (x : Dt), (∀ y ∈ x :: rest, isVal y = true) → isMax (bestK gtB voD x rest) (x :: rest)
  | [], x, _ => ⟨List.mem_cons_self, fun y hy => by simp at hy; subst hy; exact lt_irr _⟩
  | y :: rest, x, h => by
    have hx := h x List.mem_cons_self
    have hy := h y (by simp)
    show isMax (bestK gtB voD (if PySem.W.dataLt (voD x) (voD y) then y else x) rest) _
    cases e : PySem.W.dataLt (voD x) (voD y) with
    | true =>
      have ih := best_max rest y fun z hz => h z (List.mem_cons_of_mem _ hz)
      refine ⟨List.mem_cons_of_mem _ ih.1, fun z hz => ?_⟩
      have hb := h _ (List.mem_cons_of_mem _ ih.1)
      rcases List.mem_cons.mp hz with rfl | hz
      · exact le_tr (h z (by simp)) hy (dl_asy e) (ih.2 y List.mem_cons_self)
      · exact ih.2 z hz
    | false =>
      have ih := best_max rest x fun z hz => h z (by rcases List.mem_cons.mp hz with rfl | hz <;> simp_all)
      have hm : bestK gtB voD x rest ∈ x :: y :: rest := by
        rcases List.mem_cons.mp ih.1 with e | hm
        · rw [e]; exact List.mem_cons_self
        · exact List.mem_cons_of_mem _ (List.mem_cons_of_mem _ hm)
      refine ⟨hm, fun z hz => ?_⟩
      have hb := h _ hm
      rcases List.mem_cons.mp hz with rfl | hz
      · exact ih.2 z List.mem_cons_self
      · rcases List.mem_cons.mp hz with rfl | hz
        · exact le_tr hy hx e (ih.2 x List.mem_cons_self)
        · exact ih.2 z (List.mem_cons_of_mem _ hz)
theorem srt_head {l : List Dt} {m : Dt} (h : (srt voD l).head? = some m) : isMin m l := by
  have pw := srt_pw voD l
  cases e : srt voD l with
  | nil => rw [e] at h; cases h
  | cons x t =>
    rw [e] at h pw
    cases h
    refine ⟨srt_mem.mp (by rw [e]; exact List.mem_cons_self), fun y hy => ?_⟩
    have hy := srt_mem (kf := voD).mpr hy
    rw [e] at hy
    rcases List.mem_cons.mp hy with rfl | hy
    · exact lt_irr _
    · exact (List.pairwise_cons.mp pw).1 y hy
theorem srt_last {l : List Dt} {m : Dt} (h : (srt voD l).getLast? = some m) : isMax m l := by
  have pw := srt_pw voD l
  obtain ⟨t, e⟩ := List.getLast?_eq_some_iff.mp h
  rw [e] at pw
  refine ⟨srt_mem.mp (by rw [e]; simp), fun y hy => ?_⟩
  have hy := srt_mem (kf := voD).mpr hy
  rw [e] at hy
  rcases List.mem_append.mp hy with hy | hy
  · exact (List.pairwise_append.mp pw).2.2 y hy m (by simp)
  · simp at hy; subst hy; exact lt_irr _
theorem srt_ne {l : List Dt} (h : l ≠ []) : srt voD l ≠ [] := fun e => h (by
  have := srt_len (kf := voD) (l := l)
  rw [e] at this
  exact List.eq_nil_of_length_eq_zero this.symm)
theorem best_head {x : Dt} {rest : List Dt} (h : ∀ y ∈ x :: rest, isVal y = true) : ((srt voD (x :: rest)).head?).getD .none = bestK ltB voD x rest := by
  cases e : (srt voD (x :: rest)).head? with
  | none => rw [List.head?_eq_none_iff] at e; exact absurd e (srt_ne (by simp))
  | some m => exact min_uniq h (srt_head e) (best_min rest x h)
theorem best_last {x : Dt} {rest : List Dt} (h : ∀ y ∈ x :: rest, isVal y = true) : ((srt voD (x :: rest)).getLast?).getD .none = bestK gtB voD x rest := by
  cases e : (srt voD (x :: rest)).getLast? with
  | none => rw [List.getLast?_eq_none_iff] at e; exact absurd e (srt_ne (by simp))
  | some m => exact max_uniq h (srt_last e) (best_max rest x h)
theorem min_perm {l m : List Dt} (hl : ∀ x ∈ l, isVal x = true) (h : ∀ x, x ∈ l ↔ x ∈ m) : ((srt voD l).head?).getD .none = ((srt voD m).head?).getD .none := by
  cases e : (srt voD l).head? with
  | none =>
    rw [List.head?_eq_none_iff] at e
    have : l = [] := by by_cases hn : l = []; exact hn; exact absurd e (srt_ne hn)
    subst this
    have : m = [] := List.eq_nil_iff_forall_not_mem.mpr fun x hx => absurd ((h x).mpr hx) (by simp)
    subst this
    rw [e]; rfl
  | some a =>
    cases e2 : (srt voD m).head? with
    | none =>
      rw [List.head?_eq_none_iff] at e2
      have : m = [] := by by_cases hn : m = []; exact hn; exact absurd e2 (srt_ne hn)
      subst this
      exact absurd ((h a).mp (srt_head e).1) (by simp)
    | some b =>
      have hb := srt_head e2
      exact min_uniq hl (srt_head e) ⟨(h b).mpr hb.1, fun y hy => hb.2 y ((h y).mp hy)⟩
theorem max_perm {l m : List Dt} (hl : ∀ x ∈ l, isVal x = true) (h : ∀ x, x ∈ l ↔ x ∈ m) : ((srt voD l).getLast?).getD .none = ((srt voD m).getLast?).getD .none := by
  cases e : (srt voD l).getLast? with
  | none =>
    rw [List.getLast?_eq_none_iff] at e
    have : l = [] := by by_cases hn : l = []; exact hn; exact absurd e (srt_ne hn)
    subst this
    have : m = [] := List.eq_nil_iff_forall_not_mem.mpr fun x hx => absurd ((h x).mpr hx) (by simp)
    subst this
    rw [e]; rfl
  | some a =>
    cases e2 : (srt voD m).getLast? with
    | none =>
      rw [List.getLast?_eq_none_iff] at e2
      have : m = [] := by by_cases hn : m = []; exact hn; exact absurd e2 (srt_ne hn)
      subst this
      exact absurd ((h a).mp (srt_last e).1) (by simp)
    | some b =>
      have hb := srt_last e2
      exact max_uniq hl (srt_last e) ⟨(h b).mpr hb.1, fun y hy => hb.2 y ((h y).mp hy)⟩
end K13

namespace K13
open PySem PySem.Spec PyProof.Rows L2 DX
local macro_rules | `(tactic| walk_at "w") => `(tactic| conv => whnf)
theorem k1 : isS "count" (.str "count") = true := by decide +kernel
theorem k2 : isS "count" (.str "sum") = false := by decide +kernel
theorem k3 : isS "sum" (.str "sum") = true := by decide +kernel
theorem k4 : isS "count" (.str "min") = false := by decide +kernel
theorem k5 : isS "sum" (.str "min") = false := by decide +kernel
theorem k6 : isS "min" (.str "min") = true := by decide +kernel
theorem k7 : isS "count" (.str "max") = false := by decide +kernel
theorem k8 : isS "sum" (.str "max") = false := by decide +kernel
theorem k9 : isS "min" (.str "max") = false := by decide +kernel
theorem fv_count (rows : List Dt) : foldV (.str "count") rows = .int rows.length := by
  unfold foldV; rw [k1]; rfl
theorem fv_sum (rows : List Dt) : foldV (.str "sum") rows = if -1000000000000 ≤ totL (rows.map firD) ∧ totL (rows.map firD) ≤ 1000000000000 then .int (totL (rows.map firD)) else .none := by
  unfold foldV; rw [k2, k3]; rfl
theorem fv_min (rows : List Dt) : foldV (.str "min") rows = ((srt voD (rows.map firD)).head?).getD .none := by
  unfold foldV; rw [k4, k5, k6]; rfl
theorem fv_max (rows : List Dt) : foldV (.str "max") rows = ((srt voD (rows.map firD)).getLast?).getD .none := by
  unfold foldV; rw [k7, k8, k9]; rfl
theorem row_cons {r : Dt} (h : gRow r) : ∃ v vs, r = .tuple (v :: vs) ∧ gVal v := by
  obtain ⟨vs, rfl, hv, h0, _⟩ := h
  cases vs with
  | nil => cases h0
  | cons v vs => exact ⟨v, vs, rfl, hv v List.mem_cons_self⟩
theorem at0 {v : Dt} {vs : List Dt} : atD (v :: vs) 0 = some v := atD_nat (j := 0) rfl
theorem firs_val {rows : List Dt} (h : ∀ r ∈ rows, gRow r) : ∀ v ∈ rows.map firD, gVal v := fun v hv => by
  obtain ⟨r, hr, rfl⟩ := List.mem_map.mp hv
  obtain ⟨v, vs, rfl, h1⟩ := row_cons (h r hr)
  exact h1
theorem firs_map (rows : List Dt) : (((rows.map Im.d).filter fun _ => true).map fun x => firD (datD x)) = rows.map firD := by
  rw [fil_true, List.map_map]; rfl
def isID (x : Im) : Bool := isI (datD x)
theorem ints_of (l : List Dt) : (((l.map Im.d).filter isID).map datD) = ((l.filter isI).map intV).map .int := by
  rw [List.filter_map, List.map_map]
  rw [show (l.filter (isID ∘ Im.d)) = l.filter isI from rfl, List.map_map]
  refine List.map_congr_left fun v hv => ?_
  have := (List.mem_filter.mp hv).2
  cases v <;> first | rfl | cases this
theorem gK (s : Str) : good (.str s) = true := rfl
theorem l_folded : lenOf S_folded 2 := fun ds Q R h => by
  unfold S_folded at h; split at h <;> first | rfl | exact h.elim
theorem l_law_fold : lenOf S_folded 2 := l_folded
/-- the first values of rows -/
theorem firs_ok {rows : List Dt} (h : rowsOk rows) : ((rows.map Im.d)).length ≤ sizeLine := by
  rw [List.length_map]; exact lzn (by have := h.2.2; omega)
theorem b_folded : bodyOf S_folded ev_folded ir_folded nm_folded := fun ds Q R h => by
  unfold S_folded at h; split at h
  · rename_i kd rows
    obtain ⟨hk, hr, hq⟩ := h
    have hz := firs_ok hr
    have hfv := firs_val hr.1
    have step : ∀ {M : Sto} {Γ : Ec} {K : Im → Sto → Prop}, ∀ x ∈ rows.map Im.d, ∃ v vs, x = .d (.tuple (v :: vs)) := fun {M Γ K} x hx => by
      obtain ⟨r, hm, rfl⟩ := List.mem_map.mp hx
      obtain ⟨v, vs, rfl, _⟩ := row_cons (hr.1 r hm)
      exact ⟨v, vs, rfl⟩
    rcases hk with rfl | rfl | rfl | rfl
    · rw [fv_count] at hq
      exact ⟨fun _ => hq, fun e => absurd e (by decide +kernel)⟩
    · rw [fv_sum] at hq
      refine ⟨fun e => absurd e (by decide +kernel), fun _ => ⟨hz, fun x => firD (datD x), fun _ => true, fun x hx acc => ?_, fun _ => trivial, ?_⟩⟩
      · obtain ⟨v, vs, rfl⟩ := step (M := []) (Γ := []) (K := fun _ _ => True) x hx
        refine ⟨rfl, rfl, fun _ => ?_⟩
        walk_at "w"
        rw [at0]
        exact ⟨rfl, rfl⟩
      walk_at "w"
      rw [firs_map]
      refine ⟨fun _ => ⟨by rw [List.length_map, List.length_map]; exact lzn (by have := hr.2.2; omega), datD, isID, fun x hx acc => ?_, fun _ => trivial, ?_⟩, fun e => absurd e (by decide +kernel)⟩
      · obtain ⟨v, hv, rfl⟩ := List.mem_map.mp hx
        rcases hfv v hv with ⟨i, rfl, _⟩ | ⟨s, rfl, _⟩
        · exact ⟨rfl, rfl, fun _ => ⟨rfl, rfl⟩⟩
        · exact ⟨rfl, rfl, fun e => (by cases e)⟩
      refine ⟨((rows.map firD).filter isI).map intV, ints_of _, ?_⟩
      generalize ht : (((rows.map firD).filter isI).map intV).sum = t
      have ht : totL (rows.map firD) = t := ht
      rw [ht] at hq
      refine ⟨⟨rfl, fun s e => (by cases e)⟩, ?_⟩
      walk_at "w"
      have e : (decide (-1000000000000 ≤ t) && decide (t ≤ 1000000000000)) = decide (-1000000000000 ≤ t ∧ t ≤ 1000000000000) := by
        rw [Bool.eq_iff_iff]; simp
      by_cases hb : -1000000000000 ≤ t ∧ t ≤ 1000000000000
      · rw [if_pos hb] at hq
        exact ⟨fun _ => hq, fun e' => absurd (show (decide (-1000000000000 ≤ t) && decide (t ≤ 1000000000000)) = false from e') (by rw [e, decide_eq_true hb]; simp)⟩
      · rw [if_neg hb] at hq
        exact ⟨fun e' => absurd (show (decide (-1000000000000 ≤ t) && decide (t ≤ 1000000000000)) = true from e') (by rw [e, decide_eq_false hb]; simp), fun _ => hq⟩
    · rw [fv_min] at hq
      refine ⟨fun e => absurd e (by decide +kernel), fun _ => ⟨hz, fun x => firD (datD x), fun _ => true, fun x hx acc => ?_, fun _ => trivial, ?_⟩⟩
      · obtain ⟨v, vs, rfl⟩ := step (M := []) (Γ := []) (K := fun _ _ => True) x hx
        refine ⟨rfl, rfl, fun _ => ?_⟩
        walk_at "w"
        rw [at0]
        exact ⟨rfl, rfl⟩
      walk_at "w"
      rw [firs_map]
      refine ⟨fun e => absurd e (by decide +kernel), fun _ => ⟨fun _ => ?_, fun e => absurd e (by decide +kernel)⟩⟩
      have hne : rows.map firD ≠ [] := fun e => by have := hr.2.1; rw [List.map_eq_nil_iff] at e; subst e; cases this
      generalize rows.map firD = fs at *
      cases fs with
      | nil => exact absurd rfl hne
      | cons x rest =>
        rw [best_head fun y hy => gVal_is (hfv y hy)] at hq
        exact ⟨voD, fun d hd => ⟨gVal_is (hfv d hd), rfl⟩, fun x hx y hy => ltOk_vo (gVal_is (hfv x hx)) (gVal_is (hfv y hy)), hq⟩
    · rw [fv_max] at hq
      refine ⟨fun e => absurd e (by decide +kernel), fun _ => ⟨hz, fun x => firD (datD x), fun _ => true, fun x hx acc => ?_, fun _ => trivial, ?_⟩⟩
      · obtain ⟨v, vs, rfl⟩ := step (M := []) (Γ := []) (K := fun _ _ => True) x hx
        refine ⟨rfl, rfl, fun _ => ?_⟩
        walk_at "w"
        rw [at0]
        exact ⟨rfl, rfl⟩
      walk_at "w"
      rw [firs_map]
      refine ⟨fun e => absurd e (by decide +kernel), fun _ => ⟨fun e => absurd e (by decide +kernel), fun _ => ?_⟩⟩
      have hne : rows.map firD ≠ [] := fun e => by have := hr.2.1; rw [List.map_eq_nil_iff] at e; subst e; cases this
      generalize rows.map firD = fs at *
      cases fs with
      | nil => exact absurd rfl hne
      | cons x rest =>
        rw [best_last fun y hy => gVal_is (hfv y hy)] at hq
        exact ⟨voD, fun d hd => ⟨gVal_is (hfv d hd), rfl⟩, fun x hx y hy => ltOk_vo (gVal_is (hfv x hx)) (gVal_is (hfv y hy)), hq⟩
  · exact h.elim
theorem b_law_fold : bodyOf S_folded ev_law_fold ir_law_fold nm_law_fold := fun ds Q R h => by
  unfold S_folded at h; split at h
  · rename_i kd rows
    obtain ⟨hk, hr, hq⟩ := h
    have hz := firs_ok hr
    have hfv := firs_val hr.1
    refine ⟨hz, fun x => firD (datD x), fun _ => true, fun x hx acc => ?_, fun _ => trivial, ?_⟩
    · obtain ⟨r, hm, rfl⟩ := List.mem_map.mp hx
      obtain ⟨v, vs, rfl, _⟩ := row_cons (hr.1 r hm)
      refine ⟨rfl, rfl, fun _ => ?_⟩
      walk_at "w"
      rw [at0]
      exact ⟨rfl, rfl⟩
    walk_at "w"
    rw [firs_map]
    have hlen : (rows.map firD).length = rows.length := List.length_map ..
    have hne : rows.map firD ≠ [] := fun e => by have := hr.2.1; rw [e] at hlen; simp at hlen; omega
    have hso : sortOk ((rows.map firD).map voD) := by
      refine ⟨fun d hd d' hd' => ?_, .inl fun d hd => ?_, fun d hd => ?_⟩
      · obtain ⟨x, hx, rfl⟩ := List.mem_map.mp hd
        obtain ⟨y, hy, rfl⟩ := List.mem_map.mp hd'
        exact vo_alike (gVal_is (hfv x hx)) (gVal_is (hfv y hy))
      · obtain ⟨x, hx, rfl⟩ := List.mem_map.mp hd
        rcases hfv x hx with ⟨i, rfl, _⟩ | ⟨s, rfl, _⟩ <;> exact ⟨_, _, rfl⟩
      · obtain ⟨x, hx, rfl⟩ := List.mem_map.mp hd
        exact Nat.le_trans (vo_flat (gVal_is (hfv x hx))).2 (by decide)
    rcases hk with rfl | rfl | rfl | rfl
    · rw [fv_count, ← hlen] at hq
      exact ⟨fun _ => hq, fun e => absurd e (by decide +kernel)⟩
    · rw [fv_sum] at hq
      refine ⟨fun e => absurd e (by decide +kernel), fun _ => ⟨fun _ => ⟨by rw [List.length_map, List.length_map]; exact lzn (by have := hr.2.2; omega), datD, isID, fun x hx acc => ?_, fun _ => trivial, ?_⟩, fun e => absurd e (by decide +kernel)⟩⟩
      · obtain ⟨v, hv, rfl⟩ := List.mem_map.mp hx
        rcases hfv v hv with ⟨i, rfl, _⟩ | ⟨s, rfl, _⟩
        · exact ⟨rfl, rfl, fun _ => ⟨rfl, rfl⟩⟩
        · exact ⟨rfl, rfl, fun e => (by cases e)⟩
      refine ⟨((rows.map firD).filter isI).map intV, ints_of _, ?_⟩
      generalize ht : (((rows.map firD).filter isI).map intV).sum = t
      have ht : totL (rows.map firD) = t := ht
      rw [ht] at hq
      refine ⟨lz2, cpow10, fun e1 => ⟨cpow10, ?_⟩, fun e1 => ?_⟩
      · have p : (10 : Int) ^ Int.toNat 12 = 1000000000000 := by decide
        rw [p] at e1
        have e1 := of_decide_eq_true e1
        walk_at "w"
        rw [p]
        by_cases hb : -1000000000000 ≤ t
        · rw [if_pos ⟨hb, e1⟩] at hq
          rw [decide_eq_true hb]
          exact hq
        · rw [if_neg (fun h => hb h.1)] at hq
          rw [decide_eq_false hb]
          exact hq
      · have p : (10 : Int) ^ Int.toNat 12 = 1000000000000 := by decide
        rw [p] at e1
        have e1 := of_decide_eq_false e1
        rw [if_neg (fun h => e1 h.2)] at hq
        exact hq
    · rw [fv_min] at hq
      refine ⟨fun e => absurd e (by decide +kernel), fun _ => ⟨fun e => absurd e (by decide +kernel), fun _ => ⟨voD, fun d hd => ⟨gVal_is (hfv d hd), rfl⟩, hso, ?_⟩⟩⟩
      cases es : srt voD (rows.map firD) with
      | nil => exact absurd es (srt_ne hne)
      | cons x t =>
        obtain ⟨z, ez⟩ : ∃ z, (x :: t).getLast? = some z := by
          cases e : (x :: t).getLast? with
          | none => rw [List.getLast?_eq_none_iff] at e; cases e
          | some z => exact ⟨z, rfl⟩
        rw [es] at hq
        skip
        walk_at "w"
        rw [show (rows.map firD).mergeSort (PySem.W.dataLe false voD) = x :: t from es, at0]
        walk_at "w"
        rw [show atD (x :: t) (-1) = some z from atD_last ez]
        refine ⟨lz2, ?_⟩
        exact hq
    · rw [fv_max] at hq
      refine ⟨fun e => absurd e (by decide +kernel), fun _ => ⟨fun e => absurd e (by decide +kernel), fun _ => ⟨voD, fun d hd => ⟨gVal_is (hfv d hd), rfl⟩, hso, ?_⟩⟩⟩
      cases es : srt voD (rows.map firD) with
      | nil => exact absurd es (srt_ne hne)
      | cons x t =>
        obtain ⟨z, ez⟩ : ∃ z, (x :: t).getLast? = some z := by
          cases e : (x :: t).getLast? with
          | none => rw [List.getLast?_eq_none_iff] at e; cases e
          | some z => exact ⟨z, rfl⟩
        rw [es] at hq
        rw [ez] at hq
        walk_at "w"
        rw [show (rows.map firD).mergeSort (PySem.W.dataLe false voD) = x :: t from es, at0]
        walk_at "w"
        rw [show atD (x :: t) (-1) = some z from atD_last ez]
        refine ⟨lz2, ?_⟩
        exact hq
  · exact h.elim
end K13

namespace K13
open PySem PySem.Spec PyProof.Rows L2 DX
local macro_rules | `(tactic| walk_at "w") => `(tactic| conv => whnf)
def KV : Nat → List (Dt × Dt) → Prop
  | 0, kvs => kvs = []
  | 1, kvs => ∃ x, gVal x ∧ kvs = [(.str "X", x)]
  | 2, kvs => ∃ x y, gVal x ∧ gVal y ∧ kvs = [(.str "X", x), (.str "Y", y)]
  | 3, kvs => ∃ x y z, gVal x ∧ gVal y ∧ gVal z ∧ kvs = [(.str "X", x), (.str "Y", y), (.str "Z", z)]
  | _, kvs => ∃ x y z n, gVal x ∧ gVal y ∧ gVal z ∧ gVal n ∧ kvs = [(.str "X", x), (.str "Y", y), (.str "Z", z), (.str "N", n)]
theorem dPut_new {kvs : List (Dt × Dt)} {k x : Dt} (h : dGet kvs k = none) : dPut kvs k x = kvs ++ [(k, x)] := by
  unfold dPut; rw [h]; rfl
theorem six_val {v : Dt} (h : v ∈ ([.int 0, .int 1, .int 2, .str "a", .int (10 ^ Int.toNat 12), .int (-10 ^ Int.toNat 12)] : List Dt)) : gVal v := by
  simp only [List.mem_cons, List.not_mem_nil, or_false] at h
  rcases h with rfl | rfl | rfl | rfl | rfl | rfl
  · exact .inl ⟨0, rfl, by decide⟩
  · exact .inl ⟨1, rfl, by decide⟩
  · exact .inl ⟨2, rfl, by decide⟩
  · exact .inr ⟨_, rfl, by decide⟩
  · exact .inl ⟨_, rfl, by decide⟩
  · exact .inl ⟨_, rfl, by decide⟩
theorem lz6 : 6 ≤ sizeLine := by decide
def NM : List Dt := [.str "X", .str "Y", .str "Z", .str "N"]
theorem KV_step {j : Nat} {kvs : List (Dt × Dt)} {k v : Dt} (hj : NM[j]? = some k) (h : KV j kvs) (hv : gVal v) : kindOk (kvs.map fun p => (p.1, Im.d p.2)) k = true ∧ kvs.length < sizeLine ∧ KV (j + 1) (dPut kvs k v) := by
  have a2 : keyB (.str "X") (.str "Y") = false := by decide +kernel
  have a3 : keyB (.str "X") (.str "Z") = false := by decide +kernel
  have a4 : keyB (.str "X") (.str "N") = false := by decide +kernel
  have b3 : keyB (.str "Y") (.str "Z") = false := by decide +kernel
  have b4 : keyB (.str "Y") (.str "N") = false := by decide +kernel
  have c4 : keyB (.str "Z") (.str "N") = false := by decide +kernel
  match j, hj with
  | 0, hj =>
    cases hj; cases h
    exact ⟨rfl, ltr rfl, v, hv, by rw [dPut_new (by simp [dGet])]; rfl⟩
  | 1, hj =>
    cases hj; obtain ⟨x, hx, rfl⟩ := h
    exact ⟨rfl, ltr rfl, x, v, hx, hv, by rw [dPut_new (by simp [dGet, a2])]; rfl⟩
  | 2, hj =>
    cases hj; obtain ⟨x, y, hx, hy, rfl⟩ := h
    exact ⟨rfl, ltr rfl, x, y, v, hx, hy, hv, by rw [dPut_new (by simp [dGet, a3, b3])]; rfl⟩
  | 3, hj =>
    cases hj; obtain ⟨x, y, z, hx, hy, hz, rfl⟩ := h
    exact ⟨rfl, ltr rfl, x, y, z, v, hx, hy, hz, hv, by rw [dPut_new (by simp [dGet, a4, b4, c4])]; rfl⟩
  | n + 4, hj => cases hj
theorem l_law_ways : lenOf S_law_ways 1 := fun ds Q R h => by
  unfold S_law_ways at h; split at h <;> first | rfl | exact h.elim
theorem b_law_ways : bodyOf S_law_ways ev_law_ways ir_law_ways nm_law_ways := fun ds Q R h => by
  unfold S_law_ways at h; split at h
  · rename_i n
    obtain ⟨hn, hn0, hq⟩ := h
    have h15 := Int.emod_nonneg n (show (15 : Int) ≠ 0 by decide)
    have h15' := Int.emod_lt_of_pos n (show (0 : Int) < 15 by decide)
    refine ⟨Nat.zero_le _, lz1, ⟨by decide, by decide⟩, ⟨by omega, by omega⟩, fun i Γ M => ∃ o2 o3 o4 o5 fs m, Γ = [some (.d (.int n)), some (.p 0), o2, o3, o4, o5] ∧ M = [.dl fs, .dl [.int m]] ∧ (∀ b ∈ fs, gBd b) ∧ fs.length ≤ 2 * i, ⟨_, _, _, _, [], _, rfl, rfl, fun b h => absurd h (by simp), Nat.le_refl 0⟩, fun i x Γ M hx hj => ⟨trivial, ?_⟩, fun Γ M hj => ⟨trivial, ?_⟩⟩
    · have hi := intsL_lt hx
      obtain ⟨hi2, rfl⟩ := intsL_get hx
      obtain ⟨o2, o3, o4, o5, fs, m0, rfl, rfl, hb, hl⟩ := hj
      have hi3 : i < 15 := by omega
      refine ⟨lz1, [n], 1048800, rfl, ?_, fun x hx => (by simp at hx; subst hx; exact hn), by decide, lz1, ?_⟩
      · have e : (2 : Nat) ^ 40 = 1099511627776 := by decide
        omega
      generalize numL [n] (10 + (0 + (i : Int))) = N
      refine ⟨lz4, fun j Γ M => ∃ o5 m kvs, Γ = [some (.d (.int n)), some (.p 0), some (.d (.int (0 + (i : Int)))), some (.p 2), some (.p 3), o5] ∧ M = [.dl fs, .dl [.int m0], .dl [.int m], .dd kvs] ∧ KV j kvs, ⟨_, _, [], rfl, rfl, rfl⟩, fun j x Γ M hx hj => ⟨trivial, ?_⟩, fun Γ M hj => ⟨trivial, ?_⟩⟩
      · obtain ⟨k, hk, _, rfl⟩ := mem_im (xs := NM) hx
        obtain ⟨o5, m, kvs, rfl, rfl, hkv⟩ := hj
        obtain ⟨v, hv, ev⟩ := at_mod (ds := ([.int 0, .int 1, .int 2, .str "a", .int (10 ^ Int.toNat 12), .int (-10 ^ Int.toNat 12)] : List Dt)) m (m := 6) rfl (by decide)
        have hg := six_val hv
        obtain ⟨g1, g2, g3⟩ := KV_step hk hkv hg
        refine ⟨cpow10, cpow10, lz6, ⟨by decide, by decide⟩, ?_⟩
        walk_at "w"
        rw [ev]
        exact ⟨g1, by rw [List.length_map]; exact g2, .inl ⟨_, Fo.refl _, _, _, _, rfl, rfl, g3⟩⟩
      · obtain ⟨o5, m, kvs, rfl, rfl, hkv⟩ := hj
        obtain ⟨x, y, z, w, gx, gy, gz, gw, rfl⟩ := hkv
        have g : gBd (bdD x y z w) := ⟨x, y, z, w, gx, gy, gz, gw, rfl⟩
        have h1 : ∀ b ∈ fs ++ [bdD x y z w], gBd b := fun b hb' => (List.mem_append.mp hb').elim (hb b) fun h => by simp at h; subst h; exact g
        have h2 : ∀ b ∈ fs ++ [bdD x y z w] ++ [bdD x y z w], gBd b := fun b hb' => (List.mem_append.mp hb').elim (h1 b) fun h => by simp at h; subst h; exact g
        refine ⟨[3], lzl (by omega), ⟨by decide, by decide⟩, fun e => ⟨rfl, ?_⟩, fun e => ?_⟩
        · refine ⟨lzl (by rw [List.length_append]; simp; omega), .inr ⟨[some (.d (.int n)), some (.p 0), some (.d (.int (0 + (i : Int)))), none, none, none], [.dl (fs ++ [bdD x y z w] ++ [bdD x y z w]), .dl [.int m0]], se_mk _ ⟨rfl, rfl, rfl, trivial⟩ rfl rfl (Nat.le_refl 2), _, _, _, _, _, _, rfl, rfl, h2, by rw [List.length_append, List.length_append]; simp; omega⟩⟩
        · exact .inr ⟨[some (.d (.int n)), some (.p 0), some (.d (.int (0 + (i : Int)))), none, none, none], [.dl (fs ++ [bdD x y z w]), .dl [.int m0]], se_mk _ ⟨rfl, rfl, rfl, trivial⟩ rfl rfl (Nat.le_refl 2), _, _, _, _, _, _, rfl, rfl, h1, by rw [List.length_append]; simp; omega⟩
    · obtain ⟨o2, o3, o4, o5, fs, m0, rfl, rfl, hb, hl⟩ := hj
      exact hq fs ⟨hb, by
        have : (intsL 0 (n % 15).toNat).length = (n % 15).toNat := by simp [intsL]
        rw [this] at hl
        omega⟩
  · exact h.elim
end K13

namespace K13
open PySem PySem.Spec PyProof.Rows L2 DX
local macro_rules | `(tactic| walk_at "w") => `(tactic| conv => whnf)
def prs (rows : List Dt) : List (Dt × Dt) := rows.map fun r => (r, .bool true)
abbrev dictR (rows : List Dt) : Dt := .dict (prs rows)
theorem dctC_kvs (l : List (Dt × Im)) : (dctC l).kvs = some l := by
  unfold dctC
  split
  · rename_i ds e; rw [kvsD_eq e]; rfl
  · rfl
theorem kvsD_map (ds : List (Dt × Dt)) : kvsD (ds.map fun p => (p.1, Im.d p.2)) = some ds := by
  induction ds with
  | nil => rfl
  | cons p ds ih =>
    rw [List.map_cons]
    unfold kvsD
    rw [ih]
theorem kvsD_ptr : ∀ {l : List (Dt × Im)} {k : Dt} {n : Nat}, (k, Im.p n) ∈ l → kvsD l = none
  | (k', .p m) :: l, _, _, _ => rfl
  | (k', .d x) :: l, k, n, h => by
    rcases List.mem_cons.mp h with e | h
    · cases e
    · unfold kvsD; rw [kvsD_ptr h]
theorem dctC_ptr {l : List (Dt × Im)} {k : Dt} {n : Nat} (h : (k, Im.p n) ∈ l) : dctC l = .dct l := by
  unfold dctC; rw [kvsD_ptr h]
theorem dctC_data (ds : List (Dt × Dt)) : dctC (ds.map fun p => (p.1, Im.d p.2)) = .dd ds := by
  unfold dctC; rw [kvsD_map]
theorem setC_ptr {l : List (Dt × Im)} {k : Dt} {n : Nat} (h : dGet l k = none) : setC (dctC l) k (.p n) = dctC (l ++ [(k, .p n)]) := by
  have e : dPut l k (Im.p n) = l ++ [(k, .p n)] := by unfold dPut; rw [h]; rfl
  rw [dctC_ptr (l := l ++ [(k, Im.p n)]) (k := k) (n := n) (by simp), ← e]
  unfold dctC
  split
  · rename_i ds e2; rw [kvsD_eq e2]; rfl
  · rfl
abbrev TT := List (Dt × Nat × List Dt)
def kT (t : Dt × Nat × List Dt) : Dt × Im := (t.1, .p t.2.1)
def kD2 (p : Dt × List Dt) : Dt × Im := (p.1, .d (dictR p.2))
/-- the G-th cell is a dict: its first values are data, the others cells of their own -/
structure TS (G : Nat) (done : List (Dt × List Dt)) (T : TT) (M : Sto) : Prop where
  g : M[G]? = some (dctC (done.map kD2 ++ T.map kT))
  nd : (T.map fun t => t.2.1).Nodup
  c : ∀ t ∈ T, G < t.2.1 ∧ M[t.2.1]? = some (.dd (prs t.2.2))
theorem fzM_at {k : Nat} {x : Dt} {M : Sto} {j : Nat} {c : Cel} (h : M[j]? = some c) (hj : j ≠ k) : (fzM k x M)[j]? = some (fzC k x c) := by
  unfold fzM
  rw [List.getElem?_set_ne (Ne.symm hj), List.getElem?_map, h]; rfl
theorem TS.step {G : Nat} {done : List (Dt × List Dt)} {t : Dt × Nat × List Dt} {T : TT} {M : Sto} (h : TS G done (t :: T) M) : TS G (done ++ [(t.1, t.2.2)]) T (fzM t.2.1 (dictR t.2.2) M) := by
  obtain ⟨hg, hn, hc⟩ := h
  have ht := hc t List.mem_cons_self
  rw [List.map_cons, List.nodup_cons] at hn
  refine ⟨?_, hn.2, fun u hu => ⟨(hc u (List.mem_cons_of_mem _ hu)).1, ?_⟩⟩
  · rw [fzM_at hg (Nat.ne_of_lt ht.1)]
    rw [dctC_ptr (k := t.1) (n := t.2.1) (by simp [kT])]
    show some (dctC _) = _
    congr 2
    rw [List.map_append, List.map_map, List.map_append, List.map_cons, List.map_cons, List.append_assoc]
    congr 1
    show _ :: _ = _ :: _
    congr 1
    · show (t.1, fzI t.2.1 (dictR t.2.2) (.p t.2.1)) = _
      rw [fzI_same]; rfl
    · show List.map _ (T.map kT) = T.map kT
      rw [List.map_map]
      refine List.map_congr_left fun u hu => ?_
      show (u.1, fzI t.2.1 (dictR t.2.2) (.p u.2.1)) = _
      rw [fzI_ne _ (fun e => hn.1 (List.mem_map.mpr ⟨u, hu, e⟩))]; rfl
  · have hu' := (hc u (List.mem_cons_of_mem _ hu)).2
    rw [fzM_at hu' (fun e => hn.1 (List.mem_map.mpr ⟨u, hu, e⟩))]; rfl
theorem fz_all {G : Nat} {PG : Ec → Sto → Prop} (hP : ∀ c x Γ M, G < c → PG Γ M → PG (fzE c x Γ) (fzM c x M)) {ks : List Nat} {K : Ec → Sto → Prop} : ∀ (T : TT) (done : List (Dt × List Dt)) (Γ : Ec) (M : Sto), TS G done T M → PG Γ M →
    (∀ Γ' M', PG Γ' M' → M'[G]? = some (.dd ((done ++ T.map fun t => (t.1, t.2.2)).map fun p => (p.1, dictR p.2))) → fzW ks Γ' M' K) → fzW (T.map (fun t => t.2.1) ++ ks) Γ M K
  | [], done, Γ, M, h, hp, fin => by
    refine fin Γ M hp ?_
    rw [h.g]
    simp only [List.map_nil, List.append_nil]
    congr 1
    rw [← dctC_data, List.map_map]; rfl
  | t :: T, done, Γ, M, h, hp, fin => by
    have ht := h.c t List.mem_cons_self
    rw [List.map_cons, List.cons_append]
    unfold fzW
    rw [ht.2]
    refine fz_all hP T (done ++ [(t.1, t.2.2)]) _ _ h.step (hP _ _ _ _ ht.1 hp) fun Γ' M' hp' hg => fin Γ' M' hp' ?_
    rw [hg, List.append_assoc]; rfl
theorem gs_split (g r : Dt) : ∀ gs : List (Dt × List Dt), (g ∉ gs.map (·.1) ∧ grpP g r gs = gs ++ [(g, [r])]) ∨ ∃ a rows b, gs = a ++ (g, rows) :: b ∧ g ∉ a.map (·.1) ∧ grpP g r gs = a ++ (g, addK rows r) :: b
  | [] => .inl ⟨by simp, rfl⟩
  | (h, rows) :: t => by
    by_cases e : h = g
    · subst e
      exact .inr ⟨[], rows, t, rfl, by simp, by unfold grpP; rw [if_pos rfl]; rfl⟩
    · have eq : grpP g r ((h, rows) :: t) = (h, rows) :: grpP g r t := by
        conv => lhs; unfold grpP
        rw [if_neg e]
      rcases gs_split g r t with ⟨h1, h2⟩ | ⟨a, rs, b, rfl, h1, h2⟩
      · exact .inl ⟨by simp only [List.map_cons, List.mem_cons, not_or]; exact ⟨fun z => e z.symm, h1⟩, by rw [eq, h2]; rfl⟩
      · exact .inr ⟨(h, rows) :: a, rs, b, rfl, by simp only [List.map_cons, List.mem_cons, not_or]; exact ⟨fun z => e z.symm, h1⟩, by rw [eq, h2]; rfl⟩
theorem dGet_mid {k : Dt} {v : Im} {a b : List (Dt × Im)} (hk : ky k = true) (ha : ∀ p ∈ a, ky p.1 = true) (hn : k ∉ a.map (·.1)) : dGet (a ++ (k, v) :: b) k = some v := by
  unfold dGet
  rw [List.find?_append]
  have e : (a.find? fun p => keyB p.1 k) = none := List.find?_eq_none.mpr fun p hp => by
    rw [keyB_eq (ha p hp) hk]
    exact fun h => hn (List.mem_map.mpr ⟨p, hp, of_decide_eq_true h⟩)
  rw [e]
  show ((((k, v) :: b).find? fun p => keyB p.1 k).map (·.2)) = _
  rw [List.find?_cons, show keyB k k = true by rw [keyB_eq hk hk]; simp]
  rfl
structure gsOk (n : Nat) (gs : List (Dt × List Dt)) : Prop where
  l : gs.length ≤ n
  nd : (gs.map (·.1)).Nodup
  g : ∀ p ∈ gs, rowV p.1 ∧ (∀ r ∈ p.2, gRow r) ∧ 0 < p.2.length ∧ p.2.length ≤ n
theorem grpP_ok {n : Nat} {gs : List (Dt × List Dt)} {g r : Dt} (h : gsOk n gs) (hg : rowV g) (hr : gRow r) : gsOk (n + 1) (grpP g r gs) := by
  rcases gs_split g r gs with ⟨h1, h2⟩ | ⟨a, rows, b, rfl, h1, h2⟩
  · rw [h2]
    refine ⟨by rw [List.length_append]; have := h.l; simp; omega, ?_, fun p hp => ?_⟩
    · rw [List.map_append]
      exact List.nodup_append.mpr ⟨h.nd, by simp, fun x hx y hy => by simp at hy; subst hy; exact fun e => h1 (e ▸ hx)⟩
    · rcases List.mem_append.mp hp with hp | hp
      · have := h.g p hp
        exact ⟨this.1, this.2.1, this.2.2.1, Nat.le_succ_of_le this.2.2.2⟩
      · simp at hp; subst hp
        exact ⟨hg, fun x hx => by simp at hx; subst hx; exact hr, Nat.zero_lt_one, by simp⟩
  · rw [h2]
    refine ⟨by have := h.l; simp at this ⊢; omega, by have := h.nd; simpa using this, fun p hp => ?_⟩
    have old : ∀ q ∈ a ++ (g, rows) :: b, rowV q.1 ∧ (∀ r ∈ q.2, gRow r) ∧ 0 < q.2.length ∧ q.2.length ≤ n := h.g
    rcases List.mem_append.mp hp with hp | hp
    · have := old p (by simp [hp])
      exact ⟨this.1, this.2.1, this.2.2.1, Nat.le_succ_of_le this.2.2.2⟩
    · rcases List.mem_cons.mp hp with rfl | hp
      · have := old (g, rows) (by simp)
        refine ⟨hg, fun x hx => (addK_mem.mp hx).elim (this.2.1 x) fun e => e ▸ hr, ?_, Nat.le_trans addK_len (Nat.succ_le_succ this.2.2.2)⟩
        have h0 : r ∈ addK rows r := addK_mem.mpr (.inr rfl)
        exact List.length_pos_of_mem h0
      · have := old p (by simp [hp])
        exact ⟨this.1, this.2.1, this.2.2.1, Nat.le_succ_of_le this.2.2.2⟩
theorem row_ky {r : Dt} (h : gRow r) : rowV r := by
  obtain ⟨vs, rfl, hv, _, hl⟩ := h
  exact ⟨vs, rfl, fun v hm => gVal_is (hv v hm), by omega⟩
theorem dPut_prs {rows : List Dt} {r : Dt} (hr : ∀ x ∈ rows, rowV x) (h : rowV r) : dPut (prs rows) r (.bool true) = prs (addK rows r) := by
  have hk := (rowV_ky h).1
  have hks : ∀ p ∈ prs rows, ky p.1 = true := fun p hp => by
    obtain ⟨x, hx, rfl⟩ := List.mem_map.mp hp
    exact (rowV_ky (hr x hx)).1
  have e1 : (prs rows).map (·.1) = rows := by unfold prs; rw [List.map_map]; exact List.map_id' _
  have hs := dGet_isSome hk hks
  rw [e1] at hs
  unfold dPut addK
  rw [hs]
  by_cases e : r ∈ rows
  · rw [if_pos (decide_eq_true e), if_pos e]
    unfold prs
    rw [List.map_map]
    refine List.map_congr_left fun x hx => ?_
    show (if keyB x r then (x, PyData.bool true) else (x, .bool true)) = _
    split <;> rfl
  · rw [if_neg (by simpa using e), if_neg e]
    unfold prs
    rw [List.map_append]; rfl
theorem kind_rows {α : Type} {kvs : List (Dt × α)} {k : Dt} (hk : rowV k) (h : ∀ p ∈ kvs, rowV p.1) : kindOk kvs k = true := kind_of .tup (rowV_ky hk).2 fun p hp => (rowV_ky (h p hp)).2
abbrev piT (t : Dt × Nat × List Dt) : Dt × List Dt := (t.1, t.2.2)
/-- the two statements of a turn: d = groups.setdefault(g, {}); d[r] = True -/
theorem grp_turn {G n : Nat} {g r : Dt} {T : TT} {M : Sto} (hT : TS G [] T M) (ho : gsOk n (T.map piT)) (hn : n ≤ 100) (hg : rowV g) (hr : gRow r) {Q : QE} {K : Sto → Prop}
    (h : ∀ T' M', TS G [] T' M' → T'.map piT = grpP g r (T.map piT) → (∀ j, j < M.length → j ≠ G → (∀ t ∈ T, t.2.1 ≠ j) → M'[j]? = M[j]?) → M.length ≤ M'.length → K M') (hGl : ∀ j, j < G → M[j]? ≠ none)
    (hQ : ∀ c M1, dsetW c r (.d (.bool true)) M1 K → Q (.p c) M1) : dsetdW (.p G) (.d g) (.p M.length) (M ++ [.dd []]) Q := by
  obtain ⟨tg, tn, tc⟩ := hT
  have hGM : G < M.length := (List.getElem?_eq_some_iff.mp tg).1
  have tg1 : (M ++ [Cel.dd []])[G]? = some (dctC (T.map kT)) := by rw [List.getElem?_append_left hGM]; exact tg
  have hT1 : T.length ≤ n := by have := ho.l; rwa [List.length_map] at this
  have hrow : ∀ t ∈ T, rowV t.1 := fun t ht => (ho.g (piT t) (List.mem_map.mpr ⟨t, ht, rfl⟩)).1
  have hk := (rowV_ky hg).1
  have hks : ∀ p ∈ T.map kT, ky p.1 = true := fun p hp => by
    obtain ⟨t, ht, rfl⟩ := List.mem_map.mp hp
    exact (rowV_ky (hrow t ht)).1
  have hkv : ∀ p ∈ T.map kT, rowV p.1 := fun p hp => by
    obtain ⟨t, ht, rfl⟩ := List.mem_map.mp hp
    exact hrow t ht
  have hdic : dicI (M ++ [Cel.dd []]) (.p G) = some (T.map kT) := by
    show (match (M ++ [Cel.dd []])[G]? with
      | some c => c.kvs
      | _ => none) = _
    rw [tg1]
    exact dctC_kvs _
  unfold dsetdW
  rw [hdic]
  refine ⟨kind_rows hg hkv, by rw [List.length_map]; exact lzl (by omega), ?_⟩
  have keysE : (T.map kT).map (·.1) = (T.map piT).map (·.1) := by rw [List.map_map, List.map_map]; rfl
  rcases gs_split g r (T.map piT) with ⟨h1, h2⟩ | ⟨a, rows, b, h0, h1, h2⟩
  · -- a new group
    have hd : dGet (T.map kT) g = none := (dGet_none hk hks).mpr (by rw [keysE]; exact h1)
    rw [hd]
    show dsetW G g (.p M.length) (M ++ [.dd []]) _
    unfold dsetW
    rw [tg1]
    dsimp only
    rw [dctC_kvs]
    refine ⟨kind_rows hg hkv, by rw [List.length_map]; exact lzl (by omega), hQ _ _ ?_⟩
    rw [setC_ptr hd]
    unfold dsetW
    have e1 : ((M ++ [Cel.dd []]).set G (dctC (T.map kT ++ [(g, .p M.length)])))[M.length]? = some (.dd []) := by
      rw [List.getElem?_set_ne (Nat.ne_of_lt hGM)]; simp
    rw [e1]
    refine ⟨kind_rows (row_ky hr) (fun p hp => absurd hp (by simp)), by decide, h (T ++ [(g, M.length, [r])]) _ ?_ ?_ ?_ ?_⟩
    · refine ⟨?_, ?_, fun t ht => ?_⟩
      · rw [List.getElem?_set_ne (Nat.ne_of_gt hGM), List.getElem?_set_self (by simp; omega), List.map_append]; rfl
      · rw [List.map_append]
        refine List.nodup_append.mpr ⟨tn, by simp, fun x hx y hy => ?_⟩
        simp at hy; subst hy
        obtain ⟨t, ht, rfl⟩ := List.mem_map.mp hx
        exact Nat.ne_of_lt (List.getElem?_eq_some_iff.mp (tc t ht).2).1
      · rcases List.mem_append.mp ht with ht | ht
        · have := tc t ht
          have hl := (List.getElem?_eq_some_iff.mp this.2).1
          refine ⟨this.1, ?_⟩
          rw [List.getElem?_set_ne (Nat.ne_of_gt hl), List.getElem?_set_ne (Nat.ne_of_lt this.1), List.getElem?_append_left hl]
          exact this.2
        · simp at ht; subst ht
          refine ⟨hGM, ?_⟩
          rw [List.getElem?_set_self (by simp)]; rfl
    · rw [h2, List.map_append]; rfl
    · intro j hj hjG hjT
      rw [List.getElem?_set_ne (Nat.ne_of_gt hj), List.getElem?_set_ne (Ne.symm hjG), List.getElem?_append_left hj]
    · simp
  · -- an old one
    obtain ⟨T1, T2', rfl, ea, e2⟩ := List.map_eq_append_iff.mp h0
    obtain ⟨t, T2, rfl, et, eb⟩ := List.map_eq_cons_iff.mp e2
    obtain ⟨g', c, rows'⟩ := t
    have et : (g', rows') = (g, rows) := et
    cases et
    have hd : dGet ((T1 ++ (g, c, rows) :: T2).map kT) g = some (.p c) := by
      rw [List.map_append]
      refine dGet_mid hk (fun p hp => hks p (by rw [List.map_append]; exact List.mem_append_left _ hp)) ?_
      rw [← ea] at h1
      rw [List.map_map] at h1 ⊢
      exact h1
    rw [hd]
    refine hQ _ _ ?_
    have hc := tc (g, c, rows) (by simp)
    have hcl := (List.getElem?_eq_some_iff.mp hc.2).1
    have hro := (ho.g (g, rows) (by rw [h0]; simp)).2
    have hro2 : rows.length ≤ n := hro.2.2
    have hcl : c < M.length := hcl
    unfold dsetW
    have e1 : (M ++ [Cel.dd []])[c]? = some (.dd (prs rows)) := by rw [List.getElem?_append_left hcl]; exact hc.2
    rw [e1]
    have hrv : ∀ x ∈ rows, rowV x := fun x hx => row_ky (hro.1 x hx)
    refine ⟨kind_rows (row_ky hr) (fun p hp => ?_), by rw [List.length_map]; unfold prs; rw [List.length_map]; have := hro.2.2; exact lzl (by omega), h (T1 ++ (g, c, addK rows r) :: T2) _ ?_ ?_ ?_ ?_⟩
    · obtain ⟨q, hq, rfl⟩ := List.mem_map.mp hp
      obtain ⟨x, hx, rfl⟩ := List.mem_map.mp hq
      exact hrv x hx
    · rw [show setC (.dd (prs rows)) r (.d (.bool true)) = .dd (prs (addK rows r)) by show Cel.dd (dPut (prs rows) r (.bool true)) = _; rw [dPut_prs hrv (row_ky hr)]]
      have nd' : (T1.map fun t => t.2.1).Nodup ∧ ((c :: T2.map fun t => t.2.1)).Nodup ∧ ∀ x ∈ (T1.map fun t => t.2.1), ∀ y ∈ (c :: T2.map fun t => t.2.1), x ≠ y := by
        have := tn
        rw [List.map_append] at this
        exact List.nodup_append.mp this
      refine ⟨?_, ?_, fun t ht => ?_⟩
      · rw [List.getElem?_set_ne (Nat.ne_of_gt hc.1), tg1]
        simp only [List.map_append, List.map_cons, List.map_nil, List.nil_append]; rfl
      · have := tn
        simp only [List.map_append, List.map_cons] at this ⊢
        exact this
      · rcases List.mem_append.mp ht with ht | ht
        · have q := tc t (List.mem_append_left _ ht)
          have hl := (List.getElem?_eq_some_iff.mp q.2).1
          refine ⟨q.1, ?_⟩
          rw [List.getElem?_set_ne (fun e => nd'.2.2 t.2.1 (List.mem_map.mpr ⟨t, ht, rfl⟩) c List.mem_cons_self e.symm), List.getElem?_append_left hl]
          exact q.2
        · rcases List.mem_cons.mp ht with rfl | ht
          · refine ⟨hc.1, ?_⟩
            rw [List.getElem?_set_self (by simp; omega)]
          · have q := tc t (by simp [ht])
            have hl := (List.getElem?_eq_some_iff.mp q.2).1
            refine ⟨q.1, ?_⟩
            rw [List.getElem?_set_ne (fun e => (List.nodup_cons.mp nd'.2.1).1 (by rw [e]; exact List.mem_map.mpr ⟨t, ht, rfl⟩)), List.getElem?_append_left hl]
            exact q.2
    · rw [h2, ← ea, ← eb]; simp
    · intro j hj hjG hjT
      rw [List.getElem?_set_ne (hjT (g, c, rows) (by simp)), List.getElem?_append_left hj]
    · simp
end K13

namespace K13
open PySem PySem.Spec PyProof.Rows L2 DX
local macro_rules | `(tactic| walk_at "w") => `(tactic| conv => whnf)
theorem isDic_of {M : Sto} {r : Im} {kvs : List (Dt × Im)} {K : Prop} (h : dicI M r = some kvs) (k : K) : isDic M r K := by
  unfold isDic; rw [h]; exact k
theorem dsetW_imp {k : Nat} {key : Dt} {r : Im} {M : Sto} {K K' : Sto → Prop} (hk : ∀ M, K M → K' M) (h : dsetW k key r M K) : dsetW k key r M K' := by
  unfold dsetW at h ⊢
  split at h
  · split at h
    · exact ⟨h.1, h.2.1, hk _ h.2.2⟩
    · exact h.elim
  · exact h.elim
theorem setW_of {k : Nat} {key : Dt} {r : Im} {M : Sto} {K : Sto → Prop} (h : dsetW k key r M K) : setW (.p k) (.d key) r M K := by
  have e : ∃ kvs, dicI M (.p k) = some kvs := by
    unfold dsetW at h
    split at h
    · rename_i c hc
      split at h
      · rename_i kvs hk
        refine ⟨kvs, ?_⟩
        show (match M[k]? with
          | some c => c.kvs
          | _ => none) = _
        rw [hc]; exact hk
      · exact h.elim
    · exact h.elim
  obtain ⟨kvs, e⟩ := e
  unfold setW
  rw [e]
  exact h
theorem TS.dic {G : Nat} {T : TT} {M : Sto} (h : TS G [] T M) : dicI M (.p G) = some (T.map kT) := by
  show (match M[G]? with
    | some c => c.kvs
    | _ => none) = _
  rw [h.g]
  exact dctC_kvs _
theorem putAll_nod {α : Type} : ∀ (ps acc : List (Dt × α)), (∀ p ∈ acc ++ ps, ky p.1 = true) → ((acc ++ ps).map (·.1)).Nodup → DX.putAll acc ps = acc ++ ps
  | [], acc, _, _ => by simp [DX.putAll]
  | (k, v) :: ps, acc, hk, hn => by
    have e : dGet acc k = none := (dGet_none (hk (k, v) (by simp)) fun p hp => hk p (List.mem_append_left _ hp)).mpr fun h => by
      rw [List.map_append] at hn
      exact (List.nodup_append.mp hn).2.2 k h k (by simp) rfl
    show DX.putAll (dPut acc k v) ps = _
    have e2 : dPut acc k v = acc ++ [(k, v)] := by unfold dPut; rw [e]; rfl
    rw [e2, putAll_nod ps _ (fun p hp => hk p (by simpa using hp)) (by simpa using hn), List.append_assoc]; rfl
theorem row_rowV {ts : List Dt} {b : Dt} (ht : tms ts) (hb : gBd b) : rowV (rowK ts b) := ⟨_, rfl, fun v hv => by
  obtain ⟨t, h, rfl⟩ := List.mem_map.mp hv
  exact gVal_is (tv_gVal hb (ht.1 t h)), by rw [List.length_map]; have := ht.2; omega⟩
theorem row_gRow {ts : List Dt} {b : Dt} (ht : tms ts) (h0 : 0 < ts.length) (hb : gBd b) : gRow (rowK ts b) := ⟨_, rfl, fun v hv => by
  obtain ⟨t, h, rfl⟩ := List.mem_map.mp hv
  exact tv_gVal hb (ht.1 t h), by rw [List.length_map]; exact h0, by rw [List.length_map]; have := ht.2; omega⟩
theorem grps_snoc (ts ks fs : List Dt) (b : Dt) : grps ts ks (fs ++ [b]) = grpP (rowK ts b) (rowK ks b) (grps ts ks fs) := by
  unfold grps; rw [List.foldl_append]; rfl
theorem grps_ok {ts ks : List Dt} (ht : tms ts) (hk : tms ks) (hk0 : 0 < ks.length) : ∀ fs : List Dt, (∀ b ∈ fs, gBd b) → gsOk fs.length (grps ts ks fs) := by
  intro fs
  have : ∀ (l acc : List Dt), (∀ b ∈ acc ++ l, gBd b) → gsOk acc.length (grps ts ks acc) → gsOk (acc ++ l).length (grps ts ks (acc ++ l)) := by
    intro l
    induction l with
    | nil => intro acc _ h; rw [List.append_nil]; exact h
    | cons b l ih =>
      intro acc hb h
      have := ih (acc ++ [b]) (by simpa using hb) (by
        rw [grps_snoc, List.length_append]
        have hbb := hb b (by simp)
        exact grpP_ok h (row_rowV ht hbb) (row_gRow hk hk0 hbb))
      simpa using this
  intro h
  have := this fs [] (by simpa using h) ⟨Nat.le_refl 0, List.nodup_nil, fun p hp => absurd hp (by simp [grps])⟩
  simpa using this
theorem take_snoc {fs : List Dt} {i : Nat} {b : Dt} (h : fs[i]? = some b) : fs.take (i + 1) = fs.take i ++ [b] := by
  rw [List.take_add_one, h]; rfl
theorem roV_ok {d : Dt} (h : rowV d) {Q : Dt → Prop} (hq : Q (roD d)) : ∃ vs, d = .tuple vs ∧ ((∀ v ∈ vs, isVal v = true) ∧ vs.length ≤ sizeLine) ∧ Q (.list (vs.map voD)) := by
  obtain ⟨vs, rfl, hv, hl⟩ := h
  exact ⟨vs, rfl, ⟨hv, lzn (by omega)⟩, hq⟩
theorem S_ro {d : Dt} (h : rowV d) : S_row_order [d] (fun y => y = roD d) (fun _ _ => False) := by
  obtain ⟨vs, rfl, hv, hl⟩ := h
  exact ⟨⟨hv, lzn (by omega)⟩, rfl⟩
theorem l_groups_of : lenOf S_groups_of 2 := fun ds Q R h => by
  unfold S_groups_of at h; split at h <;> first | rfl | exact h.elim
def gsrtD : Im → List (Dt × Dt)
  | .d (.tuple [g, .dict kvs]) => [(g, .list (srt roD (kvs.map (·.1))))]
  | _ => []
theorem keysIm (rows : List Dt) : ((prs rows).map fun p => (p.1, Im.d p.2)).map (fun x => x.1) = rows := by
  unfold prs; rw [List.map_map, List.map_map]; exact List.map_id' _
theorem dset_end {M0 : Sto} {kvs : List (Dt × Dt)} {key v : Dt} {K : Sto → Prop} (hk : kindOk kvs key = true) (hl : kvs.length < sizeLine) (q : K (M0 ++ [.dd (dPut kvs key v)])) : dsetW M0.length key (.d v) (M0 ++ [.dd kvs]) K := by
  unfold dsetW
  rw [show (M0 ++ [Cel.dd kvs])[M0.length]? = some (.dd kvs) by simp]
  refine ⟨?_, by rw [List.length_map]; exact hl, ?_⟩
  · unfold kindOk at hk ⊢
    rw [List.all_map, List.all_map]; exact hk
  · rw [show (M0 ++ [Cel.dd kvs]).set M0.length (setC (.dd kvs) key (.d v)) = M0 ++ [.dd (dPut kvs key v)] by rw [List.set_append_right _ _ (Nat.le_refl _)]; simp [setC]]
    exact q
theorem cmEnd_d {M1 : Sto} {kvs : List (Dt × Dt)} {Q : QE} (q : Q (.d (.dict kvs)) M1) : cmEnd false M1 Q (M1 ++ [.dd kvs]) := by
  unfold cmEnd
  dsimp only
  rw [show (M1 ++ [Cel.dd kvs])[M1.length]? = some (.dd kvs) by simp]
  exact .inl ⟨rfl, q⟩
theorem prs_fst (rows : List Dt) : (prs rows).map (·.1) = rows := by unfold prs; rw [List.map_map]; exact List.map_id' _
theorem gsrt_one (g : Dt) (rows : List Dt) : gsrtD (.d (.tuple [g, dictR rows])) = [(g, .list (srt roD rows))] := by
  show [(g, PyData.list (srt roD ((prs rows).map (·.1))))] = _
  rw [prs_fst]
abbrev gsX (gs : List (Dt × List Dt)) : List Im := (gs.map fun p => (p.1, dictR p.2)).map fun p => Im.d (.tuple [p.1, p.2])
theorem gs_memI {gs : List (Dt × List Dt)} {x : Im} (h : x ∈ gsX gs) : ∃ q ∈ gs, x = .d (.tuple [q.1, dictR q.2]) := by
  obtain ⟨p, hp, rfl⟩ := List.mem_map.mp h
  obtain ⟨q, hq, rfl⟩ := List.mem_map.mp hp
  exact ⟨q, hq, rfl⟩
theorem gsrt_all (gs : List (Dt × List Dt)) : (gsX gs).flatMap gsrtD = gs.map fun p => (p.1, PyData.list (srt roD p.2)) := by
  unfold gsX
  rw [List.map_map, List.flatMap_map, List.map_eq_flatMap]
  congr 1
  funext p
  exact gsrt_one p.1 p.2
theorem b_groups_of : bodyOf S_groups_of ev_groups_of ir_groups_of nm_groups_of := fun ds Q R h => by
  unfold S_groups_of at h; split at h
  · rename_i r fs
    obtain ⟨ts, f, ks, ⟨hd, bd, ht, hf, hk0, hk, rfl⟩, hb, hq⟩ := h
    refine ⟨fun i Γ M => ∃ o3 o4 T, Γ = [some (.d (.tuple [.str "fold", .tuple [hd, .tuple ts], f, .tuple ks, bd])), some (.d (.list fs)), some (.p 0), o3, o4, none] ∧ TS 0 [] T M ∧ T.map piT = grps ts ks (fs.take i), ⟨_, _, [], rfl, ⟨rfl, List.nodup_nil, fun t h => absurd h (by simp)⟩, rfl⟩, fun i x Γ M hx hj => ⟨trivial, ?_⟩, fun Γ M hj => ⟨trivial, ?_⟩⟩
    · obtain ⟨b, hbi, hbm, rfl⟩ := mem_im hx
      obtain ⟨o3, o4, T, rfl, hT, hTe⟩ := hj
      have hbb := hb.1 b hbm
      have hil : i < fs.length := (List.getElem?_eq_some_iff.mp hbi).1
      have ho := grps_ok ht hk hk0 (fs.take i) fun b hb' => hb.1 b (List.mem_of_mem_take hb')
      rw [← hTe] at ho
      have hl := hb.2
      refine isDic_of hT.dic ⟨ht, hbb, ?_⟩
      refine grp_turn (n := (fs.take i).length) (K := fun M' => ∃ T', TS 0 [] T' M' ∧ T'.map piT = grps ts ks (fs.take (i + 1))) hT ho (by rw [List.length_take]; omega) (row_rowV ht hbb) (row_gRow hk hk0 hbb) (fun T' M' h1 h2 _ _ => ⟨T', h1, by rw [h2, hTe, take_snoc hbi, grps_snoc]⟩) (fun j hj => absurd hj (by omega)) fun c M1 hc => ?_
      refine ⟨hk, hbb, setW_of (dsetW_imp (fun M' hM' => ?_) hc)⟩
      obtain ⟨T', h1, h2⟩ := hM'
      exact .inl ⟨_, Fo.refl _, _, _, T', rfl, h1, h2⟩
    · obtain ⟨o3, o4, T, rfl, hT, hTe⟩ := hj
      rw [List.length_map, List.take_length] at hTe
      have ho := grps_ok ht hk hk0 fs hb.1
      obtain ⟨gs, hgs⟩ : ∃ gs, gs = T.map piT := ⟨_, rfl⟩
      rw [← hTe, ← hgs] at hq ho
      have hl := hb.2
      refine ⟨T.map (fun t => t.2.1) ++ [0], fz_all (PG := fun Γ M => ∃ o3 o4 o5, Γ = [some (.d (.tuple [.str "fold", .tuple [hd, .tuple ts], f, .tuple ks, bd])), some (.d (.list fs)), some (.p 0), o3, o4, o5]) (fun c x Γ M hc hp => ?_) T [] _ M hT ⟨_, _, _, rfl⟩ fun Γ' M' hp hg => ?_⟩
      · obtain ⟨o3, o4, o5, rfl⟩ := hp
        refine ⟨o3.map (fzI c x), o4.map (fzI c x), o5.map (fzI c x), ?_⟩
        show [_, _, some (fzI c x (.p 0)), _, _, _] = _
        rw [fzI_ne x (by omega)]; rfl
      · obtain ⟨o3, o4, o5, rfl⟩ := hp
        rw [show ([] ++ T.map fun t => (t.1, t.2.2)) = gs from hgs.symm] at hg
        unfold fzW
        rw [hg]
        refine cm_dict .tup gsrtD ?_ ?_ (fun _ => trivial) ?_ ?_
        · rw [gsrt_all, List.length_map]; exact lzn (by have := ho.l; omega)
        · intro x hx p hp
          obtain ⟨q, hq, rfl⟩ := gs_memI hx
          rw [gsrt_one] at hp
          simp at hp; subst hp
          exact (rowV_ky (ho.g q hq).1).2
        · intro x hx kvs N hk' hl' hN
          obtain ⟨q, hqm, rfl⟩ := gs_memI hx
          have hrow : ∀ r ∈ q.2, rowV r := fun r hr => row_ky ((ho.g q hqm).2.1 r hr)
          rw [gsrt_one] at hl' hN
          refine ⟨rfl, fun _ => ?_, fun e => (by cases e)⟩
          walk_at "w"
          rw [keysIm]
          refine ⟨roD, fun d hd => S_ro (hrow d hd), rows_sortOk hrow, ?_⟩
          exact dset_end (v := .list (srt roD q.2)) (kind_of .tup (rowV_ky (ho.g q hqm).1).2 hk') (by simp at hl'; omega) hN
        · have e : DX.putAll [] ((gsX gs).flatMap gsrtD) = gs.map fun p => (p.1, PyData.list (srt roD p.2)) := by
            rw [gsrt_all, putAll_nod _ [] (fun p hp => ?_) ?_, List.nil_append]
            · rw [List.nil_append, List.map_map]
              exact ho.nd
            · rw [List.nil_append] at hp
              obtain ⟨q, hq, rfl⟩ := List.mem_map.mp hp
              exact (rowV_ky (ho.g q hq).1).1
          rw [show DX.putAll [] ((List.map (fun p => Im.d (.tuple [p.1, p.2])) (gs.map fun p => (p.1, dictR p.2))).flatMap gsrtD) = _ from e]
          refine cmEnd_d ?_
          unfold grpD at hq
          rw [List.map_map] at hq
          exact hq
  · exact h.elim
end K13

namespace K13
open PySem PySem.Spec PyProof.Rows L2 DX
local macro_rules | `(tactic| walk_at "w") => `(tactic| conv => whnf)
theorem rowsP_snoc (ts fs : List Dt) (b : Dt) : rowsP ts (fs ++ [b]) = addK (rowsP ts fs) (rowK ts b) := by
  unfold rowsP; rw [List.foldl_append]; rfl
theorem rowsP_ok {ts : List Dt} (ht : tms ts) : ∀ fs : List Dt, (∀ b ∈ fs, gBd b) → (∀ r ∈ rowsP ts fs, rowV r) ∧ (rowsP ts fs).Nodup ∧ (rowsP ts fs).length ≤ fs.length := by
  intro fs
  have : ∀ (l acc : List Dt), (∀ b ∈ acc ++ l, gBd b) → ((∀ r ∈ rowsP ts acc, rowV r) ∧ (rowsP ts acc).Nodup ∧ (rowsP ts acc).length ≤ acc.length) → (∀ r ∈ rowsP ts (acc ++ l), rowV r) ∧ (rowsP ts (acc ++ l)).Nodup ∧ (rowsP ts (acc ++ l)).length ≤ (acc ++ l).length := by
    intro l
    induction l with
    | nil => intro acc _ h; rw [List.append_nil]; exact h
    | cons b l ih =>
      intro acc hb h
      have hbb := hb b (by simp)
      have := ih (acc ++ [b]) (by simpa using hb) (by
        rw [rowsP_snoc]
        exact ⟨fun r hr => (addK_mem.mp hr).elim (h.1 r) fun e => e ▸ row_rowV ht hbb, addK_nodup h.2.1, Nat.le_trans addK_len (by rw [List.length_append]; exact Nat.succ_le_succ h.2.2)⟩)
      simpa using this
  intro h
  have := this fs [] (by simpa using h) ⟨fun r hr => absurd hr (by simp [rowsP]), List.nodup_nil, Nat.le_refl 0⟩
  simpa using this
theorem perm_sum {l m : List Int} (h : l.Perm m) : l.sum = m.sum := by
  induction h with
  | nil => rfl
  | cons x _ ih => rw [List.sum_cons, List.sum_cons, ih]
  | swap x y l => rw [List.sum_cons, List.sum_cons, List.sum_cons, List.sum_cons, Int.add_left_comm]
  | trans _ _ h1 h2 => exact h1.trans h2
theorem foldV_perm {kd : Dt} {rows rows' : List Dt} (hr : ∀ r ∈ rows, gRow r) (h : rows'.Perm rows) : foldV kd rows' = foldV kd rows := by
  have hf : ∀ v ∈ rows.map firD, isVal v = true := fun v hv => gVal_is (firs_val hr v hv)
  have hp : (rows'.map firD).Perm (rows.map firD) := h.map _
  have h1 : totL (rows'.map firD) = totL (rows.map firD) := by
    unfold totL
    exact perm_sum ((hp.filter _).map _)
  unfold foldV
  rw [h1, h.length_eq, min_perm (l := rows'.map firD) (m := rows.map firD) (fun x hx => hf x (hp.mem_iff.mp hx)) fun x => hp.mem_iff, max_perm (l := rows'.map firD) (m := rows.map firD) (fun x hx => hf x (hp.mem_iff.mp hx)) fun x => hp.mem_iff]
theorem srt_perm (kf : Dt → Dt) (l : List Dt) : (srt kf l).Perm l := List.mergeSort_perm _ _
theorem foldL_snoc (f : Dt) (gs : List (Dt × List Dt)) (p : Dt × List Dt) : foldL f (gs ++ [p]) = foldL f gs ++ if noneB (foldV f p.2) then [] else [.tuple (tupL p.1 ++ [foldV f p.2])] := by
  unfold foldL
  rw [List.filter_append, List.map_append]
  congr 1
  rw [List.filter_cons]
  cases noneB (foldV f p.2) <;> rfl
theorem foldL_len (f : Dt) (gs : List (Dt × List Dt)) : (foldL f gs).length ≤ gs.length := by
  unfold foldL; rw [List.length_map]; exact List.length_filter_le _ _
theorem imNone_none (v : Dt) : imNone (.d v) = noneB v := by cases v <;> rfl
theorem addT {g : Dt} {vs : List Dt} (h : g = .tuple vs) : tupL g = vs := by subst h; rfl
theorem l_rows_made : lenOf S_rows_made 2 := fun ds Q R h => by
  unfold S_rows_made at h; split at h <;> first | rfl | exact h.elim
theorem kRule : decide ((Str.ofString "fold") = (Str.ofString "rule")) = false := by decide +kernel
def rowT (ts : List Dt) (x : Im) : List (Dt × Dt) := [(rowK ts (datD x), .bool true)]
theorem putAll_rows {ts : List Dt} (ht : tms ts) : ∀ fs : List Dt, (∀ b ∈ fs, gBd b) → DX.putAll [] ((fs.map Im.d).flatMap (rowT ts)) = prs (rowsP ts fs) := by
  intro fs
  have key : ∀ (l acc : List Dt), (∀ b ∈ acc ++ l, gBd b) → DX.putAll (prs (rowsP ts acc)) ((l.map Im.d).flatMap (rowT ts)) = prs (rowsP ts (acc ++ l)) := by
    intro l
    induction l with
    | nil => intro acc _; rw [List.append_nil]; rfl
    | cons b l ih =>
      intro acc hb
      have hbb := hb b (by simp)
      have hacc := rowsP_ok ht acc fun x hx => hb x (List.mem_append_left _ hx)
      rw [List.map_cons, List.flatMap_cons]
      show DX.putAll (dPut (prs (rowsP ts acc)) (rowK ts b) (.bool true)) ((l.map Im.d).flatMap (rowT ts)) = _
      rw [dPut_prs hacc.1 (row_rowV ht hbb), ← rowsP_snoc, ih (acc ++ [b]) (by simpa using hb), List.append_assoc]; rfl
  intro h
  exact key fs [] (by simpa using h)
abbrev gsY (gs : List (Dt × List Dt)) : List Im := ((gs.map fun p => (p.1, srt roD p.2)).map fun p => (p.1, PyData.list p.2)).map fun p => Im.d (.tuple [p.1, p.2])
theorem gsY_at {gs : List (Dt × List Dt)} {i : Nat} {x : Im} (h : (gsY gs)[i]? = some x) : ∃ p, gs[i]? = some p ∧ p ∈ gs ∧ x = .d (.tuple [p.1, .list (srt roD p.2)]) := by
  unfold gsY at h
  rw [List.getElem?_map, List.getElem?_map, List.getElem?_map] at h
  cases e : gs[i]? with
  | none => rw [e] at h; cases h
  | some p => rw [e] at h; cases h; exact ⟨p, rfl, List.mem_of_getElem? e, rfl⟩
theorem b_rows_made : bodyOf S_rows_made ev_rows_made ir_rows_made nm_rows_made := fun ds Q R h => by
  unfold S_rows_made at h; split at h
  · rename_i r fs
    obtain ⟨hr, hb, hq⟩ := h
    have hl := hb.2
    rcases hr with ⟨ts, hd, bd, ht, rfl⟩ | ⟨ts, f, ks, hd, bd, ht, hf, hk0, hk, rfl⟩
    · have hq : Q (.list (rowsP ts fs)) := hq
      have hok := rowsP_ok ht fs hb.1
      refine ⟨fun _ => cm_dict (M0 := []) .tup (rowT ts) ?_ ?_ (fun _ => trivial) ?_ ?_, fun e => absurd e (by decide +kernel)⟩
      · have : ((fs.map Im.d).flatMap (rowT ts)).length = fs.length := by
          rw [List.flatMap_map, show (fs.flatMap fun a => rowT ts (.d a)) = fs.map fun b => (rowK ts b, PyData.bool true) by rw [List.map_eq_flatMap]; rfl, List.length_map]
        rw [this]; exact lzn (by omega)
      · intro x hx p hp
        obtain ⟨b, hbm, rfl⟩ := List.mem_map.mp hx
        simp [rowT] at hp; subst hp
        exact (rowV_ky (row_rowV ht (hb.1 b hbm))).2
      · intro x hx kvs N hk' hl' hN
        obtain ⟨b, hbm, rfl⟩ := List.mem_map.mp hx
        refine ⟨fun _ => ⟨ht, hb.1 b hbm, ?_⟩, fun e => (by cases e)⟩
        exact dset_end (M0 := []) (v := .bool true) (kind_of .tup (rowV_ky (row_rowV ht (hb.1 b hbm))).2 hk') (by simp [rowT] at hl'; omega) hN
      · rw [putAll_rows ht fs hb.1]
        refine .inl ⟨rfl, ?_⟩
        walk_at "w"
        rw [keysIm]
        exact hq
    · have hq : Q (.list (foldL f (grps ts ks fs))) := hq
      have ho := grps_ok ht hk hk0 fs hb.1
      refine ⟨fun e => absurd e (by decide +kernel), fun _ => ⟨Nat.zero_le _, ts, f, ks, ⟨hd, bd, ht, hf, hk0, hk, rfl⟩, hb, ?_⟩⟩
      generalize grps ts ks fs = gs at hq ho
      refine ⟨fun i Γ M => ∃ o3 o4 o5, Γ = [some (.d (.tuple [.str "fold", .tuple [hd, .tuple ts], f, .tuple ks, bd])), some (.d (.list fs)), some (.p 0), o3, o4, o5, none] ∧ M = [.dl (foldL f (gs.take i))], ⟨_, _, _, rfl, rfl⟩, fun i x Γ M hx hj => ⟨trivial, ?_⟩, fun Γ M hj => ⟨trivial, ?_⟩⟩
      · obtain ⟨p, hp, hpm, rfl⟩ := gsY_at hx
        obtain ⟨o3, o4, o5, rfl, rfl⟩ := hj
        have hg := ho.g p hpm
        have hil : i < gs.length := (List.getElem?_eq_some_iff.mp hp).1
        have hsr : rowsOk (srt roD p.2) := ⟨fun r hr => hg.2.1 r (srt_mem.mp hr), by rw [srt_len]; exact hg.2.2.1, by rw [srt_len]; have := hg.2.2.2; omega⟩
        have hfl := foldL_len f (gs.take i)
        have htl : (gs.take i).length ≤ 30 := by have := ho.l; rw [List.length_take]; omega
        have e2 : gs.take (i + 1) = gs.take i ++ [p] := by rw [List.take_add_one, hp]; rfl
        refine ⟨rfl, hf, hsr, ?_⟩
        rw [foldV_perm hg.2.1 (srt_perm roD p.2)]
        refine ⟨fun e => ?_, fun e => ?_⟩
        · have e : noneB (foldV f p.2) = false := by
            have : (!imNone (.d (foldV f p.2))) = true := e
            rw [imNone_none] at this; simpa using this
          obtain ⟨vs, hvs, _, hvl⟩ := hg.1
          have e3 := foldL_snoc f (gs.take i) p
          rw [e, ← e2, addT hvs] at e3
          rw [hvs]
          refine ⟨lz1, lzn (by simp; omega), lzl (by omega), .inl ⟨_, Fo.refl _, _, _, _, rfl, ?_⟩⟩
          rw [e3]; rfl
        · have e : noneB (foldV f p.2) = true := by
            have : (!imNone (.d (foldV f p.2))) = false := e
            rw [imNone_none] at this; simpa using this
          have e3 := foldL_snoc f (gs.take i) p
          rw [e, ← e2, if_pos rfl, List.append_nil] at e3
          exact .inl ⟨_, Fo.refl _, _, _, _, rfl, by rw [e3]⟩
      · obtain ⟨o3, o4, o5, rfl, rfl⟩ := hj
        have : gs.take (gsY gs).length = gs := by unfold gsY; rw [List.length_map, List.length_map, List.length_map, List.take_length]
        rw [show (List.map (fun p => Im.d (.tuple [p.1, p.2])) ((gs.map fun p => (p.1, srt roD p.2)).map fun p => (p.1, PyData.list p.2))).length = (gsY gs).length from rfl, this]
        exact hq
  · exact h.elim
end K13

namespace K13
open PySem PySem.Spec PyProof.Rows L2 DX
local macro_rules | `(tactic| walk_at "w") => `(tactic| conv => whnf)
theorem grpP_keys {g r : Dt} {gs : List (Dt × List Dt)} {p : Dt × List Dt} (h : p ∈ grpP g r gs) : p.1 = g ∨ ∃ q ∈ gs, q.1 = p.1 := by
  rcases gs_split g r gs with ⟨_, h2⟩ | ⟨a, rows, b, rfl, _, h2⟩
  · rw [h2] at h
    rcases List.mem_append.mp h with h | h
    · exact .inr ⟨p, h, rfl⟩
    · simp at h; subst h; exact .inl rfl
  · rw [h2] at h
    rcases List.mem_append.mp h with h | h
    · exact .inr ⟨p, by simp [h], rfl⟩
    · rcases List.mem_cons.mp h with rfl | h
      · exact .inl rfl
      · exact .inr ⟨p, by simp [h], rfl⟩
theorem grps_keys {ts ks : List Dt} : ∀ (fs : List Dt) (p : Dt × List Dt), p ∈ grps ts ks fs → ∃ b, p.1 = rowK ts b := by
  intro fs
  have : ∀ (l acc : List Dt), (∀ p ∈ grps ts ks acc, ∃ b, p.1 = rowK ts b) → ∀ p ∈ grps ts ks (acc ++ l), ∃ b, p.1 = rowK ts b := by
    intro l
    induction l with
    | nil => intro acc h; rw [List.append_nil]; exact h
    | cons b l ih =>
      intro acc h
      have := ih (acc ++ [b]) fun p hp => by
        rw [grps_snoc] at hp
        rcases grpP_keys hp with e | ⟨q, hq, e⟩
        · exact ⟨b, e⟩
        · obtain ⟨b', e'⟩ := h q hq
          exact ⟨b', e ▸ e'⟩
      simpa using this
  intro p hp
  exact this fs [] (fun p hp => absurd hp (by simp [grps])) p (by simpa using hp)
theorem foldV_val {kd : Dt} {rows : List Dt} (hk : gKind kd) (hr : ∀ r ∈ rows, gRow r) (h : noneB (foldV kd rows) = false) : isVal (foldV kd rows) = true := by
  have hf : ∀ v ∈ rows.map firD, isVal v = true := fun v hv => gVal_is (firs_val hr v hv)
  rcases hk with rfl | rfl | rfl | rfl
  · rw [fv_count]; rfl
  · rw [fv_sum] at h ⊢
    split at h
    · rename_i e; rw [if_pos e]; rfl
    · cases h
  · rw [fv_min] at h ⊢
    cases e : (srt voD (rows.map firD)).head? with
    | none => rw [e] at h; cases h
    | some m => exact hf m (srt_head e).1
  · rw [fv_max] at h ⊢
    cases e : (srt voD (rows.map firD)).getLast? with
    | none => rw [e] at h; cases h
    | some m => exact hf m (srt_last e).1
theorem l_law_rows : lenOf S_law_rows 2 := fun ds Q R h => by
  unfold S_law_rows at h; split at h <;> first | rfl | exact h.elim
theorem row_comp {ts : List Dt} {b : Dt} (ht : tms ts) : ((ts.map Im.d)).length ≤ sizeLine := by
  rw [List.length_map]; exact lzn (by have := ht.2; omega)
abbrev gsZ (gs : List (Dt × List Dt)) : List (Dt × Dt) := gs.map fun p => (p.1, dictR p.2)
theorem b_law_rows : bodyOf S_law_rows ev_law_rows ir_law_rows nm_law_rows := fun ds Q R h => by
  unfold S_law_rows at h; split at h
  · rename_i r fs
    obtain ⟨hr, hb, hq⟩ := h
    have hl := hb.2
    rcases hr with ⟨ts, hd, bd, ht, rfl⟩ | ⟨ts, f, ks, hd, bd, ht, hf, hk0, hk, rfl⟩
    · have hq : Q (.dict (prs (rowsP ts fs))) := hq
      refine ⟨fun i Γ M => ∃ o4 o5, Γ = [some (.d (.tuple [.str "rule", .tuple [hd, .tuple ts], bd])), some (.d (.list fs)), some (.p 0), some (.p 1), o4, o5, none, none, none] ∧ M = [.dd (prs (rowsP ts (fs.take i))), .dd []], ⟨_, _, rfl, rfl⟩, fun i x Γ M hx hj => ⟨trivial, ?_⟩, fun Γ M hj => ⟨trivial, ?_⟩⟩
      · obtain ⟨b, hbi, hbm, rfl⟩ := mem_im hx
        obtain ⟨o4, o5, rfl, rfl⟩ := hj
        have hbb := hb.1 b hbm
        have hok := rowsP_ok ht (fs.take i) fun b hb' => hb.1 b (List.mem_of_mem_take hb')
        have htl : (fs.take i).length ≤ 30 := by rw [List.length_take]; omega
        refine ⟨row_comp (b := b) ht, fun x => tvD b (datD x), fun _ => true, fun x hx acc => ?_, fun _ => trivial, ?_⟩
        · obtain ⟨t, hm, rfl⟩ := List.mem_map.mp hx
          exact ⟨rfl, rfl, fun _ => ⟨ht.1 t hm, hbb, rfl, rfl⟩⟩
        walk_at "w"
        rw [row_map]
        refine ⟨fun _ => ?_, fun e => absurd e (by decide +kernel)⟩
        have hrv := row_rowV ht hbb
        refine ⟨kind_rows hrv (fun p hp => ?_), by rw [List.length_map]; unfold prs; rw [List.length_map]; exact lzl (by omega), .inl ⟨_, Fo.refl _, _, _, rfl, ?_⟩⟩
        · obtain ⟨q, hq, rfl⟩ := List.mem_map.mp hp
          obtain ⟨x, hx, rfl⟩ := List.mem_map.mp hq
          exact hok.1 x hx
        · rw [take_snoc hbi, rowsP_snoc, ← dPut_prs hok.1 hrv]; rfl
      · obtain ⟨o4, o5, rfl, rfl⟩ := hj
        rw [List.length_map, List.take_length]
        refine ⟨[1], fun i Γ M => ∃ o4 o5, Γ = [some (.d (.tuple [.str "rule", .tuple [hd, .tuple ts], bd])), some (.d (.list fs)), some (.p 0), some (.d (.dict [])), o4, o5, none, none, none] ∧ M = [.dd (prs (rowsP ts fs)), .dead], ⟨_, _, rfl, rfl⟩, fun i x Γ M hx hj => absurd hx (by simp), fun Γ M hj => ⟨trivial, ?_⟩⟩
        obtain ⟨o4, o5, rfl, rfl⟩ := hj
        exact ⟨[0], hq⟩
    · have hq : Q (.dict (prs (foldL f (grps ts ks fs)))) := hq
      refine ⟨fun i Γ M => ∃ o4 o5 o6 T, Γ = [some (.d (.tuple [.str "fold", .tuple [hd, .tuple ts], f, .tuple ks, bd])), some (.d (.list fs)), some (.p 0), some (.p 1), o4, o5, o6, none, none] ∧ M[0]? = some (.dd []) ∧ TS 1 [] T M ∧ T.map piT = grps ts ks (fs.take i), ⟨_, _, _, [], rfl, rfl, ⟨rfl, List.nodup_nil, fun t h => absurd h (by simp)⟩, rfl⟩, fun i x Γ M hx hj => ⟨trivial, ?_⟩, fun Γ M hj => ⟨trivial, ?_⟩⟩
      · obtain ⟨b, hbi, hbm, rfl⟩ := mem_im hx
        obtain ⟨o4, o5, o6, T, rfl, hM0, hT, hTe⟩ := hj
        have hbb := hb.1 b hbm
        have ho := grps_ok ht hk hk0 (fs.take i) fun b hb' => hb.1 b (List.mem_of_mem_take hb')
        rw [← hTe] at ho
        have htl : (fs.take i).length ≤ 30 := by rw [List.length_take]; omega
        refine ⟨row_comp (b := b) ht, fun x => tvD b (datD x), fun _ => true, fun x hx acc => ?_, fun _ => trivial, ?_⟩
        · obtain ⟨t, hm, rfl⟩ := List.mem_map.mp hx
          exact ⟨rfl, rfl, fun _ => ⟨ht.1 t hm, hbb, rfl, rfl⟩⟩
        walk_at "w"
        rw [row_map]
        refine ⟨fun e => absurd e (by decide +kernel), fun _ => isDic_of hT.dic ?_⟩
        refine grp_turn (n := (fs.take i).length) (K := fun M' => ∃ T', M'[0]? = some (.dd []) ∧ TS 1 [] T' M' ∧ T'.map piT = grps ts ks (fs.take (i + 1))) hT ho (by omega) (row_rowV ht hbb) (row_gRow hk hk0 hbb) (fun T' M' h1 h2 h3 _ => ⟨T', ?_, h1, by rw [h2, hTe, take_snoc hbi, grps_snoc]⟩) (fun j hj => by rw [show j = 0 by omega, hM0]; simp) fun c M1 hc => ?_
        · rw [h3 0 (List.getElem?_eq_some_iff.mp hM0).1 (by decide) fun t ht' e => by have := (hT.c t ht').1; omega]; exact hM0
        refine ⟨row_comp (b := b) hk, fun x => tvD b (datD x), fun _ => true, fun x hx acc => ?_, fun _ => trivial, ?_⟩
        · obtain ⟨t, hm, rfl⟩ := List.mem_map.mp hx
          exact ⟨rfl, rfl, fun _ => ⟨hk.1 t hm, hbb, rfl, rfl⟩⟩
        walk_at "w"
        rw [row_map]
        refine setW_of (dsetW_imp (fun M' hM' => ?_) hc)
        obtain ⟨T', h0, h1, h2⟩ := hM'
        exact .inl ⟨_, Fo.refl _, _, _, _, T', rfl, h0, h1, h2⟩
      · obtain ⟨o4, o5, o6, T, rfl, hM0, hT, hTe⟩ := hj
        rw [List.length_map, List.take_length] at hTe
        have ho := grps_ok ht hk hk0 fs hb.1
        have hkeys := grps_keys (ts := ts) (ks := ks) fs
        obtain ⟨gs, hgs⟩ : ∃ gs, gs = T.map piT := ⟨_, rfl⟩
        rw [← hTe, ← hgs] at hq ho hkeys
        refine ⟨T.map (fun t => t.2.1) ++ [1], fz_all (PG := fun Γ M => (∃ o4 o5 o6 o7 o8, Γ = [some (.d (.tuple [.str "fold", .tuple [hd, .tuple ts], f, .tuple ks, bd])), some (.d (.list fs)), some (.p 0), some (.p 1), o4, o5, o6, o7, o8]) ∧ M[0]? = some (.dd [])) (fun c x Γ M hc hp => ?_) T [] _ M hT ⟨⟨_, _, _, _, _, rfl⟩, hM0⟩ fun Γ' M' hp hg => ?_⟩
        · obtain ⟨⟨o4, o5, o6, o7, o8, rfl⟩, h0⟩ := hp
          refine ⟨⟨o4.map (fzI c x), o5.map (fzI c x), o6.map (fzI c x), o7.map (fzI c x), o8.map (fzI c x), ?_⟩, by rw [fzM_at h0 (by omega)]; rfl⟩
          show [_, _, some (fzI c x (.p 0)), some (fzI c x (.p 1)), _, _, _, _, _] = _
          rw [fzI_ne x (by omega), fzI_ne x (by omega)]; rfl
        · obtain ⟨⟨o4, o5, o6, o7, o8, rfl⟩, h0⟩ := hp
          rw [show ([] ++ T.map fun t => (t.1, t.2.2)) = gs from hgs.symm] at hg
          unfold fzW
          rw [hg]
          have h0' : (fzM 1 (.dict (gsZ gs)) M')[0]? = some (.dd []) := by rw [fzM_at h0 (by decide)]; rfl
          refine ⟨fun i Γ M => ∃ o4 o5 o6 o7 o8, Γ = [some (.d (.tuple [.str "fold", .tuple [hd, .tuple ts], f, .tuple ks, bd])), some (.d (.list fs)), some (.p 0), some (.d (.dict (gsZ gs))), o4, o5, o6, o7, o8] ∧ M[0]? = some (.dd (prs (foldL f (gs.take i)))), ⟨_, _, _, _, _, rfl, h0'⟩, fun i x Γ M hx hj => ⟨trivial, ?_⟩, fun Γ M hj => ⟨trivial, ?_⟩⟩
          · obtain ⟨p, hp, hpm, rfl⟩ : ∃ p, gs[i]? = some p ∧ p ∈ gs ∧ x = .d p.1 := by
              rw [List.getElem?_map, List.getElem?_map] at hx
              cases e : gs[i]? with
              | none => rw [e] at hx; cases hx
              | some p => rw [e] at hx; cases hx; exact ⟨p, rfl, List.mem_of_getElem? e, rfl⟩
            obtain ⟨o4, o5, o6, o7, o8, rfl, h0⟩ := hj
            have hg' := ho.g p hpm
            have hro : rowsOk p.2 := ⟨hg'.2.1, hg'.2.2.1, by have := hg'.2.2.2; omega⟩
            have hkv : ∀ q ∈ gsZ gs, rowV q.1 := fun q hq => by
              obtain ⟨q, hq2, rfl⟩ := List.mem_map.mp hq
              exact (ho.g q hq2).1
            have hsplit : gs = gs.take i ++ p :: gs.drop (i + 1) := by
              have hil := (List.getElem?_eq_some_iff.mp hp)
              obtain ⟨hil, e⟩ := hil
              rw [← e, ← List.drop_eq_getElem_cons hil, List.take_append_drop]
            have hpn : p.1 ∉ (gs.take i).map (·.1) := by
              have := ho.nd
              rw [hsplit, List.map_append] at this
              exact fun h => (List.nodup_append.mp this).2.2 p.1 h p.1 (by simp) rfl
            have hget : dGet ((gsZ gs).map fun p => (p.1, Im.d p.2)) p.1 = some (.d (dictR p.2)) := by
              have e : ((gsZ gs).map fun p => (p.1, Im.d p.2)) = ((gs.take i).map fun p => (p.1, Im.d (dictR p.2))) ++ (p.1, Im.d (dictR p.2)) :: ((gs.drop (i + 1)).map fun p => (p.1, Im.d (dictR p.2))) := by
                unfold gsZ
                rw [List.map_map]
                conv => lhs; rw [hsplit]
                rw [List.map_append, List.map_cons]; rfl
              rw [e]
              refine dGet_mid (rowV_ky hg'.1).1 (fun q hq => ?_) (by rw [List.map_map]; exact hpn)
              obtain ⟨q', hq', rfl⟩ := List.mem_map.mp hq
              exact (rowV_ky (ho.g q' (List.mem_of_mem_take hq')).1).1
            refine ⟨kind_rows hg'.1 (fun q hq => ?_), ?_⟩
            · obtain ⟨q', hq', rfl⟩ := List.mem_map.mp hq
              exact hkv q' hq'
            walk_at "w"
            rw [hget]
            walk_at "w"
            rw [keysIm]
            have hfl := foldL_len f (gs.take i)
            have htl : (gs.take i).length ≤ 30 := by have := ho.l; rw [List.length_take]; omega
            have e2 : gs.take (i + 1) = gs.take i ++ [p] := by rw [List.take_add_one, hp]; rfl
            have e3 := foldL_snoc f (gs.take i) p
            refine ⟨hf, hro, fun e => ?_, fun e => ?_⟩
            · have e : noneB (foldV f p.2) = false := by
                have : (!imNone (.d (foldV f p.2))) = true := e
                rw [imNone_none] at this; simpa using this
              have hv := foldV_val hf hg'.2.1 e
              obtain ⟨b, hbk⟩ := hkeys p hpm
              have hvs : p.1 = .tuple (ts.map (tvD b)) := hbk
              have hval : ∀ v ∈ ts.map (tvD b), isVal v = true := by
                obtain ⟨vs, e, h, _⟩ := hg'.1
                rw [hvs] at e; cases e; exact h
              rw [e, ← e2, addT hvs] at e3
              have e3 : foldL f (gs.take (i + 1)) = foldL f (gs.take i) ++ [.tuple (ts.map (tvD b) ++ [foldV f p.2])] := e3
              have hkey : rowV (.tuple (ts.map (tvD b) ++ [foldV f p.2])) := ⟨_, rfl, fun v h => (List.mem_append.mp h).elim (hval v) (fun h => by simp at h; subst h; exact hv), by rw [List.length_append, List.length_map]; have := ht.2; simp; omega⟩
              have hacc : ∀ x ∈ foldL f (gs.take i), rowV x ∧ x ≠ .tuple (ts.map (tvD b) ++ [foldV f p.2]) := fun x hx => by
                obtain ⟨q, hq, rfl⟩ := List.mem_map.mp hx
                obtain ⟨hq1, hq2⟩ := List.mem_filter.mp hq
                have hqm := List.mem_of_mem_take hq1
                obtain ⟨b', hb'⟩ := hkeys q hqm
                have hq' : q.1 = .tuple (ts.map (tvD b')) := hb'
                obtain ⟨vs, ev, hvs', _⟩ := (ho.g q hqm).1
                rw [hq'] at ev; cases ev
                refine ⟨⟨_, rfl, fun v h => (List.mem_append.mp h).elim (fun h => hvs' v (by rw [hq'] at h; exact h)) (fun h => by simp at h; subst h; exact foldV_val hf (ho.g q hqm).2.1 (by simpa using hq2)), by rw [hq', List.length_append]; show (ts.map (tvD b')).length + 1 ≤ 1000; rw [List.length_map]; have := ht.2; omega⟩, fun e => hpn ?_⟩
                have e : tupL q.1 ++ [foldV f q.2] = ts.map (tvD b) ++ [foldV f p.2] := by injection e
                have e4 : tupL q.1 = ts.map (tvD b) := List.append_inj_left' e rfl
                have e5 : q.1 = p.1 := by rw [hvs, ← e4, hq']; rfl
                rw [← e5]
                exact List.mem_map.mpr ⟨q, hq1, rfl⟩
              rw [hvs]
              refine ⟨lz1, lzn (by rw [List.length_map]; have := ht.2; simp; omega), setW_of ?_⟩
              unfold dsetW
              rw [h0]
              refine ⟨kind_rows hkey (fun q hq => ?_), by rw [List.length_map]; unfold prs; rw [List.length_map]; exact lzl (by omega), .inl ⟨_, Fo.refl _, _, _, _, _, _, rfl, ?_⟩⟩
              · obtain ⟨q', hq', rfl⟩ := List.mem_map.mp hq
                obtain ⟨x, hx, rfl⟩ := List.mem_map.mp hq'
                exact (hacc x hx).1
              · rw [List.getElem?_set_self (List.getElem?_eq_some_iff.mp h0).1, e3]
                show some (Cel.dd (dPut (prs (foldL f (gs.take i))) (.tuple (ts.map (tvD b) ++ [foldV f p.2])) (.bool true))) = _
                rw [dPut_prs (fun x hx => (hacc x hx).1) hkey]
                have : addK (foldL f (gs.take i)) (.tuple (ts.map (tvD b) ++ [foldV f p.2])) = foldL f (gs.take i) ++ [.tuple (ts.map (tvD b) ++ [foldV f p.2])] := by
                  unfold addK
                  rw [if_neg (fun h => (hacc _ h).2 rfl)]
                rw [this]
            · have e : noneB (foldV f p.2) = true := by
                have : (!imNone (.d (foldV f p.2))) = false := e
                rw [imNone_none] at this; simpa using this
              rw [e, ← e2, if_pos rfl, List.append_nil] at e3
              exact .inl ⟨_, Fo.refl _, _, _, _, _, _, rfl, by rw [e3]; exact h0⟩
          · obtain ⟨o4, o5, o6, o7, o8, rfl, h0⟩ := hj
            refine ⟨[0], ?_⟩
            unfold fzW
            rw [h0]
            walk_at "w"
            rw [List.length_map, List.length_map, List.take_length]
            exact hq
  · exact h.elim
end K13

namespace K13
open PySem PySem.Spec PyProof.Rows L2 DX
local macro_rules | `(tactic| walk_at "w") => `(tactic| conv => whnf)
theorem gRule_R {d : Dt} (h : gRule d) : gR d := by
  rcases h with ⟨a, b, ⟨r, ts, _, rfl, hl, ht⟩, _, rfl⟩ | ⟨r, ts, f, ks, b, _, hl, ht, hf, hk0, hk2, hk, _, rfl⟩
  · exact .inl ⟨ts, r, b, ⟨ht, by omega⟩, rfl⟩
  · exact .inr ⟨ts, f, ks, r, b, ⟨ht, hl⟩, hf, hk0, ⟨hk, hk2⟩, rfl⟩
theorem made_ok {r : Dt} {fs : List Dt} (h : gR r) (hb : bds fs) : (∀ x ∈ madeP r fs, rowV x) ∧ (madeP r fs).length ≤ 30 := by
  rcases h with ⟨ts, hd, bd, ht, rfl⟩ | ⟨ts, f, ks, hd, bd, ht, hf, hk0, hk, rfl⟩
  · have := rowsP_ok ht fs hb.1
    exact ⟨this.1, Nat.le_trans this.2.2 hb.2⟩
  · have ho := grps_ok ht hk hk0 fs hb.1
    have hkeys := grps_keys (ts := ts) (ks := ks) fs
    show (∀ x ∈ foldL f (grps ts ks fs), rowV x) ∧ (foldL f (grps ts ks fs)).length ≤ 30
    refine ⟨fun x hx => ?_, Nat.le_trans (foldL_len _ _) (Nat.le_trans ho.l hb.2)⟩
    obtain ⟨q, hq, rfl⟩ := List.mem_map.mp hx
    obtain ⟨hq1, hq2⟩ := List.mem_filter.mp hq
    obtain ⟨b', hb'⟩ := hkeys q hq1
    have hq' : q.1 = .tuple (ts.map (tvD b')) := hb'
    obtain ⟨vs, ev, hvs', _⟩ := (ho.g q hq1).1
    rw [hq'] at ev; cases ev
    exact ⟨_, rfl, fun v h => (List.mem_append.mp h).elim (fun h => hvs' v (by rw [hq'] at h; exact h)) (fun h => by simp at h; subst h; exact foldV_val hf (ho.g q hq1).2.1 (by simpa using hq2)), by rw [hq', List.length_append]; show (ts.map (tvD b')).length + 1 ≤ 1000; rw [List.length_map]; have := ht.2; omega⟩
theorem val_plain {v : Dt} (h : gVal v) : good v = true ∧ PyData.eqv v v = true := by
  have hf := flat_val (gVal_is h)
  exact ⟨good_flat hf (by decide), eqv_refl hf.1⟩
theorem eqd_val {v : Dt} (h : gVal v) : eqd 49 v = true := by
  have := val_plain h
  unfold eqd
  rw [this.1, this.2]; rfl
theorem nodXYZN (x y z n : Dt) : nodK [(.str "X", x), (.str "Y", y), (.str "Z", z), (.str "N", n)] = true := by
  have a2 : keyB (.str "Y") (.str "X") = false := by decide +kernel
  have a3 : keyB (.str "Z") (.str "X") = false := by decide +kernel
  have a4 : keyB (.str "N") (.str "X") = false := by decide +kernel
  have b3 : keyB (.str "Z") (.str "Y") = false := by decide +kernel
  have b4 : keyB (.str "N") (.str "Y") = false := by decide +kernel
  have c4 : keyB (.str "N") (.str "Z") = false := by decide +kernel
  simp [nodK, a2, a3, a4, b3, b4, c4]
theorem eqd_bd {b : Dt} (h : gBd b) : eqd 50 b = true := by
  obtain ⟨x, y, z, n, hx, hy, hz, hn, rfl⟩ := h
  have e : ((good (bdD x y z n) && PyData.eqv (bdD x y z n) (bdD x y z n)) || (([(PyData.str "X", x), (.str "Y", y), (.str "Z", z), (.str "N", n)].all fun p => atomK p.1) && (nodK [(.str "X", x), (.str "Y", y), (.str "Z", z), (.str "N", n)] && [(PyData.str "X", x), (.str "Y", y), (.str "Z", z), (.str "N", n)].all fun p => eqd 49 p.2))) = true := by
    rw [nodXYZN]
    simp only [List.all_cons, List.all_nil, eqd_val hx, eqd_val hy, eqd_val hz, eqd_val hn]
    rw [Bool.or_eq_true]
    exact .inr rfl
  exact e
theorem eqdT_bds {fs : List Dt} (h : bds fs) : eqdT true (.list fs) = true := List.all_eq_true.mpr fun b hb => eqd_bd (h.1 b hb)
theorem rows_good {l : List Dt} (h : ∀ x ∈ l, rowV x) : flatN 2 (.list l) := flat_list fun x hx => rowV_flat (h x hx)
theorem foldV_plain {kd : Dt} {rows : List Dt} (hk : gKind kd) (hr : ∀ r ∈ rows, gRow r) : good (foldV kd rows) = true ∧ PyData.eqv (foldV kd rows) (foldV kd rows) = true := by
  cases e : noneB (foldV kd rows) with
  | true =>
    have : foldV kd rows = .none := by
      generalize foldV kd rows = v at e
      cases v <;> first | rfl | cases e
    rw [this]; exact ⟨rfl, rfl⟩
  | false =>
    have hf := flat_val (foldV_val hk hr e)
    exact ⟨good_flat hf (by decide), eqv_refl hf.1⟩
/-- the dicts whose X and Y are taken -/
def gXY (b : Dt) : Prop := ∃ kvs x y, b = .dict kvs ∧ gVal x ∧ gVal y ∧ kindOk (kvs.map fun p => (p.1, Im.d p.2)) (.str "X") = true ∧ kindOk (kvs.map fun p => (p.1, Im.d p.2)) (.str "Y") = true ∧ dGet kvs (.str "X") = some x ∧ dGet kvs (.str "Y") = some y
theorem gXY_bd {b : Dt} (h : gBd b) : gXY b := by
  obtain ⟨kvs, rfl, k1, k2, k3⟩ := bd_get (k := .str "X") h (.inl rfl)
  obtain ⟨kvs', e, l1, l2, l3⟩ := bd_get (k := .str "Y") h (.inr (.inl rfl))
  cases e
  exact ⟨kvs, _, _, rfl, k3, l3, k1, l1, k2, l2⟩
abbrev odd2 : Dt := .dict [(.str "X", .str "b"), (.str "Y", .int 3)]
theorem gXY_odd : gXY odd2 := by
  have a1 : keyB (.str "X") (.str "X") = true := by decide +kernel
  have a2 : keyB (.str "X") (.str "Y") = false := by decide +kernel
  have b2 : keyB (.str "Y") (.str "Y") = true := by decide +kernel
  exact ⟨_, .str "b", .int 3, rfl, .inr ⟨_, rfl, by decide⟩, .inl ⟨3, rfl, by decide⟩, rfl, rfl, by simp [dGet, a1], by simp [dGet, a2, b2]⟩
theorem end1 : foldV (.str "sum") [.tuple [.str "a"], .tuple [.str "b"]] = .int 0 := by
  rw [fv_sum]; exact if_pos ⟨by decide, by decide⟩
theorem end2 : foldV (.str "max") [.tuple [.str "a"], .tuple [.int 5]] = .str "a" := by
  rw [fv_max]
  show ((srt voD [.str "a", .int 5]).getLast?).getD .none = _
  rw [best_last fun y hy => by
    simp only [List.mem_cons, List.not_mem_nil, or_false] at hy
    rcases hy with rfl | rfl <;> rfl]
  have e : bestK gtB voD (.str "a") [.int 5] = (if PySem.W.dataLt (voD (.str "a")) (voD (.int 5)) = true then .int 5 else .str "a") := rfl
  rw [e, show PySem.W.dataLt (voD (.str "a")) (voD (.int 5)) = false by decide +kernel]
  rfl
theorem odd_put : kvsD (putI [(PyData.str "X", Im.d (.str "b")), (.str "Y", .d (.int 3))]) = some [(.str "X", .str "b"), (.str "Y", .int 3)] := by
  have a2 : keyB (.str "X") (.str "Y") = false := by decide +kernel
  simp [putI, dPut, dGet, a2, kvsD]
theorem l_law : lenOf S_law 1 := fun ds Q R h => by
  obtain ⟨ns, rfl, _⟩ := h; rfl
abbrev E0 (ns : List Int) (o1 o2 o3 o4 o5 o6 o7 o8 o9 o10 : Option Im) : Ec := [some (.d (.list (dI ns))), o1, o2, o3, o4, o5, o6, o7, o8, o9, o10]
theorem b_law : bodyOf S_law ev_law ir_law nm_law := fun ds Q R h => by
  obtain ⟨ns, rfl, hl, hb, hq⟩ := h
  refine ⟨⟨by decide, by decide⟩, fun i Γ M => (∃ o1 o2 o3 o4 o5 o6 o7 o8 o9 o10, Γ = E0 ns o1 o2 o3 o4 o5 o6 o7 o8 o9 o10) ∧ M = [], ⟨⟨_, _, _, _, _, _, _, _, _, _, rfl⟩, rfl⟩, fun i x Γ M hx hj => ⟨trivial, ?_⟩, fun Γ M hj => ⟨trivial, ?_⟩⟩
  · obtain ⟨hi, rfl⟩ := intsL_get hx
    obtain ⟨⟨o1, o2, o3, o4, o5, o6, o7, o8, o9, o10, rfl⟩, rfl⟩ := hj
    have hi : i < 16 := hi
    have hN := bx_num (k := 0 + (i : Int)) hb
    refine ⟨ns, 1048576, rfl, num_bd (by omega) (by omega), hb, by decide, ?_⟩
    generalize numL ns (0 + (i : Int)) = N at hN
    have hN2 : N.natAbs < 2 ^ 1048700 := Nat.lt_of_lt_of_le hN.2 (pow_le2 (by decide))
    obtain ⟨hd, hhd, ehd⟩ := at_mod (ds := ([.str "d0", .str "d1", .str "d3", .str "d4"] : List Dt)) N (m := 4) rfl (by decide)
    refine ⟨lz4, lz1, ⟨by decide, by decide⟩, ?_⟩
    walk_at "w"
    rw [ehd]
    have hrel : gRel hd := by
      simp only [List.mem_cons, List.not_mem_nil, or_false] at hhd
      rcases hhd with rfl | rfl | rfl | rfl
      · exact .inr (.inr (.inr (.inl rfl)))
      · exact .inr (.inr (.inr (.inr (.inl rfl))))
      · exact .inr (.inr (.inr (.inr (.inr (.inr (.inl rfl))))))
      · exact .inr (.inr (.inr (.inr (.inr (.inr (.inr rfl))))))
    refine ⟨lz3, Nat.zero_le _, hN2, hrel, ⟨⟨fun x hx => ?_, by decide⟩, by decide⟩, ⟨fun x h => absurd h (by simp), by decide⟩, fun rule hrule => ?_⟩
    · simp only [List.mem_cons, List.not_mem_nil, or_false] at hx
      rcases hx with rfl | rfl | rfl
      · exact .inl rfl
      · exact .inr (.inl rfl)
      · exact .inr (.inr (.inl rfl))
    have hR := gRule_R hrule
    have hN3 := bx_num (k := 3) (bx_one hN)
    refine ⟨lz1, [N], 1048576 + 64, rfl, num_bd (by decide) (by decide), bx_one hN, by decide, ?_⟩
    generalize numL [N] 3 = N3 at hN3
    refine ⟨Nat.lt_of_lt_of_le hN3.2 (pow_le2 (by decide)), hN3.1, fun fs hfs => ?_⟩
    have hfl := hfs.2
    have hfz : (fs.map Im.d).length ≤ sizeLine := by rw [List.length_map]; exact lzn (by omega)
    refine ⟨hfz, datD, fun _ => true, fun x hx acc => ?_, fun _ => trivial, ?_⟩
    · obtain ⟨b, hbm, rfl⟩ := List.mem_map.mp hx
      obtain ⟨x, y, z, n, _, _, _, _, rfl⟩ := hfs.1 b hbm
      exact ⟨rfl, rfl, fun _ => ⟨rfl, rfl, rfl⟩⟩
    walk_at "w"
    rw [fil_true, List.map_map, show fs.map (datD ∘ Im.d) = fs from List.map_id' _]
    refine ⟨hR, hfs, hR, hfs, ?_⟩
    have hm := made_ok hR hfs
    generalize madeP rule fs = made at hm
    have hso := rows_sortOk hm.1
    have hgo := rows_good fun x hx => hm.1 x (srt_mem (kf := roD).mp hx)
    refine ⟨fun _ => ⟨fun _ => ⟨⟨rfl, eqdT_bds hfs⟩, fun e => (by cases e), fun _ => ?_⟩, fun e => ?_⟩, fun e => (by cases e)⟩
    · refine ⟨roD, fun d hd => S_ro (hm.1 d hd), hso, ?_⟩
      walk_at "w"
      rw [show (((made.map fun x => (x, PyData.bool true)).map fun p => (p.1, Im.d p.2)).map fun x => x.1) = made from keysIm made]
      refine ⟨roD, fun d hd => S_ro (hm.1 d hd), hso, good_flat hgo (by decide), good_flat hgo (by decide), ?_⟩
      rw [show PyData.eqv (.list (made.mergeSort (PySem.W.dataLe false roD))) (.list (made.mergeSort (PySem.W.dataLe false roD))) = true from eqv_refl hgo.1]
      refine ⟨fun e => (by cases e), fun _ => ⟨rfl, ?_⟩⟩
      let E1 := fun (o8 o9 o10 : Option Im) => E0 ns (some (.d (.int (0 + (i : Int))))) (some (.d (.int N))) (some (.d rule)) (some (.d (.list fs))) (some (.d (.list fs))) (some (.d (.list made))) (some (.d (.dict (made.map fun x => (x, PyData.bool true))))) o8 o9 o10
      refine ⟨lz1, lzn (by show fs.length + 1 ≤ _; omega), fun j Γ M => ∃ o9 rows, Γ = E1 (some (.p 1)) o9 o10 ∧ M = [.dl [.int (N / 4)], .dd (prs rows), .dead] ∧ (∀ r ∈ rows, gRow r) ∧ rows.length ≤ j ∧ (0 < j → 0 < rows.length), ⟨_, [], rfl, rfl, fun r h => absurd h (by simp), Nat.le_refl 0, fun h => absurd h (by decide)⟩, fun j x Γ M hx hj => ⟨trivial, ?_⟩, fun Γ M hj => ⟨trivial, ?_⟩⟩
      · obtain ⟨b, hbi, hbm, rfl⟩ := mem_im (xs := fs ++ [odd2]) hx
        obtain ⟨o9, rows, rfl, rfl, hr, hrl, hr0⟩ := hj
        have hj31 : j < fs.length + 1 := by
          have := (List.getElem?_eq_some_iff.mp hbi).1
          simpa using this
        obtain ⟨kvs, x, y, rfl, gx, gy, k1, k2, d1, d2⟩ : gXY b := (List.mem_append.mp hbm).elim (fun h => gXY_bd (hfs.1 b h)) fun h => by simp at h; subst h; exact gXY_odd
        refine ⟨k1, ?_⟩
        walk_at "w"
        rw [dGet_im d1]
        refine ⟨k2, ?_⟩
        walk_at "w"
        rw [dGet_im d2]
        have hgr : gRow (.tuple [x, y]) := ⟨_, rfl, fun v hv => by simp at hv; rcases hv with rfl | rfl <;> assumption, (show 0 < 2 by decide), (show 2 ≤ 3 by decide)⟩
        have hrv : ∀ x ∈ rows, rowV x := fun x hx => row_ky (hr x hx)
        refine ⟨lz2, kind_rows (row_ky hgr) (fun p hp => ?_), by rw [List.length_map]; unfold prs; rw [List.length_map]; exact lzl (by omega), .inl ⟨_, Fo.refl _, _, addK rows (.tuple [x, y]), rfl, ?_, fun r hm => (addK_mem.mp hm).elim (hr r) fun e => e ▸ hgr, Nat.le_trans addK_len (Nat.succ_le_succ hrl), fun _ => List.length_pos_of_mem (addK_mem.mpr (.inr rfl))⟩⟩
        · obtain ⟨q, hq, rfl⟩ := List.mem_map.mp hp
          obtain ⟨x, hx, rfl⟩ := List.mem_map.mp hq
          exact hrv x hx
        · rw [← dPut_prs hrv (row_ky hgr)]; rfl
      · obtain ⟨o9, rows, rfl, rfl, hr, hrl, hr0⟩ := hj
        have hrl : rows.length ≤ fs.length + 1 := by simpa using hrl
        have hr0 : 0 < rows.length := hr0 (by simp)
        have hro : rowsOk rows := ⟨hr, hr0, by omega⟩
        walk_at "w"
        rw [show (((prs rows).map fun p => (p.1, Im.d p.2)).map fun p => p.1) = rows from keysIm rows]
        refine ⟨lz4, fun j Γ M => (∃ o10, Γ = E1 (some (.d (.list rows))) o9 o10) ∧ M = [.dl [.int (N / 4)], .dd (prs rows), .dead], ⟨⟨_, rfl⟩, rfl⟩, fun j x Γ M hx hj => ⟨trivial, ?_⟩, fun Γ M hj => ⟨trivial, ?_⟩⟩
        · obtain ⟨kd, hki, hkm, rfl⟩ := mem_im (xs := [.str "count", .str "sum", .str "min", .str "max"]) hx
          obtain ⟨⟨o10, rfl⟩, rfl⟩ := hj
          have hk : gKind kd := by
            simp only [List.mem_cons, List.not_mem_nil, or_false] at hkm
            exact hkm
          have hp := foldV_plain hk hr
          refine ⟨hk, hro, hk, hro, ?_⟩
          walk_at "w"
          refine neW_tf hp.1 hp.1 (fun _ => .inl ⟨_, Fo.refl _, ⟨_, rfl⟩, rfl⟩) (fun e => ?_)
          rw [hp.2] at e; cases e
        · obtain ⟨⟨o10, rfl⟩, rfl⟩ := hj
          exact .inr ⟨E0 ns none none none none none none none none none none, [], se_mk _ ⟨rfl, trivial⟩ rfl rfl (Nat.le_refl 0), ⟨_, _, _, _, _, _, _, _, _, _, rfl⟩, rfl⟩
    · exact absurd (show (!decide ((made.length : Int) = (((made.map fun x => (x, PyData.bool true)).map fun p => (p.1, Im.d p.2)).length : Nat))) = true from e) (by simp)
  · obtain ⟨⟨o1, o2, o3, o4, o5, o6, o7, o8, o9, o10, rfl⟩, rfl⟩ := hj
    refine ⟨lz1, lz1, lz2, .inr (.inl rfl), ⟨fun r hr => ?_, by decide, by decide⟩, ?_⟩
    · simp only [List.mem_cons, List.not_mem_nil, or_false] at hr
      rcases hr with rfl | rfl
      · exact ⟨_, rfl, fun v hv => by simp at hv; subst hv; exact .inr ⟨_, rfl, by decide⟩, by decide, by decide⟩
      · exact ⟨_, rfl, fun v hv => by simp at hv; subst hv; exact .inr ⟨_, rfl, by decide⟩, by decide, by decide⟩
    rw [end1]
    refine ⟨fun _ => ⟨lz1, lz1, lz2, .inr (.inr (.inr rfl)), ⟨fun r hr => ?_, by decide, by decide⟩, ?_⟩, fun e => (by cases e)⟩
    · simp only [List.mem_cons, List.not_mem_nil, or_false] at hr
      rcases hr with rfl | rfl
      · exact ⟨_, rfl, fun v hv => by simp at hv; subst hv; exact .inr ⟨_, rfl, by decide⟩, by decide, by decide⟩
      · exact ⟨_, rfl, fun v hv => by simp at hv; subst hv; exact .inl ⟨5, rfl, by decide⟩, by decide, by decide⟩
    rw [end2]
    exact hq
end K13

namespace K13
open PySem PySem.Spec PyProof.Rows L2 DX
def top (i : Nat) : Stmt := PySem.Challenge.pw_herefrom_k13_heads_and_folds.main.body.getD i (.Pass ⟨0, 0, 0, 0⟩)
theorem c_law_number : (chk ev_law_number 60).ss (ckOf nm_law_number (top 17) bl_law_number) (defBody (top 17)) ir_law_number = true := by decide +kernel
theorem s_law_number : FnScope nm_law_number pa_law_number (defScope (top 17)) := ⟨rfl, rfl, rfl, by decide +kernel, rfl, by decide +kernel, by decide +kernel⟩
theorem c_law_take : (chk ev_law_take 60).ss (ckOf nm_law_take (top 18) bl_law_take) (defBody (top 18)) ir_law_take = true := by decide +kernel
theorem s_law_take : FnScope nm_law_take pa_law_take (defScope (top 18)) := ⟨rfl, rfl, rfl, by decide +kernel, rfl, by decide +kernel, by decide +kernel⟩
theorem c_law_const : (chk ev_law_const 60).ss (ckOf nm_law_const (top 25) bl_law_const) (defBody (top 25)) ir_law_const = true := by decide +kernel
theorem s_law_const : FnScope nm_law_const pa_law_const (defScope (top 25)) := ⟨rfl, rfl, rfl, by decide +kernel, rfl, by decide +kernel, by decide +kernel⟩
theorem c_law_term : (chk ev_law_term 60).ss (ckOf nm_law_term (top 26) bl_law_term) (defBody (top 26)) ir_law_term = true := by decide +kernel
theorem s_law_term : FnScope nm_law_term pa_law_term (defScope (top 26)) := ⟨rfl, rfl, rfl, by decide +kernel, rfl, by decide +kernel, by decide +kernel⟩
theorem c_law_width : (chk ev_law_width 60).ss (ckOf nm_law_width (top 24) bl_law_width) (defBody (top 24)) ir_law_width = true := by decide +kernel
theorem s_law_width : FnScope nm_law_width pa_law_width (defScope (top 24)) := ⟨rfl, rfl, rfl, by decide +kernel, rfl, by decide +kernel, by decide +kernel⟩
theorem c_law_atom : (chk ev_law_atom 60).ss (ckOf nm_law_atom (top 27) bl_law_atom) (defBody (top 27)) ir_law_atom = true := by decide +kernel
theorem s_law_atom : FnScope nm_law_atom pa_law_atom (defScope (top 27)) := ⟨rfl, rfl, rfl, by decide +kernel, rfl, by decide +kernel, by decide +kernel⟩
theorem c_law_once : (chk ev_law_once 60).ss (ckOf nm_law_once (top 19) bl_law_once) (defBody (top 19)) ir_law_once = true := by decide +kernel
theorem s_law_once : FnScope nm_law_once pa_law_once (defScope (top 19)) := ⟨rfl, rfl, rfl, by decide +kernel, rfl, by decide +kernel, by decide +kernel⟩
theorem c_law_names : (chk ev_law_names 60).ss (ckOf nm_law_names (top 28) bl_law_names) (defBody (top 28)) ir_law_names = true := by decide +kernel
theorem s_law_names : FnScope nm_law_names pa_law_names (defScope (top 28)) := ⟨rfl, rfl, rfl, by decide +kernel, rfl, by decide +kernel, by decide +kernel⟩
theorem c_law_extras : (chk ev_law_extras 60).ss (ckOf nm_law_extras (top 29) bl_law_extras) (defBody (top 29)) ir_law_extras = true := by decide +kernel
theorem s_law_extras : FnScope nm_law_extras pa_law_extras (defScope (top 29)) := ⟨rfl, rfl, rfl, by decide +kernel, rfl, by decide +kernel, by decide +kernel⟩
theorem c_law_body : (chk ev_law_body 60).ss (ckOf nm_law_body (top 30) bl_law_body) (defBody (top 30)) ir_law_body = true := by decide +kernel
theorem s_law_body : FnScope nm_law_body pa_law_body (defScope (top 30)) := ⟨rfl, rfl, rfl, by decide +kernel, rfl, by decide +kernel, by decide +kernel⟩
theorem c_law_rule : (chk ev_law_rule 60).ss (ckOf nm_law_rule (top 31) bl_law_rule) (defBody (top 31)) ir_law_rule = true := by decide +kernel
theorem s_law_rule : FnScope nm_law_rule pa_law_rule (defScope (top 31)) := ⟨rfl, rfl, rfl, by decide +kernel, rfl, by decide +kernel, by decide +kernel⟩
theorem c_law_ways : (chk ev_law_ways 60).ss (ckOf nm_law_ways (top 33) bl_law_ways) (defBody (top 33)) ir_law_ways = true := by decide +kernel
theorem s_law_ways : FnScope nm_law_ways pa_law_ways (defScope (top 33)) := ⟨rfl, rfl, rfl, by decide +kernel, rfl, by decide +kernel, by decide +kernel⟩
theorem c_resolved : (chk ev_resolved 60).ss (ckOf nm_resolved (top 10) bl_resolved) (defBody (top 10)) ir_resolved = true := by decide +kernel
theorem s_resolved : FnScope nm_resolved pa_resolved (defScope (top 10)) := ⟨rfl, rfl, rfl, by decide +kernel, rfl, by decide +kernel, by decide +kernel⟩
theorem c_row_of : (chk ev_row_of 60).ss (ckOf nm_row_of (top 12) bl_row_of) (defBody (top 12)) ir_row_of = true := by decide +kernel
theorem s_row_of : FnScope nm_row_of pa_row_of (defScope (top 12)) := ⟨rfl, rfl, rfl, by decide +kernel, rfl, by decide +kernel, by decide +kernel⟩
theorem c_value_order : (chk ev_value_order 60).ss (ckOf nm_value_order (top 7) bl_value_order) (defBody (top 7)) ir_value_order = true := by decide +kernel
theorem s_value_order : FnScope nm_value_order pa_value_order (defScope (top 7)) := ⟨rfl, rfl, rfl, by decide +kernel, rfl, by decide +kernel, by decide +kernel⟩
theorem c_row_order : (chk ev_row_order 60).ss (ckOf nm_row_order (top 8) bl_row_order) (defBody (top 8)) ir_row_order = true := by decide +kernel
theorem s_row_order : FnScope nm_row_order pa_row_order (defScope (top 8)) := ⟨rfl, rfl, rfl, by decide +kernel, rfl, by decide +kernel, by decide +kernel⟩
theorem c_groups_of : (chk ev_groups_of 60).ss (ckOf nm_groups_of (top 13) bl_groups_of) (defBody (top 13)) ir_groups_of = true := by decide +kernel
theorem s_groups_of : FnScope nm_groups_of pa_groups_of (defScope (top 13)) := ⟨rfl, rfl, rfl, by decide +kernel, rfl, by decide +kernel, by decide +kernel⟩
theorem c_is_integer : (chk ev_is_integer 60).ss (ckOf nm_is_integer (top 5) bl_is_integer) (defBody (top 5)) ir_is_integer = true := by decide +kernel
theorem s_is_integer : FnScope nm_is_integer pa_is_integer (defScope (top 5)) := ⟨rfl, rfl, rfl, by decide +kernel, rfl, by decide +kernel, by decide +kernel⟩
theorem c_is_sign : (chk ev_is_sign 60).ss (ckOf nm_is_sign (top 4) bl_is_sign) (defBody (top 4)) ir_is_sign = true := by decide +kernel
theorem s_is_sign : FnScope nm_is_sign pa_is_sign (defScope (top 4)) := ⟨rfl, rfl, rfl, by decide +kernel, rfl, by decide +kernel, by decide +kernel⟩
theorem c_is_value : (chk ev_is_value 60).ss (ckOf nm_is_value (top 6) bl_is_value) (defBody (top 6)) ir_is_value = true := by decide +kernel
theorem s_is_value : FnScope nm_is_value pa_is_value (defScope (top 6)) := ⟨rfl, rfl, rfl, by decide +kernel, rfl, by decide +kernel, by decide +kernel⟩
theorem c_folded : (chk ev_folded 60).ss (ckOf nm_folded (top 14) bl_folded) (defBody (top 14)) ir_folded = true := by decide +kernel
theorem s_folded : FnScope nm_folded pa_folded (defScope (top 14)) := ⟨rfl, rfl, rfl, by decide +kernel, rfl, by decide +kernel, by decide +kernel⟩
theorem c_rows_made : (chk ev_rows_made 60).ss (ckOf nm_rows_made (top 15) bl_rows_made) (defBody (top 15)) ir_rows_made = true := by decide +kernel
theorem s_rows_made : FnScope nm_rows_made pa_rows_made (defScope (top 15)) := ⟨rfl, rfl, rfl, by decide +kernel, rfl, by decide +kernel, by decide +kernel⟩
theorem c_law_value : (chk ev_law_value 60).ss (ckOf nm_law_value (top 22) bl_law_value) (defBody (top 22)) ir_law_value = true := by decide +kernel
theorem s_law_value : FnScope nm_law_value pa_law_value (defScope (top 22)) := ⟨rfl, rfl, rfl, by decide +kernel, rfl, by decide +kernel, by decide +kernel⟩
theorem c_law_order : (chk ev_law_order 60).ss (ckOf nm_law_order (top 20) bl_law_order) (defBody (top 20)) ir_law_order = true := by decide +kernel
theorem s_law_order : FnScope nm_law_order pa_law_order (defScope (top 20)) := ⟨rfl, rfl, rfl, by decide +kernel, rfl, by decide +kernel, by decide +kernel⟩
theorem c_law_fold : (chk ev_law_fold 60).ss (ckOf nm_law_fold (top 23) bl_law_fold) (defBody (top 23)) ir_law_fold = true := by decide +kernel
theorem s_law_fold : FnScope nm_law_fold pa_law_fold (defScope (top 23)) := ⟨rfl, rfl, rfl, by decide +kernel, rfl, by decide +kernel, by decide +kernel⟩
theorem c_law_rows : (chk ev_law_rows 60).ss (ckOf nm_law_rows (top 32) bl_law_rows) (defBody (top 32)) ir_law_rows = true := by decide +kernel
theorem s_law_rows : FnScope nm_law_rows pa_law_rows (defScope (top 32)) := ⟨rfl, rfl, rfl, by decide +kernel, rfl, by decide +kernel, by decide +kernel⟩
theorem c_law_row_order : (chk ev_law_row_order 60).ss (ckOf nm_law_row_order (top 21) bl_law_row_order) (defBody (top 21)) ir_law_row_order = true := by decide +kernel
theorem s_law_row_order : FnScope nm_law_row_order pa_law_row_order (defScope (top 21)) := ⟨rfl, rfl, rfl, by decide +kernel, rfl, by decide +kernel, by decide +kernel⟩
theorem c_law : (chk ev_law 60).ss (ckOf nm_law (top 34) bl_law) (defBody (top 34)) ir_law = true := by decide +kernel
theorem s_law : FnScope nm_law pa_law (defScope (top 34)) := ⟨rfl, rfl, rfl, by decide +kernel, rfl, by decide +kernel, by decide +kernel⟩
section
variable {P : Program} {w : World} {K : PySem.W.Frag} {mg : Str → Option Value} {base : Heap} {k : Nat}
theorem ok_law_const {st : Stmt} {f : Addr} {fd : FuncData} (Fu : Fun K "_law_const" "_law_const" st f fd) (Sc : FnScope nm_law_const pa_law_const (defScope st)) (hc : (chk ev_law_const 60).ss (ckOf nm_law_const st bl_law_const) (defBody st) ir_law_const = true) (nd : Nds P w K mg base k ev_law_const bl_law_const) :
    FnOk P w K mg base (L2.CX P w) (k + 3) f fd pa_law_const (spFn K w mg sp_law_const) := def_mut Fu Sc hc nd l_law_const b_law_const
theorem ok_law_term {st : Stmt} {f : Addr} {fd : FuncData} (Fu : Fun K "_law_term" "_law_term" st f fd) (Sc : FnScope nm_law_term pa_law_term (defScope st)) (hc : (chk ev_law_term 60).ss (ckOf nm_law_term st bl_law_term) (defBody st) ir_law_term = true) (nd : Nds P w K mg base k ev_law_term bl_law_term) :
    FnOk P w K mg base (L2.CX P w) (k + 3) f fd pa_law_term (spFn K w mg sp_law_term) := def_mut Fu Sc hc nd l_law_term b_law_term
theorem ok_law_width {st : Stmt} {f : Addr} {fd : FuncData} (Fu : Fun K "_law_width" "_law_width" st f fd) (Sc : FnScope nm_law_width pa_law_width (defScope st)) (hc : (chk ev_law_width 60).ss (ckOf nm_law_width st bl_law_width) (defBody st) ir_law_width = true) (nd : Nds P w K mg base k ev_law_width bl_law_width) :
    FnOk P w K mg base (L2.CX P w) (k + 3) f fd pa_law_width (spFn K w mg sp_law_width) := def_pure Fu Sc hc nd l_law_width b_law_width
theorem ok_law_atom {st : Stmt} {f : Addr} {fd : FuncData} (Fu : Fun K "_law_atom" "_law_atom" st f fd) (Sc : FnScope nm_law_atom pa_law_atom (defScope st)) (hc : (chk ev_law_atom 60).ss (ckOf nm_law_atom st bl_law_atom) (defBody st) ir_law_atom = true) (nd : Nds P w K mg base k ev_law_atom bl_law_atom) :
    FnOk P w K mg base (L2.CX P w) (k + 3) f fd pa_law_atom (spFn K w mg sp_law_atom) := def_mut Fu Sc hc nd l_law_atom b_law_atom
theorem ok_law_once {st : Stmt} {f : Addr} {fd : FuncData} (Fu : Fun K "_law_once" "_law_once" st f fd) (Sc : FnScope nm_law_once pa_law_once (defScope st)) (hc : (chk ev_law_once 60).ss (ckOf nm_law_once st bl_law_once) (defBody st) ir_law_once = true) (nd : Nds P w K mg base k ev_law_once bl_law_once) :
    FnOk P w K mg base (L2.CX P w) (k + 3) f fd pa_law_once (spFn K w mg sp_law_once) := def_pure Fu Sc hc nd l_law_once b_law_once
theorem ok_law_names {st : Stmt} {f : Addr} {fd : FuncData} (Fu : Fun K "_law_names" "_law_names" st f fd) (Sc : FnScope nm_law_names pa_law_names (defScope st)) (hc : (chk ev_law_names 60).ss (ckOf nm_law_names st bl_law_names) (defBody st) ir_law_names = true) (nd : Nds P w K mg base k ev_law_names bl_law_names) :
    FnOk P w K mg base (L2.CX P w) (k + 3) f fd pa_law_names (spFn K w mg sp_law_names) := def_mut Fu Sc hc nd l_law_names b_law_names
theorem ok_law_extras {st : Stmt} {f : Addr} {fd : FuncData} (Fu : Fun K "_law_extras" "_law_extras" st f fd) (Sc : FnScope nm_law_extras pa_law_extras (defScope st)) (hc : (chk ev_law_extras 60).ss (ckOf nm_law_extras st bl_law_extras) (defBody st) ir_law_extras = true) (nd : Nds P w K mg base k ev_law_extras bl_law_extras) :
    FnOk P w K mg base (L2.CX P w) (k + 3) f fd pa_law_extras (spFn K w mg sp_law_extras) := def_mut Fu Sc hc nd l_law_extras b_law_extras
theorem ok_law_body {st : Stmt} {f : Addr} {fd : FuncData} (Fu : Fun K "_law_body" "_law_body" st f fd) (Sc : FnScope nm_law_body pa_law_body (defScope st)) (hc : (chk ev_law_body 60).ss (ckOf nm_law_body st bl_law_body) (defBody st) ir_law_body = true) (nd : Nds P w K mg base k ev_law_body bl_law_body) :
    FnOk P w K mg base (L2.CX P w) (k + 3) f fd pa_law_body (spFn K w mg sp_law_body) := def_pure Fu Sc hc nd l_law_body b_law_body
theorem ok_law_rule {st : Stmt} {f : Addr} {fd : FuncData} (Fu : Fun K "_law_rule" "_law_rule" st f fd) (Sc : FnScope nm_law_rule pa_law_rule (defScope st)) (hc : (chk ev_law_rule 60).ss (ckOf nm_law_rule st bl_law_rule) (defBody st) ir_law_rule = true) (nd : Nds P w K mg base k ev_law_rule bl_law_rule) :
    FnOk P w K mg base (L2.CX P w) (k + 3) f fd pa_law_rule (spFn K w mg sp_law_rule) := def_pure Fu Sc hc nd l_law_rule b_law_rule
theorem ok_law_ways {st : Stmt} {f : Addr} {fd : FuncData} (Fu : Fun K "_law_ways" "_law_ways" st f fd) (Sc : FnScope nm_law_ways pa_law_ways (defScope st)) (hc : (chk ev_law_ways 60).ss (ckOf nm_law_ways st bl_law_ways) (defBody st) ir_law_ways = true) (nd : Nds P w K mg base k ev_law_ways bl_law_ways) :
    FnOk P w K mg base (L2.CX P w) (k + 3) f fd pa_law_ways (spFn K w mg sp_law_ways) := def_pure Fu Sc hc nd l_law_ways b_law_ways
theorem ok_resolved {st : Stmt} {f : Addr} {fd : FuncData} (Fu : Fun K "resolved" "resolved" st f fd) (Sc : FnScope nm_resolved pa_resolved (defScope st)) (hc : (chk ev_resolved 60).ss (ckOf nm_resolved st bl_resolved) (defBody st) ir_resolved = true) (nd : Nds P w K mg base k ev_resolved bl_resolved) :
    FnOk P w K mg base (L2.CX P w) (k + 3) f fd pa_resolved (spFn K w mg sp_resolved) := def_pure Fu Sc hc nd l_resolved b_resolved
theorem ok_row_of {st : Stmt} {f : Addr} {fd : FuncData} (Fu : Fun K "row_of" "row_of" st f fd) (Sc : FnScope nm_row_of pa_row_of (defScope st)) (hc : (chk ev_row_of 60).ss (ckOf nm_row_of st bl_row_of) (defBody st) ir_row_of = true) (nd : Nds P w K mg base k ev_row_of bl_row_of) :
    FnOk P w K mg base (L2.CX P w) (k + 3) f fd pa_row_of (spFn K w mg sp_row_of) := def_pure Fu Sc hc nd l_row_of b_row_of
theorem ok_value_order {st : Stmt} {f : Addr} {fd : FuncData} (Fu : Fun K "value_order" "value_order" st f fd) (Sc : FnScope nm_value_order pa_value_order (defScope st)) (hc : (chk ev_value_order 60).ss (ckOf nm_value_order st bl_value_order) (defBody st) ir_value_order = true) (nd : Nds P w K mg base k ev_value_order bl_value_order) :
    FnOk P w K mg base (L2.CX P w) (k + 3) f fd pa_value_order (spFn K w mg sp_value_order) := def_pure Fu Sc hc nd l_value_order b_value_order
theorem ok_row_order {st : Stmt} {f : Addr} {fd : FuncData} (Fu : Fun K "row_order" "row_order" st f fd) (Sc : FnScope nm_row_order pa_row_order (defScope st)) (hc : (chk ev_row_order 60).ss (ckOf nm_row_order st bl_row_order) (defBody st) ir_row_order = true) (nd : Nds P w K mg base k ev_row_order bl_row_order) :
    FnOk P w K mg base (L2.CX P w) (k + 3) f fd pa_row_order (spFn K w mg sp_row_order) := def_pure Fu Sc hc nd l_row_order b_row_order
theorem ok_groups_of {st : Stmt} {f : Addr} {fd : FuncData} (Fu : Fun K "groups_of" "groups_of" st f fd) (Sc : FnScope nm_groups_of pa_groups_of (defScope st)) (hc : (chk ev_groups_of 60).ss (ckOf nm_groups_of st bl_groups_of) (defBody st) ir_groups_of = true) (nd : Nds P w K mg base k ev_groups_of bl_groups_of) :
    FnOk P w K mg base (L2.CX P w) (k + 3) f fd pa_groups_of (spFn K w mg sp_groups_of) := def_pure Fu Sc hc nd l_groups_of b_groups_of
theorem ok_is_integer {st : Stmt} {f : Addr} {fd : FuncData} (Fu : Fun K "is_integer" "is_integer" st f fd) (Sc : FnScope nm_is_integer pa_is_integer (defScope st)) (hc : (chk ev_is_integer 60).ss (ckOf nm_is_integer st bl_is_integer) (defBody st) ir_is_integer = true) (nd : Nds P w K mg base k ev_is_integer bl_is_integer) :
    FnOk P w K mg base (L2.CX P w) (k + 3) f fd pa_is_integer (spFn K w mg sp_is_integer) := def_pure Fu Sc hc nd l_is_integer b_is_integer
theorem ok_is_sign {st : Stmt} {f : Addr} {fd : FuncData} (Fu : Fun K "is_sign" "is_sign" st f fd) (Sc : FnScope nm_is_sign pa_is_sign (defScope st)) (hc : (chk ev_is_sign 60).ss (ckOf nm_is_sign st bl_is_sign) (defBody st) ir_is_sign = true) (nd : Nds P w K mg base k ev_is_sign bl_is_sign) :
    FnOk P w K mg base (L2.CX P w) (k + 3) f fd pa_is_sign (spFn K w mg sp_is_sign) := def_pure Fu Sc hc nd l_is_sign b_is_sign
theorem ok_is_value {st : Stmt} {f : Addr} {fd : FuncData} (Fu : Fun K "is_value" "is_value" st f fd) (Sc : FnScope nm_is_value pa_is_value (defScope st)) (hc : (chk ev_is_value 60).ss (ckOf nm_is_value st bl_is_value) (defBody st) ir_is_value = true) (nd : Nds P w K mg base k ev_is_value bl_is_value) :
    FnOk P w K mg base (L2.CX P w) (k + 3) f fd pa_is_value (spFn K w mg sp_is_value) := def_pure Fu Sc hc nd l_is_value b_is_value
theorem ok_folded {st : Stmt} {f : Addr} {fd : FuncData} (Fu : Fun K "folded" "folded" st f fd) (Sc : FnScope nm_folded pa_folded (defScope st)) (hc : (chk ev_folded 60).ss (ckOf nm_folded st bl_folded) (defBody st) ir_folded = true) (nd : Nds P w K mg base k ev_folded bl_folded) :
    FnOk P w K mg base (L2.CX P w) (k + 3) f fd pa_folded (spFn K w mg sp_folded) := def_pure Fu Sc hc nd l_folded b_folded
theorem ok_rows_made {st : Stmt} {f : Addr} {fd : FuncData} (Fu : Fun K "rows_made" "rows_made" st f fd) (Sc : FnScope nm_rows_made pa_rows_made (defScope st)) (hc : (chk ev_rows_made 60).ss (ckOf nm_rows_made st bl_rows_made) (defBody st) ir_rows_made = true) (nd : Nds P w K mg base k ev_rows_made bl_rows_made) :
    FnOk P w K mg base (L2.CX P w) (k + 3) f fd pa_rows_made (spFn K w mg sp_rows_made) := def_pure Fu Sc hc nd l_rows_made b_rows_made
theorem ok_law_value {st : Stmt} {f : Addr} {fd : FuncData} (Fu : Fun K "_law_value" "_law_value" st f fd) (Sc : FnScope nm_law_value pa_law_value (defScope st)) (hc : (chk ev_law_value 60).ss (ckOf nm_law_value st bl_law_value) (defBody st) ir_law_value = true) (nd : Nds P w K mg base k ev_law_value bl_law_value) :
    FnOk P w K mg base (L2.CX P w) (k + 3) f fd pa_law_value (spFn K w mg sp_law_value) := def_pure Fu Sc hc nd l_law_value b_law_value
theorem ok_law_order {st : Stmt} {f : Addr} {fd : FuncData} (Fu : Fun K "_law_order" "_law_order" st f fd) (Sc : FnScope nm_law_order pa_law_order (defScope st)) (hc : (chk ev_law_order 60).ss (ckOf nm_law_order st bl_law_order) (defBody st) ir_law_order = true) (nd : Nds P w K mg base k ev_law_order bl_law_order) :
    FnOk P w K mg base (L2.CX P w) (k + 3) f fd pa_law_order (spFn K w mg sp_law_order) := def_pure Fu Sc hc nd l_law_order b_law_order
theorem ok_law_fold {st : Stmt} {f : Addr} {fd : FuncData} (Fu : Fun K "_law_fold" "_law_fold" st f fd) (Sc : FnScope nm_law_fold pa_law_fold (defScope st)) (hc : (chk ev_law_fold 60).ss (ckOf nm_law_fold st bl_law_fold) (defBody st) ir_law_fold = true) (nd : Nds P w K mg base k ev_law_fold bl_law_fold) :
    FnOk P w K mg base (L2.CX P w) (k + 3) f fd pa_law_fold (spFn K w mg sp_law_fold) := def_pure Fu Sc hc nd l_law_fold b_law_fold
theorem ok_law_rows {st : Stmt} {f : Addr} {fd : FuncData} (Fu : Fun K "_law_rows" "_law_rows" st f fd) (Sc : FnScope nm_law_rows pa_law_rows (defScope st)) (hc : (chk ev_law_rows 60).ss (ckOf nm_law_rows st bl_law_rows) (defBody st) ir_law_rows = true) (nd : Nds P w K mg base k ev_law_rows bl_law_rows) :
    FnOk P w K mg base (L2.CX P w) (k + 3) f fd pa_law_rows (spFn K w mg sp_law_rows) := def_pure Fu Sc hc nd l_law_rows b_law_rows
theorem ok_law_row_order {st : Stmt} {f : Addr} {fd : FuncData} (Fu : Fun K "_law_row_order" "_law_row_order" st f fd) (Sc : FnScope nm_law_row_order pa_law_row_order (defScope st)) (hc : (chk ev_law_row_order 60).ss (ckOf nm_law_row_order st bl_law_row_order) (defBody st) ir_law_row_order = true) (nd : Nds P w K mg base k ev_law_row_order bl_law_row_order) :
    FnOk P w K mg base (L2.CX P w) (k + 3) f fd pa_law_row_order (spFn K w mg sp_law_row_order) := def_pure Fu Sc hc nd l_law_row_order b_law_row_order
theorem ok_law {st : Stmt} {f : Addr} {fd : FuncData} (Fu : Fun K "law" "law" st f fd) (Sc : FnScope nm_law pa_law (defScope st)) (hc : (chk ev_law 60).ss (ckOf nm_law st bl_law) (defBody st) ir_law = true) (nd : Nds P w K mg base k ev_law bl_law) :
    FnOk P w K mg base (L2.CX P w) (k + 3) f fd pa_law (spFn K w mg (.pure S_law)) := def_pure Fu Sc hc nd l_law b_law
end
theorem all_mk {l : PySem.W.OpenLaw} {w : World} {K : PySem.W.Frag} {h : Heap} {mg : Str → Option Value} {fa f0 f1 f2 f3 f4 f5 f6 f7 f8 f9 f10 f11 f12 f13 f14 f15 f16 f17 f18 f19 f20 f21 f22 f23 f24 f25 f26 f27 : Addr} (X : K.In h) (G : h.Ns mainGlobals mg) (hfa : mg "law" = some (.ref fa))
    {od0 an0 od1 an1 od2 an2 od3 an3 od4 an4 od5 an5 od6 an6 od7 an7 od8 an8 od9 an9 od10 an10 od11 an11 od12 an12 od13 an13 od14 an14 od15 an15 od16 an16 od17 an17 od18 an18 od19 an19 od20 an20 od21 an21 od22 an22 od23 an23 od24 an24 od25 an25 od26 an26 od27 an27 : Option Addr} {sl0 sl1 sl2 sl3 sl4 sl5 sl6 sl7 sl8 sl9 sl10 sl11 sl12 sl13 sl14 sl15 sl16 sl17 sl18 sl19 sl20 sl21 sl22 sl23 sl24 sl25 sl26 sl27 : Array (Option Value)} {oc0 kV0 dc0 pm0 cd0 ct0 oc1 kV1 dc1 pm1 cd1 ct1 oc2 kV2 dc2 pm2 cd2 ct2 oc3 kV3 dc3 pm3 cd3 ct3 oc4 kV4 dc4 pm4 cd4 ct4 oc5 kV5 dc5 pm5 cd5 ct5 oc6 kV6 dc6 pm6 cd6 ct6 oc7 kV7 dc7 pm7 cd7 ct7 oc8 kV8 dc8 pm8 cd8 ct8 oc9 kV9 dc9 pm9 cd9 ct9 oc10 kV10 dc10 pm10 cd10 ct10 oc11 kV11 dc11 pm11 cd11 ct11 oc12 kV12 dc12 pm12 cd12 ct12 oc13 kV13 dc13 pm13 cd13 ct13 oc14 kV14 dc14 pm14 cd14 ct14 oc15 kV15 dc15 pm15 cd15 ct15 oc16 kV16 dc16 pm16 cd16 ct16 oc17 kV17 dc17 pm17 cd17 ct17 oc18 kV18 dc18 pm18 cd18 ct18 oc19 kV19 dc19 pm19 cd19 ct19 oc20 kV20 dc20 pm20 cd20 ct20 oc21 kV21 dc21 pm21 cd21 ct21 oc22 kV22 dc22 pm22 cd22 ct22 oc23 kV23 dc23 pm23 cd23 ct23 oc24 kV24 dc24 pm24 cd24 ct24 oc25 kV25 dc25 pm25 cd25 ct25 oc26 kV26 dc26 pm26 cd26 ct26 oc27 kV27 dc27 pm27 cd27 ct27 : Value}
    {t0 t1 t2 : Tok}
    (a0 : PySem.W.nsIn K mainGlobals "_law_number" = some (some (.ref f0))) (l0 : K.lookup f0 = some ⟨oc0, od0, .func (PySem.W.fnOf "_law_number" "_law_number" (defArgs (top 17)) (defBody (top 17)) (defScope (top 17)) .none kV0 dc0 pm0 an0 cd0 ct0), sl0⟩) (c0 : PySem.W.codeIn K cd0 "_law_number" = true) (k0 : PySem.W.keepIn K (.ref f0) = true)
    (a1 : PySem.W.nsIn K mainGlobals "_law_take" = some (some (.ref f1))) (l1 : K.lookup f1 = some ⟨oc1, od1, .func (PySem.W.fnOf "_law_take" "_law_take" (defArgs (top 18)) (defBody (top 18)) (defScope (top 18)) .none kV1 dc1 pm1 an1 cd1 ct1), sl1⟩) (c1 : PySem.W.codeIn K cd1 "_law_take" = true) (k1 : PySem.W.keepIn K (.ref f1) = true)
    (a2 : PySem.W.nsIn K mainGlobals "_law_const" = some (some (.ref f2))) (l2 : K.lookup f2 = some ⟨oc2, od2, .func (PySem.W.fnOf "_law_const" "_law_const" (defArgs (top 25)) (defBody (top 25)) (defScope (top 25)) .none kV2 dc2 pm2 an2 cd2 ct2), sl2⟩) (c2 : PySem.W.codeIn K cd2 "_law_const" = true) (k2 : PySem.W.keepIn K (.ref f2) = true)
    (a3 : PySem.W.nsIn K mainGlobals "_law_term" = some (some (.ref f3))) (l3 : K.lookup f3 = some ⟨oc3, od3, .func (PySem.W.fnOf "_law_term" "_law_term" (defArgs (top 26)) (defBody (top 26)) (defScope (top 26)) .none kV3 dc3 pm3 an3 cd3 ct3), sl3⟩) (c3 : PySem.W.codeIn K cd3 "_law_term" = true) (k3 : PySem.W.keepIn K (.ref f3) = true)
    (a4 : PySem.W.nsIn K mainGlobals "_law_width" = some (some (.ref f4))) (l4 : K.lookup f4 = some ⟨oc4, od4, .func (PySem.W.fnOf "_law_width" "_law_width" (defArgs (top 24)) (defBody (top 24)) (defScope (top 24)) .none kV4 dc4 pm4 an4 cd4 ct4), sl4⟩) (c4 : PySem.W.codeIn K cd4 "_law_width" = true) (k4 : PySem.W.keepIn K (.ref f4) = true)
    (a5 : PySem.W.nsIn K mainGlobals "_law_atom" = some (some (.ref f5))) (l5 : K.lookup f5 = some ⟨oc5, od5, .func (PySem.W.fnOf "_law_atom" "_law_atom" (defArgs (top 27)) (defBody (top 27)) (defScope (top 27)) .none kV5 dc5 pm5 an5 cd5 ct5), sl5⟩) (c5 : PySem.W.codeIn K cd5 "_law_atom" = true) (k5 : PySem.W.keepIn K (.ref f5) = true)
    (a6 : PySem.W.nsIn K mainGlobals "_law_once" = some (some (.ref f6))) (l6 : K.lookup f6 = some ⟨oc6, od6, .func (PySem.W.fnOf "_law_once" "_law_once" (defArgs (top 19)) (defBody (top 19)) (defScope (top 19)) .none kV6 dc6 pm6 an6 cd6 ct6), sl6⟩) (c6 : PySem.W.codeIn K cd6 "_law_once" = true) (k6 : PySem.W.keepIn K (.ref f6) = true)
    (a7 : PySem.W.nsIn K mainGlobals "_law_names" = some (some (.ref f7))) (l7 : K.lookup f7 = some ⟨oc7, od7, .func (PySem.W.fnOf "_law_names" "_law_names" (defArgs (top 28)) (defBody (top 28)) (defScope (top 28)) .none kV7 dc7 pm7 an7 cd7 ct7), sl7⟩) (c7 : PySem.W.codeIn K cd7 "_law_names" = true) (k7 : PySem.W.keepIn K (.ref f7) = true)
    (a8 : PySem.W.nsIn K mainGlobals "_law_extras" = some (some (.ref f8))) (l8 : K.lookup f8 = some ⟨oc8, od8, .func (PySem.W.fnOf "_law_extras" "_law_extras" (defArgs (top 29)) (defBody (top 29)) (defScope (top 29)) .none kV8 dc8 pm8 an8 cd8 ct8), sl8⟩) (c8 : PySem.W.codeIn K cd8 "_law_extras" = true) (k8 : PySem.W.keepIn K (.ref f8) = true)
    (a9 : PySem.W.nsIn K mainGlobals "_law_body" = some (some (.ref f9))) (l9 : K.lookup f9 = some ⟨oc9, od9, .func (PySem.W.fnOf "_law_body" "_law_body" (defArgs (top 30)) (defBody (top 30)) (defScope (top 30)) .none kV9 dc9 pm9 an9 cd9 ct9), sl9⟩) (c9 : PySem.W.codeIn K cd9 "_law_body" = true) (k9 : PySem.W.keepIn K (.ref f9) = true)
    (a10 : PySem.W.nsIn K mainGlobals "_law_rule" = some (some (.ref f10))) (l10 : K.lookup f10 = some ⟨oc10, od10, .func (PySem.W.fnOf "_law_rule" "_law_rule" (defArgs (top 31)) (defBody (top 31)) (defScope (top 31)) .none kV10 dc10 pm10 an10 cd10 ct10), sl10⟩) (c10 : PySem.W.codeIn K cd10 "_law_rule" = true) (k10 : PySem.W.keepIn K (.ref f10) = true)
    (a11 : PySem.W.nsIn K mainGlobals "_law_ways" = some (some (.ref f11))) (l11 : K.lookup f11 = some ⟨oc11, od11, .func (PySem.W.fnOf "_law_ways" "_law_ways" (defArgs (top 33)) (defBody (top 33)) (defScope (top 33)) .none kV11 dc11 pm11 an11 cd11 ct11), sl11⟩) (c11 : PySem.W.codeIn K cd11 "_law_ways" = true) (k11 : PySem.W.keepIn K (.ref f11) = true)
    (a12 : PySem.W.nsIn K mainGlobals "resolved" = some (some (.ref f12))) (l12 : K.lookup f12 = some ⟨oc12, od12, .func (PySem.W.fnOf "resolved" "resolved" (defArgs (top 10)) (defBody (top 10)) (defScope (top 10)) .none kV12 dc12 pm12 an12 cd12 ct12), sl12⟩) (c12 : PySem.W.codeIn K cd12 "resolved" = true) (k12 : PySem.W.keepIn K (.ref f12) = true)
    (a13 : PySem.W.nsIn K mainGlobals "row_of" = some (some (.ref f13))) (l13 : K.lookup f13 = some ⟨oc13, od13, .func (PySem.W.fnOf "row_of" "row_of" (defArgs (top 12)) (defBody (top 12)) (defScope (top 12)) .none kV13 dc13 pm13 an13 cd13 ct13), sl13⟩) (c13 : PySem.W.codeIn K cd13 "row_of" = true) (k13 : PySem.W.keepIn K (.ref f13) = true)
    (a14 : PySem.W.nsIn K mainGlobals "value_order" = some (some (.ref f14))) (l14 : K.lookup f14 = some ⟨oc14, od14, .func (PySem.W.fnOf "value_order" "value_order" (defArgs (top 7)) (defBody (top 7)) (defScope (top 7)) .none kV14 dc14 pm14 an14 cd14 ct14), sl14⟩) (c14 : PySem.W.codeIn K cd14 "value_order" = true) (k14 : PySem.W.keepIn K (.ref f14) = true)
    (a15 : PySem.W.nsIn K mainGlobals "row_order" = some (some (.ref f15))) (l15 : K.lookup f15 = some ⟨oc15, od15, .func (PySem.W.fnOf "row_order" "row_order" (defArgs (top 8)) (defBody (top 8)) (defScope (top 8)) .none kV15 dc15 pm15 an15 cd15 ct15), sl15⟩) (c15 : PySem.W.codeIn K cd15 "row_order" = true) (k15 : PySem.W.keepIn K (.ref f15) = true)
    (a16 : PySem.W.nsIn K mainGlobals "groups_of" = some (some (.ref f16))) (l16 : K.lookup f16 = some ⟨oc16, od16, .func (PySem.W.fnOf "groups_of" "groups_of" (defArgs (top 13)) (defBody (top 13)) (defScope (top 13)) .none kV16 dc16 pm16 an16 cd16 ct16), sl16⟩) (c16 : PySem.W.codeIn K cd16 "groups_of" = true) (k16 : PySem.W.keepIn K (.ref f16) = true)
    (a17 : PySem.W.nsIn K mainGlobals "is_integer" = some (some (.ref f17))) (l17 : K.lookup f17 = some ⟨oc17, od17, .func (PySem.W.fnOf "is_integer" "is_integer" (defArgs (top 5)) (defBody (top 5)) (defScope (top 5)) .none kV17 dc17 pm17 an17 cd17 ct17), sl17⟩) (c17 : PySem.W.codeIn K cd17 "is_integer" = true) (k17 : PySem.W.keepIn K (.ref f17) = true)
    (a18 : PySem.W.nsIn K mainGlobals "is_sign" = some (some (.ref f18))) (l18 : K.lookup f18 = some ⟨oc18, od18, .func (PySem.W.fnOf "is_sign" "is_sign" (defArgs (top 4)) (defBody (top 4)) (defScope (top 4)) .none kV18 dc18 pm18 an18 cd18 ct18), sl18⟩) (c18 : PySem.W.codeIn K cd18 "is_sign" = true) (k18 : PySem.W.keepIn K (.ref f18) = true)
    (a19 : PySem.W.nsIn K mainGlobals "is_value" = some (some (.ref f19))) (l19 : K.lookup f19 = some ⟨oc19, od19, .func (PySem.W.fnOf "is_value" "is_value" (defArgs (top 6)) (defBody (top 6)) (defScope (top 6)) .none kV19 dc19 pm19 an19 cd19 ct19), sl19⟩) (c19 : PySem.W.codeIn K cd19 "is_value" = true) (k19 : PySem.W.keepIn K (.ref f19) = true)
    (a20 : PySem.W.nsIn K mainGlobals "folded" = some (some (.ref f20))) (l20 : K.lookup f20 = some ⟨oc20, od20, .func (PySem.W.fnOf "folded" "folded" (defArgs (top 14)) (defBody (top 14)) (defScope (top 14)) .none kV20 dc20 pm20 an20 cd20 ct20), sl20⟩) (c20 : PySem.W.codeIn K cd20 "folded" = true) (k20 : PySem.W.keepIn K (.ref f20) = true)
    (a21 : PySem.W.nsIn K mainGlobals "rows_made" = some (some (.ref f21))) (l21 : K.lookup f21 = some ⟨oc21, od21, .func (PySem.W.fnOf "rows_made" "rows_made" (defArgs (top 15)) (defBody (top 15)) (defScope (top 15)) .none kV21 dc21 pm21 an21 cd21 ct21), sl21⟩) (c21 : PySem.W.codeIn K cd21 "rows_made" = true) (k21 : PySem.W.keepIn K (.ref f21) = true)
    (a22 : PySem.W.nsIn K mainGlobals "_law_value" = some (some (.ref f22))) (l22 : K.lookup f22 = some ⟨oc22, od22, .func (PySem.W.fnOf "_law_value" "_law_value" (defArgs (top 22)) (defBody (top 22)) (defScope (top 22)) .none kV22 dc22 pm22 an22 cd22 ct22), sl22⟩) (c22 : PySem.W.codeIn K cd22 "_law_value" = true) (k22 : PySem.W.keepIn K (.ref f22) = true)
    (a23 : PySem.W.nsIn K mainGlobals "_law_order" = some (some (.ref f23))) (l23 : K.lookup f23 = some ⟨oc23, od23, .func (PySem.W.fnOf "_law_order" "_law_order" (defArgs (top 20)) (defBody (top 20)) (defScope (top 20)) .none kV23 dc23 pm23 an23 cd23 ct23), sl23⟩) (c23 : PySem.W.codeIn K cd23 "_law_order" = true) (k23 : PySem.W.keepIn K (.ref f23) = true)
    (a24 : PySem.W.nsIn K mainGlobals "_law_fold" = some (some (.ref f24))) (l24 : K.lookup f24 = some ⟨oc24, od24, .func (PySem.W.fnOf "_law_fold" "_law_fold" (defArgs (top 23)) (defBody (top 23)) (defScope (top 23)) .none kV24 dc24 pm24 an24 cd24 ct24), sl24⟩) (c24 : PySem.W.codeIn K cd24 "_law_fold" = true) (k24 : PySem.W.keepIn K (.ref f24) = true)
    (a25 : PySem.W.nsIn K mainGlobals "_law_rows" = some (some (.ref f25))) (l25 : K.lookup f25 = some ⟨oc25, od25, .func (PySem.W.fnOf "_law_rows" "_law_rows" (defArgs (top 32)) (defBody (top 32)) (defScope (top 32)) .none kV25 dc25 pm25 an25 cd25 ct25), sl25⟩) (c25 : PySem.W.codeIn K cd25 "_law_rows" = true) (k25 : PySem.W.keepIn K (.ref f25) = true)
    (a26 : PySem.W.nsIn K mainGlobals "_law_row_order" = some (some (.ref f26))) (l26 : K.lookup f26 = some ⟨oc26, od26, .func (PySem.W.fnOf "_law_row_order" "_law_row_order" (defArgs (top 21)) (defBody (top 21)) (defScope (top 21)) .none kV26 dc26 pm26 an26 cd26 ct26), sl26⟩) (c26 : PySem.W.codeIn K cd26 "_law_row_order" = true) (k26 : PySem.W.keepIn K (.ref f26) = true)
    (a27 : PySem.W.nsIn K mainGlobals "law" = some (some (.ref f27))) (l27 : K.lookup f27 = some ⟨oc27, od27, .func (PySem.W.fnOf "law" "law" (defArgs (top 34)) (defBody (top 34)) (defScope (top 34)) .none kV27 dc27 pm27 an27 cd27 ct27), sl27⟩) (c27 : PySem.W.codeIn K cd27 "law" = true) (k27 : PySem.W.keepIn K (.ref f27) = true)
    (cst0 : PySem.W.nsIn K mainGlobals "BARRED" = some (some (.int 37 t0)))
    (cst1 : PySem.W.nsIn K mainGlobals "MOST_INTEGER" = some (some (.int 1000000000000 t1)))
    (cst2 : PySem.W.nsIn K mainGlobals "MOST_SIGNS" = some (some (.int 40 t2)))
    (z0 : PySem.W.nsIn K mainGlobals "len" = some none)
    (z1 : PySem.W.nsIn K mainGlobals "int" = some none)
    (z2 : PySem.W.nsIn K mainGlobals "tuple" = some none)
    (z3 : PySem.W.nsIn K mainGlobals "range" = some none)
    (z4 : PySem.W.nsIn K mainGlobals "sorted" = some none)
    (z5 : PySem.W.nsIn K mainGlobals "dict" = some none)
    (z6 : PySem.W.nsIn K mainGlobals "isinstance" = some none)
    (z7 : PySem.W.nsIn K mainGlobals "bool" = some none)
    (z8 : PySem.W.nsIn K mainGlobals "ord" = some none)
    (z9 : PySem.W.nsIn K mainGlobals "all" = some none)
    (z10 : PySem.W.nsIn K mainGlobals "str" = some none)
    (z11 : PySem.W.nsIn K mainGlobals "sum" = some none)
    (z12 : PySem.W.nsIn K mainGlobals "min" = some none)
    (z13 : PySem.W.nsIn K mainGlobals "max" = some none)
    (z14 : PySem.W.nsIn K mainGlobals "list" = some none)
    : ∃ fd : FuncData, (∀ (s : Shared) (v : Value), BindsTo s fd ⟨[v], []⟩ [("script", v)]) ∧ ∀ base : Heap, K.In base → base.Ns mainGlobals mg → FnOk l.prog w K mg base (L2.CX l.prog w) 24 fa fd ["script"] (sp0 K w S_law) := by
  have e := hfa.symm.trans (PySem.W.mg_of X G a27)
  cases e
  have m_len : mg "len" = none := PySem.W.mg_none_of X G z0
  have m_int : mg "int" = none := PySem.W.mg_none_of X G z1
  have m_tuple : mg "tuple" = none := PySem.W.mg_none_of X G z2
  have m_range : mg "range" = none := PySem.W.mg_none_of X G z3
  have m_sorted : mg "sorted" = none := PySem.W.mg_none_of X G z4
  have m_dict : mg "dict" = none := PySem.W.mg_none_of X G z5
  have m_isinstance : mg "isinstance" = none := PySem.W.mg_none_of X G z6
  have m_bool : mg "bool" = none := PySem.W.mg_none_of X G z7
  have m_ord : mg "ord" = none := PySem.W.mg_none_of X G z8
  have m_all : mg "all" = none := PySem.W.mg_none_of X G z9
  have m_str : mg "str" = none := PySem.W.mg_none_of X G z10
  have m_sum : mg "sum" = none := PySem.W.mg_none_of X G z11
  have m_min : mg "min" = none := PySem.W.mg_none_of X G z12
  have m_max : mg "max" = none := PySem.W.mg_none_of X G z13
  have m_list : mg "list" = none := PySem.W.mg_none_of X G z14
  have q_BARRED : ∃ u v, mg "BARRED" = some u ∧ RelV v u ∧ ∀ z F, Dv ⟨K, w, z⟩ F v cv_BARRED := ⟨_, .int 37, PySem.W.mg_of X G cst0, ⟨t0, rfl⟩, fun _ _ => .int _⟩
  have q_MOST_INTEGER : ∃ u v, mg "MOST_INTEGER" = some u ∧ RelV v u ∧ ∀ z F, Dv ⟨K, w, z⟩ F v cv_MOST_INTEGER := ⟨_, .int 1000000000000, PySem.W.mg_of X G cst1, ⟨t1, rfl⟩, fun _ _ => .int _⟩
  have q_MOST_SIGNS : ∃ u v, mg "MOST_SIGNS" = some u ∧ RelV v u ∧ ∀ z F, Dv ⟨K, w, z⟩ F v cv_MOST_SIGNS := ⟨_, .int 40, PySem.W.mg_of X G cst2, ⟨t2, rfl⟩, fun _ _ => .int _⟩
  refine ⟨PySem.W.fnOf "law" "law" (defArgs (top 34)) (defBody (top 34)) (defScope (top 34)) .none kV27 dc27 pm27 an27 cd27 ct27, fun s v => .of_eq rfl, fun base _ _ => ?_⟩
  have F0 := fun_mk (st := top 17) l0 c0 k0
  have N0 : Nds l.prog w K mg base 0 ev_law_number bl_law_number := ⟨(fa_cons m_len (fa_cons m_int fa_nil)), fa_nil, fa_nil, fa_nil⟩
  have b0 := F0.binds (ps := pa_law_number) fun _ _ _ _ _ _ us hl => match us, hl with | [_, _], _ => rfl
  have D_law_number : DefOk l.prog w K mg base 3 ⟨"_law_number", sp_law_number, []⟩ := defOk_mk (ok_law_number F0 s_law_number c_law_number N0) (PySem.W.mg_of X G a0) k0 b0 rfl
  have F1 := fun_mk (st := top 18) l1 c1 k1
  have N1 : Nds l.prog w K mg base 0 ev_law_take bl_law_take := ⟨(fa_cons m_int fa_nil), fa_nil, fa_nil, fa_nil⟩
  have b1 := F1.binds (ps := pa_law_take) fun _ _ _ _ _ _ us hl => match us, hl with | [_, _], _ => rfl
  have D_law_take : DefOk l.prog w K mg base 3 ⟨"_law_take", sp_law_take, []⟩ := defOk_mk (ok_law_take F1 s_law_take c_law_take N1) (PySem.W.mg_of X G a1) k1 b1 rfl
  have F2 := fun_mk (st := top 25) l2 c2 k2
  have N2 : Nds l.prog w K mg base 3 ev_law_const bl_law_const := ⟨fa_nil, fa_nil, (fa_cons (D_law_take.up (by decide)) fa_nil), fa_nil⟩
  have b2 := F2.binds (ps := pa_law_const) fun _ _ _ _ _ _ us hl => match us, hl with | [_], _ => rfl
  have D_law_const : DefOk l.prog w K mg base 6 ⟨"_law_const", sp_law_const, []⟩ := defOk_mk (ok_law_const F2 s_law_const c_law_const N2) (PySem.W.mg_of X G a2) k2 b2 rfl
  have F3 := fun_mk (st := top 26) l3 c3 k3
  have N3 : Nds l.prog w K mg base 6 ev_law_term bl_law_term := ⟨(fa_cons m_len fa_nil), fa_nil, (fa_cons (D_law_take.up (by decide)) (fa_cons (D_law_const.up (by decide)) fa_nil)), fa_nil⟩
  have b3 := F3.binds (ps := pa_law_term) fun _ _ _ _ _ _ us hl => match us, hl with | [_, _, _], _ => rfl
  have D_law_term : DefOk l.prog w K mg base 9 ⟨"_law_term", sp_law_term, []⟩ := defOk_mk (ok_law_term F3 s_law_term c_law_term N3) (PySem.W.mg_of X G a3) k3 b3 rfl
  have F4 := fun_mk (st := top 24) l4 c4 k4
  have N4 : Nds l.prog w K mg base 0 ev_law_width bl_law_width := ⟨(fa_cons m_int fa_nil), fa_nil, fa_nil, fa_nil⟩
  have b4 := F4.binds (ps := pa_law_width) fun _ _ _ _ _ _ us hl => match us, hl with | [_], _ => rfl
  have D_law_width : DefOk l.prog w K mg base 3 ⟨"_law_width", sp_law_width, []⟩ := defOk_mk (ok_law_width F4 s_law_width c_law_width N4) (PySem.W.mg_of X G a4) k4 b4 rfl
  have F5 := fun_mk (st := top 27) l5 c5 k5
  have N5 : Nds l.prog w K mg base 9 ev_law_atom bl_law_atom := ⟨(fa_cons m_tuple (fa_cons m_range fa_nil)), fa_nil, (fa_cons (D_law_term.up (by decide)) (fa_cons (D_law_width.up (by decide)) fa_nil)), fa_nil⟩
  have b5 := F5.binds (ps := pa_law_atom) fun _ _ _ _ _ _ us hl => match us, hl with | [_, _, _, _], _ => rfl
  have D_law_atom : DefOk l.prog w K mg base 12 ⟨"_law_atom", sp_law_atom, []⟩ := defOk_mk (ok_law_atom F5 s_law_atom c_law_atom N5) (PySem.W.mg_of X G a5) k5 b5 rfl
  have F6 := fun_mk (st := top 19) l6 c6 k6
  have N6 : Nds l.prog w K mg base 0 ev_law_once bl_law_once := ⟨fa_nil, fa_nil, fa_nil, fa_nil⟩
  have b6 := F6.binds (ps := pa_law_once) fun _ _ _ _ _ _ us hl => match us, hl with | [_], _ => rfl
  have D_law_once : DefOk l.prog w K mg base 3 ⟨"_law_once", sp_law_once, []⟩ := defOk_mk (ok_law_once F6 s_law_once c_law_once N6) (PySem.W.mg_of X G a6) k6 b6 rfl
  have F7 := fun_mk (st := top 28) l7 c7 k7
  have N7 : Nds l.prog w K mg base 3 ev_law_names bl_law_names := ⟨(fa_cons m_sorted fa_nil), fa_nil, (fa_cons (D_law_once.up (by decide)) fa_nil), fa_nil⟩
  have b7 := F7.binds (ps := pa_law_names) fun _ _ _ _ _ _ us hl => match us, hl with | [_], _ => rfl
  have D_law_names : DefOk l.prog w K mg base 6 ⟨"_law_names", sp_law_names, []⟩ := defOk_mk (ok_law_names F7 s_law_names c_law_names N7) (PySem.W.mg_of X G a7) k7 b7 rfl
  have F8 := fun_mk (st := top 29) l8 c8 k8
  have N8 : Nds l.prog w K mg base 12 ev_law_extras bl_law_extras := ⟨(fa_cons m_len (fa_cons m_sorted (fa_cons m_tuple fa_nil))), fa_nil, (fa_cons (D_law_names.up (by decide)) (fa_cons (D_law_take.up (by decide)) (fa_cons (D_law_atom.up (by decide)) (fa_cons (D_law_term.up (by decide)) (fa_cons (D_law_once.up (by decide)) fa_nil))))), fa_nil⟩
  have b8 := F8.binds (ps := pa_law_extras) fun _ _ _ _ _ _ us hl => match us, hl with | [_, _, _, _], _ => rfl
  have D_law_extras : DefOk l.prog w K mg base 15 ⟨"_law_extras", sp_law_extras, []⟩ := defOk_mk (ok_law_extras F8 s_law_extras c_law_extras N8) (PySem.W.mg_of X G a8) k8 b8 rfl
  have F9 := fun_mk (st := top 30) l9 c9 k9
  have N9 : Nds l.prog w K mg base 15 ev_law_body bl_law_body := ⟨(fa_cons m_range (fa_cons m_len fa_nil)), fa_nil, (fa_cons (D_law_take.up (by decide)) (fa_cons (D_law_atom.up (by decide)) (fa_cons (D_law_extras.up (by decide)) (fa_cons (D_law_number.up (by decide)) fa_nil)))), fa_nil⟩
  have b9 := F9.binds (ps := pa_law_body) fun _ _ _ _ _ _ us hl => match us, hl with | [_, _, _], _ => rfl
  have D_law_body : DefOk l.prog w K mg base 18 ⟨"_law_body", sp_law_body, []⟩ := defOk_mk (ok_law_body F9 s_law_body c_law_body N9) (PySem.W.mg_of X G a9) k9 b9 rfl
  have F10 := fun_mk (st := top 31) l10 c10 k10
  have N10 : Nds l.prog w K mg base 18 ev_law_rule bl_law_rule := ⟨(fa_cons m_tuple (fa_cons m_range fa_nil)), fa_nil, (fa_cons (D_law_number.up (by decide)) (fa_cons (D_law_take.up (by decide)) (fa_cons (D_law_body.up (by decide)) (fa_cons (D_law_term.up (by decide)) (fa_cons (D_law_width.up (by decide)) fa_nil))))), fa_nil⟩
  have b10 := F10.binds (ps := pa_law_rule) fun _ _ _ _ _ _ us hl => match us, hl with | [_, _, _, _], _ => rfl
  have D_law_rule : DefOk l.prog w K mg base 21 ⟨"_law_rule", sp_law_rule, []⟩ := defOk_mk (ok_law_rule F10 s_law_rule c_law_rule N10) (PySem.W.mg_of X G a10) k10 b10 rfl
  have F11 := fun_mk (st := top 33) l11 c11 k11
  have N11 : Nds l.prog w K mg base 3 ev_law_ways bl_law_ways := ⟨(fa_cons m_range (fa_cons m_dict fa_nil)), fa_nil, (fa_cons (D_law_take.up (by decide)) (fa_cons (D_law_number.up (by decide)) fa_nil)), fa_nil⟩
  have b11 := F11.binds (ps := pa_law_ways) fun _ _ _ _ _ _ us hl => match us, hl with | [_], _ => rfl
  have D_law_ways : DefOk l.prog w K mg base 6 ⟨"_law_ways", sp_law_ways, []⟩ := defOk_mk (ok_law_ways F11 s_law_ways c_law_ways N11) (PySem.W.mg_of X G a11) k11 b11 rfl
  have F12 := fun_mk (st := top 10) l12 c12 k12
  have N12 : Nds l.prog w K mg base 0 ev_resolved bl_resolved := ⟨fa_nil, fa_nil, fa_nil, fa_nil⟩
  have b12 := F12.binds (ps := pa_resolved) fun _ _ _ _ _ _ us hl => match us, hl with | [_, _], _ => rfl
  have D_resolved : DefOk l.prog w K mg base 3 ⟨"resolved", sp_resolved, []⟩ := defOk_mk (ok_resolved F12 s_resolved c_resolved N12) (PySem.W.mg_of X G a12) k12 b12 rfl
  have F13 := fun_mk (st := top 12) l13 c13 k13
  have N13 : Nds l.prog w K mg base 3 ev_row_of bl_row_of := ⟨(fa_cons m_tuple fa_nil), fa_nil, (fa_cons (D_resolved.up (by decide)) fa_nil), fa_nil⟩
  have b13 := F13.binds (ps := pa_row_of) fun _ _ _ _ _ _ us hl => match us, hl with | [_, _], _ => rfl
  have D_row_of : DefOk l.prog w K mg base 6 ⟨"row_of", sp_row_of, []⟩ := defOk_mk (ok_row_of F13 s_row_of c_row_of N13) (PySem.W.mg_of X G a13) k13 b13 rfl
  have F14 := fun_mk (st := top 7) l14 c14 k14
  have N14 : Nds l.prog w K mg base 0 ev_value_order bl_value_order := ⟨(fa_cons m_isinstance (fa_cons m_int fa_nil)), fa_nil, fa_nil, fa_nil⟩
  have b14 := F14.binds (ps := pa_value_order) fun _ _ _ _ _ _ us hl => match us, hl with | [_], _ => rfl
  have D_value_order : DefOk l.prog w K mg base 3 ⟨"value_order", sp_value_order, []⟩ := defOk_mk (ok_value_order F14 s_value_order c_value_order N14) (PySem.W.mg_of X G a14) k14 b14 rfl
  have F15 := fun_mk (st := top 8) l15 c15 k15
  have N15 : Nds l.prog w K mg base 3 ev_row_order bl_row_order := ⟨fa_nil, fa_nil, (fa_cons (D_value_order.up (by decide)) fa_nil), fa_nil⟩
  have b15 := F15.binds (ps := pa_row_order) fun _ _ _ _ _ _ us hl => match us, hl with | [_], _ => rfl
  have D_row_order : DefOk l.prog w K mg base 6 ⟨"row_order", sp_row_order, []⟩ := defOk_mk (ok_row_order F15 s_row_order c_row_order N15) (PySem.W.mg_of X G a15) k15 b15 rfl
  have F16 := fun_mk (st := top 13) l16 c16 k16
  have N16 : Nds l.prog w K mg base 6 ev_groups_of bl_groups_of := ⟨(fa_cons m_sorted fa_nil), fa_nil, (fa_cons (D_row_of.up (by decide)) (fa_cons (D_row_order.up (by decide)) fa_nil)), fa_nil⟩
  have b16 := F16.binds (ps := pa_groups_of) fun _ _ _ _ _ _ us hl => match us, hl with | [_, _], _ => rfl
  have D_groups_of : DefOk l.prog w K mg base 9 ⟨"groups_of", sp_groups_of, []⟩ := defOk_mk (ok_groups_of F16 s_groups_of c_groups_of N16) (PySem.W.mg_of X G a16) k16 b16 rfl
  have F17 := fun_mk (st := top 5) l17 c17 k17
  have N17 : Nds l.prog w K mg base 0 ev_is_integer bl_is_integer := ⟨(fa_cons m_isinstance (fa_cons m_bool (fa_cons m_int fa_nil))), fa_nil, fa_nil, fa_nil⟩
  have b17 := F17.binds (ps := pa_is_integer) fun _ _ _ _ _ _ us hl => match us, hl with | [_], _ => rfl
  have D_is_integer : DefOk l.prog w K mg base 3 ⟨"is_integer", sp_is_integer, []⟩ := defOk_mk (ok_is_integer F17 s_is_integer c_is_integer N17) (PySem.W.mg_of X G a17) k17 b17 rfl
  have F18 := fun_mk (st := top 4) l18 c18 k18
  have N18 : Nds l.prog w K mg base 0 ev_is_sign bl_is_sign := ⟨(fa_cons m_ord fa_nil), (fa_cons q_BARRED fa_nil), fa_nil, fa_nil⟩
  have b18 := F18.binds (ps := pa_is_sign) fun _ _ _ _ _ _ us hl => match us, hl with | [_], _ => rfl
  have D_is_sign : DefOk l.prog w K mg base 3 ⟨"is_sign", sp_is_sign, []⟩ := defOk_mk (ok_is_sign F18 s_is_sign c_is_sign N18) (PySem.W.mg_of X G a18) k18 b18 rfl
  have F19 := fun_mk (st := top 6) l19 c19 k19
  have N19 : Nds l.prog w K mg base 3 ev_is_value bl_is_value := ⟨(fa_cons m_all (fa_cons m_len (fa_cons m_isinstance (fa_cons m_str fa_nil)))), (fa_cons q_MOST_INTEGER (fa_cons q_MOST_SIGNS fa_nil)), (fa_cons (D_is_integer.up (by decide)) (fa_cons (D_is_sign.up (by decide)) fa_nil)), fa_nil⟩
  have b19 := F19.binds (ps := pa_is_value) fun _ _ _ _ _ _ us hl => match us, hl with | [_], _ => rfl
  have D_is_value : DefOk l.prog w K mg base 6 ⟨"is_value", sp_is_value, []⟩ := defOk_mk (ok_is_value F19 s_is_value c_is_value N19) (PySem.W.mg_of X G a19) k19 b19 rfl
  have F20 := fun_mk (st := top 14) l20 c20 k20
  have N20 : Nds l.prog w K mg base 6 ev_folded bl_folded := ⟨(fa_cons m_len (fa_cons m_sum (fa_cons m_isinstance (fa_cons m_int (fa_cons m_min (fa_cons m_max fa_nil)))))), fa_nil, (fa_cons (D_is_value.up (by decide)) (fa_cons (D_value_order.up (by decide)) fa_nil)), fa_nil⟩
  have b20 := F20.binds (ps := pa_folded) fun _ _ _ _ _ _ us hl => match us, hl with | [_, _], _ => rfl
  have D_folded : DefOk l.prog w K mg base 9 ⟨"folded", sp_folded, []⟩ := defOk_mk (ok_folded F20 s_folded c_folded N20) (PySem.W.mg_of X G a20) k20 b20 rfl
  have F21 := fun_mk (st := top 15) l21 c21 k21
  have N21 : Nds l.prog w K mg base 9 ev_rows_made bl_rows_made := ⟨(fa_cons m_list fa_nil), fa_nil, (fa_cons (D_row_of.up (by decide)) (fa_cons (D_groups_of.up (by decide)) (fa_cons (D_folded.up (by decide)) fa_nil))), fa_nil⟩
  have b21 := F21.binds (ps := pa_rows_made) fun _ _ _ _ _ _ us hl => match us, hl with | [_, _], _ => rfl
  have D_rows_made : DefOk l.prog w K mg base 12 ⟨"rows_made", sp_rows_made, []⟩ := defOk_mk (ok_rows_made F21 s_rows_made c_rows_made N21) (PySem.W.mg_of X G a21) k21 b21 rfl
  have F22 := fun_mk (st := top 22) l22 c22 k22
  have N22 : Nds l.prog w K mg base 0 ev_law_value bl_law_value := ⟨fa_nil, fa_nil, fa_nil, fa_nil⟩
  have b22 := F22.binds (ps := pa_law_value) fun _ _ _ _ _ _ us hl => match us, hl with | [_, _], _ => rfl
  have D_law_value : DefOk l.prog w K mg base 3 ⟨"_law_value", sp_law_value, []⟩ := defOk_mk (ok_law_value F22 s_law_value c_law_value N22) (PySem.W.mg_of X G a22) k22 b22 rfl
  have F23 := fun_mk (st := top 20) l23 c23 k23
  have N23 : Nds l.prog w K mg base 0 ev_law_order bl_law_order := ⟨(fa_cons m_isinstance (fa_cons m_str fa_nil)), fa_nil, fa_nil, fa_nil⟩
  have b23 := F23.binds (ps := pa_law_order) fun _ _ _ _ _ _ us hl => match us, hl with | [_], _ => rfl
  have D_law_order : DefOk l.prog w K mg base 3 ⟨"_law_order", sp_law_order, []⟩ := defOk_mk (ok_law_order F23 s_law_order c_law_order N23) (PySem.W.mg_of X G a23) k23 b23 rfl
  have F24 := fun_mk (st := top 23) l24 c24 k24
  have N24 : Nds l.prog w K mg base 3 ev_law_fold bl_law_fold := ⟨(fa_cons m_len (fa_cons m_sum (fa_cons m_isinstance (fa_cons m_str (fa_cons m_int (fa_cons m_sorted fa_nil)))))), fa_nil, (fa_cons (D_law_order.up (by decide)) fa_nil), fa_nil⟩
  have b24 := F24.binds (ps := pa_law_fold) fun _ _ _ _ _ _ us hl => match us, hl with | [_, _], _ => rfl
  have D_law_fold : DefOk l.prog w K mg base 6 ⟨"_law_fold", sp_law_fold, []⟩ := defOk_mk (ok_law_fold F24 s_law_fold c_law_fold N24) (PySem.W.mg_of X G a24) k24 b24 rfl
  have F25 := fun_mk (st := top 32) l25 c25 k25
  have N25 : Nds l.prog w K mg base 6 ev_law_rows bl_law_rows := ⟨(fa_cons m_tuple (fa_cons m_list fa_nil)), fa_nil, (fa_cons (D_law_value.up (by decide)) (fa_cons (D_law_fold.up (by decide)) fa_nil)), fa_nil⟩
  have b25 := F25.binds (ps := pa_law_rows) fun _ _ _ _ _ _ us hl => match us, hl with | [_, _], _ => rfl
  have D_law_rows : DefOk l.prog w K mg base 9 ⟨"_law_rows", sp_law_rows, []⟩ := defOk_mk (ok_law_rows F25 s_law_rows c_law_rows N25) (PySem.W.mg_of X G a25) k25 b25 rfl
  have F26 := fun_mk (st := top 21) l26 c26 k26
  have N26 : Nds l.prog w K mg base 3 ev_law_row_order bl_law_row_order := ⟨fa_nil, fa_nil, (fa_cons (D_law_order.up (by decide)) fa_nil), fa_nil⟩
  have b26 := F26.binds (ps := pa_law_row_order) fun _ _ _ _ _ _ us hl => match us, hl with | [_], _ => rfl
  have D_law_row_order : DefOk l.prog w K mg base 6 ⟨"_law_row_order", sp_law_row_order, []⟩ := defOk_mk (ok_law_row_order F26 s_law_row_order c_law_row_order N26) (PySem.W.mg_of X G a26) k26 b26 rfl
  have F27 := fun_mk (st := top 34) l27 c27 k27
  have N27 : Nds l.prog w K mg base 21 ev_law bl_law := ⟨(fa_cons m_range (fa_cons m_dict (fa_cons m_len (fa_cons m_isinstance (fa_cons m_list (fa_cons m_sorted fa_nil)))))), fa_nil, (fa_cons (D_law_number.up (by decide)) (fa_cons (D_law_rule.up (by decide)) (fa_cons (D_law_take.up (by decide)) (fa_cons (D_law_ways.up (by decide)) (fa_cons (D_rows_made.up (by decide)) (fa_cons (D_law_rows.up (by decide)) (fa_cons (D_law_row_order.up (by decide)) (fa_cons (D_folded.up (by decide)) (fa_cons (D_law_fold.up (by decide)) fa_nil))))))))), fa_nil⟩
  exact sp0_of (ok_law F27 s_law c_law N27)
end K13
open PySem PySem.W PyProof.Rows
set_option maxRecDepth 100000 in
set_option maxHeartbeats 0 in
theorem PySem.Challenge.cw_herefrom_k13_heads_and_folds_holds : PySem.Challenge.rw_herefrom_k13_heads_and_folds.Holds := by
  w_on; o_law; k_head; (case hw => w_witness2)
  k_fill
  refine L2.walk_ofB (l := PySem.Challenge.rw_herefrom_k13_heads_and_folds) (n := 63) (k := 24) (x := "script") (CX := fun w => L2.CX (PySem.Challenge.rw_herefrom_k13_heads_and_folds).prog w) (sp := fun w => DX.sp0 _ w K13.S_law) rfl (by decide) rfl ⟨rfl, by decide, by decide⟩ (fun w h Y => PySem.W.kIn_of Y) ?F (fun w H a ns hl hbits hO hS => DX.law_sp hS ⟨ns, rfl, hl, fun z hz => DX.bits_lt (hbits z hz), rfl⟩) (fun _ _ _ _ _ h => DX.cx_none h)
  case F =>
    intro w mg fa h KX G hmg
    refine' K13.all_mk KX G hmg ?a0 ?l0 ?c0 ?k0 ?a1 ?l1 ?c1 ?k1 ?a2 ?l2 ?c2 ?k2 ?a3 ?l3 ?c3 ?k3 ?a4 ?l4 ?c4 ?k4 ?a5 ?l5 ?c5 ?k5 ?a6 ?l6 ?c6 ?k6 ?a7 ?l7 ?c7 ?k7 ?a8 ?l8 ?c8 ?k8 ?a9 ?l9 ?c9 ?k9 ?a10 ?l10 ?c10 ?k10 ?a11 ?l11 ?c11 ?k11 ?a12 ?l12 ?c12 ?k12 ?a13 ?l13 ?c13 ?k13 ?a14 ?l14 ?c14 ?k14 ?a15 ?l15 ?c15 ?k15 ?a16 ?l16 ?c16 ?k16 ?a17 ?l17 ?c17 ?k17 ?a18 ?l18 ?c18 ?k18 ?a19 ?l19 ?c19 ?k19 ?a20 ?l20 ?c20 ?k20 ?a21 ?l21 ?c21 ?k21 ?a22 ?l22 ?c22 ?k22 ?a23 ?l23 ?c23 ?k23 ?a24 ?l24 ?c24 ?k24 ?a25 ?l25 ?c25 ?k25 ?a26 ?l26 ?c26 ?k26 ?a27 ?l27 ?c27 ?k27 ?cst0 ?cst1 ?cst2 ?z0 ?z1 ?z2 ?z3 ?z4 ?z5 ?z6 ?z7 ?z8 ?z9 ?z10 ?z11 ?z12 ?z13 ?z14
    (case a0 => k_is)
    (case l0 => k_is)
    (case c0 => k_is)
    (case k0 => k_is)
    (case a1 => k_is)
    (case l1 => k_is)
    (case c1 => k_is)
    (case k1 => k_is)
    (case a2 => k_is)
    (case l2 => k_is)
    (case c2 => k_is)
    (case k2 => k_is)
    (case a3 => k_is)
    (case l3 => k_is)
    (case c3 => k_is)
    (case k3 => k_is)
    (case a4 => k_is)
    (case l4 => k_is)
    (case c4 => k_is)
    (case k4 => k_is)
    (case a5 => k_is)
    (case l5 => k_is)
    (case c5 => k_is)
    (case k5 => k_is)
    (case a6 => k_is)
    (case l6 => k_is)
    (case c6 => k_is)
    (case k6 => k_is)
    (case a7 => k_is)
    (case l7 => k_is)
    (case c7 => k_is)
    (case k7 => k_is)
    (case a8 => k_is)
    (case l8 => k_is)
    (case c8 => k_is)
    (case k8 => k_is)
    (case a9 => k_is)
    (case l9 => k_is)
    (case c9 => k_is)
    (case k9 => k_is)
    (case a10 => k_is)
    (case l10 => k_is)
    (case c10 => k_is)
    (case k10 => k_is)
    (case a11 => k_is)
    (case l11 => k_is)
    (case c11 => k_is)
    (case k11 => k_is)
    (case a12 => k_is)
    (case l12 => k_is)
    (case c12 => k_is)
    (case k12 => k_is)
    (case a13 => k_is)
    (case l13 => k_is)
    (case c13 => k_is)
    (case k13 => k_is)
    (case a14 => k_is)
    (case l14 => k_is)
    (case c14 => k_is)
    (case k14 => k_is)
    (case a15 => k_is)
    (case l15 => k_is)
    (case c15 => k_is)
    (case k15 => k_is)
    (case a16 => k_is)
    (case l16 => k_is)
    (case c16 => k_is)
    (case k16 => k_is)
    (case a17 => k_is)
    (case l17 => k_is)
    (case c17 => k_is)
    (case k17 => k_is)
    (case a18 => k_is)
    (case l18 => k_is)
    (case c18 => k_is)
    (case k18 => k_is)
    (case a19 => k_is)
    (case l19 => k_is)
    (case c19 => k_is)
    (case k19 => k_is)
    (case a20 => k_is)
    (case l20 => k_is)
    (case c20 => k_is)
    (case k20 => k_is)
    (case a21 => k_is)
    (case l21 => k_is)
    (case c21 => k_is)
    (case k21 => k_is)
    (case a22 => k_is)
    (case l22 => k_is)
    (case c22 => k_is)
    (case k22 => k_is)
    (case a23 => k_is)
    (case l23 => k_is)
    (case c23 => k_is)
    (case k23 => k_is)
    (case a24 => k_is)
    (case l24 => k_is)
    (case c24 => k_is)
    (case k24 => k_is)
    (case a25 => k_is)
    (case l25 => k_is)
    (case c25 => k_is)
    (case k25 => k_is)
    (case a26 => k_is)
    (case l26 => k_is)
    (case c26 => k_is)
    (case k26 => k_is)
    (case a27 => k_is)
    (case l27 => k_is)
    (case c27 => k_is)
    (case k27 => k_is)
    (case cst0 => k_is)
    (case cst1 => k_is)
    (case cst2 => k_is)
    (case z0 => k_is)
    (case z1 => k_is)
    (case z2 => k_is)
    (case z3 => k_is)
    (case z4 => k_is)
    (case z5 => k_is)
    (case z6 => k_is)
    (case z7 => k_is)
    (case z8 => k_is)
    (case z9 => k_is)
    (case z10 => k_is)
    (case z11 => k_is)
    (case z12 => k_is)
    (case z13 => k_is)
    (case z14 => k_is)
