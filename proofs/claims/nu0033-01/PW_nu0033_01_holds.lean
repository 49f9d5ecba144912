import PyProof.Rows.All
import Wide.All
import OpenK.AllK
import Wide.FinOn
import PySem.Challenge.RW_nu0033_01
set_option Elab.async false
set_option maxRecDepth 100000
set_option linter.all false
namespace Mine
open PySem PySem.W PyProof.Rows PySem.Calls
section
-- part M1
theorem neG {α : Type} {f : Nat → Option α} {a b : Nat} {o : α} (h : f a = none) (e : f b = some o) : b ≠ a := fun q => Option.some_ne_none o (e.symm.trans (q ▸ h))
theorem not2 {C D b : Nat} {X : List Nat} (h1 : b ≠ C) (h2 : b ≠ D) (h3 : b ∉ X) : b ∉ [C, D] ++ X := fun q => by
  cases q with
  | head => exact h1 rfl
  | tail _ q => cases q with
    | head => exact h2 rfl
    | tail _ q => exact h3 q
theorem all2 {P : Nat → Prop} {C D : Nat} (h1 : P C) (h2 : P D) : ∀ b ∈ [C, D], P b := fun b q => by
  cases q with
  | head => exact h1
  | tail _ q => cases q with
    | head => exact h2
    | tail _ q => cases q
theorem nxL {x : Option (Nat × Nat)} {b : Nat} (h : ∀ p, x = some p → p.2 ≠ b) : b ∉ x.toList.map (·.2) := fun q => by
  cases x with
  | none => cases q
  | some p => cases q with
    | head => exact h p rfl rfl
    | tail _ q => cases q
theorem om1 {n k : Nat} (h : k < n) : n - (k + 1) < n - k := Nat.sub_lt_sub_left h (Nat.lt_succ_self k)
theorem om2 {n k : Nat} (h : k < n) : n - 1 - k < n := Nat.lt_of_le_of_lt (Nat.sub_le _ _) (Nat.sub_lt (Nat.zero_lt_of_lt h) Nat.one_pos)
theorem om4 {n k : Nat} : n - (k + 1) = n - 1 - k := by rw [Nat.sub_sub, Nat.add_comm 1 k]
theorem om3 {n k : Nat} (h : k < n) : n - 1 - k + 1 = n - k := by rw [← om4]; exact Nat.sub_add_cancel (Nat.sub_pos_of_lt h)
theorem om5 {x g W r : Nat} (h : x ≤ W) (hr : r = W - x) (hg : g ≤ r) : x + g ≤ W := Nat.le_trans (Nat.add_le_add_left (hr ▸ hg) x) (Nat.le_of_eq (Nat.add_sub_of_le h))
theorem om6 {b : Nat} : (max 0 (b : Int)).toNat = b := by rw [Int.max_eq_right (Int.natCast_nonneg b)]; rfl
theorem om7 {i j : Nat} (h : decide ((i : Int) < (j : Int)) = true) : i < j := Int.ofNat_lt.mp (of_decide_eq_true h)
theorem om8 {n k : Nat} (h : decide ((k : Int) < (n : Int)) = true) : n - (k + 1) < n - k := om1 (om7 h)
theorem om9 {j a b : Nat} : j < j + a + 1 + b + 1 := Nat.lt_succ_of_le (Nat.le_trans (Nat.le_add_right j a) (Nat.le_trans (Nat.le_succ _) (Nat.le_add_right _ b)))
theorem om10 {W j a b g : Nat} (h : j + a + 1 + b + 1 ≤ W) : W - (j + a + 1 + b + 1 + g) < W - j := Nat.sub_lt_sub_left (Nat.lt_of_lt_of_le om9 h) (Nat.lt_add_right g om9)
theorem om11 {W j m g : Nat} (h : m ≤ W - j) (hm : ¬ m = 0) : W - (j + m + g) < W - j :=
  Nat.sub_lt_sub_left (Nat.lt_of_sub_pos (Nat.lt_of_lt_of_le (Nat.pos_of_ne_zero hm) h)) (Nat.lt_add_right g (Nat.lt_add_of_pos_right (Nat.pos_of_ne_zero hm)))
theorem om12 {W j m g : Nat} (h : m ≤ W - j) (hm : ¬ m = 0) (hg : g ≤ W - (j + m)) : j + m + g ≤ W :=
  om5 (Nat.add_le_of_le_sub' (Nat.le_of_lt (Nat.lt_of_sub_pos (Nat.lt_of_lt_of_le (Nat.pos_of_ne_zero hm) h))) h) rfl hg
theorem om13 {W j m g k : Nat} (h : m ≤ W - j) (hm : ¬ m = 0) (hk : W - j ≤ k + 1) : W - (j + m + g) ≤ k := Nat.le_of_lt_succ (Nat.lt_of_lt_of_le (om11 h hm) hk)
theorem om15 {n m : Nat} (h : decide ((n : Int) < (m : Int)) = true) : n - 1 < m := Nat.lt_of_le_of_lt (Nat.sub_le _ _) (om7 h)
theorem om16 {n i j : Nat} (h : i + j < n) : n - (i + (j + 1)) < n - (i + j) := om1 h
theorem om17 {n i j : Nat} (h : decide (((i + j : Nat) : Int) < (n : Int)) = true) : n - (i + (j + 1)) < n - (i + j) := om1 (om7 h)
theorem om14 {j a i : Nat} (h : a < 2 ^ 20) : min j (a - i) < 1048576 := Nat.lt_of_le_of_lt (Nat.le_trans (Nat.min_le_right _ _) (Nat.sub_le _ _)) h
theorem len0 {α : Type} {l : List α} (h : l.length = 0) : l = [] := List.eq_nil_of_length_eq_zero h
theorem lenS {α : Type} {l : List α} {n : Nat} (h : l.length = n + 1) : ∃ a r, l = a :: r ∧ r.length = n := by
  cases l with
  | nil => cases h
  | cons a r => exact ⟨a, r, rfl, Nat.succ.inj h⟩
theorem len1 {α : Type} {l : List α} (h : l.length = 1) : ∃ a, l = [a] := by obtain ⟨a, r, rfl, k⟩ := lenS h; rw [len0 k]; exact ⟨a, rfl⟩
theorem len2 {α : Type} {l : List α} (h : l.length = 2) : ∃ a b, l = [a, b] := by obtain ⟨a, r, rfl, k⟩ := lenS h; obtain ⟨b, rfl⟩ := len1 k; exact ⟨a, b, rfl⟩
theorem len3 {α : Type} {l : List α} (h : l.length = 3) : ∃ a b c, l = [a, b, c] := by obtain ⟨a, r, rfl, k⟩ := lenS h; obtain ⟨b, c, rfl⟩ := len2 k; exact ⟨a, b, c, rfl⟩
theorem len4 {α : Type} {l : List α} (h : l.length = 4) : ∃ a b c d, l = [a, b, c, d] := by obtain ⟨a, r, rfl, k⟩ := lenS h; obtain ⟨b, c, d, rfl⟩ := len3 k; exact ⟨a, b, c, d, rfl⟩
theorem len5 {α : Type} {l : List α} (h : l.length = 5) : ∃ a b c d e, l = [a, b, c, d, e] := by obtain ⟨a, r, rfl, k⟩ := lenS h; obtain ⟨b, c, d, e, rfl⟩ := len4 k; exact ⟨a, b, c, d, e, rfl⟩
theorem len6 {α : Type} {l : List α} (h : l.length = 6) : ∃ a b c d e f, l = [a, b, c, d, e, f] := by obtain ⟨a, r, rfl, k⟩ := lenS h; obtain ⟨b, c, d, e, f, rfl⟩ := len5 k; exact ⟨a, b, c, d, e, f, rfl⟩
theorem len7 {α : Type} {l : List α} (h : l.length = 7) : ∃ a b c d e f g, l = [a, b, c, d, e, f, g] := by obtain ⟨a, r, rfl, k⟩ := lenS h; obtain ⟨b, c, d, e, f, g, rfl⟩ := len6 k; exact ⟨a, b, c, d, e, f, g, rfl⟩
theorem no_ns {α : Type} {A : Prop} {a : α} (h : none = some a) : A := by cases h
inductive D where
  | none
  | bool (b : Bool)
  | int (i : Int)
  | str (s : Str)
  | tup (l : List D)
  | lst (l : List D)
  | mat (l : List D)
inductive SV where
  | d (x : D)
  | cell
inductive CO where
  | none
  | src
  | rd (t : Str) (i : Int)
  | lst (l : List D)
noncomputable abbrev Cl := Option (Addr × Addr)
noncomputable abbrev Names := Str → Option Value
abbrev cMat : Addr := 333
abbrev cNum : Addr := 188
noncomputable def matNames : List Str := [Str.ofString "a", Str.ofString "b", Str.ofString "c", Str.ofString "d", Str.ofString "e", Str.ofString "f"]
noncomputable def DictIs (o : Obj) (l : List (Str × Value)) : Prop := ∃ es n, o.data = .dict es n ∧ StrKeys es ∧ UniqKeys es ∧ ∀ y, nsFind es y = l.lookup y
mutual
noncomputable def Rel (X : List Addr) (h : Heap) : D → Value → Prop
  | .none, v => v = .none
  | .bool b, v => v = .bool b
  | .int i, v => ∃ t, v = .int i t
  | .str s, v => ∃ t, v = .str s t
  | .tup l, v => ∃ a o vs n, v = .ref a ∧ a ∉ X ∧ h.get? a = some o ∧ o.cls = .type "tuple" ∧ o.data = .seq vs n ∧ RelL X h l vs.toList
  | .lst l, v => ∃ a o vs n, v = .ref a ∧ a ∉ X ∧ h.get? a = some o ∧ o.cls = .type "list" ∧ o.data = .seq vs n ∧ RelL X h l vs.toList
  | .mat l, v => ∃ a o dx od vs, v = .ref a ∧ a ∉ X ∧ dx ∉ X ∧ h.get? a = some o ∧ o.cls = .ref cMat ∧ o.dict = some dx ∧ o.data = .plain ∧
      h.get? dx = some od ∧ DictIs od (matNames.zip vs) ∧ vs.length = 6 ∧ RelL X h l vs
noncomputable def RelL (X : List Addr) (h : Heap) : List D → List Value → Prop
  | [], vs => vs = []
  | d :: l, vs => ∃ v r, vs = v :: r ∧ Rel X h d v ∧ RelL X h l r
end
noncomputable def Sure (X : List Addr) (h h' : Heap) : Prop := ∀ b o, h.get? b = some o → (∀ vs, o.data ≠ .fields vs) → b ∉ X → ∃ sl, h'.get? b = some { o with slots := sl }
noncomputable def Kept (X : List Addr) (h h' : Heap) : Prop := ∀ b o, h.get? b = some o → b ∉ X → ∃ sl, h'.get? b = some { o with slots := sl } ∧ ((∃ vs, o.data = .fields vs) → sl = o.slots)
theorem Kept.sure {X : List Addr} {h h' : Heap} (k : Kept X h h') : Sure X h h' := fun b o e _ n => let ⟨sl, e, _⟩ := k b o e n; ⟨sl, e⟩
theorem Kept.refl (X : List Addr) (h : Heap) : Kept X h h := fun _ o e _ => ⟨o.slots, e, fun _ => rfl⟩
theorem Kept.of_keeps (X : List Addr) {h h' : Heap} (k : ∀ b o, h.get? b = some o → h'.get? b = some o) : Kept X h h' := fun b o e _ => ⟨o.slots, k b o e, fun _ => rfl⟩
theorem Kept.trans {X : List Addr} {h₁ h₂ h₃ : Heap} (a : Kept X h₁ h₂) (b : Kept X h₂ h₃) : Kept X h₁ h₃ := fun y o e n => by
  obtain ⟨s1, e1, f1⟩ := a y o e n
  obtain ⟨s2, e2, f2⟩ := b y _ e1 n
  exact ⟨s2, e2, fun hf => (f2 hf).trans (f1 hf)⟩
theorem Kept.rec {X : List Addr} {h h' : Heap} (k : Kept X h h') {b o vs} (e : h.get? b = some o) (n : b ∉ X) (hd : o.data = .fields vs) : h'.get? b = some o := by
  obtain ⟨sl, e1, f1⟩ := k b o e n
  rw [e1, f1 ⟨vs, hd⟩]
theorem Kept.more {X Y : List Addr} {h h' : Heap} (k : Kept X h h') (s : ∀ b, b ∈ X → b ∈ Y) : Kept Y h h' := fun b o e n => k b o e fun q => n (s b q)
theorem Sure.more {X Y : List Addr} {h h' : Heap} (k : Sure X h h') (s : ∀ b, b ∈ X → b ∈ Y) : Sure Y h h' := fun b o e f n => k b o e f fun q => n (s b q)
theorem DictIs.slots {o : Obj} {l : List (Str × Value)} (x : DictIs o l) (sl : Array (Option Value)) : DictIs { o with slots := sl } l := x
theorem DictIs.notFields {o : Obj} {l : List (Str × Value)} (x : DictIs o l) : ∀ vs, o.data ≠ .fields vs := by obtain ⟨es, n, q, _⟩ := x; rw [q]; exact fun _ q => nomatch q
noncomputable def Moves (X Y : List Addr) (h h' : Heap) : Prop := ∀ b o, h.get? b = some o → (∀ vs, o.data ≠ .fields vs) → b ∉ X → b ∉ Y ∧ ∃ sl, h'.get? b = some { o with slots := sl }
theorem mv_seq {X Y : List Addr} {h h' : Heap} {t v : Value} {l : List D} (k : Moves X Y h h') (ih : ∀ vs, RelL X h l vs → RelL Y h' l vs) :
    (∃ a o vs n, v = .ref a ∧ a ∉ X ∧ h.get? a = some o ∧ o.cls = t ∧ o.data = .seq vs n ∧ RelL X h l vs.toList) → ∃ a o vs n, v = .ref a ∧ a ∉ Y ∧ h'.get? a = some o ∧ o.cls = t ∧ o.data = .seq vs n ∧ RelL Y h' l vs.toList := by
  rintro ⟨a, o, vs, n, e, hn, ho, hc, hd, hr⟩
  obtain ⟨hn', sl, ho'⟩ := k a o ho (by rw [hd]; exact fun _ q => nomatch q) hn
  exact ⟨a, _, vs, n, e, hn', ho', hc, hd, ih _ hr⟩
theorem Rel.move {X Y : List Addr} {h h' : Heap} (k : Moves X Y h h') (d : D) : ∀ (v : Value), Rel X h d v → Rel Y h' d v := by
  refine D.rec (motive_1 := fun d => ∀ v, Rel X h d v → Rel Y h' d v) (motive_2 := fun l => ∀ vs, RelL X h l vs → RelL Y h' l vs) (fun _ r => r) (fun _ _ r => r) (fun _ _ r => r) (fun _ _ r => r)
    (fun l ih v r => mv_seq k ih r) (fun l ih v r => mv_seq k ih r) (fun l ih v r => ?_) (fun _ r => r) (fun d l i1 i2 vs r => ?_) d
  · obtain ⟨a, o, dx, od, vs, e, hn, hn2, ho, hc, hdi, hda, hod, hdd, hlen, hr⟩ := r
    obtain ⟨hn, sl, ho'⟩ := k a o ho (by rw [hda]; exact fun _ q => nomatch q) hn
    obtain ⟨hn2, sl', hod'⟩ := k dx od hod hdd.notFields hn2
    exact ⟨a, _, dx, _, vs, e, hn, hn2, ho', hc, hdi, hda, hod', hdd, hlen, ih _ hr⟩
  · obtain ⟨v, t, e, h1, h2⟩ := r
    exact ⟨v, t, e, i1 v h1, i2 t h2⟩
theorem RelL.move {X Y : List Addr} {h h' : Heap} (k : Moves X Y h h') (l : List D) : ∀ (vs : List Value), RelL X h l vs → RelL Y h' l vs := by
  induction l with
  | nil => exact fun _ r => r
  | cons d l ih =>
    intro vs r
    obtain ⟨v, t, e, h1, h2⟩ := r
    exact ⟨v, t, e, Rel.move k d v h1, ih t h2⟩
theorem Rel.up {X : List Addr} {h h' : Heap} (k : Sure X h h') (d : D) (v : Value) (r : Rel X h d v) : Rel X h' d v := Rel.move (fun b o e f n => ⟨n, k b o e f n⟩) d v r
theorem RelL.up {X : List Addr} {h h' : Heap} (k : Sure X h h') (l : List D) (vs : List Value) (r : RelL X h l vs) : RelL X h' l vs := RelL.move (fun b o e f n => ⟨n, k b o e f n⟩) l vs r
theorem Rel.aside {X Y : List Addr} {h : Heap} (k : ∀ b o, h.get? b = some o → b ∉ X → b ∉ Y) (d : D) (v : Value) (r : Rel X h d v) : Rel Y h d v := Rel.move (fun b o e _ n => ⟨k b o e n, o.slots, e⟩) d v r
theorem RelL.aside {X Y : List Addr} {h : Heap} (k : ∀ b o, h.get? b = some o → b ∉ X → b ∉ Y) (l : List D) (vs : List Value) (r : RelL X h l vs) : RelL Y h l vs := RelL.move (fun b o e _ n => ⟨k b o e n, o.slots, e⟩) l vs r
noncomputable def RelV (x : Cl) (X : List Addr) (h : Heap) : SV → Value → Prop
  | .d y, v => Rel X h y v
  | .cell, v => ∃ p, x = some p ∧ v = .ref p.1
theorem RelV.up {x : Cl} {X : List Addr} {h h' : Heap} (k : Sure X h h') : ∀ (d : SV) (v : Value), RelV x X h d v → RelV x X h' d v
  | .d y, v, r => Rel.up k y v r
  | .cell, _, r => r
theorem RelV.aside {x x' : Cl} {X Y : List Addr} {h : Heap} (k : ∀ b o, h.get? b = some o → b ∉ X → b ∉ Y) (hl : x = none ∨ x' = x) : ∀ (d : SV) (v : Value), RelV x X h d v → RelV x' Y h d v
  | .d y, v, r => Rel.aside k y v r
  | .cell, v, ⟨p, e, r⟩ => by
    rcases hl with rfl | rfl
    · cases e
    · exact ⟨p, e, r⟩
noncomputable def RelVs (x : Cl) (X : List Addr) (h : Heap) : List SV → List Value → Prop
  | [], vs => vs = []
  | d :: l, vs => ∃ v r, vs = v :: r ∧ RelV x X h d v ∧ RelVs x X h l r
theorem RelVs.up {x : Cl} {X : List Addr} {h h' : Heap} (k : Sure X h h') : ∀ (l : List SV) (vs : List Value), RelVs x X h l vs → RelVs x X h' l vs
  | [], _, r => r
  | d :: l, _, ⟨v, t, e, h1, h2⟩ => ⟨v, t, e, RelV.up k d v h1, RelVs.up k l t h2⟩
theorem RelVs.aside {x x' : Cl} {X Y : List Addr} {h : Heap} (k : ∀ b o, h.get? b = some o → b ∉ X → b ∉ Y) (hl : x = none ∨ x' = x) : ∀ (d : List SV) (v : List Value), RelVs x X h d v → RelVs x' Y h d v
  | [], _, r => r
  | d :: l, _, ⟨v, t, e, h1, h2⟩ => ⟨v, t, e, RelV.aside k hl d v h1, RelVs.aside k hl l t h2⟩
noncomputable def CellAt (x : Cl) (X : List Addr) (h : Heap) : CO → Prop
  | .none => x = none
  | .src => ∃ (a : Addr) (o : Obj) (i j : Int) (t u : Tok) (n : Nat), x = some (a, a) ∧ a ∈ X ∧ h.get? a = some o ∧ o.cls = .type "list" ∧ o.data = .seq #[.int i t, .int j u] n ∧ 0 ≤ j ∧ j < 2 ^ 31
  | .rd y i => ∃ (a dx : Addr) (ox od : Obj) (t u : Tok), x = some (a, dx) ∧ a ≠ dx ∧ dx ∈ X ∧ h.get? a = some ox ∧ ox.cls = .ref cNum ∧ ox.dict = some dx ∧ ox.data = .plain ∧ h.get? dx = some od ∧
      DictIs od [(Str.ofString "text", .str y t), (Str.ofString "at", .int i u)]
  | .lst l => ∃ (a : Addr) (o : Obj) (vs : Array Value) (n : Nat), x = some (a, a) ∧ a ∈ X ∧ h.get? a = some o ∧ o.cls = .type "list" ∧ o.data = .seq vs n ∧ RelL X h l vs.toList ∧ o.dict = none
theorem CellAt.move {x : Cl} {X Y : List Addr} {h h' : Heap} (k1 : ∀ p, x = some p → ∀ b o, b = p.1 ∨ b = p.2 → h.get? b = some o → (∀ vs, o.data ≠ .fields vs) → ∃ sl, h'.get? b = some { o with slots := sl })
    (k2 : ∀ p, x = some p → p.2 ∈ X → p.2 ∈ Y) (k3 : Moves X Y h h') (c : CO) (r : CellAt x X h c) : CellAt x Y h' c := by
  cases c with
  | none => exact r
  | src =>
    obtain ⟨a, o, i, j, t, u, n, e, hX, ho, hc, hd, r⟩ := r
    obtain ⟨sl, ho'⟩ := k1 _ e a o (.inl rfl) ho (by rw [hd]; exact fun _ q => nomatch q)
    exact ⟨a, _, i, j, t, u, n, e, k2 _ e hX, ho', hc, hd, r⟩
  | rd y i =>
    obtain ⟨a, dx, ox, od, t, u, e, hne, hX, ho, hc, hdi, hda, hod, hdd⟩ := r
    obtain ⟨sl, ho'⟩ := k1 _ e a ox (.inl rfl) ho (by rw [hda]; exact fun _ q => nomatch q)
    obtain ⟨sl', hod'⟩ := k1 _ e dx od (.inr rfl) hod hdd.notFields
    exact ⟨a, dx, _, _, t, u, e, hne, k2 _ e hX, ho', hc, hdi, hda, hod', hdd.slots _⟩
  | lst l =>
    obtain ⟨a, o, vs, n, e, hX, ho, hc, hd, r, hn⟩ := r
    obtain ⟨sl, ho'⟩ := k1 _ e a o (.inl rfl) ho (by rw [hd]; exact fun _ q => nomatch q)
    exact ⟨a, _, vs, n, e, k2 _ e hX, ho', hc, hd, RelL.move k3 l _ r, hn⟩
theorem CellAt.up {x : Cl} {X : List Addr} {h h' : Heap} (k : Sure [] h h') (c : CO) (r : CellAt x X h c) : CellAt x X h' c :=
  CellAt.move (fun _ _ b o _ e f => k b o e f fun q => nomatch q) (fun _ _ q => q) (fun b o e f n => ⟨n, k b o e f fun q => nomatch q⟩) c r
theorem CellAt.there {x : Cl} {X : List Addr} {h : Heap} {p : Addr × Addr} (hp : x = some p) : ∀ (c : CO), CellAt x X h c → p.2 ∈ X ∧ ∃ o, h.get? p.2 = some o ∧ ∀ vs, o.data ≠ .fields vs
  | .none, r => by rw [show x = none from r] at hp; cases hp
  | .src, r => by obtain ⟨y, o, _, _, _, _, _, h1, hX, h2, _, h3, _⟩ := r; rw [h1] at hp; cases hp; exact ⟨hX, _, h2, by rw [h3]; exact fun _ q => nomatch q⟩
  | .rd y i, r => by obtain ⟨y, dx, ox, od, _, _, h1, _, hX, _, _, _, _, h2, h3⟩ := r; rw [h1] at hp; cases hp; exact ⟨hX, _, h2, h3.notFields⟩
  | .lst l, r => by obtain ⟨y, o, _, _, h1, hX, h2, _, h3, _⟩ := r; rw [h1] at hp; cases hp; exact ⟨hX, _, h2, by rw [h3]; exact fun _ q => nomatch q⟩
structure Par where
  prog : Program
  w : World
  K : Frag
  p : Program
  loose : List Str
  mean : ExcName → Option Value
  mg : Str → Option Value
  mb : Str → Option Value
  base : Heap
  X : K.In base
  T : Top p loose mean mg mb base
structure FV where
  qn : Str
  fn : Option Addr
  cd : Value
  cl : List (Str × Addr)
  fm : Option Addr
  L : Addr
  fs : List Env
noncomputable abbrev FV.env (v : FV) (sc : Scope) : Env := { scope := sc, locals := v.L, globals := mainGlobals, cells := v.cl, qual := v.qn, func := v.fn, code := v.cd, frame := v.fm, builtins := builtinsNs }
structure Good (A : Around) (v : FV) (sc : Scope) (hn : Bool) (d : Nat) : Prop where
  frames : A.frames = some v.fs
  some : v.fs ≠ []
  handled : hn = true → A.handled = none
  room : A.depth + d < recursionLimit
  units : A.units + 16 * d + 64 < cLine
  kind : sc.kind = .function
noncomputable def Look (sc : Scope) (v : FV) (X : List Addr) (m : Names) (h : Heap) (n : Str) (val : Value) : Prop :=
  (sc.names.lookup n = some .local ∧ m n = some val) ∨
  ((sc.names.lookup n = some .cell ∨ sc.names.lookup n = some .free) ∧ ∃ c o, v.cl.lookup n = some c ∧ h.get? c = some o ∧ o.data = .cell (some val) ∧ c ∉ X)
theorem Look.up {sc : Scope} {v : FV} {X : List Addr} {m : Names} {h h' : Heap} (k : Sure X h h') {n : Str} {val : Value} : Look sc v X m h n val → Look sc v X m h' n val
  | .inl r => .inl r
  | .inr ⟨hk, c, o, hc, ho, hd, hn⟩ => by
    obtain ⟨sl, ho'⟩ := k c o ho (by rw [hd]; exact fun _ q => nomatch q) hn
    exact .inr ⟨hk, c, _, hc, ho', hd, hn⟩
structure Frm (base : Heap) (L : Addr) (h : Heap) (m : Names) : Prop where
  ns : h.Ns L m
  keep : base.StaysIn h
structure St (P : Par) (sc : Scope) (v : FV) (ns : List Str) (ρ : List (Option SV)) (c : CO) (x : Cl) (X : List Addr) (m : Names) (h : Heap) : Prop where
  fr : Frm P.base v.L h m
  ff : h.FunFrames P.base v.fs
  cell : CellAt x X h c
  lX : v.L ∈ X
  xL : ∀ p, x = some p → p.1 ≠ v.L ∧ p.2 ≠ v.L
  xs : ∀ b ∈ X, ∃ o, h.get? b = some o
  xb : ∀ b ∈ X, P.base.get? b = none
  loc : ∀ (i : Nat) (n : Str) (sv : SV), ns[i]? = some n → ρ[i]? = some (some sv) → ∃ val, Look sc v X m h n val ∧ RelV x X h sv val
noncomputable def Rest (s s' : Shared) : Prop := s'.gens = s.gens ∧ s'.drawn = s.drawn ∧ s'.os = s.os
theorem Rest.refl (s : Shared) : Rest s s := ⟨rfl, rfl, rfl⟩
theorem Rest.trans {a b c : Shared} (x : Rest a b) (y : Rest b c) : Rest a c := ⟨y.1.trans x.1, y.2.1.trans x.2.1, y.2.2.trans x.2.2⟩
noncomputable def Grow (s s' : Shared) : Prop := Rest s s' ∧ ∀ b o, s.heap.get? b = some o → s'.heap.get? b = some o
theorem Grow.refl (s : Shared) : Grow s s := ⟨.refl s, fun _ _ e => e⟩
theorem Grow.trans {a b c : Shared} (x : Grow a b) (y : Grow b c) : Grow a c := ⟨x.1.trans y.1, fun b o e => y.2 b o (x.2 b o e)⟩
theorem Grow.toks (s : Shared) (t : Nat) : Grow s { s with toks := t } := ⟨⟨rfl, rfl, rfl⟩, fun _ _ e => e⟩
theorem Grow.push (s : Shared) (o : Obj) (t : Nat) : Grow s { s with heap := s.heap.push o, toks := t } := ⟨⟨rfl, rfl, rfl⟩, fun _ _ e => Heap.get?_push_of_some _ e⟩
theorem Grow.sure {s s' : Shared} (g : Grow s s') (X : List Addr) : Sure X s.heap s'.heap := fun b o e _ _ => ⟨o.slots, g.2 b o e⟩
theorem Grow.kept {s s' : Shared} (g : Grow s s') (X : List Addr) : Kept X s.heap s'.heap := .of_keeps X g.2
theorem funFrames_alive {base h h' : Heap} (k : ∀ b o, h.get? b = some o → (∀ vs, o.data ≠ .fields vs) → ∃ o', h'.get? b = some o' ∧ ∀ vs, o'.data ≠ .fields vs) :
    ∀ {l : List Env}, h.FunFrames base l → h'.FunFrames base l := by
  intro l
  induction l with
  | nil => exact fun _ => trivial
  | cons env l ih =>
    intro ⟨hk, ⟨L, o, hf, hn, ho, hd⟩, hr⟩
    obtain ⟨o', ho', hd'⟩ := k L o ho hd
    exact ⟨hk, ⟨L, o', hf, hn, ho', hd'⟩, ih hr⟩
theorem funFrames_up {base h h' : Heap} {x : Cl} {X : List Addr} {c' : CO} (k : Sure (x.toList.map (·.2)) h h') (hc : CellAt x X h' c') {l : List Env} : h.FunFrames base l → h'.FunFrames base l :=
  funFrames_alive fun b o e hd => by
    by_cases q : b ∈ x.toList.map (·.2)
    · cases x with
      | none => cases q
      | some p =>
        rcases List.mem_cons.mp q with q | q
        · obtain ⟨_, o, h1, h2⟩ := CellAt.there rfl c' hc
          exact ⟨o, q ▸ h1, h2⟩
        · cases q
    · obtain ⟨sl, ho'⟩ := k b o e hd q
      exact ⟨_, ho', hd⟩
theorem St.up {P : Par} {sc : Scope} {v : FV} {ns : List Str} {ρ : List (Option SV)} {c c' : CO} {x : Cl} {X : List Addr} {m : Names} {h h' : Heap} (S : St P sc v ns ρ c x X m h)
    (k : Sure (x.toList.map (·.2)) h h') (kx : ∀ b ∈ X, (∃ o, h.get? b = some o) → ∃ o, h'.get? b = some o) (kb : P.base.StaysIn h') (hc : CellAt x X h' c') : St P sc v ns ρ c' x X m h' := by
  obtain ⟨⟨hns, hkeep⟩, hff, hcell, hlX, hxL, hxs, hxb, hloc⟩ := S
  obtain ⟨oL, es, ep, hL, hLd, hLk, hLf⟩ := hns
  have hsub : ∀ b, b ∈ x.toList.map (·.2) → b ∈ X := fun b q => by
    cases x with
    | none => cases q
    | some p =>
      rcases List.mem_cons.mp q with q | q
      · rw [q]; exact (CellAt.there rfl c hcell).1
      · cases q
  obtain ⟨sl, hL'⟩ := k v.L oL hL (by rw [hLd]; exact fun _ q => nomatch q) fun q => by
    cases x with
    | none => cases q
    | some p =>
      rcases List.mem_cons.mp q with q | q
      · exact (hxL p rfl).2 q.symm
      · cases q
  refine ⟨⟨⟨_, es, ep, hL', hLd, hLk, hLf⟩, kb⟩, funFrames_up k hc hff, hc, hlX, hxL, fun b hb => kx b hb (hxs b hb), hxb, fun i n sv h1 h2 => ?_⟩
  obtain ⟨val, hv, hr⟩ := hloc i n sv h1 h2
  exact ⟨val, hv.up (k.more hsub), RelV.up (k.more hsub) sv val hr⟩
theorem St.grow {P : Par} {sc : Scope} {v : FV} {ns : List Str} {ρ : List (Option SV)} {c : CO} {x : Cl} {X : List Addr} {m : Names} {h h' : Heap} (S : St P sc v ns ρ c x X m h)
    (k : ∀ b o, h.get? b = some o → h'.get? b = some o) : St P sc v ns ρ c x X m h' :=
  S.up (fun b o e _ _ => ⟨o.slots, k b o e⟩) (fun b _ ⟨o, e⟩ => ⟨o, k b o e⟩) (fun b o e => k b o (S.fr.keep b o e)) (S.cell.up fun b o e _ _ => ⟨o.slots, k b o e⟩)
noncomputable def ExcAt (h₀ h : Heap) (e : Addr) (C : Addr) : Prop :=
  ∃ oe vs, h.get? e = some oe ∧ oe.cls = .ref C ∧ oe.data = .fields vs ∧ 1 < vs.size ∧ h₀.get? e = none ∧
    (vs[1]? = some .none ∨ ∃ T oT ts, vs[1]? = some (.ref T) ∧ T ≠ e ∧ h₀.get? T = none ∧ h.get? T = some oT ∧ oT.data = .fields ts ∧ 3 < ts.size)
theorem ExcAt.earlier {h₀ h₁ h : Heap} {e C : Addr} (k : ∀ b, h₁.get? b = none → h₀.get? b = none) (r : ExcAt h₁ h e C) : ExcAt h₀ h e C := by
  obtain ⟨oe, vs, h1, h2, h3, h4, h5, h6⟩ := r
  refine ⟨oe, vs, h1, h2, h3, h4, k _ h5, h6.imp id ?_⟩
  rintro ⟨T, oT, ts, a, b, d, r⟩
  exact ⟨T, oT, ts, a, b, k _ d, r⟩
structure Aft (P : Par) (sc : Scope) (v : FV) (ns : List Str) (ρ : List (Option SV)) (x : Cl) (X : List Addr) (m : Names) (s : Shared) (c' : CO) (s' : Shared) : Prop where
  rest : Rest s s'
  st : St P sc v ns ρ c' x X m s'.heap
  kept : Kept (x.toList.map (·.2)) s.heap s'.heap
noncomputable abbrev PE := List (Option SV) → CO → (SV → CO → Prop) → (Addr → CO → Prop) → Prop
noncomputable abbrev PT := List (Option SV) → CO → (Bool → CO → Prop) → (Addr → CO → Prop) → Prop
noncomputable abbrev PL := List (Option SV) → CO → (List SV → CO → Prop) → (Addr → CO → Prop) → Prop
noncomputable def SoundE (P : Par) (hn : Bool) (d : Nat) (sc : Scope) (ns : List Str) (e : Expr) (p : PE) : Prop :=
  ∀ (A : Around) (v : FV) (s : Shared) (m : Names) (ρ : List (Option SV)) (c : CO) (x : Cl) (X : List Addr) (Q E : Value → Shared → Prop) (KQ : SV → CO → Prop) (KE : Addr → CO → Prop),
    Good A v sc hn d → St P sc v ns ρ c x X m s.heap → p ρ c KQ KE →
    (∀ r c' val s', Aft P sc v ns ρ x X m s c' s' → RelV x X s'.heap r val → KQ r c' → Q val s') →
    (∀ C c' e s', Aft P sc v ns ρ x X m s c' s' → ExcAt s.heap s'.heap e C → KE C c' → E (.ref e) s') →
    wpAny (model P.prog P.w) A (eval e (v.env sc)) Q E s
noncomputable def SoundT (P : Par) (hn : Bool) (d : Nat) (sc : Scope) (ns : List Str) (e : Expr) (p : PT) : Prop :=
  ∀ (A : Around) (v : FV) (s : Shared) (m : Names) (ρ : List (Option SV)) (c : CO) (x : Cl) (X : List Addr) (Q : Bool → Shared → Prop) (E : Value → Shared → Prop) (KQ : Bool → CO → Prop) (KE : Addr → CO → Prop),
    Good A v sc hn d → St P sc v ns ρ c x X m s.heap → p ρ c KQ KE →
    (∀ r c' s', Aft P sc v ns ρ x X m s c' s' → KQ r c' → Q r s') →
    (∀ C c' e s', Aft P sc v ns ρ x X m s c' s' → ExcAt s.heap s'.heap e C → KE C c' → E (.ref e) s') →
    wpAny (model P.prog P.w) A (isTrue e (v.env sc) (eval e (v.env sc))) Q E s
noncomputable def SoundL (P : Par) (hn : Bool) (d : Nat) (sc : Scope) (ns : List Str) (es : List Expr) (p : PL) : Prop :=
  ∀ (pos : Pos) (A : Around) (v : FV) (s : Shared) (m : Names) (ρ : List (Option SV)) (c : CO) (x : Cl) (X : List Addr) (Q : List Value → Shared → Prop) (E : Value → Shared → Prop) (KQ : List SV → CO → Prop) (KE : Addr → CO → Prop),
    Good A v sc hn d → St P sc v ns ρ c x X m s.heap → p ρ c KQ KE →
    (∀ r c' val s', Aft P sc v ns ρ x X m s c' s' → RelVs x X s'.heap r val → KQ r c' → Q val s') →
    (∀ C c' e s', Aft P sc v ns ρ x X m s c' s' → ExcAt s.heap s'.heap e C → KE C c' → E (.ref e) s') →
    wpAny (model P.prog P.w) A (spliced (backTo pos (starEach es (v.env sc)))) Q E s
section
variable {P : Par} {sc : Scope} {v : FV} {ns : List Str} {ρ : List (Option SV)} {x : Cl} {X : List Addr} {m : Names} {s s' s'' : Shared} {c c' : CO}
theorem Aft.refl (S : St P sc v ns ρ c x X m s.heap) : Aft P sc v ns ρ x X m s c s := ⟨.refl s, S, Kept.refl _ _⟩
theorem Aft.grow (a : Aft P sc v ns ρ x X m s c s') (g : Grow s' s'') : Aft P sc v ns ρ x X m s c s'' :=
  ⟨a.rest.trans g.1, a.st.grow g.2, a.kept.trans (g.kept _)⟩
theorem Aft.trans (a : Aft P sc v ns ρ x X m s c s') (b : Aft P sc v ns ρ x X m s' c' s'') : Aft P sc v ns ρ x X m s c' s'' := ⟨a.rest.trans b.rest, b.st, a.kept.trans b.kept⟩
theorem St.sub (S : St P sc v ns ρ c x X m s.heap) : ∀ b, b ∈ x.toList.map (·.2) → b ∈ X := fun b q => by
  cases x with
  | none => cases q
  | some p =>
    rcases List.mem_cons.mp q with q | q
    · rw [q]; exact (CellAt.there rfl c S.cell).1
    · cases q
theorem Aft.sure (a : Aft P sc v ns ρ x X m s c' s') : Sure X s.heap s'.heap := (a.kept.more a.st.sub).sure
theorem Aft.absent (a : Aft P sc v ns ρ x X m s c' s') : ∀ b, s'.heap.get? b = none → s.heap.get? b = none := fun b e => by
  cases q : s.heap.get? b with
  | none => rfl
  | some o =>
    exfalso
    by_cases hx : b ∈ x.toList.map (·.2)
    · obtain ⟨o, h⟩ := a.st.xs b (a.st.sub b hx)
      rw [h] at e; cases e
    · obtain ⟨sl, e1, _⟩ := a.kept _ _ q hx
      rw [e] at e1; cases e1
end
end
local macro_rules | `(tactic| walk_at "om") => `(tactic| first
  | exact om1 (by assumption)
  | exact om8 (by assumption)
  | exact om15 (by assumption)
  | exact om16 (by assumption)
  | exact om17 (by assumption)
  | exact Nat.lt_of_lt_of_le (by assumption) (by decide)
  | exact Nat.le_trans (by assumption) (by decide)
  | exact Nat.le_of_lt (Nat.lt_of_lt_of_le (by assumption) (by decide))
  | exact Nat.pos_of_ne_zero (by assumption)
  | exact Nat.ne_of_gt (by assumption)
  | exact Int.natCast_nonneg _
  | lia
  | omega)
section
-- part M2
noncomputable def ExcTr (h₀ h : Heap) (e : Addr) (C : Addr) : Prop :=
  ∃ oe vs T oT ts, h.get? e = some oe ∧ oe.cls = .ref C ∧ oe.data = .fields vs ∧ vs[1]? = some (.ref T) ∧ h₀.get? e = none ∧ T ≠ e ∧ h₀.get? T = none ∧ h.get? T = some oT ∧ oT.data = .fields ts ∧ 3 < ts.size
theorem ExcTr.at_ {h₀ h : Heap} {e C : Addr} (x : ExcTr h₀ h e C) : ExcAt h₀ h e C := by
  obtain ⟨oe, vs, T, oT, ts, h1, h2, h3, h4, h5, h6, h7, h8, h9, h10⟩ := x
  exact ⟨oe, vs, h1, h2, h3, (Array.getElem?_eq_some_iff.mp h4).1, h5, .inr ⟨T, oT, ts, h4, h6, h7, h8, h9, h10⟩⟩
structure Noted (base h₀ h h' : Heap) : Prop where
  base : base.StaysIn h'
  sure : Sure [] h h'
  old : ∀ b o, h₀.get? b ≠ none → h.get? b = some o → ∃ sl, h'.get? b = some { o with slots := sl } ∧ ((∃ vs, o.data = .fields vs) → sl = o.slots)
  alive : ∀ b o, h.get? b = some o → ∃ o', h'.get? b = some o'
theorem Noted.refl {base h₀ h : Heap} (k : base.StaysIn h) : Noted base h₀ h h := ⟨k, fun _ o e _ _ => ⟨o.slots, e⟩, fun _ o _ e => ⟨o.slots, e, fun _ => rfl⟩, fun _ o e => ⟨o, e⟩⟩
theorem Noted.trans {base h₀ h h' h'' : Heap} (a : Noted base h₀ h h') (b : Noted base h₀ h' h'') : Noted base h₀ h h'' :=
  ⟨b.base, fun y o e f n => let ⟨s1, e1⟩ := a.sure y o e f n; let ⟨s2, e2⟩ := b.sure y _ e1 f n; ⟨s2, e2⟩,
   fun y o n e => let ⟨s1, e1, f1⟩ := a.old y o n e; let ⟨s2, e2, f2⟩ := b.old y _ n e1; ⟨s2, e2, fun hf => (f2 hf).trans (f1 hf)⟩,
   fun y o e => let ⟨s1, e1⟩ := a.alive y o e; b.alive y _ e1⟩
theorem Noted.frames {base h₀ h h' : Heap} (a : Noted base h₀ h h') {l : List Env} (F : h.FunFrames base l) : h'.FunFrames base l :=
  F.of_keeps fun b o e f => let ⟨sl, q⟩ := a.sure b o e f (fun q => nomatch q); ⟨_, q, rfl⟩
section
variable {M : Model} {A : Around} {s : Shared} {base h₀ : Heap} {e C : Addr} {E : Value → Shared → Prop}
theorem flight_ok (hx : ExcTr h₀ s.heap e C) (hb : base.StaysIn h₀) (hk : base.StaysIn s.heap) (fr : Option Addr) {Q : Unit → Shared → Prop}
    (h : ∀ h', Noted base h₀ s.heap h' → ExcTr h₀ h' e C → Q () { s with heap := h' }) : wpAny M A (setFlight (.ref e) fr) Q E s := by
  obtain ⟨oe, vs, T, oT, ts, h1, h2, h3, h4, h5, h6, h7, h8, h9, h10⟩ := hx
  unfold setFlight
  refine wpAny_bind (wpAny_field h1 h3 h4 ?_)
  rw [if_pos (show (Value.ref T != Value.none) = true from by simp)]
  refine wpAny_setField h8 h9 h10 (h _ ?_ ?_)
  · have other : ∀ b o, b ≠ T → s.heap.get? b = some o → (s.heap.update T (Obj.mapFields (·.setIfInBounds 3 (fr.elim .none fun f => rawInt f)))).get? b = some o := fun b o n q => by
      rw [Heap.get?_update_other _ _ (Ne.symm n)]; exact q
    refine ⟨fun b o q => other b o (fun z => ?_) (hk b o q), fun b o q f _ => ⟨o.slots, other b o (fun z => ?_) q⟩, fun b o n q => ⟨o.slots, other b o (fun z => n (z ▸ h7)) q, fun _ => rfl⟩, fun b o q => ?_⟩
    · rw [z] at q; rw [hb T o q] at h7; cases h7
    · rw [z, h8] at q; cases q; exact f ts h9
    · by_cases z : b = T
      · subst z; exact ⟨_, Heap.get?_update_self _ h8 (Obj.isFreed_of_fields (Obj.data_mapFields h9 _))⟩
      · exact ⟨_, other b o z q⟩
  · exact ⟨oe, vs, T, _, _, (Heap.get?_update_other _ _ h6).trans h1, h2, h3, h4, h5, h6, h7,
      Heap.get?_update_self _ h8 (Obj.isFreed_of_fields (Obj.data_mapFields h9 _)), Obj.data_mapFields h9 _, by simpa using h10⟩
theorem entry_ok {env : Env} {outer : List Env} {L : Addr} {head : Value} {hadNext : Bool} (hfr : A.frames = some (env :: outer)) (hl : s.heap.FunFrames base (env :: outer)) (hf : env.frame = some L)
    (hx : ExcAt h₀ s.heap e C) (hb : base.StaysIn h₀) (hk : base.StaysIn s.heap) (hdom : ∀ b, s.heap.get? b = none → h₀.get? b = none) {Q : Unit → Shared → Prop}
    (h : ∀ h', Noted base h₀ s.heap h' → ExcTr h₀ h' e C → Q () { s with heap := h' }) :
    wpAny M A (do let a ← frameOf env; let pl ← entryPlaceOf L hadNext; let b ← EntryCells.newEntry head a .none (rawInt L) .none pl; setField (.ref e) 1 b) Q E s := by
  obtain ⟨oe, vs, he, hcls, hd, hsz, hen, _⟩ := hx
  have hene : e ∉ (env :: outer).filterMap (·.frame) := fun hm => by
    obtain ⟨_, o, ho, hnf⟩ := hl.mem hm
    rw [he] at ho; injection ho with ho; subst ho; exact hnf vs hd
  refine wpAny_bind (wpAny_frameOf_fun hfr hl hf fun h₁ hs₁ => ?_)
  refine wpAny_bind (wpAny_entryPlaceOf fun pl hpl => ?_)
  unfold EntryCells.newEntry newFields
  refine wpAny_bind (wpAny_newObj_type ?_ (hpl.sizeOk5 _ _ _ _ _))
  have he₁ : h₁.get? e = some oe := (hs₁.2.1 e hene).trans he
  have kb₁ : base.StaysIn h₁ := fun b o hbo => (hs₁.2.1 b fun hm => by rw [(hl.mem hm).1] at hbo; cases hbo).trans (hk b o hbo)
  have he₂ := Heap.get?_push_of_some (h := h₁) { cls := .type "traceback", dict := none, data := .fields ([head, .ref L, .none, rawInt L, .none] ++ (if pl.isEmpty then List.replicate 6 Value.none else pl)).toArray } he₁
  refine wpAny_setField he₂ hd hsz (h _ ?_ ?_)
  · have keep : ∀ b o, b ≠ e → h₁.get? b = some o →
        ((h₁.push { cls := .type "traceback", dict := none, data := .fields ([head, .ref L, .none, rawInt L, .none] ++ (if pl.isEmpty then List.replicate 6 Value.none else pl)).toArray }).update e (Obj.mapFields (·.setIfInBounds 1 (Value.ref h₁.objs.size)))).get? b = some o := fun b o hbe hb' => by
      rw [Heap.get?_update_other _ _ (Ne.symm hbe)]
      exact Heap.get?_push_of_some _ hb'
    refine ⟨fun b o hbo => keep b o (fun q => ?_) (kb₁ b o hbo), fun b o hb' hnf _ => ?_, fun b o n hb' => ?_, fun b o hb' => ?_⟩
    · rw [q] at hbo; rw [hb e o hbo] at hen; cases hen
    · obtain ⟨sl, hs⟩ := hs₁.2.2 b o hb'
      exact ⟨sl, keep b _ (fun q => by rw [q, he] at hb'; cases hb'; exact hnf vs hd) hs⟩
    · by_cases hm : b ∈ (env :: outer).filterMap (·.frame)
      · obtain ⟨sl, hs⟩ := hs₁.2.2 b o hb'
        refine ⟨sl, keep b _ (fun q => n (by rw [q]; exact hen)) hs, fun ⟨vs', hf⟩ => ?_⟩
        obtain ⟨_, o2, ho2, hnf⟩ := hl.mem hm
        rw [hb'] at ho2; cases ho2; exact absurd hf (hnf vs')
      · exact ⟨o.slots, keep b _ (fun q => n (by rw [q]; exact hen)) ((hs₁.2.1 b hm).trans hb'), fun _ => rfl⟩
    · by_cases z : b = e
      · subst z; exact ⟨_, Heap.get?_update_self (Obj.mapFields (·.setIfInBounds 1 (Value.ref h₁.objs.size))) he₂ (Obj.isFreed_of_fields (Obj.data_mapFields hd _))⟩
      · obtain ⟨sl, hs⟩ := hs₁.2.2 b o hb'
        exact ⟨_, keep b _ z hs⟩
  · have hTe : h₁.objs.size ≠ e := Nat.ne_of_gt (Heap.lt_size he₁)
    have hd₃ := Obj.data_mapFields hd (·.setIfInBounds 1 (Value.ref h₁.objs.size))
    refine ⟨_, _, h₁.objs.size, _, _, Heap.get?_update_self (Obj.mapFields (·.setIfInBounds 1 (Value.ref h₁.objs.size))) he₂ (Obj.isFreed_of_fields hd₃), (Obj.cls_mapFields _ _).trans hcls, hd₃, by simp [hsz], hen, hTe, ?_,
      (Heap.get?_update_other _ _ (Ne.symm hTe)).trans (Heap.get?_push_size h₁ rfl), rfl, by simp only [List.size_toArray, List.length_append, List.length_cons, List.length_nil]; walk_at "om"⟩
    refine hdom _ (Heap.get?_none_of_le ?_)
    rw [← hs₁.1]; exact Nat.le_refl _
theorem note_ok {env : Env} {outer : List Env} {L : Addr} (hfr : A.frames = some (env :: outer)) (hl : s.heap.FunFrames base (env :: outer)) (hf : env.frame = some L)
    (hx : ExcAt h₀ s.heap e C) (hb : base.StaysIn h₀) (hk : base.StaysIn s.heap) (hdom : ∀ b, s.heap.get? b = none → h₀.get? b = none) {Q : Unit → Shared → Prop}
    (h : ∀ h', Noted base h₀ s.heap h' → ExcTr h₀ h' e C → Q () { s with heap := h' }) : wpAny M A (noteFrame (.ref e) env) Q E s := by
  have hx' := hx
  obtain ⟨oe, vs, h1, h2, h3, h4, h5, h6⟩ := hx
  unfold noteFrame
  simp only [hf]
  rcases h6 with h6 | ⟨T, oT, ts, a, b, c, d, f, g⟩
  · refine wpAny_bind (wpAny_field h1 h3 h6 ?_)
    rw [if_neg (by decide)]
    exact entry_ok hfr hl hf hx' hb hk hdom h
  · refine wpAny_bind (wpAny_field h1 h3 a ?_)
    rw [if_pos (show (Value.ref T != Value.none) = true from by simp)]
    refine wpAny_bind (wpAny_field d f (x := ts[3]) (by simp [g]) ?_)
    by_cases hL : (ts[3] == rawInt L) = true
    · rw [if_pos hL]
      exact wpAny_pure (h _ (.refl hk) ⟨oe, vs, T, oT, ts, h1, h2, h3, a, h5, b, c, d, f, g⟩)
    · rw [if_neg hL]
      refine wpAny_bind (wpAny_setField d f g ?_)
      have other : ∀ y o, y ≠ T → s.heap.get? y = some o → (s.heap.update T (Obj.mapFields (·.setIfInBounds 3 Value.none))).get? y = some o := fun y o n q => by
        rw [Heap.get?_update_other _ _ (Ne.symm n)]; exact q
      have N : Noted base h₀ s.heap (s.heap.update T (Obj.mapFields (·.setIfInBounds 3 Value.none))) := by
        refine ⟨fun y o q => other y o (fun z => ?_) (hk y o q), fun y o q f' _ => ⟨o.slots, other y o (fun z => ?_) q⟩, fun y o n q => ⟨o.slots, other y o (fun z => n (z ▸ c)) q, fun _ => rfl⟩, fun y o q => ?_⟩
        · rw [z] at q; rw [hb T o q] at c; cases c
        · rw [z, d] at q; cases q; exact f' ts f
        · by_cases z : y = T
          · subst z; exact ⟨_, Heap.get?_update_self _ d (Obj.isFreed_of_fields (Obj.data_mapFields f _))⟩
          · exact ⟨_, other y o z q⟩
      refine entry_ok (s := { s with heap := s.heap.update T (Obj.mapFields (·.setIfInBounds 3 Value.none)) }) hfr (N.frames hl) hf ?_ hb N.base (fun y q => ?_) fun h' n x => h h' (N.trans n) x
      · exact ⟨oe, vs, other e oe (Ne.symm b) h1, h2, h3, h4, h5, .inr ⟨T, _, _, a, b, c, Heap.get?_update_self _ d (Obj.isFreed_of_fields (Obj.data_mapFields f _)), Obj.data_mapFields f _, by simpa using g⟩⟩
      · refine hdom y ?_
        cases z : s.heap.get? y with
        | none => rfl
        | some o =>
          exfalso
          by_cases hy : y = T
          · subst hy
            rw [Heap.get?_update_self _ d (Obj.isFreed_of_fields (Obj.data_mapFields f _))] at q; cases q
          · rw [other y o hy z] at q; cases q
theorem leaving_ok {env : Env} {outer : List Env} {L : Addr} (hfr : A.frames = some (env :: outer)) (hl : s.heap.FunFrames base (env :: outer)) (hf : env.frame = some L)
    (hx : ExcAt h₀ s.heap e C) (hb : base.StaysIn h₀) (hk : base.StaysIn s.heap) (hdom : ∀ b, s.heap.get? b = none → h₀.get? b = none) {Q : Unit → Shared → Prop}
    (h : ∀ h', Noted base h₀ s.heap h' → ExcTr h₀ h' e C → Q () { s with heap := h' }) : wpAny M A (leaving env (.ref e)) Q E s := by
  unfold leaving
  refine wpAny_bind (note_ok hfr hl hf hx hb hk hdom fun h₁ N₁ x₁ => ?_)
  exact flight_ok x₁ hb N₁.base none fun h₂ N₂ x₂ => h h₂ (N₁.trans N₂) x₂
theorem back_ok {env : Env} {E' : Value → Shared → Prop} (hx : ExcTr h₀ s.heap e C) (hb : base.StaysIn h₀) (hk : base.StaysIn s.heap)
    (h : ∀ h', Noted base h₀ s.heap h' → ExcTr h₀ h' e C → E' (.ref e) { s with heap := h' }) : cameBackBy M A env E' (.ref e) s := by
  unfold cameBackBy
  have hx' := hx
  obtain ⟨oe, vs, T, oT, ts, h1, h2, h3, h4, r⟩ := hx
  refine wpAny_bind (wpAny_field h1 h3 h4 ?_)
  rw [if_neg (show ¬ ((Value.ref T == Value.none) = true) from by simp)]
  exact flight_ok hx' hb hk _ h
end
end
section
-- part M3
noncomputable abbrev Ask := (D → Prop) → Prop
@[reducible] noncomputable def oAdd : D → D → Ask
  | .int a, .int b, K => K (.int (a + b))
  | .str a, .str b, K => a.length + b.length ≤ sizeLine ∧ K (.str (a ++ b))
  | .lst a, .lst b, K => a.length + b.length ≤ sizeLine ∧ K (.lst (a ++ b))
  | _, _, _ => False
@[reducible] noncomputable def oSub : D → D → Ask
  | .int a, .int b, K => K (.int (a - b))
  | _, _, _ => False
@[reducible] noncomputable def oMul : D → D → Ask
  | .int a, .int b, K => IntMulOk a b ∧ K (.int (a * b))
  | _, _, _ => False
@[reducible] noncomputable def oDiv : D → D → Ask
  | .int a, .int b, K => b ≠ 0 ∧ b.natAbs.log2 < 9000 ∧ K (.int (a.fdiv b))
  | _, _, _ => False
@[reducible] noncomputable def oMod : D → D → Ask
  | .int a, .int b, K => b ≠ 0 ∧ K (.int (a.fmod b))
  | _, _, _ => False
@[reducible] noncomputable def oPow : D → D → Ask
  | .int a, .int b, K => 0 ≤ b ∧ (Builtin.Int.intBits a : Int) * b ≤ 2 ^ 27 ∧ K (.int (a ^ b.toNat))
  | _, _, _ => False
noncomputable def SoundB (P : Par) (op : Operator) (o : D → D → Ask) : Prop :=
  ∀ (A : Around) (s : Shared) (X : List Addr) (a b : D) (va vb : Value) (Q E : Value → Shared → Prop) (K : D → Prop), (∀ y ∈ X, ∃ o, s.heap.get? y = some o) → Rel X s.heap a va → Rel X s.heap b vb → o a b K →
    (∀ r val s', Grow s s' → Rel X s'.heap r val → K r → Q val s') → wpAny (model P.prog P.w) A (binaryOp op va vb) Q E s
theorem Rel.int {X h i v} (r : Rel X h (.int i) v) : ∃ t, v = .int i t := by unfold Rel at r; exact r
theorem Rel.str {X h i v} (r : Rel X h (.str i) v) : ∃ t, v = .str i t := by unfold Rel at r; exact r
theorem Rel.bool {X h i v} (r : Rel X h (.bool i) v) : v = .bool i := by unfold Rel at r; exact r
theorem rel_int {X h} (i : Int) (t : Tok) : Rel X h (.int i) (.int i t) := by unfold Rel; exact ⟨t, rfl⟩
theorem rel_str {X h} (i : Str) (t : Tok) : Rel X h (.str i) (.str i t) := by unfold Rel; exact ⟨t, rfl⟩
theorem rel_bool {X h} (b : Bool) : Rel X h (.bool b) (.bool b) := by unfold Rel; rfl
theorem relL_length {X h} : ∀ {l : List D} {vs : List Value}, RelL X h l vs → vs.length = l.length
  | [], vs, r => by unfold RelL at r; rw [r]; rfl
  | d :: l, vs, r => by
    unfold RelL at r
    obtain ⟨v, t, e, _, h2⟩ := r
    rw [e, List.length_cons, relL_length h2, List.length_cons]
theorem relL_append {X h} : ∀ {l k : List D} {vs ws : List Value}, RelL X h l vs → RelL X h k ws → RelL X h (l ++ k) (vs ++ ws)
  | [], k, vs, ws, r, q => by unfold RelL at r; rw [r]; exact q
  | d :: l, k, vs, ws, r, q => by
    unfold RelL at r
    obtain ⟨v, t, e, h1, h2⟩ := r
    rw [e]
    show RelL X h (d :: (l ++ k)) (v :: (t ++ ws))
    unfold RelL
    exact ⟨v, _, rfl, h1, relL_append h2 q⟩
theorem relL_get {X h} : ∀ {l : List D} {vs : List Value} {i : Nat} {d : D}, RelL X h l vs → l[i]? = some d → ∃ v, vs[i]? = some v ∧ Rel X h d v
  | [], _, _, _, _, q => by simp at q
  | e :: l, vs, 0, d, r, q => by
    unfold RelL at r
    obtain ⟨v, t, rfl, h1, h2⟩ := r
    simp at q; subst q
    exact ⟨v, rfl, h1⟩
  | e :: l, vs, i + 1, d, r, q => by
    unfold RelL at r
    obtain ⟨v, t, rfl, h1, h2⟩ := r
    simpa using relL_get h2 (by simpa using q)
theorem fresh_notin {X : List Addr} {h : Heap} (hX : ∀ y ∈ X, ∃ o, h.get? y = some o) : h.objs.size ∉ X := fun q => by
  obtain ⟨o, e⟩ := hX _ q
  exact absurd (Heap.lt_size e) (Nat.lt_irrefl _)
section
variable {P : Par}
theorem add_sound : SoundB P .Add oAdd := by
  intro A s X a b va vb Q E K hX ra rb hp hQ
  cases a <;> cases b <;> try exact hp.elim
  · obtain ⟨t, rfl⟩ := ra.int; obtain ⟨u, rfl⟩ := rb.int
    exact wpAny_add_int (hQ _ _ _ (.toks _ _) (rel_int _ _) hp)
  · obtain ⟨t, rfl⟩ := ra.str; obtain ⟨u, rfl⟩ := rb.str
    exact add_str (fun t' tk => hQ _ _ _ (.toks _ _) (rel_str _ _) hp.2) hp.1
  · rename_i la lb
    unfold Rel at ra rb
    obtain ⟨a, o, vs, n, rfl, hn, ho, hc, hd, hr⟩ := ra
    obtain ⟨b, o2, vs2, n2, rfl, hn2, ho2, hc2, hd2, hr2⟩ := rb
    obtain ⟨cls, dd, data, sl⟩ := o
    obtain ⟨cls2, dd2, data2, sl2⟩ := o2
    simp only at hc hd hc2 hd2
    subst hc hd hc2 hd2
    have hl := relL_length hr
    have hl2 := relL_length hr2
    have hsz : vs.size + vs2.size ≤ sizeLine := by
      have h1 := hp.1
      have e1 : vs.toList.length = vs.size := by simp
      have e2 : vs2.toList.length = vs2.size := by simp
      walk_at "om"
    refine concat_meets ⟨_, ho, rfl⟩ ⟨_, ho2, rfl⟩ noFill_list_add seq_list_add PySem.F.slot_list_add PySem.F.entry_list_add (PySem.F.args_list_add_2 _ _) (list_addW a b vs vs2 n n2 dd dd2 sl sl2 hsz) ⟨ho, ho2, ?_⟩
    refine hQ (.lst (la ++ lb)) _ _ (.push _ _ _) ?_ hp.2
    unfold Rel
    refine ⟨_, _, _, _, rfl, fresh_notin hX, Heap.get?_push_size _ rfl, rfl, rfl, ?_⟩
    have k : ∀ b o, s.heap.get? b = some o → (s.heap.push { cls := Value.type "list", data := Data.seq (vs ++ vs2) }).get? b = some o := fun b o e => Heap.get?_push_of_some _ e
    have : (vs ++ vs2).toList = vs.toList ++ vs2.toList := by simp
    rw [this]
    exact relL_append (RelL.up (fun b o e _ _ => ⟨o.slots, k b o e⟩) _ _ hr) (RelL.up (fun b o e _ _ => ⟨o.slots, k b o e⟩) _ _ hr2)
theorem sub_sound : SoundB P .Sub oSub := by
  intro A s X a b va vb Q E K hX ra rb hp hQ
  cases a <;> cases b <;> try exact hp.elim
  obtain ⟨t, rfl⟩ := ra.int; obtain ⟨u, rfl⟩ := rb.int
  exact PySem.P.sub_int (hQ _ _ _ (.toks _ _) (rel_int _ _) hp)
theorem mul_sound : SoundB P .Mult oMul := by
  intro A s X a b va vb Q E K hX ra rb hp hQ
  cases a <;> cases b <;> try exact hp.elim
  obtain ⟨t, rfl⟩ := ra.int; obtain ⟨u, rfl⟩ := rb.int
  exact PySem.P.mul_int (hQ _ _ _ (.toks _ _) (rel_int _ _) hp.2) hp.1
theorem div_sound : SoundB P .FloorDiv oDiv := by
  intro A s X a b va vb Q E K hX ra rb hp hQ
  cases a <;> cases b <;> try exact hp.elim
  obtain ⟨t, rfl⟩ := ra.int; obtain ⟨u, rfl⟩ := rb.int
  exact floordiv_int hp.1 (hQ _ _ _ (.toks _ _) (rel_int _ _) hp.2.2) (.inl (PyProof.noPylong_of_log2 hp.2.1))
theorem mod_sound : SoundB P .Mod oMod := by
  intro A s X a b va vb Q E K hX ra rb hp hQ
  cases a <;> cases b <;> try exact hp.elim
  obtain ⟨t, rfl⟩ := ra.int; obtain ⟨u, rfl⟩ := rb.int
  exact mod_int' hp.1 (hQ _ _ _ (.toks _ _) (rel_int _ _) hp.2)
theorem pow_sound : SoundB P .Pow oPow := by
  intro A s X a b va vb Q E K hX ra rb hp hQ
  cases a <;> cases b <;> try exact hp.elim
  obtain ⟨t, rfl⟩ := ra.int; obtain ⟨u, rfl⟩ := rb.int
  exact pow_int hp.1 hp.2.1 (hQ _ _ _ (.toks _ _) (rel_int _ _) hp.2.2)
end
mutual
noncomputable def toPy : D → PyData
  | .int i => .int i
  | .str x => .str x
  | .tup l => .tuple (toPys l)
  | _ => .none
noncomputable def toPys : List D → List PyData
  | [] => []
  | d :: l => toPy d :: toPys l
end
noncomputable def okN : Nat → D → Bool
  | _, .int _ => true
  | n + 1, .tup l => l.all (okN n)
  | _, _ => false
theorem okN_inv {n : Nat} {d : D} (h : okN n d = true) : (∃ i, d = .int i) ∨ ∃ m l, n = m + 1 ∧ d = .tup l ∧ ∀ x ∈ l, okN m x = true := by
  cases d with
  | int i => exact .inl ⟨i, rfl⟩
  | tup l => cases n with
    | zero => exact nomatch h
    | succ m => exact .inr ⟨m, l, rfl, rfl, List.all_eq_true.mp h⟩
  | _ => cases n <;> exact nomatch h
theorem okN_ind {P : Nat → D → Prop} (hi : ∀ n i, P n (.int i)) (ht : ∀ n l, (∀ x ∈ l, okN n x = true) → (∀ x, okN n x = true → P n x) → P (n + 1) (.tup l)) (n : Nat) : ∀ d, okN n d = true → P n d := by
  induction n with
  | zero => intro d h; rcases okN_inv h with ⟨i, rfl⟩ | ⟨m, l, e, _⟩
            · exact hi _ i
            · cases e
  | succ n ih => intro d h; rcases okN_inv h with ⟨i, rfl⟩ | ⟨m, l, e, rfl, h⟩
                 · exact hi _ i
                 · cases e; exact ht n l h ih
theorem reads_okN {X : List Addr} {h : Heap} (n : Nat) (d : D) (v : Value) (hk : okN n d = true) : Rel X h d v → ∃ as, Reads h v (toPy d) as := by
  refine okN_ind (P := fun n d => ∀ v, Rel X h d v → ∃ as, Reads h v (toPy d) as) (fun n i v r => ?_) (fun n l hl ih v r => ?_) n d hk v
  · obtain ⟨t, rfl⟩ := r.int; rw [toPy]; exact ⟨_, .int _ _⟩
  · have all : ∀ vs, RelL X h l vs → ∃ as, ReadsAll h vs (toPys l) as := by
      clear r
      induction l with
      | nil => intro vs r; unfold RelL at r; rw [r, toPys]; exact ⟨_, .nil⟩
      | cons d l hi =>
        intro vs r
        unfold RelL at r
        obtain ⟨v, t, rfl, h1, h2⟩ := r
        obtain ⟨as, q⟩ := ih d (hl d (.head _)) v h1
        obtain ⟨bs, p⟩ := hi (fun e he => hl e (.tail _ he)) t h2
        rw [toPys]
        exact ⟨_, .cons q p⟩
    unfold Rel at r
    obtain ⟨a, o, vs, m, rfl, _, ho, hc, hd, hr⟩ := r
    obtain ⟨as, q⟩ := all _ hr
    rw [toPy]
    exact ⟨as, .tuple ho hc hd q⟩
theorem lay_okN (n : Nat) (d : D) (hk : okN n d = true) : (toPy d).canLay0 = true ∧ (toPy d).depth ≤ n := by
  refine okN_ind (P := fun n d => (toPy d).canLay0 = true ∧ (toPy d).depth ≤ n) (fun n i => ⟨rfl, Nat.zero_le _⟩) (fun n l hl ih => ?_) n d hk
  have all : PyData.canLayAll0 (toPys l) = true ∧ PyData.depthAll (toPys l) ≤ n := by
    induction l with
    | nil => exact ⟨rfl, Nat.zero_le _⟩
    | cons d l hi =>
      have h1 := ih d (hl d (.head _))
      have h2 := hi fun e he => hl e (.tail _ he)
      refine ⟨?_, Nat.max_le.mpr ⟨h1.2, h2.2⟩⟩
      rw [toPys, PyData.canLayAll0, h1.1, h2.1]; rfl
  rw [toPy, PyData.canLay0, PyData.depth]; exact ⟨all.1, Nat.succ_le_succ all.2⟩
theorem eqv_okN (n : Nat) (d e : D) (k : Nat) (h : okN n d = true) : okN k e = true → (PyData.eqv (toPy d) (toPy e) = true ↔ d = e) := by
  refine okN_ind (P := fun n d => ∀ e k, okN k e = true → (PyData.eqv (toPy d) (toPy e) = true ↔ d = e)) (fun n i e k h => ?_) (fun n l hl ih e k h => ?_) n d h e k
  · rcases okN_inv h with ⟨j, rfl⟩ | ⟨m, l, rfl, rfl, h⟩
    · rw [toPy, toPy, D.int.injEq]; exact beq_iff_eq
    · exact ⟨fun q => (by rw [toPy, toPy] at q; cases q), fun q => (by cases q)⟩
  · rcases okN_inv h with ⟨j, rfl⟩ | ⟨m, es, rfl, rfl, hes⟩
    · exact ⟨fun q => (by rw [toPy, toPy] at q; cases q), fun q => (by cases q)⟩
    · rw [toPy, toPy, D.tup.injEq, PyData.eqv]
      clear h
      induction l generalizing es with
      | nil => cases es with
        | nil => exact ⟨fun _ => rfl, fun _ => rfl⟩
        | cons e es => exact ⟨fun q => (by cases q), fun q => (by cases q)⟩
      | cons d ds hi => cases es with
        | nil => exact ⟨fun q => (by cases q), fun q => (by cases q)⟩
        | cons e es => rw [toPys, toPys, PyData.eqvAll, Bool.and_eq_true, ih d (hl d (.head _)) e m (hes e (.head _)), hi (fun x hx => hl x (.tail _ hx)) es (fun x hx => hes x (.tail _ hx)), List.cons.injEq]
noncomputable abbrev AskB := (Bool → Prop) → Prop
@[reducible] noncomputable def cEq : D → D → AskB
  | .int a, .int b, K => K (a == b)
  | .str a, .str b, K => K (a == b)
  | .tup a, .tup b, K => okN 8 (.tup a) = true ∧ okN 8 (.tup b) = true ∧ ∀ r : Bool, (r = true ↔ a = b) → K r
  | _, _, _ => False
@[reducible] noncomputable def cNe : D → D → AskB
  | .int a, .int b, K => K (a != b)
  | .str a, .str b, K => K (a != b)
  | .tup a, .tup b, K => okN 8 (.tup a) = true ∧ okN 8 (.tup b) = true ∧ ∀ r : Bool, (r = true ↔ ¬ a = b) → K r
  | _, _, _ => False
@[reducible] noncomputable def cLt : D → D → AskB
  | .int a, .int b, K => K (decide (a < b))
  | _, _, _ => False
@[reducible] noncomputable def cLe : D → D → AskB
  | .int a, .int b, K => K (decide (a ≤ b))
  | .str a, .str b, K => K (!(b.cps.toList < a.cps.toList))
  | _, _, _ => False
@[reducible] noncomputable def cGt : D → D → AskB
  | .int a, .int b, K => K (decide (a > b))
  | _, _, _ => False
@[reducible] noncomputable def cGe : D → D → AskB
  | .int a, .int b, K => K (decide (a ≥ b))
  | _, _, _ => False
@[reducible] noncomputable def cIn1 (a b : Str) (K : Bool → Prop) : Prop := match a.cps.toList with
  | [c] => K (decide (c ∈ b.cps.toList))
  | _ => False
theorem cIn1_inv {a b : Str} {K : Bool → Prop} (h : cIn1 a b K) : ∃ c, a = ⟨#[c]⟩ ∧ K (decide (c ∈ b.cps.toList)) := by
  obtain ⟨⟨l⟩⟩ := a
  cases l with
  | nil => exact h.elim
  | cons c l => cases l with
    | nil => exact ⟨c, rfl, h⟩
    | cons d l => exact h.elim
noncomputable def cInT0 : D → D → AskB
  | .int a, .tup l, K => l.all (fun d => match d with | .int _ => true | _ => false) = true ∧ K (l.any fun d => match d with | .int b => b == a | _ => false)
  | .str a, .tup l, K => PyData.strOk a = true ∧ l.all (fun d => match d with | .str x => PyData.strOk x | _ => false) = true ∧ K (l.any fun d => match d with | .str b => b == a | _ => false)
  | _, _, _ => False
structure cInT (a b : D) (K : Bool → Prop) : Prop where
  h : cInT0 a b K
theorem cInT_eq : cInT = cInT0 := by funext a b K; exact propext ⟨fun h => h.1, fun h => ⟨h⟩⟩
@[reducible] noncomputable def cIn : D → D → AskB
  | .str a, .str b, K => cIn1 a b K
  | a, b, K => cInT a b K
noncomputable def SoundC (P : Par) (op : CmpOp) (o : D → D → AskB) : Prop :=
  ∀ (A : Around) (s : Shared) (X : List Addr) (a b : D) (va vb : Value) (Q E : Value → Shared → Prop) (K : Bool → Prop), A.units + 64 < cLine → (∀ y ∈ X, ∃ o, s.heap.get? y = some o) → Rel X s.heap a va → Rel X s.heap b vb → o a b K →
    (∀ r, K r → Q (.bool r) s) → wpAny (model P.prog P.w) A (compareOp op va vb) Q E s
section
variable {P : Par}
theorem eq_sound : SoundC P .Eq cEq := by
  intro A s X a b va vb Q E K hu hX ra rb hp hQ
  cases a <;> cases b <;> try exact hp.elim
  · obtain ⟨t, rfl⟩ := ra.int; obtain ⟨u, rfl⟩ := rb.int
    exact PySem.P.eq_int (hQ _ hp)
  · obtain ⟨t, rfl⟩ := ra.str; obtain ⟨u, rfl⟩ := rb.str
    exact PyProof.Rows.eq_str (hQ _ hp)
  · rename_i l k
    obtain ⟨h1, h2, h3⟩ := hp
    obtain ⟨as, qa⟩ := reads_okN 8 _ _ h1 ra
    obtain ⟨bs, qb⟩ := reads_okN 8 _ _ h2 rb
    have la := lay_okN 8 _ h1
    have lb := lay_okN 8 _ h2
    refine eq_dataH qa qb ?_ ?_ hu (hQ _ (h3 _ ((eqv_okN 8 _ _ 8 h1 h2).trans ?_)))
    · unfold SeqAt.shaped; rw [la.1, Bool.true_and]; exact decide_eq_true (Nat.le_trans la.2 (by decide))
    · unfold SeqAt.shaped; rw [lb.1, Bool.true_and]; exact decide_eq_true (Nat.le_trans lb.2 (by decide))
    · rw [D.tup.injEq]
theorem ne_sound : SoundC P .NotEq cNe := by
  intro A s X a b va vb Q E K hu hX ra rb hp hQ
  cases a <;> cases b <;> try exact hp.elim
  · obtain ⟨t, rfl⟩ := ra.int; obtain ⟨u, rfl⟩ := rb.int
    exact PySem.P.ne_int (hQ _ hp)
  · obtain ⟨t, rfl⟩ := ra.str; obtain ⟨u, rfl⟩ := rb.str
    exact PyProof.Rows.ne_str (hQ _ hp)
  · rename_i l k
    obtain ⟨h1, h2, h3⟩ := hp
    obtain ⟨as, qa⟩ := reads_okN 8 _ _ h1 ra
    obtain ⟨bs, qb⟩ := reads_okN 8 _ _ h2 rb
    have la := lay_okN 8 _ h1
    have lb := lay_okN 8 _ h2
    refine ne_dataH qa qb ?_ ?_ hu (hQ _ (h3 _ ?_))
    · unfold SeqAt.shaped; rw [la.1, Bool.true_and]; exact decide_eq_true (Nat.le_trans la.2 (by decide))
    · unfold SeqAt.shaped; rw [lb.1, Bool.true_and]; exact decide_eq_true (Nat.le_trans lb.2 (by decide))
    · have q := eqv_okN 8 _ _ 8 h1 h2
      rw [D.tup.injEq] at q
      rw [Bool.not_eq_true', ← q, Bool.not_eq_true]
theorem lt_sound : SoundC P .Lt cLt := by
  intro A s X a b va vb Q E K hu hX ra rb hp hQ
  cases a <;> cases b <;> try exact hp.elim
  obtain ⟨t, rfl⟩ := ra.int; obtain ⟨u, rfl⟩ := rb.int
  exact PySem.P.lt_int (hQ _ hp)
theorem le_sound : SoundC P .LtE cLe := by
  intro A s X a b va vb Q E K hu hX ra rb hp hQ
  cases a <;> cases b <;> try exact hp.elim
  · obtain ⟨t, rfl⟩ := ra.int; obtain ⟨u, rfl⟩ := rb.int
    exact PySem.P.le_int (hQ _ hp)
  · obtain ⟨t, rfl⟩ := ra.str; obtain ⟨u, rfl⟩ := rb.str
    exact PySem.P.le_str (hQ _ hp)
theorem gt_sound : SoundC P .Gt cGt := by
  intro A s X a b va vb Q E K hu hX ra rb hp hQ
  cases a <;> cases b <;> try exact hp.elim
  obtain ⟨t, rfl⟩ := ra.int; obtain ⟨u, rfl⟩ := rb.int
  exact PySem.P.gt_int (hQ _ hp)
theorem ge_sound : SoundC P .GtE cGe := by
  intro A s X a b va vb Q E K hu hX ra rb hp hQ
  cases a <;> cases b <;> try exact hp.elim
  obtain ⟨t, rfl⟩ := ra.int; obtain ⟨u, rfl⟩ := rb.int
  exact PySem.P.ge_int (hQ _ hp)
theorem readsAll_ints {X : List Addr} {h : Heap} : ∀ (l : List D) (vs : List Value), l.all (fun d => match d with | .int _ => true | _ => false) = true → RelL X h l vs →
    ReadsAll h vs (toPys l) [] ∧ PyData.canLayAll0 (toPys l) = true ∧ PyData.depthAll (toPys l) = 0
  | [], vs, _, r => by unfold RelL at r; rw [r, toPys]; exact ⟨.nil, rfl, rfl⟩
  | d :: l, vs, hk, r => by
    simp only [List.all_cons, Bool.and_eq_true] at hk
    unfold RelL at r
    obtain ⟨v, t, rfl, h1, h2⟩ := r
    obtain ⟨q1, q2, q3⟩ := readsAll_ints l t hk.2 h2
    cases d <;> first | (simp at hk; done) | skip
    obtain ⟨u, rfl⟩ := h1.int
    rw [toPys, toPy]
    refine ⟨.cons (as := []) (bs := []) (.int _ _) q1, ?_, ?_⟩
    · simp [PyData.canLayAll0, PyData.canLay0, q2]
    · simp [PyData.depthAll, PyData.depth, q3]
theorem readsAll_strs {X : List Addr} {h : Heap} : ∀ (l : List D) (vs : List Value), l.all (fun d => match d with | .str x => PyData.strOk x | _ => false) = true → RelL X h l vs →
    ReadsAll h vs (toPys l) [] ∧ PyData.canLayAll0 (toPys l) = true ∧ PyData.depthAll (toPys l) = 0
  | [], vs, _, r => by unfold RelL at r; rw [r, toPys]; exact ⟨.nil, rfl, rfl⟩
  | d :: l, vs, hk, r => by
    simp only [List.all_cons, Bool.and_eq_true] at hk
    unfold RelL at r
    obtain ⟨v, t, rfl, h1, h2⟩ := r
    obtain ⟨q1, q2, q3⟩ := readsAll_strs l t hk.2 h2
    cases d <;> first | (simp at hk; done) | skip
    obtain ⟨u, rfl⟩ := h1.str
    rw [toPys, toPy]
    refine ⟨.cons (as := []) (bs := []) (.str _ _) q1, ?_, ?_⟩
    · simp [PyData.canLayAll0, PyData.canLay0, q2]; exact hk.1
    · simp [PyData.depthAll, PyData.depth, q3]
theorem any_ints (a : Int) : ∀ (l : List D), l.all (fun d => match d with | .int _ => true | _ => false) = true → ((toPys l).any fun y => PyData.eqv y (.int a)) = l.any fun d => match d with | .int b => b == a | _ => false
  | [], _ => by simp [toPys]
  | d :: l, hk => by
    simp only [List.all_cons, Bool.and_eq_true] at hk
    cases d <;> first | (simp at hk; done) | skip
    simp [toPys, toPy, PyData.eqv, any_ints a l hk.2]
theorem any_strs (a : Str) : ∀ (l : List D), l.all (fun d => match d with | .str x => PyData.strOk x | _ => false) = true → ((toPys l).any fun y => PyData.eqv y (.str a)) = l.any fun d => match d with | .str b => b == a | _ => false
  | [], _ => by simp [toPys]
  | d :: l, hk => by
    simp only [List.all_cons, Bool.and_eq_true] at hk
    cases d <;> first | (simp at hk; done) | skip
    simp [toPys, toPy, PyData.eqv, any_strs a l hk.2]
theorem in_sound : SoundC P .In cIn := by
  intro A s X a b va vb Q E K hu hX ra rb hp hQ
  cases a <;> cases b <;> first | (replace hp : cInT0 _ _ K := hp.1; exact hp.elim) | (replace hp : cInT0 _ _ K := hp.1) | skip
  · rename_i a l
    obtain ⟨t, rfl⟩ := ra.int
    unfold Rel at rb
    obtain ⟨b, o, vs, n, rfl, _, ho, hc, hd, hr⟩ := rb
    obtain ⟨q1, q2, q3⟩ := readsAll_ints l _ hp.1 hr
    refine SeqAt.in_tuple_reads (.tuple ho hc hd q1) (.int _ _) q2 rfl ?_ (hQ _ ?_)
    · rw [q3, Nat.zero_min]; walk_at "om"
    · rw [any_ints a l hp.1]; exact hp.2
  · obtain ⟨t, rfl⟩ := ra.str; obtain ⟨u, rfl⟩ := rb.str
    obtain ⟨c, rfl, hp⟩ := cIn1_inv hp
    refine PyProof.Rows.in_str (hQ _ ?_)
    rw [StrLaws.found_one]; exact hp
  · rename_i a l
    obtain ⟨t, rfl⟩ := ra.str
    unfold Rel at rb
    obtain ⟨b, o, vs, n, rfl, _, ho, hc, hd, hr⟩ := rb
    obtain ⟨q1, q2, q3⟩ := readsAll_strs l _ hp.2.1 hr
    refine SeqAt.in_tuple_reads (.tuple ho hc hd q1) (.str _ _) q2 hp.1 ?_ (hQ _ ?_)
    · rw [q3, Nat.zero_min]; walk_at "om"
    · rw [any_strs a l hp.2.1]; exact hp.2.2
end
end
section
-- part M4
noncomputable abbrev Spec := List SV → CO → (SV → CO → Prop) → (Addr → CO → Prop) → Prop
structure Amb (P : Par) (fs : List Env) (c : CO) (x : Cl) (X : List Addr) (h : Heap) : Prop where
  stays : P.base.StaysIn h
  ff : h.FunFrames P.base fs
  cell : CellAt x X h c
  xs : ∀ b ∈ X, ∃ o, h.get? b = some o
  xb : ∀ b ∈ X, P.base.get? b = none
structure AmbAft (P : Par) (fs : List Env) (x : Cl) (X : List Addr) (s : Shared) (c' : CO) (s' : Shared) : Prop where
  rest : Rest s s'
  amb : Amb P fs c' x X s'.heap
  kept : Kept (x.toList.map (·.2)) s.heap s'.heap
noncomputable def Ok (P : Par) (d : Nat) (f : Value) (sp : Spec) : Prop :=
  ∀ (A : Around) (fs : List Env) (s : Shared) (vs : List Value) (args : List SV) (c : CO) (x : Cl) (X : List Addr) (Q E : Value → Shared → Prop) (KQ : SV → CO → Prop) (KE : Addr → CO → Prop),
    A.frames = some fs → fs ≠ [] → A.handled = none → A.depth + d < recursionLimit → A.units + 16 * d + 64 < cLine →
    Amb P fs c x X s.heap → RelVs x X s.heap args vs → sp args c KQ KE →
    (∀ r c' val s', AmbAft P fs x X s c' s' → RelV x X s'.heap r val → KQ r c' → Q val s') →
    (∀ C c' e s', AmbAft P fs x X s c' s' → ExcAt s.heap s'.heap e C → KE C c' → E (.ref e) s') →
    wpAny (model P.prog P.w) A (call f vs) Q E s
theorem Ok.mono {P : Par} {d : Nat} {f : Value} {sp sp' : Spec} (o : Ok P d f sp) (h : ∀ args c KQ KE, sp' args c KQ KE → sp args c KQ KE) : Ok P d f sp' :=
  fun A fs s vs args c x X Q E KQ KE h1 h0 h2 h3 h4 h5 h6 h7 h8 h9 => o A fs s vs args c x X Q E KQ KE h1 h0 h2 h3 h4 h5 h6 (h _ _ _ _ h7) h8 h9
section
variable {P : Par} {sc : Scope} {v : FV} {ns : List Str} {ρ : List (Option SV)} {x : Cl} {X : List Addr} {m : Names} {s s' s'' : Shared} {c c' : CO} {hn : Bool} {d : Nat} {A : Around}
theorem St.amb (S : St P sc v ns ρ c x X m s.heap) : Amb P v.fs c x X s.heap := ⟨S.fr.keep, S.ff, S.cell, S.xs, S.xb⟩
theorem Aft.of_amb (S : St P sc v ns ρ c x X m s.heap) {fs : List Env} (a : AmbAft P fs x X s c' s') : Aft P sc v ns ρ x X m s c' s' :=
  ⟨a.rest, S.up a.kept.sure (fun b hb _ => a.amb.xs b hb) a.amb.stays a.amb.cell, a.kept⟩
theorem AmbAft.absent {fs : List Env} (a : AmbAft P fs x X s c' s') : ∀ b, s'.heap.get? b = none → s.heap.get? b = none := fun b e => by
  cases q : s.heap.get? b with
  | none => rfl
  | some o =>
    exfalso
    by_cases hx : b ∈ x.toList.map (·.2)
    · cases x with
      | none => cases hx
      | some p =>
        rcases List.mem_cons.mp hx with hx | hx
        · obtain ⟨_, o, h, _⟩ := CellAt.there rfl _ a.amb.cell
          rw [hx, h] at e; cases e
        · cases hx
    · obtain ⟨sl, e1, _⟩ := a.kept _ _ q hx
      rw [e] at e1; cases e1
theorem name_K {n : Str} {pos : Pos} {val : Value} {Q E : Value → Shared → Prop} (S : St P sc v ns ρ c x X m s.heap) (G : Good A v sc hn d) (he : nsIn P.K mainGlobals n = some (some val)) (hk : sc.names.lookup n = some .globalImplicit)
    (hd : (n == Str.ofString "__debug__") = false) (h : Q val s) : wpAny (model P.prog P.w) A (eval (.Name n pos) (v.env sc)) Q E s :=
  Name_function_global G.kind hk (loadGlobal_global (env := v.env sc) ((topRead_of P.T).g.keeps S.fr.keep) (mg_of P.X (topRead_of P.T).g he) h) hd
theorem name_B {n : Str} {pos : Pos} {val : Value} {Q E : Value → Shared → Prop} (S : St P sc v ns ρ c x X m s.heap) (G : Good A v sc hn d) (he : nsIn P.K mainGlobals n = some none) (hv : bootBuiltins n = some val) (hn' : n ≠ Str.ofString "__name__") (hk : sc.names.lookup n = some .globalImplicit)
    (hd : (n == Str.ofString "__debug__") = false) (h : Q val s) : wpAny (model P.prog P.w) A (eval (.Name n pos) (v.env sc)) Q E s :=
  Name_function_global G.kind hk (loadGlobal_builtin (env := v.env sc) ((topRead_of P.T).g.keeps S.fr.keep) (mg_none_of P.X (topRead_of P.T).g he) ((topRead_of P.T).b.keeps S.fr.keep) (((topRead_of P.T).builtins n hn').trans hv) h) hd
end
theorem rv_int {x X h} (i : Int) (t : Tok) : RelV x X h (.d (.int i)) (.int i t) := rel_int (X := X) (h := h) i t
theorem rv_str {x X h} (i : Str) (t : Tok) : RelV x X h (.d (.str i)) (.str i t) := rel_str (X := X) (h := h) i t
theorem rv_bool {x X h} (b : Bool) : RelV x X h (.d (.bool b)) (.bool b) := rel_bool (X := X) (h := h) b
theorem RelV.int {x X h i v} (r : RelV x X h (.d (.int i)) v) : ∃ t, v = .int i t := Rel.int (X := X) (h := h) r
theorem RelV.bool {x X h b v} (r : RelV x X h (.d (.bool b)) v) : v = .bool b := Rel.bool (X := X) (h := h) r
noncomputable def oSome {α : Type} : Option α → (α → Prop) → Prop
  | some a, K => K a
  | none, _ => False
@[reducible] noncomputable def onB : SV → (Bool → Prop) → Prop
  | .d (.bool b), K => K b
  | _, _ => False
@[reducible] noncomputable def onI : SV → (Int → Prop) → Prop
  | .d (.int i), K => K i
  | _, _ => False
@[reducible] noncomputable def onT : SV → (List D → Prop) → Prop
  | .d (.tup l), K => K l
  | _, _ => False
@[reducible] noncomputable def onLs : SV → (List D → Prop) → Prop
  | .d (.lst l), K => K l
  | _, _ => False
theorem oSome_elim {α : Type} {o : Option α} {K : α → Prop} (h : oSome o K) : ∃ a, o = some a ∧ K a := by cases o with | none => exact h.elim | some a => exact ⟨a, rfl, h⟩
theorem onB_elim {r : SV} {K : Bool → Prop} (h : onB r K) : ∃ b, r = .d (.bool b) ∧ K b := by
  cases r with
  | cell => exact h.elim
  | d y => cases y with
    | bool b => exact ⟨b, rfl, h⟩
    | _ => exact h.elim
theorem onI_elim {r : SV} {K : Int → Prop} (h : onI r K) : ∃ b, r = .d (.int b) ∧ K b := by
  cases r with
  | cell => exact h.elim
  | d y => cases y with
    | int b => exact ⟨b, rfl, h⟩
    | _ => exact h.elim
theorem onT_elim {r : SV} {K : List D → Prop} (h : onT r K) : ∃ b, r = .d (.tup b) ∧ K b := by
  cases r with
  | cell => exact h.elim
  | d y => cases y with
    | tup b => exact ⟨b, rfl, h⟩
    | _ => exact h.elim
theorem onLs_elim {r : SV} {K : List D → Prop} (h : onLs r K) : ∃ b, r = .d (.lst b) ∧ K b := by
  cases r with
  | cell => exact h.elim
  | d y => cases y with
    | lst b => exact ⟨b, rfl, h⟩
    | _ => exact h.elim
noncomputable def pLoc (i : Nat) : PE := fun ρ c K _ => oSome (ρ[i]?) fun o => oSome o fun sv => K sv c
noncomputable def pLit (y : D) : PE := fun _ c K _ => K (.d y) c
@[reducible] noncomputable def onD : SV → (D → Prop) → Prop
  | .d y, K => K y
  | .cell, _ => False
theorem onD_d (y : D) (K : D → Prop) : onD (.d y) K = K y := rfl
noncomputable def pBin (o : D → D → Ask) (p q : PE) : PE := fun ρ c K KE => p ρ c (fun a c1 => q ρ c1 (fun b c2 => onD a fun a => onD b fun b => o a b fun r => K (.d r) c2) KE) KE
@[reducible] noncomputable def oNeg : D → Ask
  | .int a, K => K (.int (-a))
  | _, _ => False
noncomputable def pNeg (p : PE) : PE := fun ρ c K KE => p ρ c (fun a c1 => onD a fun a => oNeg a fun r => K (.d r) c1) KE
noncomputable def pCmp (o : D → D → AskB) (p q : PE) : PT := fun ρ c K KE => p ρ c (fun a c1 => q ρ c1 (fun b c2 => onD a fun a => onD b fun b => o a b fun r => K r c2) KE) KE
noncomputable def pVal (p : PT) : PE := fun ρ c K KE => p ρ c (fun b c1 => K (.d (.bool b)) c1) KE
noncomputable def pTest (p : PE) : PT := fun ρ c K KE => p ρ c (fun a c1 => onB a fun b => K b c1) KE
noncomputable def pNot (p : PT) : PT := fun ρ c K KE => p ρ c (fun b c1 => K (!b) c1) KE
noncomputable def pAnd (p q : PT) : PT := fun ρ c K KE => p ρ c (fun b c1 => (b = false → K false c1) ∧ (b = true → q ρ c1 K KE)) KE
noncomputable def pOr (p q : PT) : PT := fun ρ c K KE => p ρ c (fun b c1 => (b = true → K true c1) ∧ (b = false → q ρ c1 K KE)) KE
noncomputable def pIf (t : PT) (p q : PE) : PE := fun ρ c K KE => t ρ c (fun b c1 => (b = true → p ρ c1 K KE) ∧ (b = false → q ρ c1 K KE)) KE
noncomputable def pNil : PL := fun _ c K _ => K [] c
noncomputable def pCons (p : PE) (q : PL) : PL := fun ρ c K KE => p ρ c (fun a c1 => q ρ c1 (fun l c2 => K (a :: l) c2) KE) KE
noncomputable def allD : List SV → Option (List D)
  | [] => some []
  | .d y :: l => (allD l).map (y :: ·)
  | .cell :: _ => none
noncomputable def pTup (p : PL) : PE := fun ρ c K KE => p ρ c (fun l c1 => oSome (allD l) fun l => l.length ≤ sizeLine ∧ K (.d (.tup l)) c1) KE
noncomputable def pLst (p : PL) : PE := fun ρ c K KE => p ρ c (fun l c1 => oSome (allD l) fun l => l.length ≤ sizeLine ∧ K (.d (.lst l)) c1) KE
@[irreducible] noncomputable def zCall (sp : Spec) (l : List SV) (c : CO) (K : SV → CO → Prop) (KE : Addr → CO → Prop) : Prop := sp l c K KE
theorem zCall_eq (sp : Spec) : zCall sp = sp := by unfold zCall; rfl
theorem zCall_of {sp : Spec} {l : List SV} {c : CO} {K : SV → CO → Prop} {KE : Addr → CO → Prop} (h : sp l c K KE) : zCall sp l c K KE := by unfold zCall; exact h
noncomputable abbrev ifB (b : Bool) (X : Prop) : Prop := Bool.rec (motive := fun _ => Prop) False X b
theorem ifB_inv {b : Bool} {X : Prop} (h : ifB b X) : b = true ∧ X := by
  cases b with
  | true => exact ⟨rfl, h⟩
  | false => exact h.elim
@[reducible] noncomputable def sameLen {α β : Type} : List α → List β → Bool
  | [], [] => true
  | _ :: a, _ :: b => sameLen a b
  | _, _ => false
theorem sameLen_inv {α β : Type} : ∀ {a : List α} {b : List β}, sameLen a b = true → a.length = b.length
  | [], [], _ => rfl
  | _ :: a, _ :: b, h => congrArg (· + 1) (sameLen_inv (a := a) (b := b) h)
theorem ifB_len {α β : Type} {a : List α} {b : List β} {X : Prop} (h : ifB (sameLen a b) X) : a.length = b.length ∧ X := ⟨sameLen_inv (ifB_inv h).1, (ifB_inv h).2⟩
noncomputable abbrev ifNone (c : CO) (X : Prop) : Prop := CO.rec (motive := fun _ => Prop) X False (fun _ _ => False) (fun _ => False) c
theorem ifNone_inv {c : CO} {X : Prop} (h : ifNone c X) : c = .none ∧ X := by
  cases c with
  | none => exact ⟨rfl, h⟩
  | _ => exact h.elim
noncomputable def pCall0 (sp : Spec) (p : PL) : PE := fun ρ c K KE => p ρ c (fun l c1 => sp l c1 K KE) KE
noncomputable def pCall (sp : Spec) (p : PL) : PE := fun ρ c K KE => p ρ c (fun l c1 => zCall sp l c1 K KE) KE
theorem pCall_eq (sp : Spec) (p : PL) : pCall sp p = pCall0 sp p := by unfold pCall pCall0; simp only [zCall_eq]
theorem relVs_allD {x : Cl} {X : List Addr} {h : Heap} : ∀ {l : List SV} {l' : List D} {vs : List Value}, allD l = some l' → RelVs x X h l vs → RelL X h l' vs
  | [], l', vs, e, r => by cases e; unfold RelL; exact r
  | .d y :: l, l', vs, e, r => by
    obtain ⟨v, t, rfl, h1, h2⟩ := r
    simp only [allD, Option.map_eq_some_iff] at e
    obtain ⟨k, e, rfl⟩ := e
    unfold RelL
    exact ⟨v, t, rfl, h1, relVs_allD e h2⟩
  | .cell :: l, l', vs, e, r => by cases e
section
variable {P : Par} {sc : Scope} {ns : List Str} {hn : Bool} {d : Nat}
theorem sound_loc {n : Str} {pos : Pos} {i : Nat} (hi : ns[i]? = some n) (hd : (n == Str.ofString "__debug__") = false) (hc : (n == Str.ofString "__classdict__") = false) : SoundE P hn d sc ns (.Name n pos) (pLoc i) := by
  intro A v s m ρ c x X Q E KQ KE G S hp hQ hE
  unfold pLoc at hp
  obtain ⟨o, h, hp⟩ := oSome_elim hp
  obtain ⟨sv, rfl, hp⟩ := oSome_elim hp
  · obtain ⟨val, hv, hr⟩ := S.loc i n sv hi h
    rcases hv with ⟨hk, hm⟩ | ⟨hk, a, o, h1, h2, h3, _⟩
    · exact wpAny_Name (wpAny_loadName_local G.kind hk S.fr.ns hm (hQ _ _ _ _ (.refl S) hr hp)) hd
    · rcases hk with hk | hk
      · exact wpAny_Name (wpAny_loadName_cell G.kind hk h1 ⟨o, h2, h3⟩ (hQ _ _ _ _ (.refl S) hr hp)) hd
      · exact wpAny_Name (wpAny_loadName_free G.kind hk h1 ⟨o, h2, h3⟩ (hQ _ _ _ _ (.refl S) hr hp) hc) hd
theorem sound_glob {n : Str} {pos : Pos} {val : Value} {y : D} (he : nsIn P.K mainGlobals n = some (some val)) (hk : sc.names.lookup n = some .globalImplicit)
    (hr : ∀ X h, P.base.StaysIn h → (∀ b ∈ X, P.base.get? b = none) → Rel X h y val) (hd : (n == Str.ofString "__debug__") = false) : SoundE P hn d sc ns (.Name n pos) (pLit y) := by
  intro A v s m ρ c x X Q E KQ KE G S hp hQ hE
  exact name_K S G he hk hd (hQ (.d y) _ _ _ (.refl S) (hr _ _ S.fr.keep S.xb) hp)
theorem sound_int {i : Int} {k : Nat} {pos : Pos} : SoundE P hn d sc ns (.Constant (.int i) k pos) (pLit (.int i)) := by
  intro A v s m ρ c x X Q E KQ KE G S hp hQ hE
  exact wpAny_Constant_int (hQ _ _ _ _ ((Aft.refl S).grow (.toks _ _)) (rv_int _ _) hp)
theorem sound_str {i : Str} {k : Nat} {pos : Pos} : SoundE P hn d sc ns (.Constant (.str i) k pos) (pLit (.str i)) := by
  intro A v s m ρ c x X Q E KQ KE G S hp hQ hE
  exact Constant_str (hQ _ _ _ _ ((Aft.refl S).grow (.toks _ _)) (rv_str _ _) hp)
theorem sound_true {b : Bool} {k : Nat} {pos : Pos} : SoundE P hn d sc ns (.Constant (.bool b) k pos) (pLit (.bool b)) := by
  intro A v s m ρ c x X Q E KQ KE G S hp hQ hE
  exact wpAny_pure (hQ _ _ _ _ (.refl S) (rv_bool _) hp)
theorem sound_bin {op : Operator} {o : D → D → Ask} {l r : Expr} {pos : Pos} {p q : PE} (hB : SoundB P op o) (h1 : SoundE P hn d sc ns l p) (h2 : SoundE P hn d sc ns r q) : SoundE P hn d sc ns (.BinOp l op r pos) (pBin o p q) := by
  intro A v s m ρ c x X Q E KQ KE G S hp hQ hE
  refine wpAny_BinOp (h1 A v s m ρ c x X _ _ _ _ G S hp (fun a c1 va s1 a1 r1 hp1 => h2 A v s1 m ρ c1 x X _ _ _ _ G a1.st hp1 (fun b c2 vb s2 a2 r2 hp2 => ?_) (fun C c' e s' a' ex k => hE C c' e s' (a1.trans a') (ex.earlier a1.absent) k)) hE)
  cases a <;> cases b <;> try exact hp2.elim
  exact hB A s2 X _ _ va vb _ _ _ a2.st.xs (Rel.up a2.sure _ _ r1) r2 hp2 fun r val s' g rel k => hQ (.d r) c2 val s' ((a1.trans a2).grow g) rel k
theorem sound_neg {e : Expr} {pos : Pos} {p : PE} (h1 : SoundE P hn d sc ns e p) : SoundE P hn d sc ns (.UnaryOp .USub e pos) (pNeg p) := by
  intro A v s m ρ c x X Q E KQ KE G S hp hQ hE
  show wpAny _ _ (do let v ← eval e _; standAt pos; holding [v] (unaryOp .USub v)) _ _ _
  refine wpAny_bind (h1 A v s m ρ c x X _ _ _ _ G S hp (fun a c1 va s1 a1 r1 hp1 => ?_) hE)
  cases a with
  | cell => exact hp1.elim
  | d a =>
    cases a <;> try exact hp1.elim
    obtain ⟨t, rfl⟩ := RelV.int r1
    exact wpAny_bind (wpAny_standAt (wpAny_holding (PySem.P.neg_int (hQ _ _ _ _ (a1.grow (.toks _ _)) (rv_int _ _) hp1))))
theorem sound_cmp {op : CmpOp} {o : D → D → AskB} {l r : Expr} {pos : Pos} {p q : PE} (hB : SoundC P op o) (h1 : SoundE P hn d sc ns l p) (h2 : SoundE P hn d sc ns r q) (hm : behindInMarks op r = false) :
    SoundE P hn d sc ns (.Compare l [op] [r] pos) (pVal (pCmp o p q)) := by
  intro A v s m ρ c x X Q E KQ KE G S hp hQ hE
  refine wpAny_Compare1 (h1 A v s m ρ c x X _ _ _ _ G S hp (fun a c1 va s1 a1 r1 hp1 => h2 A v s1 m ρ c1 x X _ _ _ _ G a1.st hp1 (fun b c2 vb s2 a2 r2 hp2 => ?_) (fun C c' e s' a' ex k => hE C c' e s' (a1.trans a') (ex.earlier a1.absent) k)) hE) hm
  cases a <;> cases b <;> try exact hp2.elim
  exact hB A s2 X _ _ va vb _ _ _ (by have := G.units; walk_at "om") a2.st.xs (Rel.up a2.sure _ _ r1) r2 hp2 fun r k => hQ (.d (.bool r)) c2 _ s2 (a1.trans a2) (rv_bool _) k
theorem sound_cmpT {op : CmpOp} {o : D → D → AskB} {l r : Expr} {pos : Pos} {p q : PE} (hB : SoundC P op o) (h1 : SoundE P hn d sc ns l p) (h2 : SoundE P hn d sc ns r q) (hm : behindInMarks op r = false) :
    SoundT P hn d sc ns (.Compare l [op] [r] pos) (pCmp o p q) := by
  intro A v s m ρ c x X Q E KQ KE G S hp hQ hE
  refine wpAny_isTrue_Compare1 (h1 A v s m ρ c x X _ _ _ _ G S hp (fun a c1 va s1 a1 r1 hp1 => h2 A v s1 m ρ c1 x X _ _ _ _ G a1.st hp1 (fun b c2 vb s2 a2 r2 hp2 => ?_) (fun C c' e s' a' ex k => hE C c' e s' (a1.trans a') (ex.earlier a1.absent) k)) hE) hm
  cases a <;> cases b <;> try exact hp2.elim
  exact hB A s2 X _ _ va vb _ _ _ (by have := G.units; walk_at "om") a2.st.xs (Rel.up a2.sure _ _ r1) r2 hp2 fun r k => wpAny_truthy_bool (hQ r c2 s2 (a1.trans a2) k)
theorem sound_test {e : Expr} {p : PE} (h1 : SoundE P hn d sc ns e p) (hT : ∀ env whole, isTrue e env whole = (do let v ← whole; standAt e.pos; holding [v] (truthy v))) : SoundT P hn d sc ns e (pTest p) := by
  intro A v s m ρ c x X Q E KQ KE G S hp hQ hE
  rw [hT]
  refine wpAny_bind (h1 A v s m ρ c x X _ _ _ _ G S hp (fun a c1 va s1 a1 r1 hp1 => ?_) hE)
  obtain ⟨b, rfl, hp1⟩ := onB_elim hp1
  have := RelV.bool r1; subst this
  exact wpAny_bind (wpAny_standAt (wpAny_holding (wpAny_truthy_bool (hQ _ _ _ a1 hp1))))
theorem sound_not {e : Expr} {pos : Pos} {p : PT} (h1 : SoundT P hn d sc ns e p) : SoundT P hn d sc ns (.UnaryOp .Not e pos) (pNot p) := by
  intro A v s m ρ c x X Q E KQ KE G S hp hQ hE
  show wpAny _ _ (do return !(← isTrue e _ (eval e _))) _ _ _
  exact wpAny_bind (h1 A v s m ρ c x X _ _ _ _ G S hp (fun b c1 s1 a1 hp1 => wpAny_pure (hQ _ _ _ a1 hp1)) hE)
theorem sound_orT {a b : Expr} {pos : Pos} {p q : PT} (h1 : SoundT P hn d sc ns a p) (h2 : SoundT P hn d sc ns b q) : SoundT P hn d sc ns (.BoolOp .Or [a, b] pos) (pOr p q) := by
  intro A v s m ρ c x X Q E KQ KE G S hp hQ hE
  show wpAny _ _ (do
    match BoolOp.Or, ← isTrue a _ (eval a _) with
    | .And, false => pure false
    | .Or, true => pure true
    | _, _ => (do
      match BoolOp.Or, ← isTrue b _ (eval b _) with
      | .And, false => pure false
      | .Or, true => pure true
      | _, _ => pure (BoolOp.Or == .And))) _ _ _
  refine wpAny_bind (h1 A v s m ρ c x X _ _ _ _ G S hp (fun r c1 s1 a1 hp1 => ?_) hE)
  cases r with
  | true => exact wpAny_pure (hQ _ _ _ a1 (hp1.1 rfl))
  | false =>
    refine wpAny_bind (h2 A v s1 m ρ c1 x X _ _ _ _ G a1.st (hp1.2 rfl) (fun r c2 s2 a2 hp2 => ?_) (fun C c' e s' a' ex k => hE C c' e s' (a1.trans a') (ex.earlier a1.absent) k))
    cases r <;> exact wpAny_pure (hQ _ _ _ (a1.trans a2) hp2)
theorem sound_andT {a b : Expr} {pos : Pos} {p q : PT} (h1 : SoundT P hn d sc ns a p) (h2 : SoundT P hn d sc ns b q) : SoundT P hn d sc ns (.BoolOp .And [a, b] pos) (pAnd p q) := by
  intro A v s m ρ c x X Q E KQ KE G S hp hQ hE
  show wpAny _ _ (do
    match BoolOp.And, ← isTrue a _ (eval a _) with
    | .And, false => pure false
    | .Or, true => pure true
    | _, _ => (do
      match BoolOp.And, ← isTrue b _ (eval b _) with
      | .And, false => pure false
      | .Or, true => pure true
      | _, _ => pure (BoolOp.And == .And))) _ _ _
  refine wpAny_bind (h1 A v s m ρ c x X _ _ _ _ G S hp (fun r c1 s1 a1 hp1 => ?_) hE)
  cases r with
  | false => exact wpAny_pure (hQ _ _ _ a1 (hp1.1 rfl))
  | true =>
    refine wpAny_bind (h2 A v s1 m ρ c1 x X _ _ _ _ G a1.st (hp1.2 rfl) (fun r c2 s2 a2 hp2 => ?_) (fun C c' e s' a' ex k => hE C c' e s' (a1.trans a') (ex.earlier a1.absent) k))
    cases r <;> exact wpAny_pure (hQ _ _ _ (a1.trans a2) hp2)
theorem sound_args_nil : SoundL P hn d sc ns [] pNil := by
  intro pos A v s m ρ c x X Q E KQ KE G S hp hQ hE
  exact spliced_nil (hQ [] _ _ _ (.refl S) rfl hp)
theorem sound_args_cons {e : Expr} {es : List Expr} {p : PE} {q : PL} (h1 : SoundE P hn d sc ns e p) (h2 : SoundL P hn d sc ns es q) (he : ∀ env, starEach (e :: es) env = (false, eval e env) :: starEach es env) :
    SoundL P hn d sc ns (e :: es) (pCons p q) := by
  intro pos A v s m ρ c x X Q E KQ KE G S hp hQ hE
  rw [he]
  refine spliced_cons (h1 A v s m ρ c x X _ _ _ _ G S hp (fun a c1 va s1 a1 r1 hp1 => ?_) hE)
  exact h2 pos A v s1 m ρ c1 x X _ _ _ _ G a1.st hp1 (fun l c2 vl s2 a2 r2 hp2 => hQ (a :: l) _ _ _ (a1.trans a2) ⟨va, vl, rfl, RelV.up a2.sure _ _ r1, r2⟩ hp2)
    (fun C c' e s' a' ex k => hE C c' e s' (a1.trans a') (ex.earlier a1.absent) k)
theorem sound_tup {es : List Expr} {k : Nat} {pos : Pos} {p : PL} (h1 : SoundL P hn d sc ns es p) : SoundE P hn d sc ns (.Tuple es k pos) (pTup p) := by
  intro A v s m ρ c x X Q E KQ KE G S hp hQ hE
  refine Tuple_ (h1 pos A v s m ρ c x X _ _ _ _ G S hp (fun l c1 vl s1 a1 r1 hp1 => ?_) hE)
  obtain ⟨l', hl, hp1⟩ := oSome_elim hp1
  · have hr := relVs_allD hl r1
    refine wpAny_newObj_type ?_ (by show vl.toArray.size ≤ sizeLine; rw [List.size_toArray, relL_length hr]; exact hp1.1)
    have g := Grow.push s1 { cls := .type "tuple", data := .seq vl.toArray } s1.toks
    refine hQ (.d (.tup l')) _ _ _ (a1.grow g) ?_ hp1.2
    show Rel _ _ _ _
    unfold Rel
    exact ⟨_, _, _, _, rfl, fresh_notin a1.st.xs, Heap.get?_push_size _ rfl, rfl, rfl, by simpa using RelL.up (g.sure _) _ _ hr⟩
theorem sound_lst {es : List Expr} {pos : Pos} {p : PL} (h1 : SoundL P hn d sc ns es p) : SoundE P hn d sc ns (.List es pos) (pLst p) := by
  intro A v s m ρ c x X Q E KQ KE G S hp hQ hE
  refine List_ (h1 pos A v s m ρ c x X _ _ _ _ G S hp (fun l c1 vl s1 a1 r1 hp1 => ?_) hE)
  obtain ⟨l', hl, hp1⟩ := oSome_elim hp1
  · have hr := relVs_allD hl r1
    refine wpAny_newObj_type ?_ (by show vl.toArray.size ≤ sizeLine; rw [List.size_toArray, relL_length hr]; exact hp1.1)
    have g := Grow.push s1 { cls := .type "list", data := .seq vl.toArray } s1.toks
    refine hQ (.d (.lst l')) _ _ _ (a1.grow g) ?_ hp1.2
    show Rel _ _ _ _
    unfold Rel
    exact ⟨_, _, _, _, rfl, fresh_notin a1.st.xs, Heap.get?_push_size _ rfl, rfl, rfl, by simpa using RelL.up (g.sure _) _ _ hr⟩
theorem sound_if {t a b : Expr} {pos : Pos} {pt : PT} {p q : PE} (h0 : SoundT P hn d sc ns t pt) (h1 : SoundE P hn d sc ns a p) (h2 : SoundE P hn d sc ns b q) : SoundE P hn d sc ns (.IfExp t a b pos) (pIf pt p q) := by
  intro A v s m ρ c x X Q E KQ KE G S hp hQ hE
  show wpAny _ _ (do if ← isTrue t _ (eval t _) then eval a _ else eval b _) _ _ _
  refine wpAny_bind (h0 A v s m ρ c x X _ _ _ _ G S hp (fun r c1 s1 a1 hp1 => ?_) hE)
  cases r with
  | true => exact h1 A v s1 m ρ c1 x X _ _ _ _ G a1.st (hp1.1 rfl) (fun r c2 vl s2 a2 r2 k => hQ _ _ _ _ (a1.trans a2) r2 k) (fun C c' e s' a' ex k => hE C c' e s' (a1.trans a') (ex.earlier a1.absent) k)
  | false => exact h2 A v s1 m ρ c1 x X _ _ _ _ G a1.st (hp1.2 rfl) (fun r c2 vl s2 a2 r2 k => hQ _ _ _ _ (a1.trans a2) r2 k) (fun C c' e s' a' ex k => hE C c' e s' (a1.trans a') (ex.earlier a1.absent) k)
end
end
section
-- part M5
noncomputable def oIdx : D → D → Ask
  | .tup l, .int i, K => -(2 ^ 63) ≤ i ∧ i < 2 ^ 63 ∧ (match seqIndex? i l.length with | some j => (match l[j]? with | some y => K y | none => False) | none => False)
  | .lst l, .int i, K => -(2 ^ 63) ≤ i ∧ i < 2 ^ 63 ∧ (match seqIndex? i l.length with | some j => (match l[j]? with | some y => K y | none => False) | none => False)
  | .str x, .int i, K => -(2 ^ 63) ≤ i ∧ i < 2 ^ 63 ∧ (match (seqIndex? i x.length).bind (x.cps[·]?) with | some y => K (.str ⟨#[y]⟩) | none => False)
  | _, _, _ => False
noncomputable def onIdx0 : SV → SV → CO → (SV → CO → Prop) → Prop
  | .d a, .d b, c, K => oIdx a b fun r => K (.d r) c
  | .cell, .d (.int i), .src, K => (i = 0 ∧ ∀ n, K (.d (.int n)) .src) ∨ (i = 1 ∧ ∀ n, 0 ≤ n → n < 2 ^ 31 → K (.d (.int n)) .src)
  | _, _, _, _ => False
structure onIdx (a b : SV) (c : CO) (K : SV → CO → Prop) : Prop where
  h : onIdx0 a b c K
theorem onIdx_eq : onIdx = onIdx0 := by funext a b c K; exact propext ⟨fun h => h.1, fun h => ⟨h⟩⟩
theorem onIdx_of {a b : SV} {c : CO} {K : SV → CO → Prop} (h : onIdx0 a b c K) : onIdx a b c K := ⟨h⟩
noncomputable def pIdx (p q : PE) : PE := fun ρ c K KE => p ρ c (fun a c1 => q ρ c1 (fun b c2 => onIdx a b c2 K) KE) KE
section
variable {P : Par} {sc : Scope} {ns : List Str} {hn : Bool} {d : Nat}
theorem relL_at {X : List Addr} {h : Heap} {l : List D} {vs : Array Value} {i : Int} {y : D} {j : Nat} (r : RelL X h l vs.toList) (hj : seqIndex? i l.length = some j) (hy : l[j]? = some y) :
    seqIndex? i vs.size = some j ∧ ∃ v, vs[j]? = some v ∧ Rel X h y v := by
  have e := relL_length r
  obtain ⟨v, h1, h2⟩ := relL_get r hy
  have e' : vs.size = l.length := by simpa using e
  exact ⟨e' ▸ hj, v, by simpa using h1, h2⟩
theorem idx_sound {A : Around} {s : Shared} {x : Cl} {X : List Addr} {a b : SV} {va vb : Value} {c : CO} {value slice : Expr} {Q E : Value → Shared → Prop} {K : SV → CO → Prop} (hx : ∀ y ∈ X, ∃ o, s.heap.get? y = some o) (hc : CellAt x X s.heap c)
    (ra : RelV x X s.heap a va) (rb : RelV x X s.heap b vb) (hp : onIdx a b c K) (hs : ∀ o i, subscripted slice false o i = operate [o, i] (getItem o i))
    (hQ : ∀ r val s', Grow s s' → RelV x X s'.heap r val → K r c → Q val s') : wpAny (model P.prog P.w) A (subscriptTail value slice va vb) Q E s := by
  rw [onIdx_eq] at hp
  cases b with
  | cell => cases a <;> exact hp.elim
  | d b =>
    cases a with
    | cell =>
      cases b <;> try exact hp.elim
      rename_i i
      cases c <;> try exact hp.elim
      obtain ⟨y, o, n, m, t, u, k, h1, _, h2, h3, h4, h5, h6⟩ := hc
      obtain ⟨p, hp1, rfl⟩ := ra
      rw [h1] at hp1; cases hp1
      obtain ⟨t', rfl⟩ := RelV.int rb
      have hl : s.heap.IsList y #[.int n t, .int m u] := ⟨o, h2, h3, k, h4⟩
      rcases hp with ⟨rfl, hp⟩ | ⟨rfl, hp⟩
      · exact tail_any hl.typeIs slot_list_getitem.lookup (wpAny_getItem_list hl (by decide) (by decide) rfl (hQ (.d (.int n)) _ _ (.refl s) (rv_int _ _) (hp n))) (hs _ _)
      · exact tail_any hl.typeIs slot_list_getitem.lookup (wpAny_getItem_list hl (by decide) (by decide) rfl (hQ (.d (.int m)) _ _ (.refl s) (rv_int _ _) (hp m h5 h6))) (hs _ _)
    | d a =>
      cases a <;> cases b <;> try exact hp.elim
      · rename_i z i
        obtain ⟨t, rfl⟩ : ∃ t, va = .str z t := Rel.str (X := X) (h := s.heap) ra
        obtain ⟨u, rfl⟩ := RelV.int rb
        obtain ⟨h1, h2, h3⟩ := hp
        split at h3
        · rename_i y hy
          refine tail_any (typeIs_str s z t) slot_str_getitem.lookup (PyProof.Rows.getItem_str ?_ hy (hQ (.d (.str ⟨#[y]⟩)) _ _ (.toks _ _) (rv_str _ _) h3)) (hs _ _)
          rw [decide_eq_false (by walk_at "om"), decide_eq_false (by walk_at "om")]; rfl
        · exact h3.elim
      · rename_i l i
        obtain ⟨u, rfl⟩ := RelV.int rb
        have ra : Rel X s.heap (.tup l) va := ra
        unfold Rel at ra
        obtain ⟨a, o, vs, n, rfl, _, ho, hcl, hd, hr⟩ := ra
        obtain ⟨h1, h2, h3⟩ := hp
        split at h3
        · rename_i j hj
          split at h3
          · rename_i y hy
            obtain ⟨e1, v, e2, e3⟩ := relL_at hr hj hy
            have ht : IsTup s.heap a vs := ⟨o, ho, hcl, n, hd⟩
            exact tail_any ht.typeIs slot_tuple_getitem.lookup (PyProof.Rows.getItem_tuple ht h1 h2 e1 e2 (hQ (.d y) _ _ (.refl s) e3 h3)) (hs _ _)
          · exact h3.elim
        · exact h3.elim
      · rename_i l i
        obtain ⟨u, rfl⟩ := RelV.int rb
        have ra : Rel X s.heap (.lst l) va := ra
        unfold Rel at ra
        obtain ⟨a, o, vs, n, rfl, _, ho, hcl, hd, hr⟩ := ra
        obtain ⟨h1, h2, h3⟩ := hp
        split at h3
        · rename_i j hj
          split at h3
          · rename_i y hy
            obtain ⟨e1, v, e2, e3⟩ := relL_at hr hj hy
            have hl : s.heap.IsList a vs := ⟨o, ho, hcl, n, hd⟩
            refine tail_any hl.typeIs slot_list_getitem.lookup ?_ (hs _ _)
            by_cases h0 : 0 ≤ i
            · refine wpAny_getItem_list hl h0 h2 ?_ (hQ (.d y) _ _ (.refl s) e3 h3)
              have : j = i.toNat := by
                unfold seqIndex? at e1
                simp only [Bool.and_eq_true, decide_eq_true_eq] at e1
                split at e1 <;> (try split at e1) <;> simp at e1 <;> walk_at "om"
              rw [← this]; exact e2
            · have hj' : -(vs.size : Int) ≤ i ∧ j = (i + vs.size).toNat := by
                unfold seqIndex? at e1
                simp only [Bool.and_eq_true, decide_eq_true_eq] at e1
                split at e1 <;> (try split at e1) <;> simp at e1 <;> walk_at "om"
              exact wpAny_getItem_list_neg hl (by walk_at "om") hj'.1 h1 (by rw [← hj'.2]; exact e2) (hQ (.d y) _ _ (.refl s) e3 h3)
          · exact h3.elim
        · exact h3.elim
theorem sound_idx {e i : Expr} {pos : Pos} {p q : PE} (h1 : SoundE P hn d sc ns e p) (h2 : SoundE P hn d sc ns i q) (hs : ∀ o k, subscripted i false o k = operate [o, k] (getItem o k)) :
    SoundE P hn d sc ns (.Subscript e i pos) (pIdx p q) := by
  intro A v s m ρ c x X Q E KQ KE G S hp hQ hE
  refine Subscript_ (h1 A v s m ρ c x X _ _ _ _ G S hp (fun a c1 va s1 a1 r1 hp1 => h2 A v s1 m ρ c1 x X _ _ _ _ G a1.st hp1 (fun b c2 vb s2 a2 r2 hp2 => ?_) (fun C c' e s' a' ex k => hE C c' e s' (a1.trans a') (ex.earlier a1.absent) k)) hE)
  exact idx_sound a2.st.xs a2.st.cell (RelV.up a2.sure _ _ r1) r2 hp2 hs fun r val s' g rel k => hQ r c2 val s' ((a1.trans a2).grow g) rel k
end
noncomputable abbrev PO := List (Option SV) → CO → (Option Int → CO → Prop) → (Addr → CO → Prop) → Prop
noncomputable def OV : Option Int → Value → Prop
  | none, v => v = .none
  | some i, v => ∃ t, v = .int i t
theorem OV.part : ∀ {o : Option Int} {v : Value}, OV o v → IsPart v o
  | none, _, e => by cases e; exact .none
  | some _, _, ⟨_, e⟩ => by cases e; exact .int _ _
noncomputable def SoundO (P : Par) (hn : Bool) (d : Nat) (sc : Scope) (ns : List Str) (e : Option Expr) (p : PO) : Prop :=
  ∀ (A : Around) (v : FV) (s : Shared) (m : Names) (ρ : List (Option SV)) (c : CO) (x : Cl) (X : List Addr) (Q E : Value → Shared → Prop) (KQ : Option Int → CO → Prop) (KE : Addr → CO → Prop),
    Good A v sc hn d → St P sc v ns ρ c x X m s.heap → p ρ c KQ KE →
    (∀ r c' val s', Aft P sc v ns ρ x X m s c' s' → OV r val → KQ r c' → Q val s') →
    (∀ C c' e s', Aft P sc v ns ρ x X m s c' s' → ExcAt s.heap s'.heap e C → KE C c' → E (.ref e) s') →
    wpAny (model P.prog P.w) A (valueOrNone (evalOpt e (v.env sc))) Q E s
noncomputable def pONone : PO := fun _ c K _ => K none c
noncomputable def pOSome (p : PE) : PO := fun ρ c K KE => p ρ c (fun a c1 => onI a fun i => K (some i) c1) KE
noncomputable def pickD (l : List D) (lo hi st : Option Int) : List D :=
  (sliceRange (sliceBounds lo hi st l.length).1 (sliceBounds lo hi st l.length).2.1 (sliceBounds lo hi st l.length).2.2).filterMap (l[·]?)
@[reducible] noncomputable def oCut : SV → Option Int → Option Int → Ask
  | .d (.str x), lo, hi, K => x.length ≤ sizeLine ∧ K (.str (Txt.slice x lo hi))
  | .d (.lst l), lo, hi, K => l.length ≤ sizeLine ∧ K (.lst (pickD l lo hi none))
  | _, _, _, _ => False
noncomputable def pCut (p : PE) (lo hi : PO) : PE := fun ρ c K KE => p ρ c (fun a c1 => lo ρ c1 (fun l c2 => hi ρ c2 (fun u c3 => oCut a l u fun r => K (.d r) c3) KE) KE) KE
noncomputable def pBack (p : PE) : PE := fun ρ c K KE => p ρ c (fun a c1 => onLs a fun l => l.length ≤ sizeLine ∧ K (.d (.lst (pickD l none none (some (-1))))) c1) KE
section
variable {P : Par} {sc : Scope} {ns : List Str} {hn : Bool} {d : Nat}
theorem sound_o_none : SoundO P hn d sc ns none pONone := by
  intro A v s m ρ c x X Q E KQ KE G S hp hQ hE
  exact wpAny_pure (hQ none _ _ _ (.refl S) rfl hp)
theorem sound_o_some {e : Expr} {p : PE} (h1 : SoundE P hn d sc ns e p) : SoundO P hn d sc ns (some e) (pOSome p) := by
  intro A v s m ρ c x X Q E KQ KE G S hp hQ hE
  refine h1 A v s m ρ c x X _ _ _ _ G S hp (fun a c1 va s1 a1 r1 hp1 => ?_) hE
  obtain ⟨i, rfl, hp1⟩ := onI_elim hp1
  obtain ⟨t, rfl⟩ := RelV.int r1
  exact hQ (some _) _ _ _ a1 ⟨t, rfl⟩ hp1
theorem relL_pick {X : List Addr} {h : Heap} {l : List D} {vs : Array Value} (r : RelL X h l vs.toList) (lo hi st : Option Int) : RelL X h (pickD l lo hi st) (slicePick vs lo hi st).toList := by
  have e : vs.size = l.length := by simpa using relL_length r
  unfold pickD slicePick
  rw [e]
  generalize sliceRange _ _ _ = js
  show RelL X h (js.filterMap (l[·]?)) (js.filterMap (vs[·]?)).toArray.toList
  rw [List.toList_toArray]
  induction js with
  | nil => simp only [List.filterMap_nil]; unfold RelL; rfl
  | cons j js ih =>
    rw [List.filterMap_cons, List.filterMap_cons]
    cases hj : l[j]? with
    | none =>
      have : vs[j]? = none := by
        rw [List.getElem?_eq_none_iff] at hj
        rw [Array.getElem?_eq_none_iff]; walk_at "om"
      rw [this]; exact ih
    | some y =>
      obtain ⟨v, h1, h2⟩ := relL_get r hj
      have : vs[j]? = some v := by simpa using h1
      rw [this]
      unfold RelL
      exact ⟨v, _, rfl, h2, ih⟩
theorem newSlice {A : Around} {s : Shared} {l u st : Value} {Q E : Value → Shared → Prop} (h : Q (.ref s.heap.objs.size) { s with heap := s.heap.push { cls := .type "slice", data := .fields #[l, u, st] } }) :
    wpAny (model P.prog P.w) A (newFields "slice" [l, u, st]) Q E s := wpAny_newObj_type h (by show #[l, u, st].size ≤ sizeLine + 2; simp only [List.size_toArray, List.length_cons, List.length_nil, sizeLine_eq]; decide)
theorem sound_cut {e : Expr} {lo hi : Option Expr} {sp pos : Pos} {p : PE} {ql qu : PO} (h1 : SoundE P hn d sc ns e p) (h2 : SoundO P hn d sc ns lo ql) (h3 : SoundO P hn d sc ns hi qu) :
    SoundE P hn d sc ns (.Subscript e (.Slice lo hi none sp) pos) (pCut p ql qu) := by
  intro A v s m ρ c x X Q E KQ KE G S hp hQ hE
  have hs : ∀ o i, subscripted (.Slice lo hi none sp) false o i = operate [i, o] (getItem o i) := fun _ _ => rfl
  refine Subscript_ (h1 A v s m ρ c x X _ _ _ _ G S hp (fun a c1 va s1 a1 r1 hp1 => ?_) hE)
  show wpAny _ _ (do
    let l ← valueOrNone (evalOpt lo _)
    let u ← holding [l] (valueOrNone (evalOpt hi _))
    let s ← holding [l, u] (valueOrNone (evalOpt none _))
    newFields "slice" [l, u, s]) _ _ _
  refine wpAny_bind (h2 A v s1 m ρ c1 x X _ _ _ _ G a1.st hp1 (fun l c2 vl s2 a2 r2 hp2 => ?_) (fun C c' e s' a' ex k => hE C c' e s' (a1.trans a') (ex.earlier a1.absent) k))
  have a12 := a1.trans a2
  refine wpAny_bind (wpAny_holding (h3 A v s2 m ρ c2 x X _ _ _ _ G a2.st hp2 (fun u c3 vu s3 a3 r3 hp3 => ?_) (fun C c' e s' a' ex k => hE C c' e s' (a12.trans a') (ex.earlier a12.absent) k)))
  have a13 := a12.trans a3
  have ra : RelV x X s3.heap a va := RelV.up a3.sure _ _ (RelV.up a2.sure _ _ r1)
  refine wpAny_bind (wpAny_holding (wpAny_pure (newSlice ?_)))
  cases a with
  | cell => exact hp3.elim
  | d a =>
  cases a <;> try exact hp3.elim
  · rename_i z
    obtain ⟨t, rfl⟩ : ∃ t, va = .str z t := Rel.str (X := X) (h := s3.heap) ra
    have key : ∀ h' t' k, (∀ b o, s3.heap.get? b = some o → h'.get? b = some o) → Q (.str (Txt.slice z l u) t') { s3 with heap := h', toks := k } := fun h' t' k g =>
      hQ (.d (.str (Txt.slice z l u))) c3 _ _ (a13.grow ⟨⟨rfl, rfl, rfl⟩, g⟩) (rv_str _ _) hp3.2
    have kh : KeptH (fun h => ∀ b o, s3.heap.get? b = some o → h.get? b = some o) := fun h ob g b o e => Heap.get?_push_of_some _ (g b o e)
    have I : ItemOn (model P.prog P.w) A E (.str z t) (.ref s3.heap.objs.size) Q { s3 with heap := s3.heap.push { cls := .type "slice", data := .fields #[vl, vu, .none] } } := by
      cases l with
      | none =>
        cases r2
        cases u with
        | none => cases r3; exact SBH.sliceItem_nn kh (fun _ _ e => e) (fun h' t' k g => key h' t' k g) hp3.1
        | some j => obtain ⟨_, rfl⟩ := r3; exact SBH.sliceItem_ns kh (fun _ _ e => e) (fun h' t' k g => key h' t' k g) hp3.1
      | some i =>
        obtain ⟨_, rfl⟩ := r2
        cases u with
        | none => cases r3; exact SBH.sliceItem_sn kh (fun _ _ e => e) (fun h' t' k g => key h' t' k g) hp3.1
        | some j => obtain ⟨_, rfl⟩ := r3; exact SBH.sliceItem_ss kh (fun _ _ e => e) (fun h' t' k g => key h' t' k g) hp3.1
    obtain ⟨T, id, h1, h2, h3⟩ := I
    exact tail_any h2 h1 h3 (hs _ _)
  · rename_i z
    have ra : Rel X s3.heap (.lst z) va := ra
    unfold Rel at ra
    obtain ⟨a, o, vs, n, rfl, _, ho, hcl, hd, hr⟩ := ra
    have hl : s3.heap.IsList a vs := ⟨o, ho, hcl, n, hd⟩
    refine tail_any (Heap.IsList.typeIs (s := { s3 with heap := s3.heap.push { cls := .type "slice", data := .fields #[vl, vu, .none] } }) (hl.push _)) slot_list_getitem.lookup
      (wpAny_getItem_list_slice (hl.push _) (Heap.IsSliceOf.new ..) r2.part r3.part .none (by simp) ?_ (by have := relL_length hr; have h := hp3.1; simp at this; walk_at "om")) (hs _ _)
    have g : Grow s3 { s3 with heap := (s3.heap.push { cls := .type "slice", data := .fields #[vl, vu, .none] }).push { cls := .type "list", data := .seq (slicePick vs l u none) } } :=
      ⟨⟨rfl, rfl, rfl⟩, fun b o e => Heap.get?_push_of_some _ (Heap.get?_push_of_some _ e)⟩
    refine hQ (.d (.lst (pickD z l u none))) c3 _ _ (a13.grow g) ?_ hp3.2
    show Rel _ _ _ _
    unfold Rel
    refine ⟨_, _, _, _, rfl, ?_, Heap.get?_push_size _ rfl, rfl, rfl, RelL.up (g.sure _) _ _ (relL_pick hr l u none)⟩
    rw [Heap.size_push]
    intro q
    obtain ⟨o, e⟩ := a3.st.xs _ q
    exact absurd (Heap.lt_size e) (Nat.not_lt.mpr (Nat.le_succ _))
theorem sound_back {e : Expr} {k : Nat} {sp up cp pos : Pos} {p : PE} (h1 : SoundE P hn d sc ns e p) :
    SoundE P hn d sc ns (.Subscript e (.Slice none none (some (.UnaryOp .USub (.Constant (.int 1) k cp) up)) sp) pos) (pBack p) := by
  intro A v s m ρ c x X Q E KQ KE G S hp hQ hE
  have hs : ∀ o i, subscripted (.Slice none none (some (.UnaryOp .USub (.Constant (.int 1) k cp) up)) sp) false o i = operate [o, i] (getItem o i) := fun _ _ => rfl
  refine Subscript_ (h1 A v s m ρ c x X _ _ _ _ G S hp (fun a c1 va s1 a1 r1 hp1 => ?_) hE)
  show wpAny _ _ (do
    let l ← (pure .none : Sem Value)
    let u ← holding [l] (pure .none : Sem Value)
    let s ← holding [l, u] (do let v ← eval (.Constant (.int 1) k cp) _; standAt up; holding [v] (unaryOp .USub v))
    newFields "slice" [l, u, s]) _ _ _
  refine wpAny_bind (wpAny_pure (wpAny_bind (wpAny_holding (wpAny_pure (wpAny_bind (wpAny_holding (wpAny_bind (wpAny_Constant_int (wpAny_bind (wpAny_standAt (wpAny_holding (PySem.P.neg_int (newSlice ?_)))))))))))))
  obtain ⟨z, rfl, hp1⟩ := onLs_elim hp1
  · have ra : Rel X s1.heap (.lst z) va := r1
    unfold Rel at ra
    obtain ⟨a, o, vs, n, rfl, _, ho, hcl, hd, hr⟩ := ra
    have hl : s1.heap.IsList a vs := ⟨o, ho, hcl, n, hd⟩
    refine tail_any (Heap.IsList.typeIs (s := { s1 with heap := s1.heap.push { cls := .type "slice", data := .fields #[.none, .none, .int (-1) (s1.toks + 1)] }, toks := s1.toks + 1 + 1 }) (hl.push _)) slot_list_getitem.lookup
      (wpAny_getItem_list_slice (hl.push _) (Heap.IsSliceOf.new ..) .none .none (.int _ _) (by simp) ?_ (by have := relL_length hr; have h := hp1.1; simp at this; walk_at "om")) (hs _ _)
    have g : Grow s1 { s1 with heap := (s1.heap.push { cls := .type "slice", data := .fields #[.none, .none, .int (-1) (s1.toks + 1)] }).push { cls := .type "list", data := .seq (slicePick vs none none (some (-1))) }, toks := s1.toks + 1 + 1 } :=
      ⟨⟨rfl, rfl, rfl⟩, fun b o e => Heap.get?_push_of_some _ (Heap.get?_push_of_some _ e)⟩
    refine hQ (.d (.lst (pickD z none none (some (-1))))) c1 _ _ (a1.grow g) ?_ hp1.2
    show Rel _ _ _ _
    unfold Rel
    refine ⟨_, _, _, _, rfl, ?_, Heap.get?_push_size _ rfl, rfl, rfl, RelL.up (g.sure _) _ _ (relL_pick hr none none (some (-1)))⟩
    rw [Heap.size_push]
    intro q
    obtain ⟨o, e⟩ := a1.st.xs _ q
    exact absurd (Heap.lt_size e) (Nat.not_lt.mpr (Nat.le_succ _))
end
end
section
-- part M6
theorem lookIn_dictIs {o : Obj} {l : List (Str × Value)} (x : DictIs o l) (name : Str) : lookIn name o = some (l.lookup name) := by
  obtain ⟨es, n, hd, hk, _, hf⟩ := x
  have h1 := hf name
  unfold nsFind findBy at h1
  unfold lookIn
  rw [hd]
  dsimp only
  rw [← Array.find?_toList] at h1
  have hr : es.toList.any (·.refKey) = false := by
    rw [List.any_eq_false]
    intro e he
    obtain ⟨m, t, hm⟩ := hk e (Array.mem_toList_iff.mp he)
    simp [DictEntry.refKey, hm]
  cases q : es.toList.find? (·.key.isStr name) with
  | some e => rw [q] at h1; rw [← h1]; rfl
  | none => rw [q] at h1; rw [← h1, hr]; rfl
structure ClsK (K : Frag) (C : Addr) (flds : List Str) : Prop where
  plain : plainGet K C (Str.ofString "") = true
  dict : hasDictIn K C = true
  fld : ∀ n ∈ flds, findIn K (.ref C) n = some none
theorem handed_rel {X : List Addr} {h : Heap} : ∀ {y : D} {v : Value}, Rel X h y v → handedIn v = true
  | .none, v, r => by unfold Rel at r; subst r; rfl
  | .bool _, v, r => by unfold Rel at r; subst r; rfl
  | .int _, v, r => by unfold Rel at r; obtain ⟨_, rfl⟩ := r; rfl
  | .str _, v, r => by unfold Rel at r; obtain ⟨_, rfl⟩ := r; rfl
  | .tup _, v, r => by unfold Rel at r; obtain ⟨_, _, _, _, rfl, _⟩ := r; rfl
  | .lst _, v, r => by unfold Rel at r; obtain ⟨_, _, _, _, rfl, _⟩ := r; rfl
  | .mat _, v, r => by unfold Rel at r; obtain ⟨_, _, _, _, _, rfl, _⟩ := r; rfl
theorem matNames_lookup {vs : List Value} {i : Nat} {n : Str} {v : Value} (hi : matNames[i]? = some n) (hv : vs[i]? = some v) (hl : vs.length = 6) : (matNames.zip vs).lookup n = some v := by
  obtain ⟨a, b, c, d, e, f, rfl⟩ := len6 hl
  unfold matNames at *
  rcases i with _ | _ | _ | _ | _ | _ | n
  · cases hi; cases hv; rfl
  · cases hi; cases hv; rfl
  · cases hi; cases hv; rfl
  · cases hi; cases hv; rfl
  · cases hi; cases hv; rfl
  · cases hi; cases hv; rfl
  · simp at hi
noncomputable def fMat (i : Nat) : SV → CO → (SV → CO → Prop) → Prop
  | .d (.mat l), c, K => (match l[i]? with | some y => K (.d y) c | none => False)
  | _, _, _ => False
@[reducible] noncomputable def fText : SV → CO → (SV → CO → Prop) → Prop
  | .cell, .rd t i, K => K (.d (.str t)) (.rd t i)
  | _, _, _ => False
@[reducible] noncomputable def fAt : SV → CO → (SV → CO → Prop) → Prop
  | .cell, .rd t i, K => K (.d (.int i)) (.rd t i)
  | _, _, _ => False
noncomputable def pFld (f : SV → CO → (SV → CO → Prop) → Prop) (p : PE) : PE := fun ρ c K KE => p ρ c (fun a c1 => f a c1 K) KE
noncomputable def SoundF (P : Par) (n : Str) (f : SV → CO → (SV → CO → Prop) → Prop) : Prop :=
  ∀ (A : Around) (s : Shared) (x : Cl) (X : List Addr) (a : SV) (c : CO) (va : Value) (Q E : Value → Shared → Prop) (K : SV → CO → Prop), P.K.In s.heap → CellAt x X s.heap c → RelV x X s.heap a va → f a c K →
    (∀ r val s', Grow s s' → RelV x X s'.heap r val → K r c → Q val s') → wpAny (model P.prog P.w) A (getAttr va n true) Q E s
section
variable {P : Par} {sc : Scope} {ns : List Str} {hn : Bool} {d : Nat}
theorem fMat_sound (hC : ClsK P.K cMat matNames) {i : Nat} {n : Str} (hi : matNames[i]? = some n) : SoundF P n (fMat i) := by
  intro A s x X a c va Q E K hK hc ra hp hQ
  cases a with
  | cell => exact hp.elim
  | d a =>
    cases a <;> try exact hp.elim
    rename_i l
    have ra : Rel X s.heap (.mat l) va := ra
    unfold Rel at ra
    obtain ⟨a, o, dx, od, vs, rfl, _, _, ho, hcl, hdi, hda, hod, hdd, hlen, hr⟩ := ra
    have hp : (match l[i]? with | some y => K (.d y) c | none => False) := hp
    cases hy : l[i]? with
    | none => rw [hy] at hp; exact hp.elim
    | some y =>
      rw [hy] at hp
      obtain ⟨v, h1, h2⟩ := relL_get hr hy
      have I : InstAt s.heap a o cMat (some od) := ⟨ho, hcl, by unfold notCls; rw [hda], by rw [hdi]; exact hod⟩
      exact get_value hK I (plainGet_of hC.plain).1 (findObj_own hC.dict (hC.fld n (List.mem_of_getElem? hi)) rfl (by rw [lookIn_dictIs hdd, matNames_lookup hi h1 hlen])) (handed_rel h2)
        (hQ (.d y) _ _ (.toks _ _) h2 hp)
theorem fText_sound (hC : ClsK P.K cNum [Str.ofString "text", Str.ofString "at"]) : SoundF P (Str.ofString "text") fText := by
  intro A s x X a c va Q E K hK hc ra hp hQ
  cases a with
  | d a => exact hp.elim
  | cell =>
    cases c <;> try exact hp.elim
    rename_i y i
    obtain ⟨a, dx, ox, od, t, u, h1, _, _, ho, hcl, hdi, hda, hod, hdd⟩ := hc
    obtain ⟨p, hp1, rfl⟩ := ra
    rw [h1] at hp1; cases hp1
    have I : InstAt s.heap a ox cNum (some od) := ⟨ho, hcl, by unfold notCls; rw [hda], by rw [hdi]; exact hod⟩
    exact get_value hK I (plainGet_of hC.plain).1 (findObj_own hC.dict (hC.fld _ (.head _)) rfl (by rw [lookIn_dictIs hdd]; rfl)) rfl (hQ (.d (.str y)) _ _ (.toks _ _) (rv_str _ _) hp)
theorem fAt_sound (hC : ClsK P.K cNum [Str.ofString "text", Str.ofString "at"]) : SoundF P (Str.ofString "at") fAt := by
  intro A s x X a c va Q E K hK hc ra hp hQ
  cases a with
  | d a => exact hp.elim
  | cell =>
    cases c <;> try exact hp.elim
    rename_i y i
    obtain ⟨a, dx, ox, od, t, u, h1, _, _, ho, hcl, hdi, hda, hod, hdd⟩ := hc
    obtain ⟨p, hp1, rfl⟩ := ra
    rw [h1] at hp1; cases hp1
    have I : InstAt s.heap a ox cNum (some od) := ⟨ho, hcl, by unfold notCls; rw [hda], by rw [hdi]; exact hod⟩
    exact get_value hK I (plainGet_of hC.plain).1 (findObj_own hC.dict (hC.fld _ (.tail _ (.head _))) rfl (by rw [lookIn_dictIs hdd]; rfl)) rfl (hQ (.d (.int i)) _ _ (.toks _ _) (rv_int _ _) hp)
theorem sound_fld {n attr : Str} {np pos : Pos} {f : SV → CO → (SV → CO → Prop) → Prop} {p : PE} (hf : SoundF P attr f) (h1 : SoundE P hn d sc ns (.Name n np) p) : SoundE P hn d sc ns (.Attribute (.Name n np) attr pos) (pFld f p) := by
  intro A v s m ρ c x X Q E KQ KE G S hp hQ hE
  refine Attribute_name (h1 A v s m ρ c x X _ _ _ _ G S hp (fun a c1 va s1 a1 r1 hp1 => ?_) hE)
  exact hf A s1 x X a c1 va _ _ _ (P.X.keeps a1.st.fr.keep) a1.st.cell r1 hp1 fun r val s' g rel k => hQ r c1 val s' (a1.grow g) rel k
theorem sound_call {f : Str} {fp pos : Pos} {e : Expr} {rest : List Expr} {fv : Value} {sp : Spec} {pl : PL} {d' : Nat} (he : nsIn P.K mainGlobals f = some (some fv)) (hk : sc.names.lookup f = some .globalImplicit) (hkeep : keepIn P.K fv = true)
    (ok : Ok P d' fv sp) (hd' : d' ≤ d) (hl : SoundL P true d sc ns (e :: rest) pl) (hs : ∀ env, starEach (e :: rest) env = (false, eval e env) :: starEach rest env) (hpl : ∀ env, (backTo pos (starEach rest env)).any (·.1) = false)
    (hd : (f == Str.ofString "__debug__") = false) : SoundE P true d sc ns (.Call (.Name f fp) (e :: rest) [] pos) (pCall sp pl) := by
  rw [pCall_eq]
  intro A v s m ρ c x X Q E KQ KE G S hp hQ hE
  refine wpAny_Call_Name_kw (name_K S G he hk hd ?_)
  refine callWith_K P.X hkeep (hl pos A v s m ρ c x X _ _ _ _ G S hp (fun l c1 vl s1 a1 r1 hp1 => ⟨P.X.keeps a1.st.fr.keep, ?_⟩) hE) (hs _) (hpl _)
  refine ok A _ s1 _ l c1 x X _ _ _ _ G.frames G.some (G.handled rfl) (by have := G.room; walk_at "om") (by have := G.units; walk_at "om") (a1.st.amb) r1 hp1 (fun r c2 val s2 a2 r2 k => hQ _ _ _ _ (a1.trans (Aft.of_amb a1.st a2)) r2 k)
    (fun C c2 e s2 a2 ex k => hE _ _ _ _ (a1.trans (Aft.of_amb a1.st a2)) (ex.earlier a1.absent) k)
theorem sound_call0 {f : Str} {fp pos : Pos} {fv : Value} {sp : Spec} {d' : Nat} (he : nsIn P.K mainGlobals f = some (some fv)) (hk : sc.names.lookup f = some .globalImplicit) (hkeep : keepIn P.K fv = true)
    (ok : Ok P d' fv sp) (hd' : d' ≤ d) (hd : (f == Str.ofString "__debug__") = false) : SoundE P true d sc ns (.Call (.Name f fp) [] [] pos) (pCall sp pNil) := by
  rw [pCall_eq]
  intro A v s m ρ c x X Q E KQ KE G S hp hQ hE
  refine wpAny_Call_Name_kw (name_K S G he hk hd ?_)
  refine callWith_K0 (P.X.keeps S.fr.keep) hkeep ?_
  refine ok A _ s _ [] c x X _ _ _ _ G.frames G.some (G.handled rfl) (by have := G.room; walk_at "om") (by have := G.units; walk_at "om") (S.amb) rfl hp (fun r c2 val s2 a2 r2 k => hQ _ _ _ _ (Aft.of_amb S a2) r2 k)
    (fun C c2 e s2 a2 ex k => hE _ _ _ _ (Aft.of_amb S a2) ex k)
theorem sound_callB {f : Str} {fp pos : Pos} {e : Expr} {rest : List Expr} {id : String} {sp : Spec} {pl : PL} {d' : Nat} (he : nsIn P.K mainGlobals f = some none) (hv : bootBuiltins f = some (.builtin id)) (hnn : f ≠ Str.ofString "__name__")
    (hk : sc.names.lookup f = some .globalImplicit)
    (ok : Ok P d' (.builtin id) sp) (hd' : d' ≤ d) (hl : SoundL P true d sc ns (e :: rest) pl) (hs : ∀ env, starEach (e :: rest) env = (false, eval e env) :: starEach rest env) (hpl : ∀ env, (backTo pos (starEach rest env)).any (·.1) = false)
    (hd : (f == Str.ofString "__debug__") = false) : SoundE P true d sc ns (.Call (.Name f fp) (e :: rest) [] pos) (pCall sp pl) := by
  rw [pCall_eq]
  intro A v s m ρ c x X Q E KQ KE G S hp hQ hE
  refine wpAny_Call_Name_kw (name_B S G he hv hnn hk hd ?_)
  refine callWith_method1 (first := []) (hl pos A v s m ρ c x X _ _ _ _ G S hp (fun l c1 vl s1 a1 r1 hp1 => ?_) hE) (hs _) (hpl _)
  exact ok A _ s1 _ l c1 x X _ _ _ _ G.frames G.some (G.handled rfl) (by have := G.room; walk_at "om") (by have := G.units; walk_at "om") (a1.st.amb) r1 hp1 (fun r c2 val s2 a2 r2 k => hQ _ _ _ _ (a1.trans (Aft.of_amb a1.st a2)) r2 k)
    (fun C c2 e s2 a2 ex k => hE _ _ _ _ (a1.trans (Aft.of_amb a1.st a2)) (ex.earlier a1.absent) k)
theorem sound_callT {f : Str} {fp pos : Pos} {e : Expr} {rest : List Expr} {id : String} {sp : Spec} {pl : PL} {d' : Nat} (he : nsIn P.K mainGlobals f = some none) (hv : bootBuiltins f = some (.type id)) (hnn : f ≠ Str.ofString "__name__")
    (hk : sc.names.lookup f = some .globalImplicit)
    (ok : Ok P d' (.type id) sp) (hd' : d' ≤ d) (hl : SoundL P true d sc ns (e :: rest) pl) (hs : ∀ env, starEach (e :: rest) env = (false, eval e env) :: starEach rest env) (hpl : ∀ env, (backTo pos (starEach rest env)).any (·.1) = false)
    (hd : (f == Str.ofString "__debug__") = false) : SoundE P true d sc ns (.Call (.Name f fp) (e :: rest) [] pos) (pCall sp pl) := by
  rw [pCall_eq]
  intro A v s m ρ c x X Q E KQ KE G S hp hQ hE
  refine wpAny_Call_Name_kw (name_B S G he hv hnn hk hd ?_)
  have key := hl pos A v s m ρ c x X (fun vs s₁ => wpAny (model P.prog P.w) A (call (.type id) vs) Q E s₁) E _ _ G S hp (fun l c1 vl s1 a1 r1 hp1 =>
    ok A _ s1 _ l c1 x X _ _ _ _ G.frames G.some (G.handled rfl) (by have := G.room; walk_at "om") (by have := G.units; walk_at "om") (a1.st.amb) r1 hp1 (fun r c2 val s2 a2 r2 k => hQ _ _ _ _ (a1.trans (Aft.of_amb a1.st a2)) r2 k)
    (fun C c2 e s2 a2 ex k => hE _ _ _ _ (a1.trans (Aft.of_amb a1.st a2)) (ex.earlier a1.absent) k)) hE
  rw [hs] at key ⊢
  exact PySem.callWith_type (by show (false || (backTo pos (starEach rest _)).any (·.1)) = false; rw [hpl]; rfl) (evalArgs_plain key)
noncomputable def GetsM (P : Par) (name : Str) (f : Value) (okR : SV → CO → Bool) : Prop :=
  ∀ (A : Around) (s : Shared) (x : Cl) (X : List Addr) (a : SV) (c : CO) (va : Value) (pl : Sem Bool) (Q : Value × List Value → Shared → Prop) (E : Value → Shared → Prop), P.K.In s.heap → CellAt x X s.heap c → RelV x X s.heap a va → okR a c = true →
    Q (f, [va]) s → wpAny (model P.prog P.w) A (getMethod va name pl) Q E s
noncomputable def isMat : SV → CO → Bool
  | .d (.mat _), _ => true
  | _, _ => false
noncomputable def isRd : SV → CO → Bool
  | .cell, .rd _ _ => true
  | _, _ => false
noncomputable def isText : SV → CO → Bool
  | .d (.str _), _ => true
  | _, _ => false
noncomputable def pMeth (okR : SV → CO → Bool) (sp : Spec) (p : PE) (q : PL) : PE := fun ρ c K KE => p ρ c (fun a c1 => ifB (okR a c1) (q ρ c1 (fun l c2 => zCall sp (a :: l) c2 K KE) KE)) KE
theorem pMeth_eq (okR : SV → CO → Bool) (sp : Spec) (p : PE) (q : PL) : pMeth okR sp p q = fun ρ c K KE => p ρ c (fun a c1 => ifB (okR a c1) (q ρ c1 (fun l c2 => sp (a :: l) c2 K KE) KE)) KE := by unfold pMeth; simp only [zCall_eq]
theorem getsM_mat (hC : ClsK P.K cMat matNames) {name : Str} {f : Addr} (hf : findIn P.K (.ref cMat) name = some (some (.ref f))) (ht : typeIn P.K (.ref f) = some (.type "function")) (hnm : matNames.contains name = false) : GetsM P name (.ref f) isMat := by
  intro A s x X a c va pl Q E hK hc ra hp hQ
  cases a with
  | cell => cases hp
  | d a =>
    cases a <;> try cases hp
    rename_i l
    have ra : Rel X s.heap (.mat l) va := ra
    unfold Rel at ra
    obtain ⟨a, o, dx, od, vs, rfl, _, _, ho, hcl, hdi, hda, hod, hdd, hlen, hr⟩ := ra
    have I : InstAt s.heap a o cMat (some od) := ⟨ho, hcl, by unfold notCls; rw [hda], by rw [hdi]; exact hod⟩
    have hnone : (matNames.zip vs).lookup name = none := by
      · obtain ⟨a, b, c, d, e, f, rfl⟩ := len6 hlen
        unfold matNames at *
        simp only [List.contains_cons, List.contains_nil, Bool.or_false, Bool.or_eq_false_iff] at hnm
        obtain ⟨h1, h2, h3, h4, h5, h6⟩ := hnm
        simp only [List.zip_cons_cons, List.zip_nil_left, List.lookup_cons, h1, h2, h3, h4, h5, h6, List.lookup_nil]
    exact method_fn hK I (plainGet_of hC.plain).1 (plainGet_of hC.plain).2 hf ht (by show (lookIn name od).map _ = _; rw [lookIn_dictIs hdd, hnone]; rfl) hQ
theorem getsM_rd (hC : ClsK P.K cNum [Str.ofString "text", Str.ofString "at"]) {name : Str} {f : Addr} (hf : findIn P.K (.ref cNum) name = some (some (.ref f))) (ht : typeIn P.K (.ref f) = some (.type "function"))
    (hn1 : (name == Str.ofString "text") = false) (hn2 : (name == Str.ofString "at") = false) : GetsM P name (.ref f) isRd := by
  intro A s x X a c va pl Q E hK hc ra hp hQ
  cases a with
  | d a => cases hp
  | cell =>
    cases c <;> try cases hp
    rename_i y i
    obtain ⟨a, dx, ox, od, t, u, h1, _, _, ho, hcl, hdi, hda, hod, hdd⟩ := hc
    obtain ⟨p, hp1, rfl⟩ := ra
    rw [h1] at hp1; cases hp1
    have I : InstAt s.heap a ox cNum (some od) := ⟨ho, hcl, by unfold notCls; rw [hda], by rw [hdi]; exact hod⟩
    exact method_fn hK I (plainGet_of hC.plain).1 (plainGet_of hC.plain).2 hf ht (by show (lookIn name od).map _ = _; rw [lookIn_dictIs hdd]; simp only [List.lookup_cons, hn1, hn2, List.lookup_nil]; rfl) hQ
theorem getsM_str {name : Str} {id : String} (h : ∀ (A : Around) (s : Shared) (x : Str) (t : Tok) (pl : Sem Bool) (Q : Value × List Value → Shared → Prop) (E : Value → Shared → Prop), Q (.builtin id, [.str x t]) s → wpAny (model P.prog P.w) A (getMethod (.str x t) name pl) Q E s) :
    GetsM P name (.builtin id) isText := by
  intro A s x X a c va pl Q E hK hc ra hp hQ
  cases a with
  | cell => cases hp
  | d a =>
    cases a <;> try cases hp
    rename_i z
    obtain ⟨t, rfl⟩ : ∃ t, va = .str z t := Rel.str (X := X) (h := s.heap) ra
    exact h A s z t pl Q E hQ
theorem sound_meth {o : Expr} {name : Str} {apos pos : Pos} {e : Expr} {rest : List Expr} {f : Value} {okR : SV → CO → Bool} {sp : Spec} {p : PE} {pl : PL} {d' : Nat} (hg : GetsM P name f okR) (hkeep : keepIn P.K f = true)
    (ok : Ok P d' f sp) (hd' : d' ≤ d) (h1 : SoundE P true d sc ns o p) (hl : SoundL P true d sc ns (e :: rest) pl) (hs : ∀ env, starEach (e :: rest) env = (false, eval e env) :: starEach rest env) (hpl : ∀ env, (backTo pos (starEach rest env)).any (·.1) = false)
    (he : ∀ env, eval (.Call (.Attribute o name apos) (e :: rest) [] pos) env = (do
      let ov ← eval o env
      standAt apos.atName
      let (f, first) ← holding [ov] (getMethod ov name (do return (← importBound o env).getD true))
      callWith pos f first (backTo pos (starEach (e :: rest) env)) [])) : SoundE P true d sc ns (.Call (.Attribute o name apos) (e :: rest) [] pos) (pMeth okR sp p pl) := by
  rw [pMeth_eq]
  intro A v s m ρ c x X Q E KQ KE G S hp hQ hE
  refine MethodCall_ (pl := do return (← importBound o (v.env sc)).getD true) (h1 A v s m ρ c x X _ _ _ _ G S hp (fun a c1 va s1 a1 r1 hp1 => ?_) hE) (he _)
  replace hp1 := ifB_inv hp1
  refine hg A s1 x X a c1 va _ _ _ (P.X.keeps a1.st.fr.keep) a1.st.cell r1 hp1.1 ?_
  refine callWith_K P.X hkeep (hl pos A v s1 m ρ c1 x X _ _ _ _ G a1.st hp1.2 (fun l c2 vl s2 a2 r2 hp2 => ⟨P.X.keeps a2.st.fr.keep, ?_⟩) (fun C c' e s' a' ex k => hE C c' e s' (a1.trans a') (ex.earlier a1.absent) k)) (hs _) (hpl _)
  have a12 := a1.trans a2
  exact ok A _ s2 _ (a :: l) c2 x X _ _ _ _ G.frames G.some (G.handled rfl) (by have := G.room; walk_at "om") (by have := G.units; walk_at "om") (a2.st.amb) ⟨va, vl, rfl, RelV.up a2.sure _ _ r1, r2⟩ hp2
    (fun r c3 val s3 a3 r3 k => hQ _ _ _ _ (a12.trans (Aft.of_amb a2.st a3)) r3 k) (fun C c3 e s3 a3 ex k => hE _ _ _ _ (a12.trans (Aft.of_amb a2.st a3)) (ex.earlier a12.absent) k)
theorem sound_meth0 {o : Expr} {name : Str} {apos pos : Pos} {f : Value} {okR : SV → CO → Bool} {sp : Spec} {p : PE} {d' : Nat} (hg : GetsM P name f okR) (hkeep : keepIn P.K f = true)
    (ok : Ok P d' f sp) (hd' : d' ≤ d) (h1 : SoundE P true d sc ns o p)
    (he : ∀ env, eval (.Call (.Attribute o name apos) [] [] pos) env = (do
      let ov ← eval o env
      standAt apos.atName
      let (f, first) ← holding [ov] (getMethod ov name (do return (← importBound o env).getD true))
      callWith pos f first (backTo pos (starEach [] env)) [])) : SoundE P true d sc ns (.Call (.Attribute o name apos) [] [] pos) (pMeth okR sp p pNil) := by
  rw [pMeth_eq]
  intro A v s m ρ c x X Q E KQ KE G S hp hQ hE
  refine MethodCall_ (pl := do return (← importBound o (v.env sc)).getD true) (h1 A v s m ρ c x X _ _ _ _ G S hp (fun a c1 va s1 a1 r1 hp1 => ?_) hE) (he _)
  replace hp1 := ifB_inv hp1
  refine hg A s1 x X a c1 va _ _ _ (P.X.keeps a1.st.fr.keep) a1.st.cell r1 hp1.1 ?_
  refine callWith_K0 (P.X.keeps a1.st.fr.keep) hkeep ?_
  exact ok A _ s1 _ (a :: []) c1 x X _ _ _ _ G.frames G.some (G.handled rfl) (by have := G.room; walk_at "om") (by have := G.units; walk_at "om") (a1.st.amb) ⟨va, [], rfl, r1, rfl⟩ hp1.2
    (fun r c3 val s3 a3 r3 k => hQ _ _ _ _ (a1.trans (Aft.of_amb a1.st a3)) r3 k) (fun C c3 e s3 a3 ex k => hE _ _ _ _ (a1.trans (Aft.of_amb a1.st a3)) (ex.earlier a1.absent) k)
theorem sound_methB {o : Expr} {name : Str} {apos pos : Pos} {e : Expr} {rest : List Expr} {id : String} {okR : SV → CO → Bool} {sp : Spec} {p : PE} {pl : PL} {d' : Nat} (hg : GetsM P name (.builtin id) okR)
    (ok : Ok P d' (.builtin id) sp) (hd' : d' ≤ d) (h1 : SoundE P true d sc ns o p) (hl : SoundL P true d sc ns (e :: rest) pl) (hs : ∀ env, starEach (e :: rest) env = (false, eval e env) :: starEach rest env) (hpl : ∀ env, (backTo pos (starEach rest env)).any (·.1) = false)
    (he : ∀ env, eval (.Call (.Attribute o name apos) (e :: rest) [] pos) env = (do
      let ov ← eval o env
      standAt apos.atName
      let (f, first) ← holding [ov] (getMethod ov name (do return (← importBound o env).getD true))
      callWith pos f first (backTo pos (starEach (e :: rest) env)) [])) : SoundE P true d sc ns (.Call (.Attribute o name apos) (e :: rest) [] pos) (pMeth okR sp p pl) := by
  rw [pMeth_eq]
  intro A v s m ρ c x X Q E KQ KE G S hp hQ hE
  refine MethodCall_ (pl := do return (← importBound o (v.env sc)).getD true) (h1 A v s m ρ c x X _ _ _ _ G S hp (fun a c1 va s1 a1 r1 hp1 => ?_) hE) (he _)
  replace hp1 := ifB_inv hp1
  refine hg A s1 x X a c1 va _ _ _ (P.X.keeps a1.st.fr.keep) a1.st.cell r1 hp1.1 ?_
  refine callWith_method1 (hl pos A v s1 m ρ c1 x X _ _ _ _ G a1.st hp1.2 (fun l c2 vl s2 a2 r2 hp2 => ?_) (fun C c' e s' a' ex k => hE C c' e s' (a1.trans a') (ex.earlier a1.absent) k)) (hs _) (hpl _)
  have a12 := a1.trans a2
  exact ok A _ s2 _ (a :: l) c2 x X _ _ _ _ G.frames G.some (G.handled rfl) (by have := G.room; walk_at "om") (by have := G.units; walk_at "om") (a2.st.amb) ⟨va, vl, rfl, RelV.up a2.sure _ _ r1, r2⟩ hp2
    (fun r c3 val s3 a3 r3 k => hQ _ _ _ _ (a12.trans (Aft.of_amb a2.st a3)) r3 k) (fun C c3 e s3 a3 ex k => hE _ _ _ _ (a12.trans (Aft.of_amb a2.st a3)) (ex.earlier a12.absent) k)
theorem sound_methB0 {o : Expr} {name : Str} {apos pos : Pos} {id : String} {okR : SV → CO → Bool} {sp : Spec} {p : PE} {d' : Nat} (hg : GetsM P name (.builtin id) okR)
    (ok : Ok P d' (.builtin id) sp) (hd' : d' ≤ d) (h1 : SoundE P true d sc ns o p)
    (he : ∀ env, eval (.Call (.Attribute o name apos) [] [] pos) env = (do
      let ov ← eval o env
      standAt apos.atName
      let (f, first) ← holding [ov] (getMethod ov name (do return (← importBound o env).getD true))
      callWith pos f first (backTo pos (starEach [] env)) [])) : SoundE P true d sc ns (.Call (.Attribute o name apos) [] [] pos) (pMeth okR sp p pNil) := by
  rw [pMeth_eq]
  intro A v s m ρ c x X Q E KQ KE G S hp hQ hE
  refine MethodCall_ (pl := do return (← importBound o (v.env sc)).getD true) (h1 A v s m ρ c x X _ _ _ _ G S hp (fun a c1 va s1 a1 r1 hp1 => ?_) hE) (he _)
  replace hp1 := ifB_inv hp1
  refine hg A s1 x X a c1 va _ _ _ (P.X.keeps a1.st.fr.keep) a1.st.cell r1 hp1.1 ?_
  refine callWith_method0 ?_
  exact ok A _ s1 _ (a :: []) c1 x X _ _ _ _ G.frames G.some (G.handled rfl) (by have := G.room; walk_at "om") (by have := G.units; walk_at "om") (a1.st.amb) ⟨va, [], rfl, r1, rfl⟩ hp1.2
    (fun r c3 val s3 a3 r3 k => hQ _ _ _ _ (a1.trans (Aft.of_amb a1.st a3)) r3 k) (fun C c3 e s3 a3 ex k => hE _ _ _ _ (a1.trans (Aft.of_amb a1.st a3)) (ex.earlier a1.absent) k)
end
end
section
-- part M7
open PySem PySem.W PyProof.Rows PySem.Calls PySem.Builtin PySem.Builtin.Str
theorem Amb.grow {P : Par} {fs : List Env} {c : CO} {x : Cl} {X : List Addr} {s s' : Shared} (a : Amb P fs c x X s.heap) (g : Grow s s') : Amb P fs c x X s'.heap where
  stays := fun b o e => g.2 b o (a.stays b o e)
  ff := a.ff.of_keeps fun b o e _ => ⟨o, g.2 b o e, rfl⟩
  cell := a.cell.up (g.sure [])
  xs := fun b hb => let ⟨o, e⟩ := a.xs b hb; ⟨o, g.2 b o e⟩
  xb := a.xb
theorem AmbAft.grow {P : Par} {fs : List Env} {c : CO} {x : Cl} {X : List Addr} {s s' : Shared} (a : Amb P fs c x X s.heap) (g : Grow s s') : AmbAft P fs x X s c s' := ⟨g.1, a.grow g, g.kept _⟩
theorem ok_of {P : Par} {f : Value} {sp : Spec} (h : ∀ (A : Around) (s : Shared) (vs : List Value) (args : List SV) (c : CO) (x : Cl) (X : List Addr) (Q E : Value → Shared → Prop) (KQ : SV → CO → Prop) (KE : Addr → CO → Prop),
    A.handled = none → (∀ y ∈ X, ∃ o, s.heap.get? y = some o) → RelVs x X s.heap args vs → sp args c KQ KE → (∀ r val s', Grow s s' → RelV x X s'.heap r val → KQ r c → Q val s') → wpAny (model P.prog P.w) A (call f vs) Q E s) : Ok P 0 f sp := by
  intro A fs s vs args c x X Q E KQ KE h1 h0 h2 h3 h4 h5 h6 h7 h8 h9
  exact h A s vs args c x X Q E KQ KE h2 h5.xs h6 h7 fun r val s' g rel k => h8 r c val s' (AmbAft.grow h5 g) rel k
noncomputable def on1 (args : List SV) (k : D → Prop) : Prop := match args with
  | [.d a] => k a
  | _ => False
noncomputable def on2 (args : List SV) (k : D → D → Prop) : Prop := match args with
  | [.d a, .d b] => k a b
  | _ => False
noncomputable def asStr (y : D) (k : Str → Prop) : Prop := match y with
  | .str x => k x
  | _ => False
noncomputable def asInt (y : D) (k : Int → Prop) : Prop := match y with
  | .int x => k x
  | _ => False
noncomputable def asLst (y : D) (k : List D → Prop) : Prop := match y with
  | .lst x => k x
  | _ => False
theorem on1_inv {args : List SV} {k : D → Prop} (h : on1 args k) : ∃ a, args = [.d a] ∧ k a := by
  rcases args with _ | ⟨a, _ | ⟨b, r⟩⟩
  · exact h.elim
  · cases a with
    | d a => exact ⟨a, rfl, h⟩
    | cell => exact h.elim
  · cases a <;> exact h.elim
theorem on2_inv {args : List SV} {k : D → D → Prop} (h : on2 args k) : ∃ a b, args = [.d a, .d b] ∧ k a b := by
  rcases args with _ | ⟨a, _ | ⟨b, _ | ⟨g, r⟩⟩⟩
  · exact h.elim
  · cases a <;> exact h.elim
  · cases a with
    | cell => exact h.elim
    | d a => cases b with
      | d b => exact ⟨a, b, rfl, h⟩
      | cell => exact h.elim
  · cases a with
    | cell => exact h.elim
    | d a => cases b <;> exact h.elim
theorem asStr_inv {y : D} {k : Str → Prop} (h : asStr y k) : ∃ x, y = .str x ∧ k x := by
  cases y with
  | str x => exact ⟨x, rfl, h⟩
  | _ => exact h.elim
theorem asInt_inv {y : D} {k : Int → Prop} (h : asInt y k) : ∃ x, y = .int x ∧ k x := by
  cases y with
  | int x => exact ⟨x, rfl, h⟩
  | _ => exact h.elim
theorem asLst_inv {y : D} {k : List D → Prop} (h : asLst y k) : ∃ x, y = .lst x ∧ k x := by
  cases y with
  | lst x => exact ⟨x, rfl, h⟩
  | _ => exact h.elim
@[reducible] noncomputable def sLen : Spec := fun args c K _ => on1 args fun y => match y with
  | .str x => x.length < 2 ^ 62 ∧ K (.d (.int x.length)) c
  | .lst l => l.length < 2 ^ 62 ∧ K (.d (.int l.length)) c
  | .tup l => l.length < 2 ^ 62 ∧ K (.d (.int l.length)) c
  | _ => False
@[reducible] noncomputable def sAbs : Spec := fun args c K _ => on1 args fun y => asInt y fun a => K (.d (.int (if a < 0 then -a else a))) c
@[reducible] noncomputable def sMax : Spec := fun args c K _ => on2 args fun y z => asInt y fun a => asInt z fun b => K (.d (.int (if b > a then b else a))) c
@[reducible] noncomputable def sMin : Spec := fun args c K _ => on2 args fun y z => asInt y fun a => asInt z fun b => K (.d (.int (if b < a then b else a))) c
noncomputable def sText : Spec := fun args c K _ => on1 args fun y => asInt y fun a => a.natAbs.log2 < 1920 ∧ K (.d (.str (Str.ofString (toString a)))) c
noncomputable def sTuple : Spec := fun args c K _ => on1 args fun y => asLst y fun l => l.length ≤ sizeLine ∧ K (.d (.tup l)) c
noncomputable def on3 (args : List SV) (k : D → D → D → Prop) : Prop := match args with
  | .d a :: r => on2 r fun b g => k a b g
  | _ => False
theorem on3_inv {args : List SV} {k : D → D → D → Prop} (h : on3 args k) : ∃ a b g, args = [.d a, .d b, .d g] ∧ k a b g := by
  cases args with
  | nil => exact h.elim
  | cons a r => cases a with
    | cell => exact h.elim
    | d a => obtain ⟨b, g, rfl, h⟩ := on2_inv (args := r) h; exact ⟨a, b, g, rfl, h⟩
noncomputable def sFind3 : Spec := fun args c K _ => on3 args fun y z w => asStr y fun x => asStr z fun y => asInt w fun i => K (.d (.int (Txt.find3 x y i))) c
noncomputable def sLower : Spec := fun args c K _ => on1 args fun y => asStr y fun x => tooLong (Txt.lower x).length = false ∧ K (.d (.str (Txt.lower x))) c
noncomputable def sStrip : Spec := fun args c K _ => on1 args fun y => asStr y fun x => x.length ≤ sizeLine ∧ K (.d (.str (Txt.strip x))) c
noncomputable def sIndex : Spec := fun args c K _ => on2 args fun y z => asStr y fun x => asStr z fun y => ∃ i rest, Builtin.Str.occurrences x y 0 x.length 1 = i :: rest ∧ K (.d (.int (i : Nat))) c
noncomputable def sJoin : Spec := fun args c K _ => on2 args fun y z => asStr y fun x => asLst z fun l => ∃ texts : List Str, l = texts.map .str ∧ JoinOk x texts = true ∧ K (.d (.str (Txt.join x texts))) c
section
variable {P : Par}
theorem RelV.str {x X h i v} (r : RelV x X h (.d (.str i)) v) : ∃ t, v = .str i t := Rel.str (X := X) (h := h) r
theorem RelV.lst {x X h l v} (r : RelV x X h (.d (.lst l)) v) : ∃ a o vs n, v = .ref a ∧ a ∉ X ∧ h.get? a = some o ∧ o.cls = .type "list" ∧ o.data = .seq vs n ∧ RelL X h l vs.toList := by
  have r : Rel X h (.lst l) v := r
  unfold Rel at r; exact r
theorem RelV.tup {x X h l v} (r : RelV x X h (.d (.tup l)) v) : ∃ a o vs n, v = .ref a ∧ a ∉ X ∧ h.get? a = some o ∧ o.cls = .type "tuple" ∧ o.data = .seq vs n ∧ RelL X h l vs.toList := by
  have r : Rel X h (.tup l) v := r
  unfold Rel at r; exact r
theorem len_ok : Ok P 0 (.builtin "len") sLen := ok_of fun A s vs args c x X Q E KQ KE hh hX hr hp hQ => by
  obtain ⟨y1, rfl, hp⟩ := on1_inv hp
  cases y1 with
  | str i =>
    have hp : i.length < 2 ^ 62 ∧ KQ (.d (.int i.length)) c := hp
    obtain ⟨v, _, rfl, r, rfl⟩ := hr
    obtain ⟨t, rfl⟩ := RelV.str r
    exact PyProof.Rows.len_str (by have := hp.1; omega) (hQ _ _ _ (.toks _ _) (rv_int _ _) hp.2)
  | lst l =>
    have hp : l.length < 2 ^ 62 ∧ KQ (.d (.int l.length)) c := hp
    obtain ⟨v, _, rfl, r, rfl⟩ := hr
    obtain ⟨a, o, vs, n, rfl, _, ho, hc, hd, hr⟩ := RelV.lst r
    have e : vs.size = l.length := by simpa using relL_length hr
    exact call_len_list ⟨o, ho, hc, n, hd⟩ (by have := hp.1; omega) (hQ _ _ _ (.toks _ _) (by rw [e]; exact rv_int _ _) hp.2)
  | tup l =>
    have hp : l.length < 2 ^ 62 ∧ KQ (.d (.int l.length)) c := hp
    obtain ⟨v, _, rfl, r, rfl⟩ := hr
    obtain ⟨a, o, vs, n, rfl, _, ho, hc, hd, hr⟩ := RelV.tup r
    have e : vs.size = l.length := by simpa using relL_length hr
    exact PyProof.Rows.len_tuple ⟨o, ho, hc, n, hd⟩ (by have := hp.1; omega) (hQ _ _ _ (.toks _ _) (by rw [e]; exact rv_int _ _) hp.2)
  | _ => exact hp.elim
theorem abs_ok : Ok P 0 (.builtin "abs") sAbs := ok_of fun A s vs args c x X Q E KQ KE hh hX hr hp hQ => by
  have hp0 := on1_inv hp; clear hp; obtain ⟨y1, rfl, hp⟩ := hp0
  have hp0 := asInt_inv hp; clear hp; obtain ⟨x1, rfl, hp⟩ := hp0
  obtain ⟨v, _, rfl, r, rfl⟩ := hr
  obtain ⟨t, rfl⟩ := RelV.int r
  exact PyProof.Rows.call_abs_int fun u tk => hQ _ _ _ (.toks _ _) (rv_int _ _) hp
theorem max_ok : Ok P 0 (.builtin "max") sMax := ok_of fun A s vs args c x X Q E KQ KE hh hX hr hp hQ => by
  have hp0 := on2_inv hp; clear hp; obtain ⟨y1,y2, rfl, hp⟩ := hp0
  have hp0 := asInt_inv hp; clear hp; obtain ⟨x1, rfl, hp⟩ := hp0
  have hp0 := asInt_inv hp; clear hp; obtain ⟨x2, rfl, hp⟩ := hp0
  obtain ⟨v, _, rfl, r, v2, _, rfl, r2, rfl⟩ := hr
  obtain ⟨t, rfl⟩ := RelV.int r
  obtain ⟨u, rfl⟩ := RelV.int r2
  refine max_two_ints hh fun h' tk k => ?_
  split at hp <;> rename_i q
  · rw [if_pos q]; exact hQ _ _ _ ⟨⟨rfl, rfl, rfl⟩, k⟩ (rv_int _ _) hp
  · rw [if_neg q]; exact hQ _ _ _ ⟨⟨rfl, rfl, rfl⟩, k⟩ (rv_int _ _) hp
theorem min_ok : Ok P 0 (.builtin "min") sMin := ok_of fun A s vs args c x X Q E KQ KE hh hX hr hp hQ => by
  have hp0 := on2_inv hp; clear hp; obtain ⟨y1,y2, rfl, hp⟩ := hp0
  have hp0 := asInt_inv hp; clear hp; obtain ⟨x1, rfl, hp⟩ := hp0
  have hp0 := asInt_inv hp; clear hp; obtain ⟨x2, rfl, hp⟩ := hp0
  obtain ⟨v, _, rfl, r, v2, _, rfl, r2, rfl⟩ := hr
  obtain ⟨t, rfl⟩ := RelV.int r
  obtain ⟨u, rfl⟩ := RelV.int r2
  refine min_two_ints hh fun h' tk k => ?_
  split at hp <;> rename_i q
  · rw [if_pos q]; exact hQ _ _ _ ⟨⟨rfl, rfl, rfl⟩, k⟩ (rv_int _ _) hp
  · rw [if_neg q]; exact hQ _ _ _ ⟨⟨rfl, rfl, rfl⟩, k⟩ (rv_int _ _) hp
theorem text_ok : Ok P 0 (.type "str") sText := ok_of fun A s vs args c x X Q E KQ KE hh hX hr hp hQ => by
  have hp0 := on1_inv hp; clear hp; obtain ⟨y1, rfl, hp⟩ := hp0
  have hp0 := asInt_inv hp; clear hp; obtain ⟨x1, rfl, hp⟩ := hp0
  obtain ⟨v, _, rfl, r, rfl⟩ := hr
  obtain ⟨t, rfl⟩ := RelV.int r
  exact PySem.P.str_of_int hp.1 (hQ _ _ _ (.toks _ _) (rv_str _ _) hp.2)
theorem tuple_ok : Ok P 0 (.type "tuple") sTuple := ok_of fun A s vs args c x X Q E KQ KE hh hX hr hp hQ => by
  have hp0 := on1_inv hp; clear hp; obtain ⟨y1, rfl, hp⟩ := hp0
  have hp0 := asLst_inv hp; clear hp; obtain ⟨l, rfl, hp⟩ := hp0
  obtain ⟨v, _, rfl, r, rfl⟩ := hr
  obtain ⟨a, o, vs, n, rfl, _, ho, hc, hd, hr⟩ := RelV.lst r
  have e : vs.size = l.length := by simpa using relL_length hr
  refine call_tuple_list ⟨o, ho, hc, n, hd⟩ (fun h' k => ?_) (by have := hp.1; walk_at "om")
  have g : Grow s { s with heap := h'.push { cls := .type "tuple", data := .seq vs } } := ⟨⟨rfl, rfl, rfl⟩, fun b o q => Heap.get?_push_of_some _ (k b o q)⟩
  refine hQ (.d (.tup l)) _ _ g ?_ hp.2
  show Rel _ _ _ _
  unfold Rel
  exact ⟨_, _, _, _, rfl, fresh_notin fun y hy => let ⟨o, q⟩ := hX y hy; ⟨o, k y o q⟩, Heap.get?_push_size _ rfl, rfl, rfl, RelL.up (g.sure _) _ _ hr⟩
theorem find3_ok : Ok P 0 (.builtin "str.find") sFind3 := ok_of fun A s vs args c x X Q E KQ KE hh hX hr hp hQ => by
  have hp0 := on3_inv hp; clear hp; obtain ⟨y1,y2,y3, rfl, hp⟩ := hp0
  have hp0 := asStr_inv hp; clear hp; obtain ⟨x1, rfl, hp⟩ := hp0
  have hp0 := asStr_inv hp; clear hp; obtain ⟨x2, rfl, hp⟩ := hp0
  have hp0 := asInt_inv hp; clear hp; obtain ⟨x3, rfl, hp⟩ := hp0
  obtain ⟨v, _, rfl, r, v2, _, rfl, r2, v3, _, rfl, r3, rfl⟩ := hr
  obtain ⟨t, rfl⟩ := RelV.str r
  obtain ⟨u, rfl⟩ := RelV.str r2
  obtain ⟨w, rfl⟩ := RelV.int r3
  exact SC.find3 (hQ _ _ _ (.toks _ _) (rv_int _ _) hp)
theorem lower_ok : Ok P 0 (.builtin "str.lower") sLower := ok_of fun A s vs args c x X Q E KQ KE hh hX hr hp hQ => by
  have hp0 := on1_inv hp; clear hp; obtain ⟨y1, rfl, hp⟩ := hp0
  have hp0 := asStr_inv hp; clear hp; obtain ⟨x1, rfl, hp⟩ := hp0
  obtain ⟨v, _, rfl, r, rfl⟩ := hr
  obtain ⟨t, rfl⟩ := RelV.str r
  exact SC.lower hp.1 (hQ _ _ _ (.toks _ _) (rv_str _ _) hp.2)
theorem strip_ok : Ok P 0 (.builtin "str.strip") sStrip := ok_of fun A s vs args c x X Q E KQ KE hh hX hr hp hQ => by
  have hp0 := on1_inv hp; clear hp; obtain ⟨y1, rfl, hp⟩ := hp0
  have hp0 := asStr_inv hp; clear hp; obtain ⟨x1, rfl, hp⟩ := hp0
  obtain ⟨v, _, rfl, r, rfl⟩ := hr
  obtain ⟨t, rfl⟩ := RelV.str r
  exact SC.strip (fun t' k => hQ _ _ _ (.toks _ _) (rv_str _ _) hp.2) hp.1
theorem index_ok : Ok P 0 (.builtin "str.index") sIndex := ok_of fun A s vs args c x X Q E KQ KE hh hX hr hp hQ => by
  have hp0 := on2_inv hp; clear hp; obtain ⟨y1,y2, rfl, hp⟩ := hp0
  have hp0 := asStr_inv hp; clear hp; obtain ⟨x1, rfl, hp⟩ := hp0
  have hp0 := asStr_inv hp; clear hp; obtain ⟨x2, rfl, hp⟩ := hp0
  obtain ⟨v, _, rfl, r, v2, _, rfl, r2, rfl⟩ := hr
  obtain ⟨t, rfl⟩ := RelV.str r
  obtain ⟨u, rfl⟩ := RelV.str r2
  obtain ⟨i, rest, h1, h2⟩ := hp
  exact SC.index h1 (hQ _ _ _ (.toks _ _) (rv_int _ _) h2)
theorem relL_texts {X : List Addr} {h : Heap} : ∀ {l : List Str} {vs : List Value}, RelL X h (l.map .str) vs → ∃ k : List (Str × Tok), k.map (·.1) = l ∧ strValues k = vs
  | [], vs, r => by unfold List.map RelL at r; exact ⟨[], rfl, r.symm⟩
  | y :: l, vs, r => by
    rw [List.map_cons] at r
    unfold RelL at r
    obtain ⟨v, t, rfl, h1, h2⟩ := r
    obtain ⟨u, rfl⟩ := h1.str
    obtain ⟨k, e1, e2⟩ := relL_texts h2
    exact ⟨(y, u) :: k, by rw [List.map_cons, e1], by rw [← e2]; rfl⟩
theorem join_ok : Ok P 0 (.builtin "str.join") sJoin := ok_of fun A s vs args c x X Q E KQ KE hh hX hr hp hQ => by
  have hp0 := on2_inv hp; clear hp; obtain ⟨y1,y2, rfl, hp⟩ := hp0
  have hp0 := asStr_inv hp; clear hp; obtain ⟨x1, rfl, hp⟩ := hp0
  have hp0 := asLst_inv hp; clear hp; obtain ⟨x2, rfl, hp⟩ := hp0
  obtain ⟨v, _, rfl, r, v2, _, rfl, r2, rfl⟩ := hr
  obtain ⟨texts, rfl, h1, h2⟩ := hp
  obtain ⟨t, rfl⟩ := RelV.str r
  obtain ⟨a, o, vs, n, rfl, _, ho, hc, hd, hr⟩ := RelV.lst r2
  obtain ⟨k, e1, e2⟩ := relL_texts hr
  exact SC.join (l := k) ⟨o, ho, hc, n, by rw [hd, e2]⟩ e1 h1 fun t' k => hQ _ _ _ (.toks _ _) (rv_str _ _) h2
end
theorem wp_release {M : Model} {A : Around} {E : Value → Shared → Prop} {s : Shared} {vs keep : List Value} {Q : Unit → Shared → Prop} (h : Q () s) : wpAny M A (release vs keep) Q E s := fun Γ p _ => by rw [Sem.wp_release]; exact h
section
variable {P : Par} {sc : Scope} {ns : List Str} {hn : Bool} {d : Nat}
noncomputable def pOrV (p q : PE) : PE := fun ρ c K KE => p ρ c (fun a c1 => onB a fun b => (b = true → K (.d (.bool true)) c1) ∧ (b = false → q ρ c1 K KE)) KE
noncomputable def pAndV (p q : PE) : PE := fun ρ c K KE => p ρ c (fun a c1 => onB a fun b => (b = false → K (.d (.bool false)) c1) ∧ (b = true → q ρ c1 K KE)) KE
theorem sound_orV {a b : Expr} {pos : Pos} {p q : PE} (h1 : SoundE P hn d sc ns a p) (h2 : SoundE P hn d sc ns b q) : SoundE P hn d sc ns (.BoolOp .Or [a, b] pos) (pOrV p q) := by
  intro A v s m ρ c x X Q E KQ KE G S hp hQ hE
  show wpAny _ _ (do
    let v ← eval a _
    standAt pos
    let t ← holding [v] (truthy v)
    match BoolOp.Or, t with
    | .And, false | .Or, true => pure v
    | _, _ => eval b _) _ _ _
  refine wpAny_bind (h1 A v s m ρ c x X _ _ _ _ G S hp (fun r c1 vr s1 a1 r1 hp1 => ?_) hE)
  obtain ⟨b, rfl, hp1⟩ := onB_elim hp1
  · have := RelV.bool r1; subst this
    refine wpAny_bind (wpAny_standAt (wpAny_bind (wpAny_holding (wpAny_truthy_bool ?_))))
    cases b with
    | true => exact wpAny_pure (hQ _ _ _ _ a1 (rv_bool _) (hp1.1 rfl))
    | false => exact h2 A v s1 m ρ c1 x X _ _ _ _ G a1.st (hp1.2 rfl) (fun r c2 vl s2 a2 r2 k => hQ _ _ _ _ (a1.trans a2) r2 k) (fun C c' e s' a' ex k => hE C c' e s' (a1.trans a') (ex.earlier a1.absent) k)
theorem sound_andV {a b : Expr} {pos : Pos} {p q : PE} (h1 : SoundE P hn d sc ns a p) (h2 : SoundE P hn d sc ns b q) : SoundE P hn d sc ns (.BoolOp .And [a, b] pos) (pAndV p q) := by
  intro A v s m ρ c x X Q E KQ KE G S hp hQ hE
  show wpAny _ _ (do
    let v ← eval a _
    standAt pos
    let t ← holding [v] (truthy v)
    match BoolOp.And, t with
    | .And, false | .Or, true => pure v
    | _, _ => eval b _) _ _ _
  refine wpAny_bind (h1 A v s m ρ c x X _ _ _ _ G S hp (fun r c1 vr s1 a1 r1 hp1 => ?_) hE)
  obtain ⟨b, rfl, hp1⟩ := onB_elim hp1
  · have := RelV.bool r1; subst this
    refine wpAny_bind (wpAny_standAt (wpAny_bind (wpAny_holding (wpAny_truthy_bool ?_))))
    cases b with
    | false => exact wpAny_pure (hQ _ _ _ _ a1 (rv_bool _) (hp1.1 rfl))
    | true => exact h2 A v s1 m ρ c1 x X _ _ _ _ G a1.st (hp1.2 rfl) (fun r c2 vl s2 a2 r2 k => hQ _ _ _ _ (a1.trans a2) r2 k) (fun C c' e s' a' ex k => hE C c' e s' (a1.trans a') (ex.earlier a1.absent) k)
theorem sound_orT3 {a b e : Expr} {pos : Pos} {p q r : PT} (h1 : SoundT P hn d sc ns a p) (h2 : SoundT P hn d sc ns b q) (h3 : SoundT P hn d sc ns e r) : SoundT P hn d sc ns (.BoolOp .Or [a, b, e] pos) (pOr p (pOr q r)) := by
  intro A v s m ρ c x X Q E KQ KE G S hp hQ hE
  show wpAny _ _ (do
    match BoolOp.Or, ← isTrue a _ (eval a _) with
    | .And, false => pure false
    | .Or, true => pure true
    | _, _ => isTrue (.BoolOp .Or [b, e] pos) (v.env sc) (eval (.BoolOp .Or [b, e] pos) (v.env sc))) _ _ _
  refine wpAny_bind (h1 A v s m ρ c x X _ _ _ _ G S hp (fun r c1 s1 a1 hp1 => ?_) hE)
  cases r with
  | true => exact wpAny_pure (hQ _ _ _ a1 (hp1.1 rfl))
  | false => exact sound_orT h2 h3 A v s1 m ρ c1 x X _ _ _ _ G a1.st (hp1.2 rfl) (fun r c2 s2 a2 k => hQ _ _ _ (a1.trans a2) k) (fun C c' e s' a' ex k => hE C c' e s' (a1.trans a') (ex.earlier a1.absent) k)
noncomputable def pChain (o1 o2 : D → D → AskB) (p q r : PE) : PT := fun ρ c K KE => p ρ c (fun a c1 => q ρ c1 (fun b c2 => onD a fun a => onD b fun b' => o1 a b' fun t => (t = false → K false c2) ∧ (t = true → r ρ c2 (fun e c3 => onD e fun e => o2 b' e fun t => K t c3) KE)) KE) KE
theorem sound_chainT {op1 op2 : CmpOp} {o1 o2 : D → D → AskB} {l r e : Expr} {pos : Pos} {p q u : PE} (hB1 : SoundC P op1 o1) (hB2 : SoundC P op2 o2) (h1 : SoundE P hn d sc ns l p) (h2 : SoundE P hn d sc ns r q) (h3 : SoundE P hn d sc ns e u)
    (hm : ∀ env, markedEach [op1, op2] [r, e] (evalEach [r, e] env) = [eval r env, eval e env]) : SoundT P hn d sc ns (.Compare l [op1, op2] [r, e] pos) (pChain o1 o2 p q u) := by
  intro A v s m ρ c x X Q E KQ KE G S hp hQ hE
  show wpAny _ _ (do testChain pos (← eval l _) [op1, op2] (markedEach [op1, op2] [r, e] (evalEach [r, e] _))) _ _ _
  rw [hm]
  refine wpAny_bind (h1 A v s m ρ c x X _ _ _ _ G S hp (fun a c1 va s1 a1 r1 hp1 => ?_) hE)
  show wpAny _ _ (do
    let rv ← holding [va] (eval r _)
    standAt pos
    let c ← holding [va, rv] (compareOp op1 va rv)
    release [va, rv] [c]
    if ← holding [c, rv] (truthy c) then testChain pos rv [op2] [eval e _] else pure false) _ _ _
  refine wpAny_bind (wpAny_holding (h2 A v s1 m ρ c1 x X _ _ _ _ G a1.st hp1 (fun b c2 vb s2 a2 r2 hp2 => ?_) (fun C c' e s' a' ex k => hE C c' e s' (a1.trans a') (ex.earlier a1.absent) k)))
  have a12 := a1.trans a2
  cases a <;> cases b <;> try exact hp2.elim
  refine wpAny_bind (wpAny_standAt (wpAny_bind (wpAny_holding (hB1 A s2 X _ _ va vb _ _ _ (by have := G.units; walk_at "om") a2.st.xs (Rel.up a2.sure _ _ r1) r2 hp2 fun t k => ?_))))
  refine wpAny_bind (wp_release (wpAny_bind (wpAny_holding (wpAny_truthy_bool ?_))))
  cases t with
  | false => exact wpAny_pure (hQ _ _ _ a12 (k.1 rfl))
  | true =>
    show wpAny _ _ (do
      let rv ← holding [vb] (eval e _)
      standAt pos
      let c ← operate [vb, rv] (compareOp op2 vb rv)
      holding [c] (truthy c)) _ _ _
    refine wpAny_bind (wpAny_holding (h3 A v s2 m ρ c2 x X _ _ _ _ G a2.st (k.2 rfl) (fun y c3 vy s3 a3 r3 hp3 => ?_) (fun C c' e s' a' ex k => hE C c' e s' (a12.trans a') (ex.earlier a12.absent) k)))
    cases y with
    | cell => exact hp3.elim
    | d y =>
    refine wpAny_bind (wpAny_standAt (wpAny_bind (wpAny_operating (hB2 A s3 X _ _ vb vy _ _ _ (by have := G.units; walk_at "om") a3.st.xs (Rel.up a3.sure _ _ r2) r3 hp3 fun t k => ?_))))
    exact wpAny_holding (wpAny_truthy_bool (hQ _ _ _ (a12.trans a3) k))
end
end
section
-- part M8
open PySem PySem.W PyProof.Rows PySem.Calls PySem.Builtin PySem.Builtin.Str
noncomputable abbrev Env1 := List (Option SV)
noncomputable abbrev PS := Env1 → CO → (Env1 → CO → Prop) → (SV → CO → Prop) → (Env1 → Addr → CO → Prop) → Prop
noncomputable def FV.Own (v : FV) (sc : Scope) : Prop := ∃ outer, v.fs = v.env sc :: outer ∧ v.fm = some v.L
structure AftS (P : Par) (sc : Scope) (v : FV) (ns : List Str) (ρ' : Env1) (x : Cl) (X : List Addr) (x' : Cl) (X' : List Addr) (m' : Names) (s : Shared) (c' : CO) (s' : Shared) : Prop where
  rest : Rest s s'
  st : St P sc v ns ρ' c' x' X' m' s'.heap
  kept : Kept (v.L :: x.toList.map (·.2)) s.heap s'.heap
  ext : ∀ b ∈ X, b ∈ X'
  new : ∀ b ∈ X', b ∈ X ∨ s.heap.get? b = none
  same : x' = x ∨ (x = none ∧ ∀ p, x' = some p → s.heap.get? p.2 = none)
noncomputable def SoundS (P : Par) (hn : Bool) (d : Nat) (sc : Scope) (ns : List Str) (st : Stmt) (p : PS) : Prop :=
  ∀ (A : Around) (v : FV) (s : Shared) (m : Names) (ρ : Env1) (c : CO) (x : Cl) (X : List Addr) (Q : Flow → Shared → Prop) (E : Value → Shared → Prop) (Kn : Env1 → CO → Prop) (Kr : SV → CO → Prop) (Ke : Env1 → Addr → CO → Prop),
    Good A v sc hn d → v.Own sc → St P sc v ns ρ c x X m s.heap → p ρ c Kn Kr Ke →
    (∀ ρ' c' m' x' X' s', AftS P sc v ns ρ' x X x' X' m' s c' s' → Kn ρ' c' → Q .next s') →
    (∀ r ρ' c' m' x' X' val s', AftS P sc v ns ρ' x X x' X' m' s c' s' → RelV x' X' s'.heap r val → Kr r c' → Q (.ret val) s') →
    (∀ C ρ' c' m' x' X' e s', AftS P sc v ns ρ' x X x' X' m' s c' s' → ExcAt s.heap s'.heap e C → Ke ρ' C c' → E (.ref e) s') →
    wpAny (model P.prog P.w) A (exec st (v.env sc)) Q E s
noncomputable def SoundSs (P : Par) (hn : Bool) (d : Nat) (sc : Scope) (ns : List Str) (st : List Stmt) (p : PS) : Prop :=
  ∀ (A : Around) (v : FV) (s : Shared) (m : Names) (ρ : Env1) (c : CO) (x : Cl) (X : List Addr) (Q : Flow → Shared → Prop) (E : Value → Shared → Prop) (Kn : Env1 → CO → Prop) (Kr : SV → CO → Prop) (Ke : Env1 → Addr → CO → Prop),
    Good A v sc hn d → v.Own sc → St P sc v ns ρ c x X m s.heap → p ρ c Kn Kr Ke →
    (∀ ρ' c' m' x' X' s', AftS P sc v ns ρ' x X x' X' m' s c' s' → Kn ρ' c' → Q .next s') →
    (∀ r ρ' c' m' x' X' val s', AftS P sc v ns ρ' x X x' X' m' s c' s' → RelV x' X' s'.heap r val → Kr r c' → Q (.ret val) s') →
    (∀ C ρ' c' m' x' X' e s', AftS P sc v ns ρ' x X x' X' m' s c' s' → ExcAt s.heap s'.heap e C → Ke ρ' C c' → E (.ref e) s') →
    wpAny (model P.prog P.w) A (execs st (v.env sc)) Q E s
section
variable {P : Par} {sc : Scope} {v : FV} {ns : List Str} {ρ ρ' ρ'' : Env1} {x x' x'' : Cl} {X X' X'' : List Addr} {m m' m'' : Names} {s s' s'' : Shared} {c c' c'' : CO} {hn : Bool} {d : Nat} {A : Around}
theorem Aft.toS (a : Aft P sc v ns ρ x X m s c' s') : AftS P sc v ns ρ x X x X m s c' s' := ⟨a.rest, a.st, a.kept.more fun _ h => .tail _ h, fun _ h => h, fun _ h => .inl h, .inl rfl⟩
theorem AftS.refl (S : St P sc v ns ρ c x X m s.heap) : AftS P sc v ns ρ x X x X m s c s := ⟨.refl s, S, Kept.refl _ _, fun _ h => h, fun _ h => .inl h, .inl rfl⟩
theorem St.sub' {h : Heap} (S : St P sc v ns ρ c x X m h) : ∀ b, b ∈ x.toList.map (·.2) → b ∈ X := fun b q => by
  cases x with
  | none => cases q
  | some p =>
    rcases List.mem_cons.mp q with q | q
    · rw [q]; exact (CellAt.there rfl c S.cell).1
    · cases q
theorem AftS.xIn (a : AftS P sc v ns ρ' x X x' X' m' s c' s') : ∀ b, b ∈ v.L :: x.toList.map (·.2) → b ∈ X' := fun b q => by
  rcases List.mem_cons.mp q with rfl | q
  · exact a.st.lX
  · rcases a.same with e | ⟨e, _⟩
    · subst e; exact a.st.sub' b q
    · subst e; cases q
theorem AftS.absent (a : AftS P sc v ns ρ' x X x' X' m' s c' s') : ∀ b, s'.heap.get? b = none → s.heap.get? b = none := fun b e => by
  cases q : s.heap.get? b with
  | none => rfl
  | some o =>
    exfalso
    by_cases hx : b ∈ v.L :: x.toList.map (·.2)
    · obtain ⟨o, h⟩ := a.st.xs b (a.xIn b hx)
      rw [h] at e; cases e
    · obtain ⟨sl, e1, _⟩ := a.kept _ _ q hx
      rw [e] at e1; cases e1
theorem AftS.trans (a : AftS P sc v ns ρ' x X x' X' m' s c' s') (b : AftS P sc v ns ρ'' x' X' x'' X'' m'' s' c'' s'') : AftS P sc v ns ρ'' x X x'' X'' m'' s c'' s'' where
  rest := a.rest.trans b.rest
  st := b.st
  kept := fun y o e n => by
    obtain ⟨s1, e1, f1⟩ := a.kept y o e n
    obtain ⟨s2, e2, f2⟩ := b.kept y _ e1 fun q => by
      rcases List.mem_cons.mp q with rfl | q
      · exact n (.head _)
      · rcases a.same with h | ⟨h, h2⟩
        · subst h; exact n (.tail _ q)
        · cases x' with
          | none => cases q
          | some p =>
            rcases List.mem_cons.mp q with q | q
            · exact (neG (h2 p rfl) e) q
            · cases q
    exact ⟨s2, e2, fun hf => (f2 hf).trans (f1 hf)⟩
  ext := fun y h => b.ext y (a.ext y h)
  new := fun y h => (b.new y h).elim (fun h => a.new y h) fun h => .inr (a.absent y h)
  same := by
    rcases b.same with h | ⟨h, h2⟩
    · subst h; exact a.same
    · rcases a.same with g | ⟨g, g2⟩
      · subst g; exact .inr ⟨h, fun p hp => a.absent _ (h2 p hp)⟩
      · exact .inr ⟨g, fun p hp => a.absent _ (h2 p hp)⟩
theorem AftS.grow (a : AftS P sc v ns ρ' x X x' X' m' s c' s') (g : Grow s' s'') : AftS P sc v ns ρ' x X x' X' m' s c' s'' :=
  ⟨a.rest.trans g.1, a.st.grow g.2, a.kept.trans (g.kept _), a.ext, a.new, a.same⟩
theorem AftS.sure (a : AftS P sc v ns ρ' x X x' X' m' s c' s') : Sure X' s.heap s'.heap := (a.kept.more a.xIn).sure
theorem AftS.aside (a : AftS P sc v ns ρ' x X x' X' m' s c' s') : ∀ b o, s.heap.get? b = some o → b ∉ X → b ∉ X' := fun b o e n q => by
  rcases a.new b q with h | h
  · exact n h
  · rw [h] at e; cases e
theorem AftS.rel (a : AftS P sc v ns ρ' x X x' X' m' s c' s') {y : D} {val : Value} (r : Rel X s.heap y val) : Rel X' s'.heap y val := Rel.up a.sure _ _ (Rel.aside a.aside _ _ r)
theorem AftS.relL (a : AftS P sc v ns ρ' x X x' X' m' s c' s') {y : List D} {val : List Value} (r : RelL X s.heap y val) : RelL X' s'.heap y val := RelL.up a.sure _ _ (RelL.aside a.aside _ _ r)
theorem AftS.noted (a : AftS P sc v ns ρ' x X x' X' m' s c' s') {h' : Heap} (n : Noted P.base s.heap s'.heap h') : AftS P sc v ns ρ' x X x' X' m' s c' { s' with heap := h' } where
  rest := a.rest
  st := a.st.up (n.sure.more fun _ q => nomatch q) (fun b hb ⟨o, e⟩ => by
      by_cases q : s.heap.get? b = none
      · by_cases f : ∀ vs, o.data ≠ .fields vs
        · obtain ⟨sl, e'⟩ := n.sure b o e f (fun q => nomatch q); exact ⟨_, e'⟩
        · obtain ⟨sl, e'⟩ := n.alive b o e; exact ⟨_, e'⟩
      · obtain ⟨sl, e', _⟩ := n.old b o q e; exact ⟨_, e'⟩) n.base (a.st.cell.up n.sure)
  kept := fun b o e nb => by
    obtain ⟨s1, e1, f1⟩ := a.kept b o e nb
    obtain ⟨s2, e2, f2⟩ := n.old b _ (by rw [e]; exact nofun) e1
    exact ⟨s2, e2, fun hf => (f2 hf).trans (f1 hf)⟩
  ext := a.ext
  new := a.new
  same := a.same
end
end
section
-- part M9
open PySem PySem.W PyProof.Rows PySem.Calls PySem.Builtin PySem.Builtin.Str
theorem CellAt.shift {x : Cl} {X Y : List Addr} {h h' : Heap} (k : Sure Y h h') (hY : ∀ b ∈ Y, b ∈ X) (hp : ∀ p, x = some p → p.1 ∉ Y ∧ p.2 ∉ Y) (c : CO) (r : CellAt x X h c) : CellAt x X h' c :=
  CellAt.move (fun p e b o hb ho f => k b o ho f (hb.elim (fun q => q ▸ (hp p e).1) (fun q => q ▸ (hp p e).2))) (fun _ _ q => q) (fun b o e f n => ⟨n, k b o e f fun q => n (hY _ q)⟩) c r
theorem idx_inj {l : List Str} (h : l.Nodup) {i j : Nat} {y : Str} (hi : l[i]? = some y) (hj : l[j]? = some y) : i = j :=
  (List.getElem?_inj (List.getElem?_eq_some_iff.mp hi).1 h).mp (hi.trans hj.symm)
theorem relL_reverse {X h} {l : List D} {vs : List Value} (r : RelL X h l vs) : RelL X h l.reverse vs.reverse := by
  induction l generalizing vs with
  | nil => unfold RelL at r; subst r; show RelL X h [] []; unfold RelL; rfl
  | cons y l ih =>
    unfold RelL at r
    obtain ⟨v, t, rfl, h1, h2⟩ := r
    rw [List.reverse_cons, List.reverse_cons]
    refine relL_append (ih h2) ?_
    unfold RelL
    exact ⟨v, [], rfl, h1, by unfold RelL; rfl⟩
section
variable {P : Par} {sc : Scope} {v : FV} {ns : List Str} {ρ ρ' ρ'' : Env1} {x x' x'' : Cl} {X X' X'' : List Addr} {m m' m'' : Names} {s s' s'' : Shared} {c c' c'' : CO} {hn : Bool} {d : Nat} {A : Around}
theorem store_ok {M : Model} {n : Str} {i : Nat} {sv : SV} {val : Value} {Q : Unit → Shared → Prop} {E : Value → Shared → Prop} (hk : sc.kind = .function) (hl : sc.names.lookup n = some .local) (hi : ns[i]? = some n) (hnd : ns.Nodup)
    (S : St P sc v ns ρ c x X m s.heap) (hv : RelV x X s.heap sv val)
    (h : ∀ m' s', AftS P sc v ns (ρ.set i (some sv)) x X x X m' s c s' → Q () s') : wpAny M A (storeName (v.env sc) n val) Q E s := by
  refine wpAny_storeName_local hl S.fr.ns (fun h' hn' hs => ?_) (by show (sc.kind == .class || (sc.kind == .module && v.L != mainGlobals)) = false; rw [hk]; rfl)
  have up : ∀ b o, s.heap.get? b = some o → b ≠ v.L → h'.get? b = some o := fun b o e nb => by rw [hs.2 b nb]; exact e
  have kp : Kept [v.L] s.heap h' := fun b o e nb => ⟨o.slots, up b o e fun q => nb (by rw [q]; exact .head _), fun _ => rfl⟩
  have hLX : ∀ b ∈ [v.L], b ∈ X := fun b hb => by rcases List.mem_cons.mp hb with rfl | hb; exact S.lX; cases hb
  have kX : Sure X s.heap h' := (kp.more hLX).sure
  refine h (fun y => if y = n then some val else m y) { s with heap := h', toks := s.toks + 1 } ⟨⟨rfl, rfl, rfl⟩, ?_, kp.more (fun b hb => by
    rcases List.mem_cons.mp hb with rfl | hb
    · exact .head _
    · cases hb), fun _ h => h, fun _ h => .inl h, .inl rfl⟩
  have hn'' := hn'
  obtain ⟨oL, es, ep, h1, h2, _⟩ := hn''
  refine ⟨⟨hn', fun b o e => up b o (S.fr.keep b o e) (neG (S.xb _ S.lX) e)⟩, ?_, ?_, S.lX, S.xL, fun b hb => ?_, S.xb, fun j n' sv' hj hρ => ?_⟩
  · refine funFrames_alive (fun b o e hd => ?_) S.ff
    by_cases q : b = v.L
    · subst q; exact ⟨oL, h1, by rw [h2]; exact fun _ q => nomatch q⟩
    · exact ⟨o, up b o e q, hd⟩
  · refine CellAt.shift kp.sure hLX (fun p hp => ?_) c S.cell
    have := S.xL p hp
    exact ⟨fun q => this.1 (List.mem_singleton.mp q), fun q => this.2 (List.mem_singleton.mp q)⟩
  · by_cases q : b = v.L
    · subst q; exact ⟨_, h1⟩
    · obtain ⟨o, e⟩ := S.xs b hb
      exact ⟨o, up b o e q⟩
  · by_cases q : i = j
    · subst q
      have hnn : n' = n := by rw [hi] at hj; exact (Option.some.inj hj).symm
      subst hnn
      have hlt : i < ρ.length := by
        by_cases hlt : i < ρ.length
        · exact hlt
        · rw [List.set_eq_of_length_le (by walk_at "om"), List.getElem?_eq_none (by walk_at "om")] at hρ; cases hρ
      rw [List.getElem?_set_self hlt] at hρ
      cases hρ
      exact ⟨val, .inl ⟨hl, if_pos rfl⟩, RelV.up kX _ _ hv⟩
    · rw [List.getElem?_set_ne q] at hρ
      obtain ⟨val', hlk, hr⟩ := S.loc j n' sv' hj hρ
      refine ⟨val', ?_, RelV.up kX _ _ hr⟩
      have hne : n' ≠ n := fun e => by subst e; exact q (idx_inj hnd hi hj)
      rcases hlk with ⟨a, b⟩ | ⟨a, y, o, h3, h4, h5, h6⟩
      · exact .inl ⟨a, (if_neg hne).trans b⟩
      · obtain ⟨sl, h7⟩ := kX y o h4 (by rw [h5]; exact fun _ q => nomatch q) h6
        exact .inr ⟨a, y, _, h3, h7, h5, h6⟩
noncomputable def setAll : List Nat → List D → Env1 → Env1
  | i :: is, y :: ys, ρ => setAll is ys (ρ.set i (some (.d y)))
  | _, _, ρ => ρ
inductive Stores (env : Env) (sc : Scope) (ns : List Str) : List (Value → Sem Unit) → List Nat → Prop where
  | nil : Stores env sc ns [] []
  | cons {t ts i is n} : (∀ (M : Model) (A : Around) (E : Value → Shared → Prop) (s : Shared) (v : Value) (Q : Unit → Shared → Prop), wpAny M A (storeName env n v) Q E s → wpAny M A (t v) Q E s) → ns[i]? = some n → sc.names.lookup n = some .local → Stores env sc ns ts is → Stores env sc ns (t :: ts) (i :: is)
theorem storeAll_ok {M : Model} {E : Value → Shared → Prop} (hk : sc.kind = .function) (hnd : ns.Nodup) : ∀ {ts : List (Value → Sem Unit)} {is : List Nat} {l : List D} {vs : List Value} {s : Shared} {m : Names} {ρ : Env1} {Q : Unit → Shared → Prop}, Stores (v.env sc) sc ns ts is → is.length = l.length →
    St P sc v ns ρ c x X m s.heap → RelL X s.heap l vs → (∀ m' s', AftS P sc v ns (setAll is l ρ) x X x X m' s c s' → Q () s') → wpAny M A (assignInOrder ts vs) Q E s := by
  intro ts is l vs s m ρ Q hT
  induction hT generalizing l vs s m ρ Q with
  | nil => intro e S r h; cases l with
    | nil => unfold RelL at r; subst r; exact assignInOrder_nil (h _ _ (.refl S))
    | cons => cases e
  | cons ht hi hl hr ih => intro e S r h; cases l with
    | nil => cases e
    | cons y l =>
      unfold RelL at r
      obtain ⟨w, t, rfl, r1, r2⟩ := r
      refine assignInOrder_cons (ht _ _ _ _ _ _ (store_ok (sv := .d y) hk hl hi hnd S r1 fun m1 s1 a1 => ?_))
      exact ih (Nat.succ.inj e) a1.st (a1.relL r2) fun m2 s2 a2 => h _ _ (a1.trans a2)
theorem draw_list {it l : Addr} {items : Array Value} {E : Value → Shared → Prop} {prog : Program} {w : World} (hne : l ≠ it) : ∀ (n i : Nat) (s : Shared) (Q : List Value → Shared → Prop), s.heap.IsListIter it l i → s.heap.IsList l items → i + n ≤ items.size →
    (∀ h', h'.IsListIter it l (i + n) → Heap.SameBut it s.heap h' → Q ((items.toList.drop i).take n) { s with heap := h' }) → wpAny (model prog w) A (draw (.ref it) n) Q E s
  | 0, i, s, Q, hit, _, _, hQ => by
    show wpAny _ _ (pure []) Q E s
    exact wpAny_pure (by simpa using hQ s.heap hit (Heap.SameBut.refl ..))
  | n + 1, i, s, Q, hit, ht, hle, hQ => by
    have hlt : i < items.size := by walk_at "om"
    show wpAny _ _ (pyNext (.ref it) >>= _) Q E s
    refine wpAny_bind (wpAny_pyNext_list_item hit ht (x := items[i]) (by simp [hlt]) fun h₁ hit₁ hs₁ => ?_)
    refine wpAny_bind (wpAny_holding (draw_list hne n (i + 1) _ _ hit₁ (ht.extBut hs₁.extBut hne) (by walk_at "om") fun h₂ hit₂ hs₂ => wpAny_pure ?_))
    have hd : items.toList.drop i = items[i] :: items.toList.drop (i + 1) := by simp [List.drop_eq_getElem_cons, hlt]
    have := hQ h₂ (by rw [show i + (n + 1) = i + 1 + n by walk_at "om"]; exact hit₂) (hs₁.trans hs₂)
    rw [hd, List.take_succ_cons] at this
    exact this
theorem unpackItems_list {l : Addr} {items : Array Value} {prog : Program} {w : World} {E : Value → Shared → Prop} {Q : List Value → Shared → Prop} (hh : A.handled = none) (hl : s.heap.IsList l items)
    (hQ : ∀ h', Heap.ExtBut s.heap.objs.size s.heap h' → Q items.toList { s with heap := h' }) : wpAny (model prog w) A (unpackItems (.ref l) items.size none) Q E s := by
  have hlt : l ≠ s.heap.objs.size := by obtain ⟨o, ho, _⟩ := hl; exact Nat.ne_of_lt (Heap.lt_size ho)
  unfold unpackItems
  refine wpAny_bind ?_
  · unfold notIterableAtAll
    refine wpAny_bind (wpAny_specialOf hl.typeIs slot_list_iter.lookup ?_)
    refine wpAny_pure ?_
    simp only [Bool.false_eq_true, if_false]
    refine wpAny_bind (wpAny_holding (wpAny_pyIter_list hl ?_))
    refine wpAny_bind (wpAny_holding (draw_list hlt items.size 0 _ _ ⟨_, Heap.get?_push_size _ rfl, rfl, rfl⟩ (hl.push _) (by walk_at "om") fun h₁ hit₁ hs₁ => ?_))
    have hall : List.take items.size (List.drop 0 items.toList) = items.toList := by
      rw [List.drop_zero]; exact List.take_of_length_le (by simp)
    rw [hall]
    rw [if_neg (by simp)]
    have hl₁ : h₁.IsList l items := (hl.push _).extBut hs₁.extBut hlt
    refine wpAny_bind (wpAny_holding (wpAny_pyNext_list_end hh hit₁ hl₁ (by simp) fun h₂ he₂ => ?_))
    simp only [Option.isSome_none, Bool.false_eq_true, if_false]
    refine wpAny_pure (hQ h₂ fun b o hb e => he₂ b o hb (hs₁.extBut b o hb (Heap.get?_push_of_some _ e)))
noncomputable def itemsOf : SV → Option (List D)
  | .d (.tup l) => some l
  | .d (.lst l) => some l
  | _ => none
theorem itemsOf_inv {r : SV} {l : List D} (h : itemsOf r = some l) : r = .d (.tup l) ∨ r = .d (.lst l) := by
  cases r with
  | cell => cases h
  | d y => cases y with
    | tup k => cases h; exact .inl rfl
    | lst k => cases h; exact .inr rfl
    | _ => cases h
theorem unpack_okL {E : Value → Shared → Prop} {r : SV} {l : List D} {val : Value} {Q : List Value → Shared → Prop} (hh : A.handled = none) (S : St P sc v ns ρ c x X m s.heap) (hr : itemsOf r = some l) (rel : RelV x X s.heap r val)
    (h : ∀ vs s', Aft P sc v ns ρ x X m s c s' → RelL X s'.heap l vs → vs.length = l.length → Q vs s') : wpAny (model P.prog P.w) A (unpackItems val l.length none) Q E s := by
  rcases itemsOf_inv hr with rfl | rfl
  · skip
    have rel : Rel X s.heap (.tup l) val := rel
    unfold Rel at rel
    obtain ⟨a, o, vs, n, rfl, _, ho, hc, hd, hr⟩ := rel
    have e : vs.size = l.length := by simpa using relL_length hr
    rw [← e]
    refine unpackItems_tuple hh ⟨o, ho, hc, n, hd⟩ fun h' he => ?_
    have g : Grow s { s with heap := h' } := ⟨⟨rfl, rfl, rfl⟩, fun b o q => he b o (Nat.ne_of_lt (Heap.lt_size q)) q⟩
    exact h _ _ ((Aft.refl S).grow g) (RelL.up (g.sure _) _ _ hr) (by simpa using e)
  · skip
    have rel : Rel X s.heap (.lst l) val := rel
    unfold Rel at rel
    obtain ⟨a, o, vs, n, rfl, _, ho, hc, hd, hr⟩ := rel
    have e : vs.size = l.length := by simpa using relL_length hr
    rw [← e]
    refine unpackItems_list hh ⟨o, ho, hc, n, hd⟩ fun h' he => ?_
    have g : Grow s { s with heap := h' } := ⟨⟨rfl, rfl, rfl⟩, fun b o q => he b o (Nat.ne_of_lt (Heap.lt_size q)) q⟩
    exact h _ _ ((Aft.refl S).grow g) (RelL.up (g.sure _) _ _ hr) (by simpa using e)
theorem unpack_ok {E : Value → Shared → Prop} {l : List D} {val : Value} {Q : List Value → Shared → Prop} (hh : A.handled = none) (S : St P sc v ns ρ c x X m s.heap) (r : Rel X s.heap (.tup l) val)
    (h : ∀ vs s', Aft P sc v ns ρ x X m s c s' → RelL X s'.heap l vs → vs.length = l.length → Q vs s') : wpAny (model P.prog P.w) A (unpackItems val l.length none) Q E s :=
  unpack_okL hh S (r := .d (.tup l)) rfl r h
end
noncomputable def pSkip : PS := fun ρ c Kn _ _ => Kn ρ c
noncomputable def pSeq (p q : PS) : PS := fun ρ c Kn Kr Ke => p ρ c (fun ρ' c' => q ρ' c' Kn Kr Ke) Kr Ke
noncomputable def pAsg (i : Nat) (p : PE) : PS := fun ρ c Kn _ Ke => p ρ c (fun r c1 => Kn (ρ.set i (some r)) c1) (Ke ρ)
noncomputable def pRet (p : PE) : PS := fun ρ c _ Kr Ke => p ρ c Kr (Ke ρ)
noncomputable def pIfS (t : PT) (a b : PS) : PS := fun ρ c Kn Kr Ke => t ρ c (fun r c1 => (r = true → a ρ c1 Kn Kr Ke) ∧ (r = false → b ρ c1 Kn Kr Ke)) (Ke ρ)
noncomputable def pUnp (is : List Nat) (p : PE) : PS := fun ρ c Kn _ Ke => p ρ c (fun r c1 => oSome (itemsOf r) fun l => ifB (sameLen is l) (Kn (setAll is l ρ) c1)) (Ke ρ)
noncomputable def pSwp (is : List Nat) (p : PE) : PS := fun ρ c Kn _ Ke => p ρ c (fun r c1 => onT r fun l => ifB (sameLen is l) (Kn (setAll is.reverse l.reverse ρ) c1)) (Ke ρ)
noncomputable def pExp (p : PE) : PS := fun ρ c Kn _ Ke => p ρ c (fun _ c1 => Kn ρ c1) (Ke ρ)
noncomputable def pInc (i : Nat) (p : PE) : PS := fun ρ c Kn _ Ke => oSome (ρ[i]?) fun o => oSome o fun sv => onI sv fun a => p ρ c (fun r c1 => onI r fun b => Kn (ρ.set i (some (.d (.int (a + b))))) c1) (Ke ρ)
section
variable {P : Par} {sc : Scope} {ns : List Str} {hn : Bool} {d : Nat}
theorem ss_nil : SoundSs P hn d sc ns [] pSkip := by
  intro A v s m ρ c x X Q E Kn Kr Ke G O S hp hQ hR hE
  exact wpAny_execs_nil (hQ _ _ _ _ _ _ (.refl S) hp)
theorem ss_cons {st : Stmt} {rest : List Stmt} {p q : PS} (h1 : SoundS P hn d sc ns st p) (h2 : SoundSs P hn d sc ns rest q) : SoundSs P hn d sc ns (st :: rest) (pSeq p q) := by
  intro A v s m ρ c x X Q E Kn Kr Ke G O S hp hQ hR hE
  refine wpAny_execs_cons (h1 A v s m ρ c x X _ _ _ _ _ G O S hp (fun ρ1 c1 m1 x1 X1 s1 a1 hp1 => ?_) (fun r ρ1 c1 m1 x1 X1 val s1 a1 rel k => hR _ _ _ _ _ _ _ _ a1 rel k) hE)
  exact h2 A v s1 m1 ρ1 c1 x1 X1 _ _ _ _ _ G O a1.st hp1 (fun ρ2 c2 m2 x2 X2 s2 a2 k => hQ _ _ _ _ _ _ (a1.trans a2) k) (fun r ρ2 c2 m2 x2 X2 val s2 a2 rel k => hR _ _ _ _ _ _ _ _ (a1.trans a2) rel k)
    (fun C ρ2 c2 m2 x2 X2 e s2 a2 ex k => hE _ _ _ _ _ _ _ _ (a1.trans a2) (ex.earlier a1.absent) k)
theorem s_asg {n : Str} {np pos : Pos} {e : Expr} {i : Nat} {p : PE} (h1 : SoundE P hn d sc ns e p) (hi : ns[i]? = some n) (hl : sc.names.lookup n = some .local) (hnd : ns.Nodup) (hs : ∀ env, swapsWith e (some (.Name n np)) pos.line env = pure false) :
    SoundS P hn d sc ns (.Assign [.Name n np] e pos) (pAsg i p) := by
  intro A v s m ρ c x X Q E Kn Kr Ke G O S hp hQ hR hE
  refine wpAny_Assign_Name (h1 A v s m ρ c x X _ _ _ _ G S hp (fun r c1 val s1 a1 rel hp1 => ?_) (fun C c1 e s1 a1 ex k => hE _ _ _ _ _ _ _ _ a1.toS ex k)) (hs _)
  exact store_ok G.kind hl hi hnd a1.st rel fun m2 s2 a2 => hQ _ _ _ _ _ _ (a1.toS.trans a2) hp1
theorem s_ret {e : Expr} {pos : Pos} {p : PE} (h1 : SoundE P hn d sc ns e p) : SoundS P hn d sc ns (.Return (some e) pos) (pRet p) := by
  intro A v s m ρ c x X Q E Kn Kr Ke G O S hp hQ hR hE
  exact wpAny_Return_some (h1 A v s m ρ c x X _ _ _ _ G S hp (fun r c1 val s1 a1 rel hp1 => hR _ _ _ _ _ _ _ _ a1.toS rel hp1) (fun C c1 e s1 a1 ex k => hE _ _ _ _ _ _ _ _ a1.toS ex k))
theorem s_if {t : Expr} {a b : List Stmt} {pos : Pos} {pt : PT} {p q : PS} (h0 : SoundT P hn d sc ns t pt) (h1 : SoundSs P hn d sc ns a p) (h2 : SoundSs P hn d sc ns b q) : SoundS P hn d sc ns (.If t a b pos) (pIfS pt p q) := by
  intro A v s m ρ c x X Q E Kn Kr Ke G O S hp hQ hR hE
  refine wpAny_If (h0 A v s m ρ c x X _ _ _ _ G S hp (fun r c1 s1 a1 hp1 => ?_) (fun C c1 e s1 a1 ex k => hE _ _ _ _ _ _ _ _ a1.toS ex k))
  cases r with
  | true =>
    exact h1 A v s1 m ρ c1 x X _ _ _ _ _ G O a1.st (hp1.1 rfl) (fun ρ2 c2 m2 x2 X2 s2 a2 k => hQ _ _ _ _ _ _ (a1.toS.trans a2) k) (fun r ρ2 c2 m2 x2 X2 val s2 a2 rel k => hR _ _ _ _ _ _ _ _ (a1.toS.trans a2) rel k)
      (fun C ρ2 c2 m2 x2 X2 e s2 a2 ex k => hE _ _ _ _ _ _ _ _ (a1.toS.trans a2) (ex.earlier a1.absent) k)
  | false =>
    exact h2 A v s1 m ρ c1 x X _ _ _ _ _ G O a1.st (hp1.2 rfl) (fun ρ2 c2 m2 x2 X2 s2 a2 k => hQ _ _ _ _ _ _ (a1.toS.trans a2) k) (fun r ρ2 c2 m2 x2 X2 val s2 a2 rel k => hR _ _ _ _ _ _ _ _ (a1.toS.trans a2) rel k)
      (fun C ρ2 c2 m2 x2 X2 e s2 a2 ex k => hE _ _ _ _ _ _ _ _ (a1.toS.trans a2) (ex.earlier a1.absent) k)
theorem s_exp {e : Expr} {pos : Pos} {p : PE} (h1 : SoundE P hn d sc ns e p) (hs : ∀ env, swapsWith e none pos.line env = pure false) : SoundS P hn d sc ns (.Expr e pos) (pExp p) := by
  intro A v s m ρ c x X Q E Kn Kr Ke G O S hp hQ hR hE
  exact wpAny_Expr_any (h1 A v s m ρ c x X _ _ _ _ G S hp (fun r c1 val s1 a1 rel hp1 => hQ _ _ _ _ _ _ a1.toS hp1) (fun C c1 e s1 a1 ex k => hE _ _ _ _ _ _ _ _ a1.toS ex k))
    (by show (decide (sc.kind = _) && _) = false; rw [G.kind]; rfl) (hs _)
theorem s_unp {elts : List Expr} {k : Nat} {tp pos : Pos} {e : Expr} {is : List Nat} {p : PE} (h1 : SoundE P true d sc ns e p) (hnd : ns.Nodup)
    (ht : ∀ env : Env, env.scope = sc → Stores env sc ns ((assignEach elts env).map (·.2)) is) (hst : ∀ env, (assignEach elts env).findIdx? (·.1) = none)
    (hs : ∀ env, swapsWithSole [.Tuple elts k tp] e pos.line env = pure false) (hw : ∀ env, swappedStores [.Tuple elts k tp] e env = pure none) :
    SoundS P true d sc ns (.Assign [.Tuple elts k tp] e pos) (pUnp is p) := by
  intro A v s m ρ c x X Q E Kn Kr Ke G O S hp hQ hR hE
  refine Assign_Tuple (h1 A v s m ρ c x X _ _ _ _ G S hp (fun r c1 val s1 a1 rel hp1 => ?_) (fun C c1 e s1 a1 ex k => hE _ _ _ _ _ _ _ _ a1.toS ex k)) (hs _) (hw _)
  obtain ⟨l, hl, hp1⟩ := oSome_elim hp1
  · replace hp1 := ifB_len hp1
    have hT := ht (v.env sc) rfl
    have hlen : (assignEach elts (v.env sc)).length = l.length := by
      have : ∀ {ts : List (Value → Sem Unit)} {is : List Nat}, Stores (v.env sc) sc ns ts is → ts.length = is.length := by
        intro ts is h; induction h with
        | nil => rfl
        | cons _ _ _ _ ih => simp [ih]
      have := this hT
      rw [List.length_map] at this
      rw [this, hp1.1]
    refine wpAny_bind (wpAny_standAt ?_)
    unfold unpack
    rw [hlen, hst]
    refine wpAny_bind (wpAny_holding (unpack_okL (G.handled rfl) a1.st hl rel fun vs s2 a2 r2 _ => ?_))
    exact storeAll_ok G.kind hnd hT hp1.1 a2.st r2 fun m3 s3 a3 => hQ _ _ _ _ _ _ ((a1.trans a2).toS.trans a3) hp1.2
theorem s_swp {elts : List Expr} {k : Nat} {tp pos : Pos} {e : Expr} {is : List Nat} {names : List Str} {p : PE} (h1 : SoundE P true d sc ns e p) (hnd : ns.Nodup)
    (ht : ∀ env : Env, env.scope = sc → Stores env sc ns (names.reverse.map fun n => bindName env n) is.reverse)
    (hs : ∀ env, swapsWithSole [.Tuple elts k tp] e pos.line env = pure false) (hw : ∀ env : Env, env.scope = sc → swappedStores [.Tuple elts k tp] e env = pure (some names)) :
    SoundS P true d sc ns (.Assign [.Tuple elts k tp] e pos) (pSwp is p) := by
  intro A v s m ρ c x X Q E Kn Kr Ke G O S hp hQ hR hE
  refine Assign_Tuple_swapped (names := names) (h1 A v s m ρ c x X _ _ _ _ G S hp (fun r c1 val s1 a1 rel hp1 => ?_) (fun C c1 e s1 a1 ex k => hE _ _ _ _ _ _ _ _ a1.toS ex k)) (hs _) (hw _ rfl)
  obtain ⟨l, rfl, hp1⟩ := onT_elim hp1
  · replace hp1 := ifB_len hp1
    have hT := ht (v.env sc) rfl
    have hlen : names.length = l.length := by
      have : ∀ {ts : List (Value → Sem Unit)} {is : List Nat}, Stores (v.env sc) sc ns ts is → ts.length = is.length := by
        intro ts is h; induction h with
        | nil => rfl
        | cons _ _ _ _ ih => simp [ih]
      have := this hT
      simp only [List.length_map, List.length_reverse] at this
      rw [this, hp1.1]
    rw [hlen]
    refine unpack_ok (G.handled rfl) a1.st rel fun vs s2 a2 r2 _ => ?_
    refine storeAll_ok G.kind hnd hT (by simpa using hp1.1) a2.st (l := l.reverse) ?_ fun m3 s3 a3 => hQ _ _ _ _ _ _ ((a1.trans a2).toS.trans a3) hp1.2
    exact relL_reverse r2
theorem s_inc {n : Str} {np pos : Pos} {e : Expr} {i : Nat} {p : PE} (h1 : SoundE P hn d sc ns e p) (hi : ns[i]? = some n) (hl : sc.names.lookup n = some .local) (hnd : ns.Nodup) :
    SoundS P hn d sc ns (.AugAssign (.Name n np) .Add e pos) (pInc i p) := by
  intro A v s m ρ c x X Q E Kn Kr Ke G O S hp hQ hR hE
  unfold pInc at hp
  obtain ⟨o, ha, hp⟩ := oSome_elim hp
  obtain ⟨sv, rfl, hp⟩ := oSome_elim hp
  obtain ⟨a, rfl, hp⟩ := onI_elim hp
  · obtain ⟨val, hv, hr⟩ := S.loc i n _ hi ha
    obtain ⟨t, rfl⟩ := RelV.int hr
    rcases hv with ⟨_, hm⟩ | ⟨hk, _⟩
    · refine wpAny_AugAssign_Name (wpAny_loadName_local G.kind hl S.fr.ns hm ?_)
      refine h1 A v s m ρ c x X _ _ _ _ G S hp (fun r c1 val s1 a1 rel hp1 => ?_) (fun C c1 e s1 a1 ex k => hE _ _ _ _ _ _ _ _ a1.toS ex k)
      obtain ⟨b, rfl, hp1⟩ := onI_elim hp1
      · obtain ⟨u, rfl⟩ := RelV.int rel
        have g := Grow.toks s1 (s1.toks + 1)
        refine PySem.AutoIntOps.iadd_0 (store_ok G.kind hl hi hnd (s := { s1 with toks := s1.toks + 1 }) (a1.grow g).st (rv_int _ _) fun m2 s2 a2 => hQ _ _ _ _ _ _ ((a1.grow g).toS.trans a2) hp1)
    · rw [hl] at hk; rcases hk with hk | hk <;> cases hk
end
end
section
-- part M10
open PySem PySem.W PyProof.Rows PySem.Calls PySem.Builtin PySem.Builtin.Str
noncomputable def ownNames : List String := ["enumerate", "zip", "dict_itemiterator", "dict_reverseitemiterator", "odict_iterator", "itertools.zip_longest", "itertools.pairwise"]
structure Iter (P : Par) (A : Around) (I : Addr) (fp : List Addr) (n : Nat) (V : Nat → Value → Prop) (J : Nat → Heap → Prop) : Prop where
  recd : ∀ i h, J i h → ∃ o vs nm, h.get? I = some o ∧ o.data = .fields vs ∧ o.cls = .type nm ∧ ownNames.contains nm = false
  frame : ∀ i h h', J i h → h'.get? I = h.get? I → (∀ b ∈ fp, ∀ o, h.get? b = some o → ∃ sl, h'.get? b = some { o with slots := sl }) → J i h'
  item : ∀ i (s : Shared) (Q : Option Value → Shared → Prop) (E : Value → Shared → Prop), i < n → J i s.heap →
    (∀ v h' tk, V i v → J (i + 1) h' → (∀ b o, b ≠ I → s.heap.get? b = some o → h'.get? b = some o) → Q (some v) { s with heap := h', toks := tk }) → wpAny (model P.prog P.w) A (pyNext (.ref I)) Q E s
  self : ∀ i (s : Shared) (Q : Value → Shared → Prop) (E : Value → Shared → Prop), J i s.heap → Q (.ref I) s → wpAny (model P.prog P.w) A (pyIter (.ref I)) Q E s
  done : ∀ (s : Shared) (Q : Option Value → Shared → Prop) (E : Value → Shared → Prop), J n s.heap →
    (∀ h' tk, (∀ b o, b ≠ I → s.heap.get? b = some o → h'.get? b = some o) → Q none { s with heap := h', toks := tk }) → wpAny (model P.prog P.w) A (pyNext (.ref I)) Q E s
theorem Iter.list {P : Par} {A : Around} (hh : A.handled = none) (I ax : Addr) (hne : ax ≠ I) (items : Array Value) :
    Iter P A I [ax] items.size (fun i v => items[i]? = some v) (fun i h => h.IsListIter I ax i ∧ h.IsList ax items) where
  recd := fun i h st => let ⟨⟨o, ho, hc, hd⟩, _⟩ := st; ⟨o, _, _, ho, hd, hc, by decide⟩
  frame := fun i h h' st hI hk => by
    obtain ⟨⟨o, ho, r⟩, ⟨o2, ho2, hc2, n2, hd2⟩⟩ := st
    obtain ⟨sl, e⟩ := hk ax (.head _) _ ho2
    exact ⟨⟨o, hI.trans ho, r⟩, ⟨_, e, hc2, n2, hd2⟩⟩
  item := fun i s Q E hi st hQ => by
    refine wpAny_pyNext_list_item st.1 st.2 (x := items[i]) (by simp [hi]) fun h' hit' hs' => ?_
    exact hQ _ h' s.toks (by simp [hi]) ⟨hit', st.2.extBut hs'.extBut hne⟩ fun b o hb e => hs'.extBut b o hb e
  self := fun _ _ _ _ st hQ => wpAny_pyIter_listiter st.1 hQ
  done := fun s Q E st hQ => wpAny_pyNext_list_end hh st.1 st.2 (by simp) fun h' he' => hQ h' s.toks fun b o hb e => he' b o hb e
theorem Iter.tuple {P : Par} {A : Around} (hh : A.handled = none) (I ax : Addr) (hne : ax ≠ I) (items : Array Value) :
    Iter P A I [ax] items.size (fun i v => items[i]? = some v) (fun i h => IsTupIter h I ax i ∧ IsTup h ax items) where
  recd := fun i h st => let ⟨⟨o, ho, hc, hd⟩, _⟩ := st; ⟨o, _, _, ho, hd, hc, by decide⟩
  frame := fun i h h' st hI hk => by
    obtain ⟨⟨o, ho, r⟩, ⟨o2, ho2, hc2, n2, hd2⟩⟩ := st
    obtain ⟨sl, e⟩ := hk ax (.head _) _ ho2
    exact ⟨⟨o, hI.trans ho, r⟩, ⟨_, e, hc2, n2, hd2⟩⟩
  item := fun i s Q E hi st hQ => by
    refine next_tuple_item st.1 st.2 (x := items[i]) (by simp [hi]) fun h' hit' hs' => ?_
    exact hQ _ h' s.toks (by simp [hi]) ⟨hit', st.2.extBut hs'.extBut hne⟩ fun b o hb e => hs'.extBut b o hb e
  self := fun _ _ _ _ st hQ => wpAny_pyIter_tupleiter (show Heap.IsTupleIter _ I ax _ from st.1) hQ
  done := fun s Q E st hQ => next_tuple_end hh st.1 st.2 (by simp) fun h' he' => hQ h' s.toks fun b o hb e => he' b o hb e
theorem Iter.range {P : Par} {A : Around} (hh : A.handled = none) (I : Addr) (a : Int) (n : Nat) :
    Iter P A I [] n (fun i v => i < n ∧ ∃ t, v = .int (a + i) t) (fun i h => IsRangeIter h I (a + (i : Nat)) ((n : Int) - (i : Nat)) 1) where
  recd := fun i h st => ⟨_, _, _, st, rfl, rfl, by decide⟩
  frame := fun i h h' st hI hk => hI.trans st
  item := fun i s Q E hi st hQ => by
    refine wpAny_pyNext_range_item st (by walk_at "om") fun h' hit' hs' => ?_
    refine hQ _ h' _ ⟨hi, s.toks, rfl⟩ ?_ fun b o hb e => hs'.extBut b o hb e
    rw [show a + ((i + 1 : Nat) : Int) = a + (i : Int) + 1 by walk_at "om", show (n : Int) - ((i + 1 : Nat) : Int) = (n : Int) - (i : Int) - 1 by walk_at "om"]; exact hit'
  self := fun _ _ _ _ st hQ => wpAny_pyIter_rangeiter st hQ
  done := fun s Q E st hQ => wpAny_pyNext_range_end hh st (by walk_at "om") fun h' he' => hQ h' s.toks fun b o hb e => he' b o hb e
theorem Iter.ascii {P : Par} {A : Around} (hh : A.handled = none) (I : Addr) (y : Str) (t : Tok) :
    Iter P A I [] y.cps.size (SignAt y) (fun i h => h.IsStrIter I "str_ascii_iterator" y t i) where
  recd := fun i h st => let ⟨o, ho, hc, hd⟩ := st; ⟨o, _, _, ho, hd, hc, by decide⟩
  frame := fun i h h' st hI hk => let ⟨o, ho, r⟩ := st; ⟨o, hI.trans ho, r⟩
  item := fun i s Q E hi st hQ => by
    refine wpAny_pyNext_ascii_item st (c := y.cps[i]) (by simp [hi]) fun h' hit' hs' => ?_
    exact hQ _ h' (s.toks + 1) ⟨_, _, by simp [hi], rfl⟩ hit' fun b o hb e => hs'.extBut b o hb e
  self := fun _ _ _ _ st hQ => wpAny_pyIter_striter_ascii st hQ
  done := fun s Q E st hQ => wpAny_pyNext_ascii_end hh st (by simp) fun h' he' => hQ h' s.toks fun b o hb e => he' b o hb e
noncomputable abbrev PI := Env1 → CO → (List D → CO → Prop) → (Addr → CO → Prop) → Prop
noncomputable def SoundI (P : Par) (d : Nat) (sc : Scope) (ns : List Str) (e : Expr) (p : PI) : Prop :=
  ∀ (A : Around) (v : FV) (s : Shared) (m : Names) (ρ : Env1) (c : CO) (x : Cl) (X : List Addr) (Q E : Value → Shared → Prop) (KQ : List D → CO → Prop) (KE : Addr → CO → Prop),
    Good A v sc true d → St P sc v ns ρ c x X m s.heap → p ρ c KQ KE →
    (∀ l c' I fp V J s', Aft P sc v ns ρ x X m s c' s' → Iter P A I fp l.length V J → J 0 s'.heap → s.heap.get? I = none → I ∉ X → (∀ b ∈ fp, b ∉ X ∧ b ≠ I ∧ ∃ o, s'.heap.get? b = some o) → (∀ i val, V i val → ∃ y, l[i]? = some y ∧ Rel X s'.heap y val) → KQ l c' → Q (.ref I) s') →
    (∀ C c' e s', Aft P sc v ns ρ x X m s c' s' → ExcAt s.heap s'.heap e C → KE C c' → E (.ref e) s') →
    wpAny (model P.prog P.w) A (eval e (v.env sc)) (fun xv s1 => wpAny (model P.prog P.w) A (pyIter xv) Q E s1) E s
@[reducible] noncomputable def onIt : SV → (List D → Prop) → Prop
  | .d (.lst l), K => K l
  | .d (.tup l), K => K l
  | .d (.str y), K => y.cps.all (· < 128) = true ∧ K (y.cps.toList.map fun g => D.str ⟨#[g]⟩)
  | _, _ => False
theorem onIt_inv {r : SV} {K : List D → Prop} (h : onIt r K) : (∃ l, r = .d (.lst l) ∧ K l) ∨ (∃ l, r = .d (.tup l) ∧ K l) ∨ ∃ y : Str, r = .d (.str y) ∧ y.cps.all (· < 128) = true ∧ K (y.cps.toList.map fun g => D.str ⟨#[g]⟩) := by
  cases r with
  | cell => exact h.elim
  | d y => cases y with
    | lst l => exact .inl ⟨l, rfl, h⟩
    | tup l => exact .inr (.inl ⟨l, rfl, h⟩)
    | str y => exact .inr (.inr ⟨y, rfl, h⟩)
    | _ => exact h.elim
noncomputable def pIter (p : PE) : PI := fun ρ c K KE => p ρ c (fun r c1 => onIt r fun l => K l c1) KE
noncomputable def pRng1 (p : PE) : PI := fun ρ c K KE => p ρ c (fun r c1 => onI r fun n => 0 ≤ n ∧ n < 2 ^ 62 ∧ K ((List.range n.toNat).map fun i : Nat => D.int i) c1) KE
noncomputable def pRng2 (p q : PE) : PI := fun ρ c K KE => p ρ c (fun a c1 => q ρ c1 (fun b c2 => onI a fun a => onI b fun b => 0 ≤ a ∧ a < 2 ^ 62 ∧ -(2 ^ 62) ≤ b ∧ b < 2 ^ 62 ∧ K ((List.range (b - a).toNat).map fun i : Nat => D.int (a + i)) c2) KE) KE
section
variable {P : Par} {sc : Scope} {ns : List Str} {hn : Bool} {d : Nat}
theorem si_data {e : Expr} {p : PE} (h1 : SoundE P true d sc ns e p) : SoundI P d sc ns e (pIter p) := by
  intro A v s m ρ c x X Q E KQ KE G S hp hQ hE
  have hh := G.handled rfl
  refine h1 A v s m ρ c x X _ _ _ _ G S hp (fun r c1 val s1 a1 rel hp1 => ?_) hE
  have hfr : s.heap.get? s1.heap.objs.size = none := by
    cases q : s.heap.get? s1.heap.objs.size with
    | none => rfl
    | some o =>
      exfalso
      have := a1.absent s1.heap.objs.size (Heap.get?_none_of_le (Nat.le_refl _))
      rw [this] at q; cases q
  have hX := fresh_notin a1.st.xs
  rcases onIt_inv hp1 with ⟨l, rfl, hp1⟩ | ⟨l, rfl, hp1⟩ | ⟨y, rfl, hp1⟩
  · skip
    have rel : Rel X s1.heap (.lst l) val := rel
    unfold Rel at rel
    obtain ⟨a, o, vs, n, rfl, hn, ho, hc, hd, hr⟩ := rel
    have hne : a ≠ s1.heap.objs.size := Nat.ne_of_lt (Heap.lt_size ho)
    have hlen : vs.size = l.length := by simpa using relL_length hr
    have hl : s1.heap.IsList a vs := ⟨o, ho, hc, n, hd⟩
    refine wpAny_pyIter_list hl ?_
    have g := Grow.push s1 { cls := .type "list_iterator", data := .fields #[.ref a, .int 0 0] } s1.toks
    refine hQ l c1 s1.heap.objs.size [a] _ _ _ (a1.grow g) (hlen ▸ Iter.list hh _ a hne vs) ⟨⟨_, Heap.get?_push_size _ rfl, rfl, rfl⟩, hl.push _⟩ hfr hX (fun b hb => ?_) (fun i val hv => ?_) hp1
    · rcases List.mem_cons.mp hb with rfl | hb
      · exact ⟨hn, hne, o, Heap.get?_push_of_some _ ho⟩
      · cases hb
    · have hlt : i < l.length := by rw [← hlen]; exact (Array.getElem?_eq_some_iff.mp hv).1
      obtain ⟨w, h1, h2⟩ := relL_get (RelL.up (g.sure X) _ _ hr) (List.getElem?_eq_getElem hlt)
      rw [Array.getElem?_toList, hv] at h1; cases h1
      exact ⟨_, List.getElem?_eq_getElem hlt, h2⟩
  · skip
    have rel : Rel X s1.heap (.tup l) val := rel
    unfold Rel at rel
    obtain ⟨a, o, vs, n, rfl, hn, ho, hc, hd, hr⟩ := rel
    have hne : a ≠ s1.heap.objs.size := Nat.ne_of_lt (Heap.lt_size ho)
    have hlen : vs.size = l.length := by simpa using relL_length hr
    have hl : IsTup s1.heap a vs := ⟨o, ho, hc, n, hd⟩
    refine iter_tuple hl ?_
    have g := Grow.push s1 { cls := .type "tuple_iterator", data := .fields #[.ref a, .int 0 0] } s1.toks
    refine hQ l c1 s1.heap.objs.size [a] _ _ _ (a1.grow g) (hlen ▸ Iter.tuple hh _ a hne vs) ⟨⟨_, Heap.get?_push_size _ rfl, rfl, rfl⟩, hl.push _⟩ hfr hX (fun b hb => ?_) (fun i val hv => ?_) hp1
    · rcases List.mem_cons.mp hb with rfl | hb
      · exact ⟨hn, hne, o, Heap.get?_push_of_some _ ho⟩
      · cases hb
    · have hlt : i < l.length := by rw [← hlen]; exact (Array.getElem?_eq_some_iff.mp hv).1
      obtain ⟨w, h1, h2⟩ := relL_get (RelL.up (g.sure X) _ _ hr) (List.getElem?_eq_getElem hlt)
      rw [Array.getElem?_toList, hv] at h1; cases h1
      exact ⟨_, List.getElem?_eq_getElem hlt, h2⟩
  · skip
    obtain ⟨t, rfl⟩ : ∃ t, val = .str y t := Rel.str (X := X) (h := s1.heap) rel
    refine wpAny_pyIter_ascii hp1.1 ?_
    have g := Grow.push s1 { cls := .type "str_ascii_iterator", data := .fields #[.str y t, .int 0 0] } s1.toks
    refine hQ _ c1 s1.heap.objs.size [] (SignAt y) (fun i h => h.IsStrIter s1.heap.objs.size "str_ascii_iterator" y t i) _ (a1.grow g) (by rw [List.length_map, Array.length_toList]; exact Iter.ascii hh _ y t) ⟨_, Heap.get?_push_size _ rfl, rfl, rfl⟩ hfr hX (fun b hb => nomatch hb) (fun i val hv => ?_) hp1.2
    obtain ⟨g', u, h1, rfl⟩ := hv
    exact ⟨.str ⟨#[g']⟩, by simp [h1], rel_str _ _⟩
theorem range_walk {A : Around} {v : FV} {s s1 : Shared} {m : Names} {ρ : Env1} {c1 : CO} {x : Cl} {X : List Addr} {Q E : Value → Shared → Prop} {K : List D → Prop} {a b : Int} {t u : Tok} {w tk : Tok} (hh : A.handled = none)
    (a1 : Aft P sc v ns ρ x X m s c1 s1) (ha0 : 0 ≤ a) (ha : a < 2 ^ 62) (hb0 : -(2 ^ 62) ≤ b) (hb : b < 2 ^ 62)
    (hQ : ∀ l I fp V J s', Aft P sc v ns ρ x X m s c1 s' → Iter P A I fp l.length V J → J 0 s'.heap → s.heap.get? I = none → I ∉ X → (∀ b ∈ fp, b ∉ X ∧ b ≠ I ∧ ∃ o, s'.heap.get? b = some o) → (∀ i val, V i val → ∃ y, l[i]? = some y ∧ Rel X s'.heap y val) → K l → Q (.ref I) s')
    (hK : K ((List.range (b - a).toNat).map fun i : Nat => D.int (a + i))) :
    wpAny (model P.prog P.w) A (pyIter (.ref s1.heap.objs.size)) Q E { s1 with heap := s1.heap.push { cls := .type "range", data := .fields #[.int a t, .int b u, .int 1 w] }, toks := tk } := by
  have hsz := rangeSize_one a b
  have hfr : s.heap.get? (s1.heap.objs.size + 1) = none := a1.absent _ (Heap.get?_none_of_le (Nat.le_succ _))
  refine wpAny_pyIter_range (IsRange.new _ a b 1 _ _ _) (small_one (by walk_at "om") (by walk_at "om") (by walk_at "om") hb) ?_
  have g1 : Grow s1 { s1 with heap := s1.heap.push { cls := .type "range", data := .fields #[.int a t, .int b u, .int 1 w] }, toks := tk } := .push _ _ _
  have g2 := Grow.push { s1 with heap := s1.heap.push { cls := .type "range", data := .fields #[.int a t, .int b u, .int 1 w] }, toks := tk } { cls := .type "range_iterator", data := .fields #[rawInt a, rawInt (Builtin.Range.rangeSize a b 1), rawInt 1] } tk
  have hsz2 : (s1.heap.push { cls := .type "range", data := .fields #[.int a t, .int b u, .int 1 w] }).objs.size = s1.heap.objs.size + 1 := Heap.size_push ..
  refine hQ ((List.range (b - a).toNat).map fun i : Nat => D.int (a + i)) _ [] _ _ _ (a1.grow (g1.trans g2)) (by rw [List.length_map, List.length_range]; exact Iter.range hh _ a (b - a).toNat) ?_ (by rw [hsz2]; exact hfr) ?_ (fun b hb => nomatch hb) (fun i val hv => ?_) hK
  · show Heap.get? _ _ = _
    rw [hsz]
    have e1 : (if a < b then b - a else 0) = ((b - a).toNat : Int) - ((0 : Nat) : Int) := by split <;> walk_at "om"
    have e2 : a + ((0 : Nat) : Int) = a := by walk_at "om"
    rw [e1, e2]
    exact Heap.get?_push_size _ rfl
  · refine fresh_notin (h := s1.heap.push { cls := .type "range", data := .fields #[.int a t, .int b u, .int 1 w] }) fun y hy => ?_
    obtain ⟨o, e⟩ := a1.st.xs y hy
    exact ⟨o, g1.2 y o e⟩
  · obtain ⟨hi, u, rfl⟩ := hv
    exact ⟨.int (a + i), by simp [hi], rel_int _ _⟩
noncomputable def l1 (l : List SV) (K : SV → Prop) : Prop := match l with
  | [r] => K r
  | _ => False
noncomputable def l2 (l : List SV) (K : SV → SV → Prop) : Prop := match l with
  | [r, s] => K r s
  | _ => False
theorem l1_inv {l : List SV} {K : SV → Prop} (h : l1 l K) : ∃ r, l = [r] ∧ K r := by
  cases l with
  | nil => exact h.elim
  | cons r l => cases l with
    | nil => exact ⟨r, rfl, h⟩
    | cons => exact h.elim
theorem l2_inv {l : List SV} {K : SV → SV → Prop} (h : l2 l K) : ∃ r s, l = [r, s] ∧ K r s := by
  cases l with
  | nil => exact h.elim
  | cons r l => cases l with
    | nil => exact h.elim
    | cons s l => cases l with
      | nil => exact ⟨r, s, rfl, h⟩
      | cons => exact h.elim
theorem si_rng1 {f : Str} {fp pos : Pos} {e : Expr} {p : PE} (he : nsIn P.K mainGlobals f = some none) (hv : bootBuiltins f = some (.type "range")) (hnn : f ≠ Str.ofString "__name__")
    (hk : sc.names.lookup f = some .globalImplicit) (h1 : SoundE P true d sc ns e p) (hs : ∀ env, starEach [e] env = [(false, eval e env)]) (hd : (f == Str.ofString "__debug__") = false) :
    SoundI P d sc ns (.Call (.Name f fp) [e] [] pos) (pRng1 p) := by
  intro A v s m ρ c x X Q E KQ KE G S hp hQ hE
  have hh := G.handled rfl
  refine wpAny_Call_Name_kw (name_B S G he hv hnn hk hd ?_)
  have hs1 : ∀ env, starEach [e] env = (false, eval e env) :: starEach [] env := hs
  have hp' : pCons p pNil ρ c (fun l c1 => l1 l fun r => onI r fun n => 0 ≤ n ∧ n < 2 ^ 62 ∧ KQ ((List.range n.toNat).map fun i : Nat => D.int i) c1) KE := hp
  have key := (sound_args_cons h1 sound_args_nil hs1) pos A v s m ρ c x X (fun vs s₁ => wpAny (model P.prog P.w) A (call (.type "range") vs) (fun xv s1 => wpAny (model P.prog P.w) A (pyIter xv) Q E s1) E s₁) E _ _ G S
    hp' (fun l c1 vl s1 a1 r1 hp1 => by
      obtain ⟨r, rfl, hp1⟩ := l1_inv hp1
      obtain ⟨n, rfl, hp1⟩ := onI_elim hp1
      · obtain ⟨w, _, rfl, r, rfl⟩ := r1
        obtain ⟨t, rfl⟩ := RelV.int r
        refine call_range_1 ?_
        exact range_walk (K := fun l => KQ l c1) hh a1 (by walk_at "om") (by walk_at "om") (by walk_at "om") hp1.2.1 (fun l I fp V J s' a i j h1 h2 h3 h4 h5 => hQ l c1 I fp V J s' a i j h1 h2 h3 h4 h5) (by
          have := hp1.2.2
          simpa using this)) hE
  rw [hs] at key ⊢
  exact PySem.callWith_type rfl (evalArgs_plain key)
theorem si_rng2 {f : Str} {fp pos : Pos} {e e2 : Expr} {p q : PE} (he : nsIn P.K mainGlobals f = some none) (hv : bootBuiltins f = some (.type "range")) (hnn : f ≠ Str.ofString "__name__")
    (hk : sc.names.lookup f = some .globalImplicit) (h1 : SoundE P true d sc ns e p) (h2 : SoundE P true d sc ns e2 q) (hs1 : ∀ env, starEach [e, e2] env = (false, eval e env) :: starEach [e2] env) (hs2 : ∀ env, starEach [e2] env = (false, eval e2 env) :: starEach [] env) (hd : (f == Str.ofString "__debug__") = false) :
    SoundI P d sc ns (.Call (.Name f fp) [e, e2] [] pos) (pRng2 p q) := by
  intro A v s m ρ c x X Q E KQ KE G S hp hQ hE
  have hh := G.handled rfl
  refine wpAny_Call_Name_kw (name_B S G he hv hnn hk hd ?_)
  have hs : ∀ env, starEach [e, e2] env = [(false, eval e env), (false, eval e2 env)] := fun env => by rw [hs1, hs2]; rfl
  have hp' : pCons p (pCons q pNil) ρ c (fun l c1 => l2 l fun r r2 => onI r fun a => onI r2 fun b => 0 ≤ a ∧ a < 2 ^ 62 ∧ -(2 ^ 62) ≤ b ∧ b < 2 ^ 62 ∧ KQ ((List.range (b - a).toNat).map fun i : Nat => D.int (a + i)) c1) KE := hp
  have key := (sound_args_cons h1 (sound_args_cons h2 sound_args_nil hs2) hs1) pos A v s m ρ c x X (fun vs s₁ => wpAny (model P.prog P.w) A (call (.type "range") vs) (fun xv s1 => wpAny (model P.prog P.w) A (pyIter xv) Q E s1) E s₁) E _ _ G S
    hp' (fun l c1 vl s1 a1 r1 hp1 => by
      obtain ⟨r, r2, rfl, hp1⟩ := l2_inv hp1
      obtain ⟨a, rfl, hp1⟩ := onI_elim hp1
      obtain ⟨b, rfl, hp1⟩ := onI_elim hp1
      · obtain ⟨w, _, rfl, r, w2, _, rfl, r2, rfl⟩ := r1
        obtain ⟨t, rfl⟩ := RelV.int r
        obtain ⟨u, rfl⟩ := RelV.int r2
        refine call_range_2 ?_
        exact range_walk (K := fun l => KQ l c1) hh a1 hp1.1 hp1.2.1 hp1.2.2.1 hp1.2.2.2.1 (fun l I fp V J s' a i j h1 h2 h3 h4 h5 => hQ l c1 I fp V J s' a i j h1 h2 h3 h4 h5) hp1.2.2.2.2) hE
  rw [hs] at key ⊢
  exact PySem.callWith_type rfl (evalArgs_plain key)
end
end
section
-- part M11
open PySem PySem.W PyProof.Rows PySem.Calls PySem.Builtin PySem.Builtin.Str
section
variable {P : Par} {sc : Scope} {v : FV} {ns : List Str} {ρ ρ' ρ'' : Env1} {x x' x'' : Cl} {X X' X'' : List Addr} {m m' m'' : Names} {s s' s'' : Shared} {c c' c'' : CO} {hn : Bool} {d : Nat} {A : Around}
theorem noted_out {e C : Addr} {E : Value → Shared → Prop} (O : v.Own sc) (G : Good A v sc hn d) (S : St P sc v ns ρ c x X m s.heap) (a : AftS P sc v ns ρ' x X x' X' m' s c' s') (ex : ExcAt s.heap s'.heap e C)
    (hE : ∀ s'', AftS P sc v ns ρ' x X x' X' m' s c' s'' → ExcTr s.heap s''.heap e C → E (.ref e) s'') : notedBy (model P.prog P.w) A (v.env sc) E (.ref e) s' := by
  obtain ⟨outer, hO, hfm⟩ := O
  unfold notedBy
  refine note_ok (base := P.base) (h₀ := s.heap) (G.frames.trans (congrArg some hO)) (hO ▸ a.st.ff) hfm ex S.fr.keep a.st.fr.keep a.absent fun h' N x' => ?_
  exact hE _ (a.noted N) x'
theorem loop_out {e C : Addr} {E : Value → Shared → Prop} (O : v.Own sc) (G : Good A v sc hn d) (S : St P sc v ns ρ c x X m s.heap) (a : AftS P sc v ns ρ' x X x' X' m' s c' s') (ex : ExcAt s.heap s'.heap e C)
    (hE : ∀ s'', AftS P sc v ns ρ' x X x' X' m' s c' s'' → ExcAt s.heap s''.heap e C → E (.ref e) s'') : notedBy (model P.prog P.w) A (v.env sc) (fun e s' => cameBackBy (model P.prog P.w) A (v.env sc) E e s') (.ref e) s' :=
  noted_out O G S a ex fun s'' a'' ex'' => back_ok ex'' S.fr.keep a''.st.fr.keep fun h' N x' => hE _ (a''.noted N) x'.at_
noncomputable def pWhile (t : PT) (b : PS) : PS := fun ρ c Kn Kr Ke => ∃ I : Nat → Env1 → CO → Prop, (∃ n, I n ρ c) ∧ ∀ n ρ c, I n ρ c → t ρ c (fun r c1 => (r = true → b ρ c1 (fun ρ' c' => ∃ m, m < n ∧ I m ρ' c') Kr Ke) ∧ (r = false → Kn ρ c1)) (Ke ρ)
theorem s_while {t : Expr} {b : List Stmt} {pos : Pos} {pt : PT} {p : PS} (h0 : SoundT P hn d sc ns t pt) (h1 : SoundSs P hn d sc ns b p) : SoundS P hn d sc ns (.While t b [] pos) (pWhile pt p) := by
  intro A v s m ρ c x X Q E Kn Kr Ke G O S hp hQ hR hE
  obtain ⟨I, ⟨n, hI⟩, turn⟩ := hp
  refine wpAny_While (codeAny_whileLoop (fun n s1 => ∃ ρ1 c1 m1 x1 X1, AftS P sc v ns ρ1 x X x1 X1 m1 s c1 s1 ∧ I n ρ1 c1) ?_ n ⟨_, _, _, _, _, .refl S, hI⟩)
  rintro n s1 ⟨ρ1, c1, m1, x1, X1, a1, hI1⟩
  refine h0 A v s1 m1 ρ1 c1 x1 X1 _ _ _ _ G a1.st (turn n ρ1 c1 hI1) (fun r c2 s2 a2 hp2 => ?_) (fun C c2 e s2 a2 ex k => loop_out O G S (a1.trans a2.toS) (ex.earlier a1.absent) fun s'' a'' ex'' => hE _ _ _ _ _ _ _ _ a'' ex'' k)
  have a12 := a1.trans a2.toS
  cases r with
  | true =>
    rw [if_pos rfl]
    refine h1 A v s2 m1 ρ1 c2 x1 X1 _ _ _ _ _ G O a2.st (hp2.1 rfl) (fun ρ3 c3 m3 x3 X3 s3 a3 ⟨k, hk, hI3⟩ => ⟨k, hk, _, _, _, _, _, a12.trans a3, hI3⟩) (fun r ρ3 c3 m3 x3 X3 val s3 a3 rel k => hR _ _ _ _ _ _ _ _ (a12.trans a3) rel k)
      (fun C ρ3 c3 m3 x3 X3 e s3 a3 ex k => loop_out O G S (a12.trans a3) (ex.earlier a12.absent) fun s'' a'' ex'' => hE _ _ _ _ _ _ _ _ a'' ex'' k)
  | false =>
    rw [if_neg (by decide)]
    exact wpAny_execs_nil (hQ _ _ _ _ _ _ a12 (hp2.2 rfl))
noncomputable abbrev TG := D → Env1 → (Env1 → Prop) → Prop
noncomputable def SoundA (P : Par) (sc : Scope) (ns : List Str) (t : Expr) (g : TG) : Prop :=
  ∀ (A : Around) (v : FV) (s : Shared) (m : Names) (ρ : Env1) (c : CO) (x : Cl) (X : List Addr) (Q : Unit → Shared → Prop) (E : Value → Shared → Prop) (K : Env1 → Prop) (y : D) (val : Value), A.handled = none → sc.kind = .function →
    St P sc v ns ρ c x X m s.heap → Rel X s.heap y val → g y ρ K → (∀ ρ' m' s', AftS P sc v ns ρ' x X x X m' s c s' → K ρ' → Q () s') → wpAny (model P.prog P.w) A (assign t (v.env sc) val) Q E s
noncomputable def gName (i : Nat) : TG := fun y ρ K => K (ρ.set i (some (.d y)))
noncomputable def gTup (is : List Nat) : TG := fun y ρ K => oSome (itemsOf (.d y)) fun l => ifB (sameLen is l) (K (setAll is l ρ))
theorem sa_name {n : Str} {np : Pos} {i : Nat} (hi : ns[i]? = some n) (hl : sc.names.lookup n = some .local) (hnd : ns.Nodup) : SoundA P sc ns (.Name n np) (gName i) := by
  intro A v s m ρ c x X Q E K y val hh hk S r hp hQ
  exact wpAny_assign_Name (store_ok (sv := .d y) hk hl hi hnd S r fun m1 s1 a1 => hQ _ _ _ a1 hp)
theorem Stores.length {env : Env} {sc : Scope} {ns : List Str} {ts : List (Value → Sem Unit)} {is : List Nat} (h : Stores env sc ns ts is) : ts.length = is.length := by
  induction h with
  | nil => rfl
  | cons _ _ _ _ ih => simp [ih]
theorem sa_tup {elts : List Expr} {k : Nat} {tp : Pos} {is : List Nat} (hnd : ns.Nodup) (ht : ∀ env : Env, env.scope = sc → Stores env sc ns ((assignEach elts env).map (·.2)) is) (hst : ∀ env, (assignEach elts env).findIdx? (·.1) = none) :
    SoundA P sc ns (.Tuple elts k tp) (gTup is) := by
  intro A v s m ρ c x X Q E K y val hh hk S r hp hQ
  unfold gTup at hp
  obtain ⟨l, hl, hp⟩ := oSome_elim hp
  replace hp := ifB_len hp
  · have hT := ht (v.env sc) rfl
    have hlen : (assignEach elts (v.env sc)).length = l.length := by
      have := hT.length
      rw [List.length_map] at this
      rw [this, hp.1]
    refine wpAny_bind (wpAny_standAt ?_)
    unfold unpack
    rw [hlen, hst]
    refine wpAny_bind (wpAny_holding (unpack_okL hh S hl r fun vs s2 a2 r2 _ => ?_))
    exact storeAll_ok hk hnd hT hp.1 a2.st r2 fun m3 s3 a3 => hQ _ _ _ (a2.toS.trans a3) hp.2
theorem owned_ok {M : Model} {E : Value → Shared → Prop} {t : Expr} {I : Addr} {val : Value} {Q : Unit → Shared → Prop} (h : ∃ o vs nm, s.heap.get? I = some o ∧ o.data = .fields vs ∧ o.cls = .type nm ∧ ownNames.contains nm = false) (hQ : Q () s) :
    wpAny M A (letOwnedTupleGo t (.ref I) val) Q E s := by
  obtain ⟨o, vs, nm, ho, hd, hc, hnm⟩ := h
  have key : ∀ a, wpAny M A (do
      let o ← load I
      match o.cls, o.data with
      | .type n, .fields vs =>
        if ownNames.contains n && vs[0]? == some (rawInt a) then
          rule "for.unpacks-the-owned-tuple"
          updateField I 0 .none
      | _, _ => pure ()) Q E s := fun a => by
    refine wpAny_bind (wpAny_load ho ?_)
    obtain ⟨cls, dd, data, sl⟩ := o
    simp only at hd hc
    subst hd hc
    dsimp only
    rw [hnm, Bool.false_and, if_neg (by decide)]
    exact wpAny_pure hQ
  cases t with
  | Tuple => cases val with
    | ref a => exact key a
    | _ => exact wpAny_pure hQ
  | List => cases val with
    | ref a => exact key a
    | _ => exact wpAny_pure hQ
  | _ => exact wpAny_pure hQ
theorem AftS.step (a : AftS P sc v ns ρ' x X x' X' m' s c' s') {I : Addr} {h' : Heap} {tk : Nat} (hI : s.heap.get? I = none) (hb : P.base.get? I = none) (hf : ∃ o vs, s'.heap.get? I = some o ∧ o.data = .fields vs) (hn : I ∉ X')
    (k : ∀ b o, b ≠ I → s'.heap.get? b = some o → h'.get? b = some o) : AftS P sc v ns ρ' x X x' X' m' s c' { s' with heap := h', toks := tk } := by
  have hs : Sure [] s'.heap h' := fun b o e nf _ => ⟨o.slots, k b o (fun q => by
    subst q
    obtain ⟨o2, vs, h1, h2⟩ := hf
    rw [e] at h1; cases h1
    exact nf vs h2) e⟩
  refine ⟨a.rest, a.st.up (hs.more fun _ q => nomatch q) (fun b hb ⟨o, e⟩ => ⟨o, k b o (fun q => hn (q ▸ hb)) e⟩) (fun b o e => k b o (fun q => by rw [q] at e; rw [hb] at e; cases e) (a.st.fr.keep b o e)) (a.st.cell.up hs), fun b o e nb => ?_, a.ext, a.new, a.same⟩
  obtain ⟨s1, e1, f1⟩ := a.kept b o e nb
  exact ⟨s1, k b _ (neG hI e) e1, f1⟩
noncomputable def pFor (g : TG) (pi : PI) (b : PS) : PS := fun ρ c Kn Kr Ke => pi ρ c (fun l c1 => ∃ J : Nat → Env1 → CO → Prop, J 0 ρ c1 ∧ (∀ k ρ c y, l[k]? = some y → J k ρ c → g y ρ fun ρ1 => b ρ1 c (fun ρ' c' => J (k + 1) ρ' c') Kr (fun _ _ _ => False)) ∧ (∀ ρ c, J l.length ρ c → Kn ρ c)) (Ke ρ)
theorem s_for {t iter : Expr} {b : List Stmt} {pos : Pos} {g : TG} {pi : PI} {p : PS} (hA : SoundA P sc ns t g) (h0 : SoundI P d sc ns iter pi) (h1 : SoundSs P true d sc ns b p) (hs : ∀ env x, foldedSetIterable iter env x = pure x) :
    SoundS P true d sc ns (.For t iter b [] pos) (pFor g pi p) := by
  intro A v s m ρ c x X Q E Kn Kr Ke G O S hp hQ hR hE
  refine wpAny_For ?_ (hs _)
  refine h0 A v s m ρ c x X _ _ _ _ G S hp (fun l c1 I fp V J s1 a1 W hJ hI hIX hfp hV hp1 => ?_) (fun C c1 e s1 a1 ex k => hE _ _ _ _ _ _ _ _ a1.toS ex k)
  obtain ⟨Inv, hI0, hstep, hend⟩ := hp1
  have hIb : P.base.get? I = none := by
    cases q : P.base.get? I with
    | none => rfl
    | some o => rw [S.fr.keep _ _ q] at hI; cases hI
  refine codeAny_forLoop_any (fun n s2 => ∃ k ρ2 c2 m2 x2 X2, n = l.length - k ∧ k ≤ l.length ∧ AftS P sc v ns ρ2 x X x2 X2 m2 s c2 s2 ∧ (∀ y val, Rel X s1.heap y val → Rel X2 s2.heap y val) ∧ J k s2.heap ∧ I ∉ X2 ∧ (∀ b ∈ fp, b ∉ X2 ∧ b ≠ I ∧ ∃ o, s2.heap.get? b = some o) ∧ Inv k ρ2 c2) ?_ l.length
    ⟨0, ρ, c1, m, x, X, rfl, Nat.zero_le _, a1.toS, fun _ _ r => r, hJ, hIX, hfp, hI0⟩
  rintro n s2 ⟨k, ρ2, c2, m2, x2, X2, rfl, hk, a2, hrel, hJk, hI2, hf2, hInv⟩
  have hrec := W.recd k _ hJk
  have hfl : ∃ o vs, s2.heap.get? I = some o ∧ o.data = .fields vs := let ⟨o, vs, _, h1, h2, _⟩ := hrec; ⟨o, vs, h1, h2⟩
  rcases Nat.lt_or_ge k l.length with hlt | hge
  · refine W.item k s2 _ _ hlt hJk fun val h' tk hval hJ' hk' => ?_
    dsimp only
    have a3 : AftS P sc v ns ρ2 x X x2 X2 m2 s c2 { s2 with heap := h', toks := tk } := a2.step hI hIb hfl hI2 hk'
    refine owned_ok (W.recd (k + 1) _ hJ') ?_
    obtain ⟨y, hy1, hy2⟩ := hV k val hval
    have hy2 : Rel X2 s2.heap y val := hrel _ _ hy2
    have hsr : Sure [] s2.heap h' := fun b o e nf _ => ⟨o.slots, hk' b o (fun q => by
      subst q
      obtain ⟨o2, vs, h1, h2⟩ := hfl
      rw [e] at h1; cases h1
      exact nf vs h2) e⟩
    refine hA A v { s2 with heap := h', toks := tk } m2 ρ2 c2 x2 X2 _ _ _ y val (G.handled rfl) G.kind a3.st (Rel.up (hsr.more fun _ q => nomatch q) _ _ hy2) (hstep k ρ2 c2 y hy1 hInv) fun ρ4 m4 s4 a4 hp4 => ?_
    have a34 := a3.trans a4
    refine h1 A v s4 m4 ρ4 c2 x2 X2 _ _ _ _ _ G O a4.st hp4 (fun ρ5 c5 m5 x5 X5 s5 a5 hInv5 => ?_) (fun r ρ5 c5 m5 x5 X5 val s5 a5 rel k => hR _ _ _ _ _ _ _ _ (a34.trans a5) rel k) (fun C ρ5 c5 m5 x5 X5 e s5 a5 ex k => k.elim)
    have a45 := a4.trans a5
    have hI5 : I ∉ X5 := fun q => by
      rcases a45.new I q with h | h
      · exact hI2 h
      · obtain ⟨o, vs, nm, h1, _⟩ := W.recd (k + 1) _ hJ'
        rw [h1] at h; cases h
    have kp := a45.kept
    have nL : ∀ b, b ∉ X2 → b ∉ v.L :: x2.toList.map (·.2) := fun b hb q => hb (by
      rcases List.mem_cons.mp q with rfl | q
      · exact a3.st.lX
      · exact a3.st.sub' b q)
    refine ⟨l.length - (k + 1), by walk_at "om", k + 1, ρ5, c5, m5, x5, X5, rfl, hlt, a34.trans a5, ?_, ?_, hI5, ?_, hInv5⟩
    · exact fun y val r => a45.rel (Rel.up (hsr.more fun _ q => nomatch q) _ _ (hrel y val r))
    · refine W.frame (k + 1) _ _ hJ' ?_ fun b hb o e => ?_
      · obtain ⟨o, vs, nm, h1, h2, _⟩ := W.recd (k + 1) _ hJ'
        rw [kp.rec h1 (nL I hI2) h2]; exact h1.symm
      · obtain ⟨sl, e1, _⟩ := kp b o e (nL b (hf2 b hb).1)
        exact ⟨sl, e1⟩
    · intro b hb
      obtain ⟨f1, f2, o, f3⟩ := hf2 b hb
      have f4 := hk' b o f2 f3
      obtain ⟨sl, f5, _⟩ := kp b o f4 (nL b f1)
      refine ⟨fun q => ?_, f2, _, f5⟩
      rcases a45.new b q with h | h
      · exact f1 h
      · rw [f4] at h; cases h
  · have : k = l.length := by walk_at "om"
    subst this
    refine W.done s2 _ _ hJk fun h' tk hk' => ?_
    dsimp only
    exact wpAny_execs_nil (hQ _ _ _ _ _ _ (a2.step hI hIb hfl hI2 hk') (hend _ _ hInv))
end
end
section
-- part M12
open PySem PySem.W PyProof.Rows PySem.Calls PySem.Builtin PySem.Builtin.Str
noncomputable def Binds (K : Frag) (fd : FuncData) (ps : List Str) : Prop := ∀ (s : Shared) (vs : List Value), K.In s.heap → vs.length = ps.length → BindsTo s fd ⟨vs, []⟩ (ps.zip vs)
structure DefK (K : Frag) (f : Addr) (body : List Stmt) (scope : Scope) (ps : List Str) : Prop where
  there : ∃ oc od osl name qual params dV kV doc pm an cdv ct, K.lookup f = some ⟨oc, od, .func (fnOf name qual params body scope dV kV doc pm an cdv ct), osl⟩ ∧ codeIn K cdv qual = true ∧ Binds K (fnOf name qual params body scope dV kV doc pm an cdv ct) ps
@[reducible] noncomputable def finS (c : CO) (K : SV → CO → Prop) : SV → CO → Prop := fun r c' => match c with
  | .none => (match r with | .d y => K (.d y) .none | .cell => (match c' with | .lst l => K (.d (.lst l)) .none | _ => False))
  | _ => K r c'
@[reducible] noncomputable def finE (c c' : CO) : CO := match c with | .none => .none | _ => c'
@[reducible] noncomputable def finN (c : CO) (K : SV → CO → Prop) : Env1 → CO → Prop := fun _ c' => finS c K (.d .none) c'
@[reducible] noncomputable def finK (c : CO) (KE : Addr → CO → Prop) : Env1 → Addr → CO → Prop := fun _ C c' => KE C (finE c c')
noncomputable def sDef (n k : Nat) (p : PS) : Spec := fun args c K KE => args.length = n ∧ p (args.map some ++ List.replicate (k - n) none) c (finN c K) (finS c K) (finK c KE)
theorem CellAt.more {x : Cl} {X Y : List Addr} {h : Heap} (k : ∀ b ∈ X, b ∈ Y) (n : ∀ b o, h.get? b = some o → b ∉ X → b ∉ Y) (c : CO) (r : CellAt x X h c) : CellAt x Y h c :=
  CellAt.move (fun _ _ _ o _ e _ => ⟨o.slots, e⟩) (fun _ _ q => k _ q) (fun b o e _ q => ⟨n b o e q, o.slots, e⟩) c r
theorem CellAt.back {x : Cl} {X Y : List Addr} {h : Heap} (k : ∀ b ∈ X, b ∈ Y) (hp : ∀ p, x = some p → p.2 ∈ X) (c : CO) (r : CellAt x Y h c) : CellAt x X h c :=
  CellAt.move (fun _ _ _ o _ e _ => ⟨o.slots, e⟩) (fun p e _ => hp p e) (fun b o e _ q => ⟨fun z => q (k _ z), o.slots, e⟩) c r
theorem CellAt.there1 {x : Cl} {X : List Addr} {h : Heap} {p : Addr × Addr} (hp : x = some p) : ∀ (c : CO), CellAt x X h c → ∃ o, h.get? p.1 = some o
  | .none, r => by rw [show x = none from r] at hp; cases hp
  | .src, r => by obtain ⟨y, o, _, _, _, _, _, h1, hX, h2, _⟩ := r; rw [h1] at hp; cases hp; exact ⟨_, h2⟩
  | .rd y i, r => by obtain ⟨y, dx, ox, od, _, _, h1, _, hX, h2, _⟩ := r; rw [h1] at hp; cases hp; exact ⟨_, h2⟩
  | .lst l, r => by obtain ⟨y, o, _, _, h1, hX, h2, _⟩ := r; rw [h1] at hp; cases hp; exact ⟨_, h2⟩
theorem CellAt.no {X : List Addr} {h : Heap} : ∀ {c : CO}, CellAt none X h c → c = .none
  | .none, _ => rfl
  | .src, r => by obtain ⟨_, _, _, _, _, _, _, q, _⟩ := r; cases q
  | .rd t i, r => by obtain ⟨_, _, _, _, _, _, q, _⟩ := r; cases q
  | .lst l, r => by obtain ⟨_, _, _, _, q, _⟩ := r; cases q
theorem relVs_length {x X h} : ∀ {l : List SV} {vs : List Value}, RelVs x X h l vs → vs.length = l.length
  | [], vs, r => by rw [show vs = [] from r]; rfl
  | d :: l, vs, ⟨v, t, e, _, h2⟩ => by rw [e, List.length_cons, relVs_length h2, List.length_cons]
theorem relVs_get {x X h} : ∀ {l : List SV} {vs : List Value} {i : Nat} {d : SV}, RelVs x X h l vs → l[i]? = some d → ∃ v, vs[i]? = some v ∧ RelV x X h d v
  | [], _, _, _, _, q => by simp at q
  | e :: l, vs, 0, d, r, q => by
    obtain ⟨v, t, rfl, h1, h2⟩ := r
    simp at q; subst q; exact ⟨v, rfl, h1⟩
  | e :: l, vs, i + 1, d, r, q => by
    obtain ⟨v, t, rfl, h1, h2⟩ := r
    simpa using relVs_get h2 (by simpa using q)
theorem bindL_not {k : Str → Option NameKind} {n : Str} : ∀ {ps : List Str} {vs : List Value} {m : Str → Option Value}, n ∉ ps → bindL k (ps.zip vs) m n = m n
  | [], _, _, _ => by unfold List.zip; rfl
  | p :: ps, [], _, _ => rfl
  | p :: ps, v :: vs, m, h => by
    show bindL k (ps.zip vs) _ n = _
    rw [bindL_not fun q => h (.tail _ q)]
    split
    · exact if_neg fun q => h (by rw [q]; exact .head _)
    · rfl
theorem bindL_at {k : Str → Option NameKind} {n : Str} (hk : k n = some .local) : ∀ {ps : List Str} {vs : List Value} {m : Str → Option Value} {i : Nat} {v : Value}, ps.Nodup → ps[i]? = some n → vs[i]? = some v → bindL k (ps.zip vs) m n = some v := by
  intro ps
  induction ps with
  | nil => intro vs m i v _ h1; cases h1
  | cons p ps ih => intro vs m i v hnd h1 h2; cases vs with
    | nil => cases h2
    | cons w vs => cases i with
      | succ i => exact ih (List.nodup_cons.mp hnd).2 h1 h2
      | zero =>
        cases h1; cases h2
        show bindL k (ps.zip vs) _ _ = _
        rw [bindL_not (List.nodup_cons.mp hnd).1, if_pos hk]
        exact if_pos rfl
theorem bindC_not {k : Str → Option NameKind} {n : Str} : ∀ {ps : List Str} {vs : List Value} {m : Str → Option Value}, n ∉ ps → bindC k (ps.zip vs) m n = m n
  | [], _, _, _ => by unfold List.zip; rfl
  | p :: ps, [], _, _ => rfl
  | p :: ps, v :: vs, m, h => by
    show bindC k (ps.zip vs) _ n = _
    rw [bindC_not fun q => h (.tail _ q)]
    split
    · rfl
    · exact if_neg fun q => h (by rw [q]; exact .head _)
theorem bindC_at {k : Str → Option NameKind} {n : Str} (hk : k n = some .cell) : ∀ {ps : List Str} {vs : List Value} {m : Str → Option Value} {i : Nat} {v : Value}, ps.Nodup → ps[i]? = some n → vs[i]? = some v → bindC k (ps.zip vs) m n = some v := by
  intro ps
  induction ps with
  | nil => intro vs m i v _ h1; cases h1
  | cons p ps ih => intro vs m i v hnd h1 h2; cases vs with
    | nil => cases h2
    | cons w vs => cases i with
      | succ i => exact ih (List.nodup_cons.mp hnd).2 h1 h2
      | zero =>
        cases h1; cases h2
        show bindC k (ps.zip vs) _ _ = _
        rw [bindC_not (List.nodup_cons.mp hnd).1, if_neg (by rw [hk]; decide)]
        exact if_pos rfl
section
variable {P : Par} {sc : Scope} {ns : List Str} {d : Nat}
theorem AftS.out {v : FV} {fs : List Env} {env : Env} {ρ' : Env1} {x x' : Cl} {X X' : List Addr} {m' : Names} {s s' : Shared} {h₁ : Heap} {tk : Nat} {c c' : CO} (hfs : v.fs = env :: fs) (hL : s.heap.get? v.L = none) (am : Amb P fs c x X s.heap)
    (keep : ∀ b o, s.heap.get? b = some o → h₁.get? b = some o) (a : AftS P sc v ns ρ' x (v.L :: X) x' X' m' { s with heap := h₁, toks := tk } c' s') : AmbAft P fs x X s (finE c c') s' where
  rest := a.rest
  kept := fun b o e n => by
    obtain ⟨sl, h2, h3⟩ := a.kept b o (keep b o e) fun q => by
      rcases List.mem_cons.mp q with q | q
      · exact (neG hL e) q
      · exact n q
    exact ⟨sl, h2, h3⟩
  amb := {
    stays := a.st.fr.keep
    ff := by have := a.st.ff; rw [hfs] at this; exact this.2.2
    cell := by
      cases c with
      | none => exact am.cell
      | _ =>
        rcases a.same with e | ⟨e, _⟩
        · subst e
          exact a.st.cell.back (fun b hb => a.ext b (.tail _ hb)) fun p hp => (CellAt.there hp _ am.cell).1
        · subst e
          have := CellAt.no am.cell
          cases this
    xs := fun b hb => a.st.xs b (a.ext b (.tail _ hb))
    xb := am.xb }
theorem ok_def {f : Addr} {body : List Stmt} {ps : List Str} {p : PS} (D : DefK P.K f body sc ps) (hb : SoundSs P true d sc ns body p)
    (hkind : ∀ n ∈ ps, sc.names.lookup n = some .local ∨ (sc.names.lookup n = some .cell ∧ ∀ k, ∃ a, (cellsFrom k sc.names []).lookup n = some a)) (hps : ∀ (i : Nat) (n : Str), ps[i]? = some n → ns[i]? = some n) (hnd : ps.Nodup) (hnn : ns.Nodup)
    (hco : sc.isCoroutine = false) (hgen : sc.isGenerator = false) (hk : sc.kind = .function) : Ok P (d + 1) (.ref f) (sDef ps.length ns.length p) := by
  obtain ⟨oc, od, osl, name, qual, params, dV, kV, doc, pm, an, cdv, ct, hlk, hcd, hbind⟩ := D.there
  intro A fs s vs args c x X Q E KQ KE hfr hne hh hdep hun am rel hp hQ hE
  obtain ⟨hlen, hp⟩ := hp
  have hX : P.K.In s.heap := P.X.keeps am.stays
  have hlv : vs.length = ps.length := (relVs_length rel).trans hlen
  refine wpAny_call (codeAny_call_function (by walk_at "om") (hX _ _ hlk) rfl hco hgen rfl (codeRec_of hX hcd) (hbind s vs hX hlv _ _ _ _ ?_))
  refine wpAny_newFunctionEnv_cells hk (fun y hy => ?_) fun env he s1 hcall => ?_
  · have := hkind y.1 (List.of_mem_zip hy).1
    refine this.imp id fun ⟨h1, h2⟩ => ⟨h1, ?_⟩
    obtain ⟨a, ha⟩ := h2 (s.heap.objs.size + 1)
    rw [ha]; rfl
  subst he
  refine ⟨((topRead_of P.T).nolimit.keeps am.stays).keeps hcall.toInCall.keep, codeAny_func ?_⟩
  obtain ⟨h₁, tk, rfl, hkeep⟩ := hcall.done
  let v : FV := { qn := qual ++ ".<locals>.", fn := some f, cd := cdv, cl := cellsFrom (s.heap.objs.size + 1) sc.names [], fm := some s.heap.objs.size, L := s.heap.objs.size, fs := newEnv sc s.heap.objs.size mainGlobals (cellsFrom (s.heap.objs.size + 1) sc.names []) (qual ++ ".<locals>.") (some f) cdv none builtinsNs :: fs }
  have hLn : s.heap.get? v.L = none := Heap.get?_none_of_le (Nat.le_refl _)
  have hLb : P.base.get? v.L = none := by
    cases q : P.base.get? v.L with
    | none => rfl
    | some o => rw [am.stays _ _ q] at hLn; cases hLn
  have hasd : ∀ b o, s.heap.get? b = some o → b ∉ X → b ∉ v.L :: X := fun b o e n q => by
    rcases List.mem_cons.mp q with q | q
    · exact (neG hLn e) q
    · exact n q
  have ksure : ∀ Y, Sure Y s.heap h₁ := fun Y b o e _ _ => ⟨o.slots, hkeep b o e⟩
  have S : St P sc v ns (args.map some ++ List.replicate (ns.length - ps.length) none) c x (v.L :: X) (bindL (Env.kindOf (v.env sc)) (ps.zip vs) fun _ => none) h₁ := {
    fr := ⟨hcall.toInCall.ns, fun b o e => hkeep b o (am.stays b o e)⟩
    ff := Heap.FunFrames.cons (by show sc.kind ≠ _; rw [hk]; decide) rfl hcall.toInCall.ns hLb (funFrames_alive (fun b o e hd => ⟨o, hkeep b o e, hd⟩) am.ff)
    cell := (am.cell.more (fun b hb => .tail _ hb) hasd).up (ksure [])
    lX := .head _
    xL := fun q hq => by
      obtain ⟨_, o, h2, _⟩ := CellAt.there hq _ am.cell
      obtain ⟨o2, h3⟩ := CellAt.there1 hq _ am.cell
      exact ⟨neG hLn h3, neG hLn h2⟩
    xs := fun b hb => by
      rcases List.mem_cons.mp hb with rfl | hb
      · obtain ⟨o, _, _, e, _⟩ := hcall.toInCall.ns; exact ⟨o, e⟩
      · obtain ⟨o, e⟩ := am.xs b hb; exact ⟨o, hkeep b o e⟩
    xb := fun b hb => by
      rcases List.mem_cons.mp hb with rfl | hb
      · exact hLb
      · exact am.xb b hb
    loc := fun i n sv hn hρ => by
      have hi : i < args.length := by
        by_cases hi : i < args.length
        · exact hi
        · rw [List.getElem?_append_right (by simp; walk_at "om"), List.getElem?_replicate] at hρ
          split at hρ <;> cases hρ
      rw [List.getElem?_append_left (by simp; exact hi), List.getElem?_map] at hρ
      obtain ⟨sv', h1, h2⟩ := Option.map_eq_some_iff.mp hρ
      cases h2
      have hip : i < ps.length := by walk_at "om"
      have hpn : ps[i]? = some n := by
        have := hps i _ (List.getElem?_eq_getElem hip)
        rw [this] at hn
        rw [List.getElem?_eq_getElem hip, ← hn]
      obtain ⟨val, h3, h4⟩ := relVs_get rel h1
      refine ⟨val, ?_, RelV.up (ksure _) _ _ (RelV.aside hasd (.inr rfl) _ _ h4)⟩
      rcases hkind n (List.mem_of_getElem? hpn) with hl | ⟨hc, hcl⟩
      · exact .inl ⟨hl, bindL_at hl hnd hpn h3⟩
      · obtain ⟨a, ha⟩ := hcl (s.heap.objs.size + 1)
        obtain ⟨o, ho, hd⟩ := hcall.cell n a ha
        have hd : o.data = .cell (some val) := by rw [hd, bindC_at hc hnd hpn h3]
        have hab := hcall.above n a (mem_of_lookup ha)
        refine .inr ⟨.inl hc, a, o, ha, ho, hd, fun q => ?_⟩
        rcases List.mem_cons.mp q with q | q
        · rw [q] at hab; exact Nat.lt_irrefl _ hab
        · obtain ⟨o2, e2⟩ := am.xs a q
          exact absurd (Heap.lt_size e2) (Nat.not_lt.mpr (Nat.le_of_lt hab)) }
  have G : Good (A.deeper (v.env sc)) v sc true d := ⟨Around.frames_deeper hfr, List.cons_ne_nil _ _, fun _ => hh, by show A.depth + 1 + d < _; walk_at "om", by show A.units + 3 + 16 * d + 64 < _; walk_at "om", hk⟩
  have hce : x = none → c = .none := fun e => by
    subst e
    exact CellAt.no am.cell
  have fin : ∀ {r : SV} {ρ' : Env1} {c' : CO} {m' : Names} {x' : Cl} {X' : List Addr} {val : Value} {s' : Shared}, AftS P sc v ns ρ' x (v.L :: X) x' X' m' { s with heap := h₁, toks := tk } c' s' → RelV x' X' s'.heap r val → finS c KQ r c' → Q val s' := by
    intro r ρ' c' m' x' X' val s' a rel' k
    have am' := a.out rfl hLn am hkeep
    have back : ∀ b o, s'.heap.get? b = some o → b ∉ X' → b ∉ X := fun b o _ n q => n (a.ext b (.tail _ q))
    cases r with
    | d y =>
      refine hQ (.d y) (finE c c') val s' am' (Rel.aside back _ _ rel') ?_
      cases c <;> exact k
    | cell =>
      by_cases hcn : c = .none
      · subst hcn
        have hx : x = none := am.cell
        cases c' with
        | lst l =>
          obtain ⟨a', o, vs', n', e, hX', ho, hc', hd', hr', _⟩ := a.st.cell
          obtain ⟨p', hp1, rfl⟩ := rel'
          rw [e] at hp1; cases hp1
          refine hQ (.d (.lst l)) .none _ s' am' ?_ k
          show Rel _ _ _ _
          unfold Rel
          refine ⟨a', o, vs', n', rfl, fun q => ?_, ho, hc', hd', RelL.aside back _ _ hr'⟩
          rcases a.same with h | ⟨_, h⟩
          · rw [h, hx] at e; cases e
          · obtain ⟨o2, e2⟩ := am.xs a' q
            have := h _ e
            rw [show ({ s with heap := h₁, toks := tk } : Shared).heap.get? a' = some o2 from hkeep _ _ e2] at this
            cases this
        | none => exact k.elim
        | src => exact k.elim
        | rd t i => exact k.elim
      · rcases a.same with h | ⟨h, _⟩
        · subst h
          refine hQ .cell (finE c c') val s' am' rel' ?_
          cases c <;> first | exact k | exact absurd rfl hcn
        · exact absurd (hce h) hcn
  have hbase : P.base.StaysIn h₁ := fun b o e => hkeep b o (am.stays b o e)
  refine hb (A.deeper (v.env sc)) v { s with heap := h₁, toks := tk } _ _ c x (v.L :: X) _ _ _ _ _ G ⟨fs, rfl, rfl⟩ S hp (fun ρ' c' m' x' X' s' a k => ?_) (fun r ρ' c' m' x' X' val s' a rel k => ?_) (fun C ρ' c' m' x' X' e s' a ex k => ?_)
  · exact fin a (r := .d .none) (by show Rel _ _ _ _; unfold Rel; rfl) k
  · exact fin a rel k
  · refine leaving_ok (base := P.base) (h₀ := h₁) G.frames a.st.ff rfl ex hbase a.st.fr.keep a.absent fun h' N x' => ?_
    have a' := a.noted N
    refine hE C _ e _ (a'.out rfl hLn am hkeep) (x'.at_.earlier fun b e => ?_) k
    cases q : s.heap.get? b with
    | none => rfl
    | some o => rw [hkeep b o q] at e; cases e
end
end
section
-- part M13
open PySem PySem.W PyProof.Rows PySem.Calls PySem.Builtin PySem.Builtin.Str
structure BmOk (bm : List Value) : Prop where
  exc : bm.contains (.type "Exception") = true
  base : bm.contains (.type "BaseException") = true
  obj : bm.contains (.type "object") = true
  attr : bm.contains (.type "AttributeError") = false
  name : bm.contains (.type "NameError") = false
section
variable {prog : Program} {w : World} {A : Around} {E : Value → Shared → Prop} {h : Heap} {g : Array GenState} {d : Drawn} {t : Nat} {os : OsState}
variable {nm q : Str} {C N : Addr} {bs bm : List Value} {hdct : Bool} {sn : List Str} {sub : List Value} {ab : Bool} {col : Option Bool} {dd : Option Addr} {k0 k1 k2 k3 k5 : Option Value}
theorem exc_check {M : Model} (B : BmOk bm) {rest : List Value} {Q : Unit → Shared → Prop} (hC : h.get? C = some (excClassObj nm q C N bs bm hdct sn sub ab col dd k0 k1 k2 k3 k5 "Exception.__new__"))
    (hq : Q () ⟨h, g, d, t, os⟩) : wpAny M A (checkBuiltinCall "Exception.__new__" ⟨.ref C :: rest, []⟩) Q E ⟨h, g, d, t, os⟩ := by
  have F := PySem.F.excBase_Exception
  have hcont : (Value.ref C :: bm).contains (.type "Exception") = true := by rw [List.contains_cons, B.exc, Bool.or_true]
  have hstar := F.noStar
  unfold checkBuiltinCall
  rw [F.newKind, F.newSplit]
  dsimp only
  rw [F.newRow]
  dsimp only
  repeat (first | refine wpAny_loadPart_at hC ?_ | (refine wpAny_isSubtype_exc hC ?_; rw [hcont]) | refine wpAny_staticBase_exc hC ?_ | refine wpAny_madeBy_exc hC ?_ | simp only [bne_self_eq_false, Bool.false_eq_true, if_false] | wp_step)
  exact hq
theorem exc_new {R : Result → Shared → Prop} (B : BmOk bm) {rest : List Value} (hC : h.get? C = some (excClassObj nm q C N bs bm hdct sn sub ab col dd k0 k1 k2 k3 k5 "Exception.__new__"))
    (hq : R (.ok (.ret (.ref (h.objs.size + 1)))) ⟨(h.push { cls := .type "tuple", data := .seq rest.toArray }).push
      { cls := .ref C, data := .fields #[.ref h.objs.size, .none, .none, .none, .bool false, .none] }, g, d, t, os⟩) (hrest : rest.length ≤ sizeLine) :
    codeAny (model prog w) A (.builtin "Exception.__new__" ⟨.ref C :: rest, []⟩) R ⟨h, g, d, t, os⟩ := by
  have F := PySem.F.excBase_Exception
  have hends := F.ends
  have hcB : (Value.ref C :: bm).contains (.type "Exception") = true := by rw [List.contains_cons, B.exc, Bool.or_true]
  have hcA : (Value.ref C :: bm).contains (.type "AttributeError") = false := by rw [List.contains_cons, B.attr]; rfl
  have hcN : (Value.ref C :: bm).contains (.type "NameError") = false := by rw [List.contains_cons, B.name]; rfl
  refine codeAny_builtinAt F.entry ?_
  unfold Builtin.«BaseException.__new__»
  refine PySem.wpAt_bind ?_
  show PySem.wpAt _ _ _ (stack >>= _) _ _ _
  refine PySem.wpAt_bind (PySem.wpAt_stack fun p below => PySem.wpAt_of_wpAny ?_)
  wp_walk
  refine PySem.wpAt_of_wpAny ?_
  rw [F.owner]
  repeat (first | with_reducible refine wpAny_madeHere_exc F.canon hC ?_ | with_reducible refine wpAny_loadPart_at hC ?_ | (with_reducible refine wpAny_isSubtype_exc hC ?_; first | rw [hcB] | rw [hcA] | rw [hcN]) | wp_step)
  show R _ _
  rw [Heap.size_push]
  exact hq
theorem exc_type_call {K : Frag} (X : K.In h) (B : BmOk bm) {rest : List Value} {fI : Addr} {Q : Fin → Shared → Prop}
    (hC : h.get? C = some (excClassObj nm q C N bs bm hdct sn sub ab col dd k0 k1 k2 k3 k5 "Exception.__new__")) (hi : findIn K (.ref C) "__init__" = some (some (.ref fI)))
    (hf : typeIn K (.ref fI) = some (.type "function"))
    (hq : ∀ h' e, Heap.MadeExcOf h h' e (.ref C) rest →
      wpAny (model prog w) A (call (.ref fI) (.ref e :: rest)) (fun r s' => r = .none ∧ Q (.done (.ret (.ref e))) s') E ⟨h', g, d, t, os⟩) (hrest : rest.length ≤ sizeLine) :
    wpAny (model prog w) A (Builtin.«type.__call__» ⟨.ref C :: rest, []⟩) Q E ⟨h, g, d, t, os⟩ := by
  have F := PySem.F.excBase_Exception
  repeat (first | with_reducible refine wpAny_loadPart_at hC ?_ | with_reducible refine wpAny_madeBy_exc hC ?_ | wp_step)
  refine codeAny_call_builtin_code (Code.quiet_builtin _ F.quiet) (exc_check B hC ?_)
  refine exc_new B hC ?_ hrest
  show wpAny _ _ _ _ _ _
  have keep : ∀ b o, h.get? b = some o → ((h.push { cls := .type "tuple", data := .seq rest.toArray }).push { cls := .ref C, data := .fields #[.ref h.objs.size, .none, .none, .none, .bool false, .none] }).get? b = some o :=
    fun b o e => Heap.get?_push_of_some _ (Heap.get?_push_of_some _ e)
  have hC₁ := Heap.get?_push_of_some { cls := .ref C, data := .fields #[.ref h.objs.size, .none, .none, .none, .bool false, .none] }
    (Heap.get?_push_of_some { cls := .type "tuple", data := .seq rest.toArray } hC)
  have hget : ((h.push { cls := .type "tuple", data := .seq rest.toArray }).push
      { cls := .ref C, data := .fields #[.ref h.objs.size, .none, .none, .none, .bool false, .none] }).get? (h.objs.size + 1) = some
      { cls := .ref C, data := .fields #[.ref h.objs.size, .none, .none, .none, .bool false, .none] } := by heap_get
  have hcC : (Value.ref C :: bm).contains (.ref C) = true := by simp
  unfold isInstance
  repeat (first | with_reducible refine wpAny_loadPart_at hget ?_ | (with_reducible refine wpAny_isSubtype_exc hC₁ ?_; rw [hcC]) | wp_step)
  show wpAny _ _ (typeLookup (.ref C) _) _ _ _
  refine (looks_findIn (M := model prog w) X hi) _ _ _ ⟨_, g, d, t, os⟩ keep ?_
  refine wpAny_holding (wpAny_bind ?_)
  refine (bind_fn (M := model prog w) X (.ref (h.objs.size + 1)) hf) _ _ _ ⟨_, g, d, t, os⟩ keep ?_
  refine (wpAny_bind (wpAny_mono (hq _ (h.objs.size + 1) ⟨fun b o hb => Heap.get?_push_of_some _ (Heap.get?_push_of_some _ hb), Heap.get?_none_of_le (Nat.le_succ _), h.objs.size, hget, Heap.get?_none_of_le (Nat.le_refl _), ?_⟩) (fun r s' hr => ?_) fun _ _ x => x))
  · exact Heap.get?_push_of_some _ (Heap.get?_push_at rfl rfl)
  · obtain ⟨rfl, hQ⟩ := hr
    wp_walk
    exact hQ
theorem exc_call {K : Frag} (X : K.In h) (B : BmOk bm) {rest : List Value} {fI : Addr} {Q : Value → Shared → Prop}
    (hC : h.get? C = some (excClassObj nm q C N bs bm hdct sn sub ab col dd k0 k1 k2 k3 k5 "Exception.__new__")) (hi : findIn K (.ref C) "__init__" = some (some (.ref fI)))
    (hf : typeIn K (.ref fI) = some (.type "function"))
    (hq : ∀ h' e, Heap.MadeExcOf h h' e (.ref C) rest →
      wpAny (model prog w) (A.under (.builtin "type.__call__" ⟨.ref C :: rest, []⟩)) (call (.ref fI) (.ref e :: rest)) (fun r s' => r = .none ∧ Q (.ref e) s') E ⟨h', g, d, t, os⟩) (hrest : rest.length ≤ sizeLine) :
    wpAny (model prog w) A (call (.ref C) rest) Q E ⟨h, g, d, t, os⟩ := by
  have f1 := tc_lookup
  have f2 := tc_bind (.ref C)
  have hT : (⟨h, g, d, t, os⟩ : Shared).TypeIs (.ref C) "type" := ⟨_, hC, rfl⟩
  refine wpAny_call (codeAny_of_tree ?_)
  show wpAny _ _ (callAny (.ref C) _) _ _ _
  repeat (any_goals (first | assumption | with_reducible refine wpAny_loadPart_at hC ?_ | wp_step))
  refine ⟨rfl, ?_⟩
  refine codeAny_call_builtin_at (Code.quiet_builtin _ (by decide +kernel)) entry_typeCall (wpAny_check_type_call_sub hC (exc_type_call X B hC hi hf (fun h' e hm => ?_) hrest))
  exact hq h' e hm
end
end
section
-- part M14
open PySem PySem.W PyProof.Rows PySem.Calls PySem.Builtin PySem.Builtin.Str PySem.Builtin.ObjectAttr
structure SetK (K : Frag) (C : Addr) (n : Str) : Prop where
  slot : findIn K (.ref C) "__setattr__" = some (some (.builtin "object.__setattr__"))
  cd : ∃ cd, clsIn K C = some cd ∧ cd.hasDict = true ∧ ∀ self, refuseLoop self "__setattr__" cd.mro = pure ()
  sub : mroIn K C (.type "object") = some true
  tk : takerIn K C n = some none
theorem refuse_exc (self : Value) : ∀ {l : List Value}, (∃ own : List Addr, l = own.map .ref ++ [.type "Exception", .type "BaseException", .type "object"]) → refuseLoop self "__setattr__" l = pure ()
  | _, ⟨[], rfl⟩ => PySem.F.store_Exception.passes self
  | _, ⟨a :: own, rfl⟩ => by
    show refuseLoop self "__setattr__" (.ref a :: (own.map Value.ref ++ _)) = _
    rw [refuseLoop_ref]; exact refuse_exc self ⟨own, rfl⟩
section
variable {prog : Program} {w : World} {A : Around} {E : Value → Shared → Prop} {s : Shared} {K : Frag} {C x : Addr} {name : Str} {v : Value}
theorem attr_open {ox : Obj} {od : Option Obj} {Q : Unit → Shared → Prop} (X : K.In s.heap) (Y : SetK K C name) (I : InstAt s.heap x ox C od)
    (h : ∀ b, wpAny (model prog w) A.in1 (storeInOwnDict (.ref x) (.ref C) (.str name s.toks) name v b)
      (fun fin s' => match fin with | .done (.ret _) => Q () s' | _ => False) (fun e s' => E e s') { s with toks := s.toks + 1 }) :
    wpAny (model prog w) A (setAttr (.ref x) name v) Q E s := by
  obtain ⟨slot, ⟨cd, hc, hdict, hpass⟩, hsub, htk⟩ := Y
  refine set_plain X I slot ?_
  have SF := PySem.F.store_object
  have X' : K.In ({ s with toks := s.toks + 1 } : Shared).heap := X
  have I' : InstAt ({ s with toks := s.toks + 1 } : Shared).heap x ox C od := I
  have sub : Looks (model prog w) s.heap (isInstance (.ref x) (.type "object")) true := I.type.andThen (looks_mroIn X hsub)
  refine codeAny_call_builtin SF.slot.plain SF.entry (@check_slot (model prog w) _ _ { s with toks := s.toks + 1 } "object.__setattr__" "object" "__setattr__" (.ref x) [.str name s.toks, v] [] _ SF.kind SF.split sub (SF.args (.ref x) (.str name s.toks) v) ?_)
  obtain ⟨attr, ha, hr⟩ := Option.bind_eq_some_iff.mp htk
  have hm : Looks (model prog w) s.heap (mroOf (.ref C)) cd.mro := (looks_clsIn X hc).andThen .now
  have L3 : Looks (model prog w) s.heap (storeTaker? attr) none := by
    cases attr with
    | none => exact .now
    | some a =>
      obtain ⟨b, hb, hb2⟩ := Option.map_eq_some_iff.mp hr
      refine (looks_takesIn X hb).andThen ?_
      cases b
      · exact .now
      · cases hb2
  rw [osa_eq, refuse_eq]
  refine wpAny_bind (wpAny_bind (I'.type.here (wpAny_bind (hm _ _ _ { s with toks := s.toks + 1 } (fun _ _ e => e) ?_))))
  rw [hpass]
  refine wpAny_pure (wpAny_bind (I'.type.here (wpAny_bind ((looks_findIn X' ha).here (wpAny_bind (L3 _ _ _ { s with toks := s.toks + 1 } (fun _ _ e => e) ?_))))))
  refine wpAny_mono (h _) (fun fin s' hf => ?_) fun _ _ e => e
  split at hf
  · exact hf
  · exact hf.elim
theorem attr_set {ox : Obj} {dx : Addr} {m : Names} {ns : List Str} {Q : Unit → Shared → Prop} (X : K.In s.heap) (Y : SetK K C name) (hx : s.heap.get? x = some ox) (hc : ox.cls = .ref C) (hno : notCls ox = true)
    (hd : ox.dict = some dx) (hn : s.heap.Ns1 dx m) (hw : Within m ns) (hz : ns.length ≤ 1000)
    (hQ : ∀ h' tk, h'.Ns1 dx (fun y => if y = name then some v else m y) → Heap.SameBut dx s.heap h' → Q () { s with heap := h', toks := tk }) : wpAny (model prog w) A (setAttr (.ref x) name v) Q E s := by
  obtain ⟨od, _, _, hod, _⟩ := id hn
  have I : InstAt s.heap x ox C (some od) := ⟨hx, hc, hno, by rw [hd]; exact hod⟩
  obtain ⟨cd, hcd, hdict, _⟩ := Y.cd
  refine attr_open X Y I fun b => ?_
  have hX : K.In ({ s with toks := s.toks + 1 } : Shared).heap := X
  obtain ⟨oc, odi, oda, osl⟩ := ox
  dsimp only at hc hd
  subst hc hd
  refine wpAny_bind (wpAny_pure (wpAny_bind (wpAny_bind (wpAny_loadPart hx (wpAny_bind ((looks_clsIn hX hcd).here ?_))))))
  rw [hdict]
  refine wpAny_pure (a := some dx) ?_
  show wpAny _ _ (storeInDict dx (.str name s.toks) name v) _ _ _
  unfold storeInDict newKeyGuard
  refine wpAny_bind (wpAny_pure (wpAny_bind (wpAny_nsSet1 (s := { s with toks := s.toks + 1 }) hn fun h' hn' hs => ?_)))
  obtain ⟨oD, esD, epD, hoD, hdD, hcD⟩ := hn'.count (Within.cons name v hw)
  refine wpAny_bind (wpAny_lookBehind hoD (by rw [hdD]; exact pastItsLine_dict (Nat.le_trans hcD (by rw [List.length_cons, sizeLine_eq]; walk_at "om"))) ?_)
  exact wpAny_pure (hQ h' _ hn' hs)
theorem attr_new {ox : Obj} {Q : Unit → Shared → Prop} (X : K.In s.heap) (Y : SetK K C name) (hx : s.heap.get? x = some ox) (hc : ox.cls = .ref C) (hno : notCls ox = true) (hfr : ox.isFreed = false)
    (hd : ox.dict = none)
    (hQ : ∀ h' tk, h'.get? x = some { ox with dict := some s.heap.objs.size } → (∀ b o, b ≠ x → s.heap.get? b = some o → h'.get? b = some o) → Q () { s with heap := h', toks := tk }) : wpAny (model prog w) A (setAttr (.ref x) name v) Q E s := by
  have I : InstAt s.heap x ox C none := ⟨hx, hc, hno, by rw [hd]; trivial⟩
  obtain ⟨cd, hcd, hdict, _⟩ := Y.cd
  refine attr_open X Y I fun b => ?_
  have hX : K.In ({ s with toks := s.toks + 1 } : Shared).heap := X
  obtain ⟨oc, odi, oda, osl⟩ := ox
  dsimp only at hc hd
  subst hc hd
  have hnc : ∀ c, oda ≠ .cls c := fun c q => by subst q; cases hno
  refine wpAny_bind (wpAny_pure (wpAny_bind (wpAny_bind (wpAny_loadPart hx (wpAny_bind ((looks_clsIn hX hcd).here ?_))))))
  rw [hdict]
  have hx₁ : (s.heap.push { cls := .type "dict", data := .dict #[] }).get? x = some ⟨.ref C, none, oda, osl⟩ := Heap.get?_push_of_some _ hx
  have hxs : x ≠ s.heap.objs.size := Nat.ne_of_lt (Heap.lt_size hx)
  have tail : wpAny (model prog w) A.in1 (do
      let d ← alloc { cls := .type "dict", data := .dict #[] }
      update x fun o => { o with dict := some d }
      dictMade (.ref C) x d) (fun d s' => wpAny (model prog w) A.in1 (match d with | some d => storeInDict d (.str name s.toks) name v | none => noDictFor (.ref x) (.ref C) name b) (fun fin s' => match fin with | .done (.ret _) => Q () s' | _ => False) (fun e s' => E e s') s') (fun e s' => E e s') { s with toks := s.toks + 1 } := by
    refine wpAny_bind (wpAny_alloc (wpAny_bind (wpAny_update hx₁ (wpAny_pure ?_))))
    have hgd : ((s.heap.push { cls := .type "dict", data := .dict #[] }).update x fun o => { o with dict := some s.heap.objs.size }).get? s.heap.objs.size = some { cls := .type "dict", data := .dict #[] } :=
      (Heap.get?_update_ne _ _ _ _ hxs.symm).trans (Heap.get?_push_at rfl rfl)
    have hnd : ((s.heap.push { cls := .type "dict", data := .dict #[] }).update x fun o => { o with dict := some s.heap.objs.size }).Ns s.heap.objs.size (fun _ => none) :=
      ⟨_, #[], _, hgd, rfl, fun e he => absurd he (by simp), fun _ => rfl⟩
    dsimp only
    unfold storeInDict newKeyGuard
    refine wpAny_bind (wpAny_pure (wpAny_bind (wpAny_nsSet1 (Heap.Ns1.of_empty hnd) fun h' hn' hs => ?_)))
    obtain ⟨oD, esD, epD, hoD, hdD, hcD⟩ := hn'.count (Within.cons name v Within.nil)
    refine wpAny_bind (wpAny_lookBehind hoD (by rw [hdD]; exact pastItsLine_dict (Nat.le_trans hcD (by rw [List.length_cons, List.length_nil, sizeLine_eq]; walk_at "om"))) ?_)
    refine wpAny_pure (hQ h' _ ?_ fun b o hb e => ?_)
    · refine (hs.2 x hxs).trans (Heap.get?_update_self _ hx₁ ?_)
      cases oda <;> first | rfl | exact hfr
    · exact (hs.2 b (Nat.ne_of_lt (Heap.lt_size e))).trans ((Heap.get?_update_ne _ _ _ _ hb).trans (Heap.get?_push_of_some _ e))
  cases oda <;> first | exact absurd rfl (hnc _) | exact wpAny_bind tail | exact tail
end
end
section
-- part M15
open PySem PySem.W PyProof.Rows PySem.Calls PySem.Builtin PySem.Builtin.Str PySem.Builtin.ObjectAttr
structure ExcK (K : Frag) (C fI : Addr) : Prop where
  cls : ∃ nm q N bs bm hdct sn sub ab col dd k0 k1 k2 k3 k5, K.lookup C = some (excClassObj nm q C N bs bm hdct sn sub ab col dd k0 k1 k2 k3 k5 "Exception.__new__") ∧ BmOk bm
  init : findIn K (.ref C) "__init__" = some (some (.ref fI))
  fn : typeIn K (.ref fI) = some (.type "function")
  set : SetK K C (Str.ofString "message")
structure InitK (K : Frag) (fI : Addr) : Prop where
  there : ∃ sp mp ap pos sc, DefK K fI [.Assign [.Attribute (.Name (Str.ofString "self") sp) (Str.ofString "message") ap] (.Name (Str.ofString "message") mp) pos] sc [Str.ofString "self", Str.ofString "message"] ∧
    sc.names.lookup (Str.ofString "self") = some .local ∧ sc.names.lookup (Str.ofString "message") = some .local ∧ sc.isCoroutine = false ∧ sc.isGenerator = false ∧ sc.kind = .function
noncomputable def Mkr (P : Par) (d : Nat) (C : Addr) : Prop := ∀ (A : Around) (s : Shared) (v : Value) (Q E : Value → Shared → Prop), P.base.StaysIn s.heap → A.depth + d < recursionLimit →
  (∀ e s' dct t, Grow s s' → s.heap.get? e = none → s'.heap.get? e = some { cls := .ref C, dict := dct, data := .fields #[.ref t, .none, .none, .none, .bool false, .none] } → Q (.ref e) s') →
  wpAny (model P.prog P.w) A (call (.ref C) [v]) Q E s
theorem mkr_of {P : Par} {C fI : Addr} (Y : ExcK P.K C fI) (I : InitK P.K fI) : Mkr P 2 C := by
  obtain ⟨nm, q, N, bs, bm, hdct, sn, sub, ab, col, dd, k0, k1, k2, k3, k5, hC, B⟩ := Y.cls
  obtain ⟨sp, mp, ap, pos, sc, D, hself, hmsg, hco, hgen, hk⟩ := I.there
  obtain ⟨oc, od, osl, name, qual, params, dV, kV, doc, pm, an, cdv, ct, hlk, hcd, hbind⟩ := D.there
  intro A s v Q E hst hdep hQ
  have hX : P.K.In s.heap := P.X.keeps hst
  obtain ⟨hp, g, d, tk, os⟩ := s
  refine exc_call hX B (hX _ _ hC) Y.init Y.fn (fun h' e hm => ?_) (by rw [sizeLine_eq]; simp)
  have hX' : P.K.In h' := hX.keeps hm.keeps
  obtain ⟨t, he, ht, _⟩ := hm.there
  refine wpAny_call (codeAny_call_function (s := ⟨h', g, d, tk, os⟩) (by show A.depth + (Code.builtin "type.__call__" ⟨.ref C :: [v], []⟩).weight < _; rw [show (Code.builtin "type.__call__" ⟨.ref C :: [v], []⟩).weight = 1 from rfl]; walk_at "om")
    (hX' _ _ hlk) rfl hco hgen rfl (codeRec_of hX' hcd) (hbind ⟨h', g, d, tk, os⟩ [.ref e, v] hX' rfl _ _ _ _ ?_))
  have hkind : ∀ k, ∀ y ∈ [Str.ofString "self", Str.ofString "message"].zip [Value.ref e, v], sc.names.lookup y.1 = some .local ∨ (sc.names.lookup y.1 = some .cell ∧ ((cellsFrom k sc.names []).lookup y.1).isSome = true) := fun k y hy => by
    have := (List.of_mem_zip hy).1
    rcases List.mem_cons.mp this with h | h
    · rw [h]; exact .inl hself
    · rw [List.mem_singleton.mp h]; exact .inl hmsg
  refine wpAny_newFunctionEnv_cells hk (hkind _) fun env he' s1 hcall => ?_
  subst he'
  refine ⟨((topRead_of P.T).nolimit.keeps (fun b o q => hm.keeps b o (hst b o q))).keeps hcall.toInCall.keep, codeAny_func ?_⟩
  obtain ⟨h₁, tk1, rfl, hkeep⟩ := hcall.done
  have hns := hcall.toInCall.ns
  have hml : bindL (Env.kindOf (newEnv sc h'.objs.size mainGlobals (cellsFrom (h'.objs.size + 1) sc.names []) (qual ++ ".<locals>.") (some fI) cdv none builtinsNs)) ([Str.ofString "self", Str.ofString "message"].zip [Value.ref e, v]) (fun _ => none) (Str.ofString "message") = some v :=
    bindL_at (i := 1) hmsg (by decide) rfl rfl
  have hms : bindL (Env.kindOf (newEnv sc h'.objs.size mainGlobals (cellsFrom (h'.objs.size + 1) sc.names []) (qual ++ ".<locals>.") (some fI) cdv none builtinsNs)) ([Str.ofString "self", Str.ofString "message"].zip [Value.ref e, v]) (fun _ => none) (Str.ofString "self") = some (.ref e) :=
    bindL_at (i := 0) hself (by decide) rfl rfl
  refine wpAny_execs_cons (plainObj_wpAny_Assign_Attribute (wpAny_Name (wpAny_loadName_local hk hmsg hns hml (wpAny_Name (wpAny_loadName_local hk hself hns hms ?_) (by decide))) (by decide)))
  have he1 := hkeep e _ he
  refine attr_new (ox := { cls := .ref C, data := .fields #[.ref t, .none, .none, .none, .bool false, .none] }) (hX'.keeps hkeep) Y.set he1 rfl rfl rfl rfl fun h2 tk2 hx2 hk2 => ?_
  refine wpAny_execs_nil ⟨rfl, hQ e _ _ t ⟨⟨rfl, rfl, rfl⟩, fun b o q => hk2 b o (fun z => ?_) (hkeep b o (hm.keeps b o q))⟩ hm.new hx2⟩
  rw [z] at q
  have := hm.new
  rw [show hp.get? e = some o from q] at this
  cases this
section
variable {M : Model} {A : Around} {E : Value → Shared → Prop} {env : Env}
variable {nm q : Str} {C N : Addr} {bs bm : List Value} {hdct : Bool} {sn : List Str} {sub : List Value} {ab : Bool} {col : Option Bool} {dd : Option Addr} {k0 k1 k2 k3 k5 : Option Value} {newId : String}
theorem raise_stmt {s : Shared} {x : Sem Value} {Q : Flow → Shared → Prop} (hbase : bm.contains (.type "BaseException") = true) (hh : A.handled = none)
    (h : wpAny M A x (fun v s₁ => ∃ e t dct, v = .ref e ∧ s₁.heap.get? C = some (excClassObj nm q C N bs bm hdct sn sub ab col dd k0 k1 k2 k3 k5 newId) ∧
      s₁.heap.get? e = some { cls := .ref C, dict := dct, data := .fields #[.ref t, .none, .none, .none, .bool false, .none] } ∧ E (.ref e) s₁) E s) :
    wpAny M A (raiseStmt env (some x) none) Q E s := by
  have hcB : (Value.ref C :: bm).contains (.type "BaseException") = true := by rw [List.contains_cons, hbase, Bool.or_true]
  unfold raiseStmt
  refine wpAny_bind (wpAny_mono h (fun v s₁ h₁ => ?_) fun _ _ x => x)
  obtain ⟨e, t, dct, rfl, hC, he, hE⟩ := h₁
  obtain ⟨hp, g, d, tk, os⟩ := s₁
  repeat (first | with_reducible refine wpAny_loadPart_at he ?_ | with_reducible refine wpAny_loadPart_at hC ?_ | (with_reducible refine wpAny_isSubtype_exc hC ?_; rw [hcB]) | wp_step)
  exact wpAny_raiseNew_none hh hE
end
noncomputable def pRaise (C : Addr) (p : PE) : PS := fun ρ c _ _ Ke => p ρ c (fun _ c1 => Ke ρ C c1) (Ke ρ)
section
variable {P : Par} {sc : Scope} {ns : List Str} {d : Nat}
theorem s_raise {C fI : Addr} {n : Str} {np cpos pos : Pos} {e : Expr} {p : PE} (Y : ExcK P.K C fI) (mk : Mkr P 2 C) (hd2 : 2 ≤ d) (he : nsIn P.K mainGlobals n = some (some (.ref C))) (hkeep : keepIn P.K (.ref C) = true) (hk : sc.names.lookup n = some .globalImplicit)
    (hd : (n == Str.ofString "__debug__") = false) (h1 : SoundE P true d sc ns e p) (hs : ∀ env, starEach [e] env = (false, eval e env) :: starEach [] env) :
    SoundS P true d sc ns (.Raise (some (.Call (.Name n np) [e] [] cpos)) none pos) (pRaise C p) := by
  intro A v s m ρ c x X Q E Kn Kr Ke G O S hp hQ hR hE
  obtain ⟨nm, q, N, bs, bm, hdct, sn, sub, ab, col, dd, k0, k1, k2, k3, k5, hC, B⟩ := Y.cls
  rw [arm_exec_Raise]
  refine wpAny_bind (wpAny_standAt ?_)
  show wpAny _ _ (raiseStmt (v.env sc) (some (do let v ← eval (.Call (.Name n np) [e] [] cpos) (v.env sc); standAt pos; pure v)) none) _ _ _
  refine raise_stmt (C := C) (nm := nm) (q := q) (N := N) (bs := bs) (bm := bm) (hdct := hdct) (sn := sn) (sub := sub) (ab := ab) (col := col) (dd := dd) (k0 := k0) (k1 := k1) (k2 := k2) (k3 := k3) (k5 := k5) (newId := "Exception.__new__") B.base (G.handled rfl) (wpAny_bind (wpAny_Call_Name_kw (name_K S G he hk hd ?_)))
  refine callWith_K P.X hkeep ((sound_args_cons h1 sound_args_nil hs) cpos A v s m ρ c x X _ _ (fun l c1 => ifB (sameLen l [()]) (Ke ρ C c1)) _ G S (by unfold pCons pNil; exact hp) (fun l c1 vl s1 a1 r1 hp1 => ⟨P.X.keeps a1.st.fr.keep, ?_⟩) (fun C c1 e s1 a1 ex k => hE _ _ _ _ _ _ _ _ a1.toS ex k)) (hs _) rfl
  replace hp1 := ifB_len hp1
  have hl := relVs_length r1
  rw [hp1.1] at hl
  · obtain ⟨v1, rfl⟩ := len1 hl
    refine mk A s1 v1 _ _ a1.st.fr.keep (by have := G.room; walk_at "om") fun e s2 dct t g hn he2 => ?_
    refine wpAny_bind (wpAny_standAt (wpAny_pure ⟨e, t, dct, rfl, P.X.keeps (a1.grow g).st.fr.keep _ _ hC, he2, ?_⟩))
    exact hE C _ _ _ _ _ e s2 (a1.grow g).toS ⟨_, _, he2, rfl, rfl, by show 1 < 6; decide, a1.absent _ hn, .inl rfl⟩ hp1.2
noncomputable def pTryQ (p : PS) : PS := fun ρ c Kn Kr Ke => p ρ c Kn Kr (fun _ _ _ => False)
theorem s_tryQ {b : List Stmt} {h₀ : ExceptHandler} {hs : List ExceptHandler} {pos : Pos} {p : PS} {hn : Bool} (h1 : SoundSs P hn d sc ns b p) : SoundS P hn d sc ns (.Try b (h₀ :: hs) [] [] pos) (pTryQ p) := by
  intro A v s m ρ c x X Q E Kn Kr Ke G O S hp hQ hR hE
  exact wpAny_Try_except (h1 A v s m ρ c x X _ _ _ _ _ G O S hp (fun ρ1 c1 m1 x1 X1 s1 a1 k => wpAny_execs_nil (hQ _ _ _ _ _ _ a1 k)) (fun r ρ1 c1 m1 x1 X1 val s1 a1 rel k => hR _ _ _ _ _ _ _ _ a1 rel k) (fun C ρ1 c1 m1 x1 X1 e s1 a1 ex k => k.elim))
theorem exc_matches {A : Around} {s : Shared} {K : Frag} {C fI : Addr} {e : Addr} {oe : Obj} {Q : Bool → Shared → Prop} {E : Value → Shared → Prop} (X : K.In s.heap) (Y : ExcK K C fI) (he : s.heap.get? e = some oe) (hc : oe.cls = .ref C) (hQ : Q true s) :
    wpAny (model P.prog P.w) A (excMatches (.ref e) (.ref C)) Q E s := by
  obtain ⟨nm, q, N, bs, bm, hdct, sn, sub, ab, col, dd, k0, k1, k2, k3, k5, hC, B⟩ := Y.cls
  have hC := X _ _ hC
  have hcB : (Value.ref C :: bm).contains (.type "BaseException") = true := by rw [List.contains_cons, B.base, Bool.or_true]
  have hcC : (Value.ref C :: bm).contains (.ref C) = true := by simp
  have f1 := tc_notTuple
  obtain ⟨hp, g, d, tk, os⟩ := s
  unfold excMatches isInstance isExcClass
  have hT : (⟨hp, g, d, tk, os⟩ : Shared).TypeIs (.ref C) "type" := ⟨_, hC, rfl⟩
  repeat (any_goals (first | assumption | (with_reducible refine wpAny_loadPart_at he ?_; rw [hc]) | with_reducible refine wpAny_loadPart_at hC ?_ | (with_reducible refine wpAny_isSubtype_exc hC ?_; first | rw [hcB] | rw [hcC]) | wp_step))
noncomputable def pTry (C : Addr) (p q : PS) : PS := fun ρ c Kn Kr Ke => p ρ c Kn Kr (fun ρ' C' c' => C' = C ∧ q ρ' c' Kn Kr (fun _ _ _ => False))
theorem s_try {b : List Stmt} {C fI : Addr} {n : Str} {np hp pos : Pos} {b₀ : Stmt} {suite : List Stmt} {p q : PS} (Y : ExcK P.K C fI) (he : nsIn P.K mainGlobals n = some (some (.ref C))) (hk : sc.names.lookup n = some .globalImplicit)
    (hd : (n == Str.ofString "__debug__") = false) (h1 : SoundSs P true d sc ns b p) (h2 : SoundSs P false d sc ns (b₀ :: suite) q) :
    SoundS P true d sc ns (.Try b [.ExceptHandler (some (.Name n np)) none (b₀ :: suite) hp] [] [] pos) (pTry C p q) := by
  intro A v s m ρ c x X Q E Kn Kr Ke G O S hp hQ hR hE
  refine wpAny_Try_except (h1 A v s m ρ c x X _ _ _ _ _ G O S hp (fun ρ1 c1 m1 x1 X1 s1 a1 k => wpAny_execs_nil (hQ _ _ _ _ _ _ a1 k)) (fun r ρ1 c1 m1 x1 X1 val s1 a1 rel k => hR _ _ _ _ _ _ _ _ a1 rel k) (fun C' ρ1 c1 m1 x1 X1 e s1 a1 ex k => ?_))
  obtain ⟨rfl, hq⟩ := k
  obtain ⟨outer, hO, hfm⟩ := O
  refine note_ok (base := P.base) (h₀ := s.heap) (G.frames.trans (congrArg some hO)) (hO ▸ a1.st.ff) hfm ex S.fr.keep a1.st.fr.keep a1.absent fun h2' N2 x2 => ?_
  have a2 := a1.noted N2
  refine flight_ok (s := { s1 with heap := h2' }) x2 S.fr.keep a2.st.fr.keep none fun h3 N3 x3 => ?_
  have a3 := a2.noted N3
  have G' : Good (A.mark (some (.ref e))) v sc false d := ⟨G.frames, G.some, nofun, G.room, G.units, G.kind⟩
  obtain ⟨oe, vs, T, oT, ts, he1, he2, he3, he4, he5, he6, he7, he8, he9, he10⟩ := x3
  refine wpAny_handleBy_cons (codeAny_handlers_test (name_K a3.st G' he hk hd (exc_matches (P.X.keeps a3.st.fr.keep) Y he1 he2 ?_))) nofun
  refine codeAny_handlers_suite ?_
  refine flight_ok (s := { s1 with heap := h3 }) ⟨oe, vs, T, oT, ts, he1, he2, he3, he4, he5, he6, he7, he8, he9, he10⟩ S.fr.keep a3.st.fr.keep none fun h4 N4 x4 => ?_
  have a4 := a3.noted N4
  exact h2 (A.mark (some (.ref e))) v { s1 with heap := h4 } m1 ρ1 c1 x1 X1 _ _ _ _ _ G' ⟨outer, hO, hfm⟩ a4.st hq (fun ρ5 c5 m5 x5 X5 s5 a5 k => hQ _ _ _ _ _ _ (a4.trans a5) k) (fun r ρ5 c5 m5 x5 X5 val s5 a5 rel k => hR _ _ _ _ _ _ _ _ (a4.trans a5) rel k) (fun C ρ5 c5 m5 x5 X5 e s5 a5 ex k => k.elim)
end
end
section
-- part M16
open PySem PySem.W PyProof.Rows PySem.Calls PySem.Builtin PySem.Builtin.Str PySem.Builtin.ObjectAttr
noncomputable abbrev Src := Str ⊕ Int
inductive IB (sc : Scope) : List Stmt → List (Str × Src) → Prop where
  | nil : IB sc [] []
  | par {sp ap pp pos attr p rest l} : sc.names.lookup p = some .local → (p == Str.ofString "__debug__") = false → IB sc rest l → IB sc (.Assign [.Attribute (.Name (Str.ofString "self") sp) attr ap] (.Name p pp) pos :: rest) ((attr, .inl p) :: l)
  | int {sp ap cp pos attr i k rest l} : IB sc rest l → IB sc (.Assign [.Attribute (.Name (Str.ofString "self") sp) attr ap] (.Constant (.int i) k cp) pos :: rest) ((attr, .inr i) :: l)
inductive Given (m : Names) : List (Str × Src) → List Value → Prop where
  | nil : Given m [] []
  | par {a p l v vs} : m p = some v → Given m l vs → Given m ((a, .inl p) :: l) (v :: vs)
  | int {a i l t vs} : Given m l vs → Given m ((a, .inr i) :: l) (.int i t :: vs)
noncomputable def putAll : List (Str × Value) → Names → Names
  | [], m => m
  | (a, v) :: l, m => putAll l (fun y => if y = a then some v else m y)
theorem putAll_eq : ∀ {l : List (Str × Value)} {m : Names} (y : Str), (l.map (·.1)).Nodup → putAll l m y = match l.lookup y with | some v => some v | none => m y := by
  intro l
  induction l with
  | nil => exact fun _ _ => rfl
  | cons p l ih =>
    intro m y h
    obtain ⟨a, v⟩ := p
    have hn := List.nodup_cons.mp h
    show putAll l _ y = _
    rw [ih y hn.2, List.lookup_cons]
    by_cases q : y = a
    · subst q
      have : l.lookup y = none := List.lookup_eq_none_iff.mpr fun p hp => bne_iff_ne.mpr fun e => hn.1 (List.mem_map.mpr ⟨p, hp, e.symm⟩)
      rw [this, beq_self_eq_true]
      exact if_pos rfl
    · rw [show (y == a) = false from beq_eq_false_iff_ne.mpr q]
      cases l.lookup y with
      | some w => rfl
      | none => exact if_neg q
section
variable {prog : Program} {w : World} {A : Around} {E : Value → Shared → Prop} {K : Frag} {C x dx : Addr} {env : Env} {m : Names}
theorem init_run (hk : env.scope.kind = .function) (hself : env.scope.names.lookup (Str.ofString "self") = some .local) (hms : m (Str.ofString "self") = some (.ref x)) : ∀ {stmts : List Stmt} {l : List (Str × Src)} {s : Shared} {mD : Names} {ns : List Str} {Q : Flow → Shared → Prop},
    IB env.scope stmts l → (∀ a ∈ l.map (·.1), SetK K C a) → (∀ p a, (a, Sum.inl p) ∈ l → ∃ v, m p = some v) → K.In s.heap → s.heap.Ns env.locals m → s.heap.get? x = some (instObj C dx) → s.heap.Ns1 dx mD → x ≠ dx → env.locals ≠ dx → K.lookup dx = none → Within mD ns → ns.length + l.length ≤ 1000 →
    (∀ h' tk vals, Given m l vals → h'.Ns1 dx (putAll ((l.map (·.1)).zip vals) mD) → (∀ b o, b ≠ dx → s.heap.get? b = some o → h'.get? b = some o) → Q .next { s with heap := h', toks := tk }) → wpAny (model prog w) A (execs stmts env) Q E s := by
  intro stmts l s mD ns Q ib
  induction ib generalizing s mD ns Q with
  | nil => intro _ _ _ _ _ hD _ _ _ _ _ hQ; exact wpAny_execs_nil (hQ s.heap s.toks [] .nil hD fun _ _ _ e => e)
  | @par sp ap pp pos attr p rest l hp hd ib ih =>
    intro hS hg X hn hx hD hne hLd hKd hw hz hQ
    obtain ⟨v, hv⟩ := hg p attr (.head _)
    refine wpAny_execs_cons (plainObj_wpAny_Assign_Attribute (wpAny_Name (wpAny_loadName_local hk hp hn hv (wpAny_Name (wpAny_loadName_local hk hself hn hms ?_) (by decide))) hd))
    refine attr_set X (hS attr (.head _)) hx rfl rfl rfl hD hw (by simp at hz; walk_at "om") fun h' tk hD' hs => ?_
    have kp : ∀ b o, b ≠ dx → s.heap.get? b = some o → h'.get? b = some o := fun b o nb e => (hs.2 b nb).trans e
    refine ih (fun a ha => hS a (.tail _ ha)) (fun p a h => hg p a (.tail _ h)) (s := { s with heap := h', toks := tk }) (fun a o e => kp a o (neG (f := (List.lookup · K)) hKd e) (X a o e)) (hn.at' fun o e => kp _ o hLd e) (kp x _ hne hx) hD' hne hLd hKd (Within.cons attr v hw) (by simp at hz ⊢; walk_at "om")
      fun h2 tk2 vals g hD2 k2 => hQ h2 tk2 (v :: vals) (.par hv g) hD2 fun b o nb e => k2 b o nb (kp b o nb e)
  | @int sp ap cp pos attr i k rest l ib ih =>
    intro hS hg X hn hx hD hne hLd hKd hw hz hQ
    refine wpAny_execs_cons (plainObj_wpAny_Assign_Attribute (wpAny_Constant_int (wpAny_Name (wpAny_loadName_local (s := { s with toks := s.toks + 1 }) hk hself hn hms ?_) (by decide))))
    refine attr_set (s := { s with toks := s.toks + 1 }) X (hS attr (.head _)) hx rfl rfl rfl hD hw (by simp at hz; walk_at "om") fun h' tk hD' hs => ?_
    have kp : ∀ b o, b ≠ dx → s.heap.get? b = some o → h'.get? b = some o := fun b o nb e => (hs.2 b nb).trans e
    refine ih (fun a ha => hS a (.tail _ ha)) (fun p a h => hg p a (.tail _ h)) (s := { s with heap := h', toks := tk }) (fun a o e => kp a o (neG (f := (List.lookup · K)) hKd e) (X a o e)) (hn.at' fun o e => kp _ o hLd e) (kp x _ hne hx) hD' hne hLd hKd (Within.cons attr (.int i s.toks) hw) (by simp at hz ⊢; walk_at "om")
      fun h2 tk2 vals g hD2 k2 => hQ h2 tk2 (.int i s.toks :: vals) (.int g) hD2 fun b o nb e => k2 b o nb (kp b o nb e)
end
structure ClassK (K : Frag) (C : Addr) (ps : List Str) (l : List (Str × Src)) : Prop where
  makes : makesIn K C = true
  there : ∃ fI body sc, findIn K (.ref C) "__init__" = some (some (.ref fI)) ∧ typeIn K (.ref fI) = some (.type "function") ∧ DefK K fI body sc (Str.ofString "self" :: ps) ∧ IB sc body l ∧
    sc.names.lookup (Str.ofString "self") = some .local ∧ (∀ p ∈ ps, sc.names.lookup p = some .local) ∧ sc.isCoroutine = false ∧ sc.isGenerator = false ∧ sc.kind = .function
  set : ∀ a ∈ l.map (·.1), SetK K C a
  nodup : (l.map (·.1)).Nodup
  pnodup : (Str.ofString "self" :: ps).Nodup
  par : ∀ a p, (a, Sum.inl p) ∈ l → p ∈ ps
  few : l.length ≤ 100
theorem lookup_zip {p : Str} {v : Value} : ∀ {ps : List Str} {vs : List Value}, (ps.zip vs).lookup p = some v → ∃ i : Nat, ps[i]? = some p ∧ vs[i]? = some v := by
  intro ps
  induction ps with
  | nil => intro _ e; cases e
  | cons q ps ih => intro vs e; cases vs with
    | nil => cases e
    | cons w vs =>
      rw [List.zip_cons_cons, List.lookup_cons] at e
      by_cases h : p = q
      · subst h
        rw [beq_self_eq_true] at e
        cases e
        exact ⟨0, rfl, rfl⟩
      · rw [beq_eq_false_iff_ne.mpr h] at e
        obtain ⟨i, h1, h2⟩ := ih e
        exact ⟨i + 1, h1, h2⟩
theorem lookup_zip_some {p : Str} : ∀ {ps : List Str} {vs : List Value}, p ∈ ps → vs.length = ps.length → ∃ v, (ps.zip vs).lookup p = some v
  | q :: ps, w :: vs, h, hl => by
    show ∃ v, List.lookup p ((q, w) :: ps.zip vs) = some v
    rw [List.lookup_cons]
    by_cases e : p = q
    · subst e
      rw [beq_self_eq_true]
      exact ⟨w, rfl⟩
    · rw [beq_eq_false_iff_ne.mpr e]
      rcases List.mem_cons.mp h with h | h
      · exact absurd h e
      · exact lookup_zip_some h (by simpa using hl)
theorem Given.mono {m m' : Names} {l : List (Str × Src)} {vals : List Value} (h : ∀ a p, (a, Sum.inl p) ∈ l → ∀ v, m p = some v → m' p = some v) (g : Given m l vals) : Given m' l vals := by
  induction g with
  | nil => exact .nil
  | par e _ ih => exact .par (h _ _ (.head _) _ e) (ih fun a p hm => h a p (.tail _ hm))
  | int _ ih => exact .int (ih fun a p hm => h a p (.tail _ hm))
theorem Given.length {m : Names} {l : List (Str × Src)} {vals : List Value} (g : Given m l vals) : vals.length = l.length := by
  induction g with
  | nil => rfl
  | par _ _ ih => simp [ih]
  | int _ ih => simp [ih]
theorem make_ok {P : Par} {C : Addr} {ps : List Str} {l : List (Str × Src)} (Y : ClassK P.K C ps l) {A : Around} {s : Shared} {vs : List Value} {Q E : Value → Shared → Prop} (hst : P.base.StaysIn s.heap) (hdep : A.depth + 2 < recursionLimit) (hl : vs.length = ps.length)
    (hQ : ∀ h' tk x dx vals, s.heap.get? x = none → s.heap.get? dx = none → x ≠ dx → h'.get? x = some (instObj C dx) → Given (fun p => (ps.zip vs).lookup p) l vals → (∃ od, h'.get? dx = some od ∧ DictIs od ((l.map (·.1)).zip vals)) →
      (∀ b o, s.heap.get? b = some o → h'.get? b = some o) → Q (.ref x) { s with heap := h', toks := tk }) : wpAny (model P.prog P.w) A (call (.ref C) vs) Q E s := by
  obtain ⟨fI, body, sc, hi, hf, D, ib, hself, hps, hco, hgen, hk⟩ := Y.there
  obtain ⟨oc, od, osl, name, qual, params, dV, kV, doc, pm, an, cdv, ct, hlk, hcd, hbind⟩ := D.there
  have hX : P.K.In s.heap := P.X.keeps hst
  obtain ⟨hp, g, d, tk, os⟩ := s
  refine wpAny_call (make_core (makes_of hX Y.makes) (looks_findIn hX hi) (fun self => bind_fn hX self hf) (.inl rfl) ?_)
  have keep : ∀ b o, hp.get? b = some o → ((hp.push emptyDict).push (instObj C hp.objs.size)).get? b = some o := fun b o e => Heap.get?_push_of_some _ (Heap.get?_push_of_some _ e)
  have hX' := hX.keeps keep
  refine codeAny_call_function (s := ⟨(hp.push emptyDict).push (instObj C hp.objs.size), g, d, tk, os⟩) (by show A.depth + (Code.builtin "type.__call__" ⟨.ref C :: vs, []⟩).weight < _; rw [show (Code.builtin "type.__call__" ⟨.ref C :: vs, []⟩).weight = 1 from rfl]; walk_at "om")
    (hX' _ _ hlk) rfl hco hgen rfl (codeRec_of hX' hcd) (hbind ⟨(hp.push emptyDict).push (instObj C hp.objs.size), g, d, tk, os⟩ (.ref (hp.objs.size + 1) :: vs) hX' (by simp [hl]) _ _ _ _ ?_)
  refine wpAny_newFunctionEnv_cells hk (fun y hy => ?_) fun env he' s1 hcall => ?_
  · have := (List.of_mem_zip hy).1
    rcases List.mem_cons.mp this with h | h
    · rw [h]; exact .inl hself
    · exact .inl (hps _ h)
  subst he'
  refine ⟨((topRead_of P.T).nolimit.keeps (fun b o q => keep b o (hst b o q))).keeps hcall.toInCall.keep, codeAny_func ?_⟩
  obtain ⟨h₁, tk1, rfl, hkeep⟩ := hcall.done
  have hns := hcall.toInCall.ns
  have hsz : ((hp.push emptyDict).push (instObj C hp.objs.size)).objs.size = hp.objs.size + 2 := by rw [Heap.size_push, Heap.size_push]
  have hx : ((hp.push emptyDict).push (instObj C hp.objs.size)).get? (hp.objs.size + 1) = some (instObj C hp.objs.size) := by heap_get
  have hd : ((hp.push emptyDict).push (instObj C hp.objs.size)).get? hp.objs.size = some emptyDict := by heap_get
  have hnd : ((hp.push emptyDict).push (instObj C hp.objs.size)).Ns hp.objs.size (fun _ => none) := ⟨_, #[], _, hd, rfl, fun e he => absurd he (by simp), fun _ => rfl⟩
  have hnd1 : h₁.Ns1 hp.objs.size (fun _ => none) := (Heap.Ns1.of_empty hnd).keeps hkeep
  have hml : ∀ p v, (ps.zip vs).lookup p = some v → bindL (Env.kindOf (newEnv sc ((hp.push emptyDict).push (instObj C hp.objs.size)).objs.size mainGlobals (cellsFrom (((hp.push emptyDict).push (instObj C hp.objs.size)).objs.size + 1) sc.names []) (qual ++ ".<locals>.") (some fI) cdv none builtinsNs)) ((Str.ofString "self" :: ps).zip (.ref (hp.objs.size + 1) :: vs)) (fun _ => none) p = some v := fun p v e => by
    obtain ⟨i, h1, h2⟩ : ∃ i : Nat, ps[i]? = some p ∧ vs[i]? = some v := lookup_zip e
    exact bindL_at (i := i + 1) (hps p (List.mem_of_getElem? h1)) Y.pnodup (by simpa using h1) (by simpa using h2)
  have hms : bindL (Env.kindOf (newEnv sc ((hp.push emptyDict).push (instObj C hp.objs.size)).objs.size mainGlobals (cellsFrom (((hp.push emptyDict).push (instObj C hp.objs.size)).objs.size + 1) sc.names []) (qual ++ ".<locals>.") (some fI) cdv none builtinsNs)) ((Str.ofString "self" :: ps).zip (.ref (hp.objs.size + 1) :: vs)) (fun _ => none) (Str.ofString "self") = some (.ref (hp.objs.size + 1)) :=
    bindL_at (i := 0) hself Y.pnodup rfl rfl
  have hKd : P.K.lookup hp.objs.size = none := by
    cases q : P.K.lookup hp.objs.size with
    | none => rfl
    | some o => exact absurd (Heap.lt_size (hX _ _ q)) (Nat.lt_irrefl _)
  refine init_run (env := newEnv sc ((hp.push emptyDict).push (instObj C hp.objs.size)).objs.size mainGlobals (cellsFrom (((hp.push emptyDict).push (instObj C hp.objs.size)).objs.size + 1) sc.names []) (qual ++ ".<locals>.") (some fI) cdv none builtinsNs) (s := ⟨h₁, g, d, tk1, os⟩)
    hk hself hms ib Y.set (fun p a h => ?_) (hX'.keeps hkeep) hns (hkeep _ _ hx) hnd1 (Nat.succ_ne_self _) (by show ((hp.push emptyDict).push (instObj C hp.objs.size)).objs.size ≠ hp.objs.size; rw [hsz]; walk_at "om") hKd Within.nil (by have := Y.few; simp; walk_at "om") fun h' tk2 vals gv hD hk2 => ?_
  · obtain ⟨v, hv⟩ := lookup_zip_some (Y.par _ _ h) hl
    exact ⟨v, hml p v hv⟩
  · have kp : ∀ b o, hp.get? b = some o → h'.get? b = some o := fun b o e => hk2 b o (Nat.ne_of_lt (Heap.lt_size e)) (hkeep _ _ (keep _ _ e))
    refine ⟨rfl, hQ h' tk2 (hp.objs.size + 1) hp.objs.size vals (Heap.get?_none_of_le (Nat.le_succ _)) (Heap.get?_none_of_le (Nat.le_refl _)) (Nat.succ_ne_self _) (hk2 _ _ (Nat.succ_ne_self _) (hkeep _ _ hx)) (gv.mono fun a p hm v hv => ?_) ?_ kp⟩
    · obtain ⟨v', hv'⟩ := lookup_zip_some (Y.par _ _ hm) hl
      have := hml p v' hv'
      rw [this] at hv; cases hv
      exact hv'
    · obtain ⟨od, es, ep, e1, e2, e3, e4, e5⟩ := hD
      refine ⟨od, e1, es, ep, e2, e3, e4, fun y => ?_⟩
      have hn : (((l.map (·.1)).zip vals).map (·.1)).Nodup := by
        rw [List.map_fst_zip (by rw [gv.length]; simp)]
        exact Y.nodup
      rw [e5, putAll_eq y hn]
      cases List.lookup y ((l.map (·.1)).zip vals) <;> rfl
end
section
-- part M17
open PySem PySem.W PyProof.Rows PySem.Calls PySem.Builtin PySem.Builtin.Str PySem.Builtin.ObjectAttr
@[reducible] noncomputable def sMat : Spec := fun args c K _ => match allD args with | some l => ifB (sameLen l matNames) (K (.d (.mat l)) c) | none => False
theorem zip_lookup {ps : List Str} {vs : List Value} {i : Nat} {p : Str} (hn : ps.Nodup) (hl : ps.length = vs.length) (h : ps[i]? = some p) : (ps.zip vs).lookup p = vs[i]? := by
  induction ps generalizing vs i with
  | nil => cases h
  | cons a ps ih => cases vs with
    | nil => cases hl
    | cons v vs => cases i with
      | zero => cases h; exact List.lookup_cons_self
      | succ i =>
        have hn := List.nodup_cons.mp hn
        rw [List.zip_cons_cons, List.lookup_cons, show (p == a) = false from beq_eq_false_iff_ne.mpr fun e => hn.1 (e ▸ List.mem_of_getElem? h)]
        exact ih hn.2 (Nat.succ.inj hl) h
theorem given_par {m : Names} {ps : List Str} {vs vals : List Value} (h : ∀ (i : Nat) p, ps[i]? = some p → m p = vs[i]?) (hl : ps.length = vs.length) (g : Given m (ps.map fun n => (n, .inl n)) vals) : vals = vs := by
  induction ps generalizing vs vals with
  | nil => cases g; cases vs with
    | nil => rfl
    | cons v vs => cases hl
  | cons p ps ih => cases vs with
    | nil => cases hl
    | cons v vs => cases g with
      | par h1 g => rw [ih (fun i q hq => h (i + 1) q hq) (Nat.succ.inj hl) g, Option.some.inj (h1.symm.trans (h 0 p rfl))]
theorem mat_nodup : matNames.Nodup := by decide +kernel
theorem ok_mat {P : Par} (Y : ClassK P.K cMat matNames (matNames.map fun n => (n, .inl n))) : Ok P 2 (.ref cMat) sMat := by
  intro A fs s vs args c x X Q E KQ KE hfr hne hh hdep hun am rel hp hQ hE
  unfold sMat at hp
  split at hp
  · rename_i l hl
    obtain ⟨h6, hp⟩ := ifB_len hp
    replace h6 : l.length = 6 := h6
    have hr := relVs_allD hl rel
    have hlv := relL_length hr
    rw [h6] at hlv
    refine make_ok Y am.stays hdep hlv fun h' tk x' dx vals hx hdx hne' hx' gv hod keep => ?_
    have hv : vals = vs := given_par (fun i p hi => zip_lookup mat_nodup hlv.symm hi) hlv.symm gv
    subst hv
    obtain ⟨od, ho1, ho2⟩ := hod
    have g : Grow s { s with heap := h', toks := tk } := ⟨⟨rfl, rfl, rfl⟩, keep⟩
    have hnX : ∀ y, s.heap.get? y = none → y ∉ X := fun y e q => by
      obtain ⟨o, e2⟩ := am.xs y q
      rw [e] at e2; cases e2
    refine hQ (.d (.mat l)) c _ _ (AmbAft.grow am g) ?_ hp
    show Rel _ _ _ _
    unfold Rel
    exact ⟨x', _, dx, od, vals, rfl, hnX _ hx, hnX _ hdx, hx', rfl, rfl, rfl, ho1, ho2, hlv, RelL.up (g.sure _) _ _ hr⟩
  · exact hp.elim
noncomputable def isLst : SV → CO → Bool
  | .cell, .lst _ => true
  | _, _ => false
@[reducible] noncomputable def sApp : Spec := fun args c K _ => match args, c with
  | [.cell, .d y], .lst l => l.length < sizeLine ∧ K (.d .none) (.lst (l ++ [y]))
  | _, _ => False
theorem getsM_append {P : Par} : GetsM P (Str.ofString "append") (.builtin "list.append") isLst := by
  intro A s x X a c va pl Q E hK hc ra hp hQ
  cases a with
  | d a => cases hp
  | cell =>
    cases c <;> try cases hp
    obtain ⟨a, o, vs, n, h1, _, ho, hcl, hd, hr, hn⟩ := hc
    obtain ⟨p, hp1, rfl⟩ := ra
    rw [h1] at hp1; cases hp1
    exact getMethod_list_append ho hcl hn hQ
theorem Amb.turn {P : Par} {fs : List Env} {c c' : CO} {p : Addr × Addr} {X : List Addr} {s : Shared} {h' : Heap} {tk : Nat} (am : Amb P fs c (some p) X s.heap) (k : ∀ b o, b ≠ p.2 → s.heap.get? b = some o → h'.get? b = some o) (hc : CellAt (some p) X h' c') :
    AmbAft P fs (some p) X s c' { s with heap := h', toks := tk } := by
  have hpX := (CellAt.there rfl _ am.cell).1
  obtain ⟨_, o', h1, h2⟩ := CellAt.there rfl _ hc
  refine ⟨⟨rfl, rfl, rfl⟩, ⟨fun b o e => k b o (neG (am.xb _ hpX) e) (am.stays b o e), ?_, hc, fun b hb => ?_, am.xb⟩, fun b o e n => ⟨o.slots, k b o (fun q => n (by rw [q]; exact .head _)) e, fun _ => rfl⟩⟩
  · refine funFrames_alive (fun b o e hd => ?_) am.ff
    by_cases q : b = p.2
    · subst q; exact ⟨o', h1, h2⟩
    · exact ⟨o, k b o q e, hd⟩
  · by_cases q : b = p.2
    · subst q; exact ⟨o', h1⟩
    · obtain ⟨o, e⟩ := am.xs b hb
      exact ⟨o, k b o q e⟩
theorem sApp_inv {args : List SV} {c : CO} {K : SV → CO → Prop} {KE : Addr → CO → Prop} (h : sApp args c K KE) : ∃ y l, args = [.cell, .d y] ∧ c = .lst l ∧ l.length < sizeLine ∧ K (.d .none) (.lst (l ++ [y])) := by
  cases args with
  | nil => exact h.elim
  | cons a r => cases a with
    | d => exact h.elim
    | cell => cases r with
      | nil => exact h.elim
      | cons b r => cases b with
        | cell => exact h.elim
        | d y => cases r with
          | cons => exact h.elim
          | nil => cases c with
            | lst l => exact ⟨y, l, rfl, rfl, h⟩
            | _ => exact h.elim
theorem append_ok {P : Par} : Ok P 0 (.builtin "list.append") sApp := by
  intro A fs s vs args c x X Q E KQ KE hfr hne hh hdep hun am rel hp hQ hE
  obtain ⟨y, l, rfl, rfl, hp⟩ := sApp_inv hp
  · obtain ⟨v, _, rfl, ra, v2, _, rfl, r2, rfl⟩ := rel
    have am' := am
    obtain ⟨a, o, ws, n, h1, hX, ho, hcl, hd, hr, hn⟩ := am.cell
    obtain ⟨p, hp1, rfl⟩ := ra
    subst h1
    cases hp1
    have hsz : ws.size = l.length := by simpa using relL_length hr
    refine wpAny_call_entry slot_list_append ⟨o, ho, hcl⟩ entry_list_append ?_ (args_list_append _ _)
    show wpAny _ _ (updateSeq a (·.push v2) >>= fun _ => ret .none) _ _ s
    refine wpAny_bind ?_
    obtain ⟨n', hd'⟩ := Obj.data_mapSeq hd (Array.push · v2)
    refine wpAny_updateSeq ho hd (wpAny_pure ⟨.none, rfl, ?_⟩) (by walk_at "om")
    have ho' : (s.heap.update a (Obj.mapSeq (Array.push · v2))).get? a = some (Obj.mapSeq (Array.push · v2) o) := Heap.get?_update_self _ ho (Obj.isFreed_of_seq hd')
    have k : ∀ b ob, b ≠ a → s.heap.get? b = some ob → (s.heap.update a (Obj.mapSeq (Array.push · v2))).get? b = some ob := fun b ob nb e => (Heap.get?_update_other _ _ (Ne.symm nb)).trans e
    have ks : Sure X s.heap (s.heap.update a (Obj.mapSeq (Array.push · v2))) := fun b ob e _ n => ⟨ob.slots, k b ob (fun q => n (q ▸ hX)) e⟩
    refine hQ (.d .none) (.lst (l ++ [y])) .none _ (am.turn (tk := s.toks) k ⟨a, _, _, n', rfl, hX, ho', (Obj.cls_mapSeq o (Array.push · v2)).trans hcl, hd', ?_, ?_⟩) (by show Rel _ _ _ _; unfold Rel; rfl) hp.2
    · rw [Array.toList_push]
      refine relL_append (RelL.up ks _ _ hr) ?_
      unfold RelL
      exact ⟨v2, [], rfl, Rel.up ks _ _ r2, by unfold RelL; rfl⟩
    · obtain ⟨oc, od, odt, osl⟩ := o
      dsimp only at hd hn
      subst hd hn
      rfl
end
section
-- part M18
open PySem PySem.W PyProof.Rows PySem.Calls PySem.Builtin PySem.Builtin.Str PySem.Builtin.ObjectAttr
section
variable {P : Par} {sc : Scope} {v : FV} {ns : List Str} {ρ ρ' : Env1} {x x' : Cl} {X X' : List Addr} {m m' : Names} {s s' : Shared} {c c' : CO} {hn : Bool} {d : Nat} {A : Around}
theorem St.open {h h' : Heap} {p : Addr × Addr} (S : St P sc v ns ρ .none none X m h) (k : ∀ b o, h.get? b = some o → h'.get? b = some o) (h1 : h.get? p.1 = none) (h2 : h.get? p.2 = none) (hc : CellAt (some p) (p.2 :: X) h' c') :
    St P sc v ns ρ c' (some p) (p.2 :: X) m h' := by
  have hasd : ∀ b o, h.get? b = some o → b ∉ X → b ∉ p.2 :: X := fun b o e n q => by
    rcases List.mem_cons.mp q with q | q
    · exact (neG h2 e) q
    · exact n q
  have hL : ∃ o, h.get? v.L = some o := S.xs _ S.lX
  have ks : ∀ Y, Sure Y h h' := fun Y b o e _ _ => ⟨o.slots, k b o e⟩
  refine ⟨⟨S.fr.ns.at' fun o e => k _ o e, fun b o e => k b o (S.fr.keep b o e)⟩, funFrames_alive (fun b o e hd => ⟨o, k b o e, hd⟩) S.ff, hc, .tail _ S.lX, fun q hq => ?_, fun b hb => ?_, fun b hb => ?_, fun i n sv hi hρ => ?_⟩
  · cases hq
    obtain ⟨o, e⟩ := hL
    exact ⟨(neG h1 e).symm, (neG h2 e).symm⟩
  · rcases List.mem_cons.mp hb with rfl | hb
    · obtain ⟨_, o, e, _⟩ := CellAt.there rfl _ hc; exact ⟨o, e⟩
    · obtain ⟨o, e⟩ := S.xs b hb; exact ⟨o, k b o e⟩
  · rcases List.mem_cons.mp hb with rfl | hb
    · cases q : P.base.get? p.2 with
      | none => rfl
      | some o => rw [S.fr.keep _ _ q] at h2; cases h2
    · exact S.xb b hb
  · obtain ⟨val, hv, hr⟩ := S.loc i n sv hi hρ
    refine ⟨val, ?_, RelV.up (ks _) _ _ (RelV.aside hasd (.inl rfl) _ _ hr)⟩
    rcases hv with ⟨a, b⟩ | ⟨a, y, o, h3, h4, h5, h6⟩
    · exact .inl ⟨a, b⟩
    · exact .inr ⟨a, y, o, h3, k _ _ h4, h5, hasd _ _ h4 h6⟩
theorem AftS.open (a : AftS P sc v ns ρ none X none X m s .none s') {h' : Heap} {tk : Nat} {p : Addr × Addr} (k : ∀ b o, s'.heap.get? b = some o → h'.get? b = some o) (h1 : s'.heap.get? p.1 = none) (h2 : s'.heap.get? p.2 = none) (hc : CellAt (some p) (p.2 :: X) h' c') :
    AftS P sc v ns ρ none X (some p) (p.2 :: X) m s c' { s' with heap := h', toks := tk } where
  rest := a.rest
  st := a.st.open k h1 h2 hc
  kept := a.kept.trans (Kept.of_keeps _ k)
  ext := fun b hb => .tail _ hb
  new := fun b hb => by
    rcases List.mem_cons.mp hb with rfl | hb
    · exact .inr (a.absent _ h2)
    · exact .inl hb
  same := .inr ⟨rfl, fun q hq => by cases hq; exact a.absent _ h2⟩
theorem AftS.turn {p : Addr × Addr} (a : AftS P sc v ns ρ' x X (some p) X' m' s c s') {h' : Heap} {tk : Nat} (k : ∀ b o, b ≠ p.2 → s'.heap.get? b = some o → h'.get? b = some o) (hc : CellAt (some p) X' h' c') :
    AftS P sc v ns ρ' x X (some p) X' m' s c' { s' with heap := h', toks := tk } := by
  have hpX := (CellAt.there rfl _ a.st.cell).1
  obtain ⟨_, o', h1, h2⟩ := CellAt.there rfl _ hc
  have ks : Sure ((some p : Cl).toList.map (·.2)) s'.heap h' := fun b o e _ n => ⟨o.slots, k b o (fun q => n (by rw [q]; exact .head _)) e⟩
  refine ⟨a.rest, a.st.up ks (fun b hb ⟨o, e⟩ => ?_) (fun b o e => k b o (neG (a.st.xb _ hpX) e) (a.st.fr.keep b o e)) hc, fun b o e n => ?_, a.ext, a.new, a.same⟩
  · by_cases q : b = p.2
    · subst q; exact ⟨o', h1⟩
    · exact ⟨o, k b o q e⟩
  · obtain ⟨sl, e1, f1⟩ := a.kept b o e n
    refine ⟨sl, k b _ (fun q => ?_) e1, f1⟩
    rcases a.same with h | ⟨h, h2⟩
    · subst h; exact n (.tail _ (by rw [q]; exact .head _))
    · exact (neG (h2 p rfl) e) q
end
@[reducible] noncomputable def onRd0 : SV → CO → (Str → Prop) → Prop
  | .d (.str t), .none, K => K t
  | _, _, _ => False
theorem onRd0_inv {r : SV} {c : CO} {K : Str → Prop} (h : onRd0 r c K) : ∃ t, r = .d (.str t) ∧ c = .none ∧ K t := by
  cases r with
  | cell => exact h.elim
  | d y => cases y with
    | str t => cases c with
      | none => exact ⟨t, rfl, rfl, h⟩
      | _ => exact h.elim
    | _ => exact h.elim
noncomputable def pNewRd (i : Nat) (p : PE) : PS := fun ρ c Kn _ Ke => ifNone c (p ρ c (fun r c1 => onRd0 r c1 fun t => Kn (ρ.set i (some .cell)) (.rd t 0)) (Ke ρ))
noncomputable def pNewLst (i : Nat) : PS := fun ρ c Kn _ _ => ifNone c (Kn (ρ.set i (some .cell)) (.lst []))
noncomputable def pNewLst2 (i j : Nat) (k : Int) : PS := fun ρ c Kn _ _ => ifNone c (Kn ((ρ.set j (some (.d (.int k)))).set i (some .cell)) (.lst []))
noncomputable def rdFields : List (Str × Src) := [(Str.ofString "text", .inl (Str.ofString "text")), (Str.ofString "at", .inr 0)]
section
variable {P : Par} {sc : Scope} {ns : List Str} {hn : Bool} {d : Nat}
theorem cell_none {x : Cl} {X : List Addr} {h : Heap} (c : CellAt x X h .none) : x = none := c
theorem s_newRd {n cn : Str} {np cp cpos pos : Pos} {e : Expr} {i : Nat} {p : PE} (Y : ClassK P.K cNum [Str.ofString "text"] rdFields) (he : nsIn P.K mainGlobals cn = some (some (.ref cNum))) (hkeep : keepIn P.K (.ref cNum) = true) (hk : sc.names.lookup cn = some .globalImplicit)
    (hd : (cn == Str.ofString "__debug__") = false) (hd2 : 2 ≤ d) (h1 : SoundE P true d sc ns e p) (hst : ∀ env, starEach [e] env = (false, eval e env) :: starEach [] env) (hi : ns[i]? = some n) (hl : sc.names.lookup n = some .local) (hnd : ns.Nodup)
    (hs : ∀ env, swapsWith (.Call (.Name cn cp) [e] [] cpos) (some (.Name n np)) pos.line env = pure false) :
    SoundS P true d sc ns (.Assign [.Name n np] (.Call (.Name cn cp) [e] [] cpos) pos) (pNewRd i p) := by
  intro A v s m ρ c x X Q E Kn Kr Ke G O S hp hQ hR hE
  obtain ⟨rfl, hp⟩ := ifNone_inv hp
  have hx := cell_none S.cell
  subst hx
  refine wpAny_Assign_Name (wpAny_Call_Name_kw (name_K S G he hk hd ?_)) (hs _)
  refine callWith_K P.X hkeep ((sound_args_cons h1 sound_args_nil hst) cpos A v s m ρ .none none X _ _ (fun l c1 => l1 l fun r => onRd0 r c1 fun t => Kn (ρ.set i (some .cell)) (.rd t 0)) _ G S (by unfold pCons pNil; exact hp) (fun l c1 vl s1 a1 r1 hp1 => ⟨P.X.keeps a1.st.fr.keep, ?_⟩) (fun C c1 e s1 a1 ex k => hE _ _ _ _ _ _ _ _ a1.toS ex k)) (hst _) rfl
  obtain ⟨r, rfl, hp1⟩ := l1_inv hp1
  · obtain ⟨t, rfl, rfl, hp1⟩ := onRd0_inv hp1
    · obtain ⟨w, _, rfl, ra, rfl⟩ := r1
      obtain ⟨u, rfl⟩ := RelV.str ra
      refine make_ok Y a1.st.fr.keep (by have := G.room; walk_at "om") rfl fun h' tk xa dx vals hxn hdn hne hx' gv hod keep => ?_
      obtain ⟨od, ho1, ho2⟩ := hod
      unfold rdFields at gv ho2
      cases gv with | par e1 gv =>
      cases gv with | int gv =>
      cases gv
      cases e1
      rename_i tk'
      have a2 := a1.toS.open (p := (xa, dx)) (c' := .rd t 0) (tk := tk) keep hxn hdn ⟨xa, dx, _, od, u, tk', rfl, hne, .head _, hx', rfl, rfl, rfl, ho1, ho2⟩
      exact store_ok (sv := .cell) G.kind hl hi hnd a2.st ⟨_, rfl, rfl⟩ fun m3 s3 a3 => hQ _ _ _ _ _ _ (a2.trans a3) hp1
theorem s_newLst {n : Str} {np lp pos : Pos} {i : Nat} (hi : ns[i]? = some n) (hl : sc.names.lookup n = some .local) (hnd : ns.Nodup) (hs : ∀ env, swapsWith (.List [] lp) (some (.Name n np)) pos.line env = pure false) :
    SoundS P hn d sc ns (.Assign [.Name n np] (.List [] lp) pos) (pNewLst i) := by
  intro A v s m ρ c x X Q E Kn Kr Ke G O S hp hQ hR hE
  obtain ⟨rfl, hp⟩ := ifNone_inv hp
  have hx := cell_none S.cell
  subst hx
  refine wpAny_Assign_Name (List_ (spliced_nil ?_)) (hs _)
  refine wpAny_newObj_type ?_ (by size_fits)
  have a2 := (AftS.refl S).open (p := (s.heap.objs.size, s.heap.objs.size)) (c' := .lst []) (tk := s.toks) (h' := s.heap.push { cls := .type "list", data := .seq ([] : List Value).toArray }) (fun b o e => Heap.get?_push_of_some _ e) (Heap.get?_none_of_le (Nat.le_refl _)) (Heap.get?_none_of_le (Nat.le_refl _))
    ⟨_, _, _, _, rfl, .head _, Heap.get?_push_size _ rfl, rfl, rfl, by unfold RelL; rfl, rfl⟩
  exact store_ok (sv := .cell) G.kind hl hi hnd a2.st ⟨_, rfl, rfl⟩ fun m3 s3 a3 => hQ _ _ _ _ _ _ (a2.trans a3) hp
theorem s_newLst2 {n n2 : Str} {np np2 lp cp tp tp2 pos : Pos} {i j : Nat} {k : Int} {k1 k2 k3 : Nat} (hi : ns[i]? = some n) (hl : sc.names.lookup n = some .local) (hi2 : ns[j]? = some n2) (hl2 : sc.names.lookup n2 = some .local) (hnd : ns.Nodup)
    (hs : ∀ env, swapsWithSole [.Tuple [.Name n np, .Name n2 np2] k1 tp] (.Tuple [.List [] lp, .Constant (.int k) k3 cp] k2 tp2) pos.line env = pure false)
    (hw : ∀ env : Env, env.scope = sc → swappedStores [.Tuple [.Name n np, .Name n2 np2] k1 tp] (.Tuple [.List [] lp, .Constant (.int k) k3 cp] k2 tp2) env = pure (some [n, n2])) :
    SoundS P true d sc ns (.Assign [.Tuple [.Name n np, .Name n2 np2] k1 tp] (.Tuple [.List [] lp, .Constant (.int k) k3 cp] k2 tp2) pos) (pNewLst2 i j k) := by
  intro A v s m ρ c x X Q E Kn Kr Ke G O S hp hQ hR hE
  obtain ⟨rfl, hp⟩ := ifNone_inv hp
  have hx := cell_none S.cell
  subst hx
  refine Assign_Tuple_swapped (names := [n, n2]) (Tuple_ ?_) (hs _) (hw _ rfl)
  refine spliced_cons (List_ (spliced_nil ?_))
  refine wpAny_newObj_type ?_ (by size_fits)
  refine spliced_cons (wpAny_Constant_int (i := k) (k := k3) (pos := cp) (spliced_nil ?_))
  refine wpAny_newObj_type ?_ (by size_fits)
  dsimp only
  generalize hh1 : s.heap.push { cls := .type "list", data := .seq ([] : List Value).toArray } = h1
  have ha : h1.get? s.heap.objs.size = some { cls := .type "list", data := .seq ([] : List Value).toArray } := by rw [← hh1]; exact Heap.get?_push_size _ rfl
  have k1 : ∀ b o, s.heap.get? b = some o → h1.get? b = some o := fun b o e => by rw [← hh1]; exact Heap.get?_push_of_some _ e
  generalize hh2 : h1.push { cls := .type "tuple", data := .seq (List.toArray [Value.ref s.heap.objs.size, .int k s.toks]) } = h2
  have ht : h2.get? h1.objs.size = some { cls := .type "tuple", data := .seq (List.toArray [Value.ref s.heap.objs.size, .int k s.toks]) } := by rw [← hh2]; exact Heap.get?_push_size _ rfl
  have k2 : ∀ b o, h1.get? b = some o → h2.get? b = some o := fun b o e => by rw [← hh2]; exact Heap.get?_push_of_some _ e
  refine unpackItems_tuple (s := { s with heap := h2, toks := s.toks + 1 }) (items := #[Value.ref s.heap.objs.size, .int k s.toks]) (G.handled rfl) ⟨_, ht, rfl, _, rfl⟩ fun h3 he => ?_
  have k3 : ∀ b o, h2.get? b = some o → h3.get? b = some o := fun b o e => he b o (Nat.ne_of_lt (Heap.lt_size e)) e
  have a2 := (AftS.refl S).open (p := (s.heap.objs.size, s.heap.objs.size)) (c' := .lst []) (tk := s.toks + 1) (h' := h3) (fun b o e => k3 b o (k2 b o (k1 b o e))) (Heap.get?_none_of_le (Nat.le_refl _)) (Heap.get?_none_of_le (Nat.le_refl _))
    ⟨_, _, _, _, rfl, .head _, k3 _ _ (k2 _ _ ha), rfl, rfl, by unfold RelL; rfl, rfl⟩
  show wpAny _ _ (assignInOrder [bindName (v.env sc) n2, bindName (v.env sc) n] [.int k s.toks, .ref s.heap.objs.size]) _ _ _
  refine assignInOrder_cons (bindName_ (store_ok (sv := .d (.int k)) G.kind hl2 hi2 hnd a2.st (rv_int _ _) fun m3 s3 a3 => ?_))
  refine assignInOrder_cons (bindName_ (store_ok (sv := .cell) G.kind hl hi hnd a3.st ⟨_, rfl, rfl⟩ fun m4 s4 a4 => ?_))
  exact assignInOrder_nil (hQ _ _ _ _ _ _ ((a2.trans a3).trans a4) hp)
@[reducible] noncomputable def onRdCell : SV → CO → (Str → Int → Prop) → Prop
  | .cell, .rd t a, K => K t a
  | _, _, _ => False
theorem onRdCell_inv {r : SV} {c : CO} {K : Str → Int → Prop} (h : onRdCell r c K) : ∃ t a, r = .cell ∧ c = .rd t a ∧ K t a := by
  cases r with
  | d => exact h.elim
  | cell => cases c with
    | rd t a => exact ⟨t, a, rfl, rfl, h⟩
    | _ => exact h.elim
noncomputable def pIncAt (i : Nat) (k : Int) : PS := fun ρ c Kn _ _ => oSome (ρ[i]?) fun o => oSome o fun sv => onRdCell sv c fun t a => Kn ρ (.rd t (a + k))
theorem exec_AugAssign_Attr (o : Expr) (attr : Str) (tpos : Pos) (op : Operator) (value : Expr) (pos : Pos) (env : Env) : exec (.AugAssign (.Attribute o attr tpos) op value pos) env = (do
    standAt pos
    let ov ← eval o env
    let new ← holding [ov] do
      standAt tpos.atName
      let old ← getAttr ov attr true
      let v ← holding [old] (eval value env)
      standAt pos
      operate [old, v] (inplaceOp op old v)
    standAt tpos.atName
    holding [new, ov] (setAttr ov attr new)
    release [new, ov] []
    pure .next) := rfl
theorem s_incAt {n : Str} {np ap cp pos : Pos} {i : Nat} {k : Int} {k1 : Nat} (hC : ClsK P.K cNum [Str.ofString "text", Str.ofString "at"]) (Y : SetK P.K cNum (Str.ofString "at")) (h1 : SoundE P hn d sc ns (.Name n np) (pLoc i)) :
    SoundS P hn d sc ns (.AugAssign (.Attribute (.Name n np) (Str.ofString "at") ap) .Add (.Constant (.int k) k1 cp) pos) (pIncAt i k) := by
  intro A v s m ρ c x X Q E Kn Kr Ke G O S hp hQ hR hE
  rw [exec_AugAssign_Attr]
  unfold pIncAt at hp
  obtain ⟨o, hρ, hp'⟩ := oSome_elim hp
  obtain ⟨sv, ho, hp2⟩ := oSome_elim hp'
  clear hp hp'
  subst ho
  obtain ⟨t, a, rfl, rfl, hp⟩ := onRdCell_inv hp2
  · refine wpAny_bind (wpAny_standAt (wpAny_bind (h1 A v s m ρ (.rd t a) x X _ _ (fun r c1 => r = .cell ∧ c1 = .rd t a) (fun _ _ => False) G S (by unfold pLoc; rw [hρ]; exact ⟨rfl, rfl⟩) (fun r c1 va s1 a1 r1 hp1 => ?_) (fun C c' e s' a' ex k => k.elim))))
    obtain ⟨rfl, rfl⟩ := hp1
    refine wpAny_bind (wpAny_holding (wpAny_bind (wpAny_standAt (wpAny_bind (fAt_sound hC A s1 x X .cell (.rd t a) va _ _ (fun r _ => r = .d (.int a)) (P.X.keeps a1.st.fr.keep) a1.st.cell r1 rfl fun r val s2 g2 rel2 hr => ?_)))))
    subst hr
    obtain ⟨tk1, rfl⟩ := RelV.int rel2
    have a2 := a1.grow g2
    refine wpAny_bind (wpAny_holding (wpAny_Constant_int ?_))
    refine wpAny_bind (wpAny_standAt (wpAny_operating ?_))
    refine PySem.AutoIntOps.iadd_0 (a := a) (b := k) (t := tk1) (u := s2.toks) ?_
    have g3 := Grow.toks s2 (s2.toks + 1 + 1)
    have a3 := a2.grow g3
    obtain ⟨p, hxp, rfl⟩ := r1
    subst hxp
    obtain ⟨xa, dx, ox, od, tt, u, e, hne, hdX, ho, hc, hdi, hda, hod, hdd⟩ := a3.st.cell
    cases e
    have hn1 : s2.heap.Ns1 dx (fun y => ([(Str.ofString "text", Value.str t tt), (Str.ofString "at", Value.int a u)] : List (Str × Value)).lookup y) := by
      obtain ⟨es, n', e1, e2, e3, e4⟩ := hdd
      exact ⟨od, es, n', hod, e1, e2, e3, e4⟩
    have hw : Within (fun y => ([(Str.ofString "text", Value.str t tt), (Str.ofString "at", Value.int a u)] : List (Str × Value)).lookup y) [Str.ofString "text", Str.ofString "at"] := fun y hy => by
      simp only [List.lookup_cons, List.lookup_nil] at hy
      by_cases q1 : y = Str.ofString "text"
      · rw [q1]; exact .head _
      · by_cases q2 : y = Str.ofString "at"
        · rw [q2]; exact .tail _ (.head _)
        · rw [beq_eq_false_iff_ne.mpr q1, beq_eq_false_iff_ne.mpr q2] at hy; exact absurd rfl hy
    refine wpAny_bind (wpAny_standAt (wpAny_bind (wpAny_holding (attr_set (s := { s2 with toks := s2.toks + 1 + 1 }) (P.X.keeps a3.st.fr.keep) Y ho hc (by unfold notCls; rw [hda]) hdi hn1 hw (by decide) fun h' tk hD hs => ?_))))
    refine wpAny_bind (wp_release (wpAny_pure ?_))
    have kk : ∀ b o, b ≠ dx → s2.heap.get? b = some o → h'.get? b = some o := fun b o nb e => (hs.2 b nb).trans e
    obtain ⟨od', es, n', e1, e2, e3, e4, e5⟩ := hD
    refine hQ ρ (.rd t (a + k)) m _ X _ (a3.toS.turn (p := (xa, dx)) kk ⟨xa, dx, ox, od', tt, s2.toks + 1, rfl, hne, hdX, kk _ _ hne ho, hc, hdi, hda, e1, es, n', e2, e3, e4, fun y => ?_⟩) hp
    rw [e5]
    simp only [List.lookup_cons, List.lookup_nil]
    by_cases q2 : y = Str.ofString "at"
    · subst q2
      rw [if_pos rfl, show (Str.ofString "at" == Str.ofString "text") = false by decide, beq_self_eq_true]
    · rw [if_neg q2, beq_eq_false_iff_ne.mpr q2]
@[reducible] noncomputable def onSrc : SV → SV → CO → (Int → Prop) → Prop
  | .d (.int v), .cell, .src, K => K v
  | _, _, _, _ => False
theorem onSrc_inv {r o : SV} {c : CO} {K : Int → Prop} (h : onSrc r o c K) : ∃ v, r = .d (.int v) ∧ o = .cell ∧ c = .src ∧ K v := by
  cases r with
  | cell => exact h.elim
  | d y => cases y with
    | int v => cases o with
      | d => exact h.elim
      | cell => cases c with
        | src => exact ⟨v, rfl, rfl, rfl, h⟩
        | _ => exact h.elim
    | _ => exact h.elim
noncomputable def pSetSrc (k : Int) (p q : PE) : PS := fun ρ c Kn _ Ke => p ρ c (fun r c1 => q ρ c1 (fun o c2 => onSrc r o c2 fun v => (k = 0 ∨ (k = 1 ∧ 0 ≤ v ∧ v < 2 ^ 31)) ∧ Kn ρ .src) (Ke ρ)) (Ke ρ)
theorem s_setSrc {o e : Expr} {ip cp pos : Pos} {k : Int} {k1 : Nat} {p q : PE} (h1 : SoundE P hn d sc ns e p) (h2 : SoundE P hn d sc ns o q) (hs : ∀ env, swapsWith e (some (.Subscript o (.Constant (.int k) k1 cp) ip)) pos.line env = pure false) :
    SoundS P hn d sc ns (.Assign [.Subscript o (.Constant (.int k) k1 cp) ip] e pos) (pSetSrc k p q) := by
  intro A v s m ρ c x X Q E Kn Kr Ke G O S hp hQ hR hE
  refine wpAny_Assign_Subscript (h1 A v s m ρ c x X _ _ _ _ G S hp (fun r c1 va s1 a1 r1 hp1 => ?_) (fun C c1 e s1 a1 ex k => hE _ _ _ _ _ _ _ _ a1.toS ex k)) (hs _)
  refine h2 A v s1 m ρ c1 x X _ _ _ _ G a1.st hp1 (fun o c2 vo s2 a2 r2 hp2 => ?_) (fun C c' e s' a' ex k => hE _ _ _ _ _ _ _ _ (a1.trans a').toS (ex.earlier a1.absent) k)
  obtain ⟨n, rfl, rfl, rfl, hp2⟩ := onSrc_inv hp2
  · obtain ⟨hk, hp2⟩ := hp2
    obtain ⟨tv, rfl⟩ := RelV.int r1
    refine wpAny_Constant_int ?_
    have a3 := (a1.trans a2).grow (Grow.toks s2 (s2.toks + 1))
    obtain ⟨p, hxp, rfl⟩ := r2
    subst hxp
    obtain ⟨y, oo, i, j, t, u, nn, e, hX, ho, hc, hd, hj0, hj1⟩ := a3.st.cell
    cases e
    have hl : s2.heap.IsList y #[.int i t, .int j u] := ⟨oo, ho, hc, nn, hd⟩
    refine wpAny_setItem_list (s := { s2 with toks := s2.toks + 1 }) hl (by rcases hk with h | h <;> walk_at "om") (by rcases hk with h | h <;> walk_at "om") (by rcases hk with h | h <;> simp <;> walk_at "om") fun h' hl' hs' => ?_
    obtain ⟨o', ho', hc', n', hd'⟩ := hl'
    refine hQ ρ .src m _ X _ (a3.toS.turn (p := (y, y)) (tk := s2.toks + 1) (fun b o nb e => (hs'.2 b nb).trans e) ?_) hp2
    rcases hk with rfl | ⟨rfl, h0, h1⟩
    · exact ⟨y, o', n, j, tv, u, n', rfl, hX, ho', hc', hd', hj0, hj1⟩
    · exact ⟨y, o', i, n, t, tv, n', rfl, hX, ho', hc', hd', h0, h1⟩
end
end
section
-- part M19
open PySem PySem.W PyProof.Rows PySem.Calls PySem.Builtin PySem.Builtin.Str PySem.Builtin.ObjectAttr
inductive Ex7 {α1 α2 α3 α4 α5 α6 α7 : Type} (p : α1 → α2 → α3 → α4 → α5 → α6 → α7 → Prop) : Prop
  | mk (a1 : α1) (a2 : α2) (a3 : α3) (a4 : α4) (a5 : α5) (a6 : α6) (a7 : α7) (h : p a1 a2 a3 a4 a5 a6 a7) : Ex7 p
inductive A15 (p1 p2 p3 p4 p5 p6 p7 p8 p9 p10 p11 p12 p13 p14 p15 : Prop) : Prop
  | mk (h1 : p1) (h2 : p2) (h3 : p3) (h4 : p4) (h5 : p5) (h6 : p6) (h7 : p7) (h8 : p8) (h9 : p9) (h10 : p10) (h11 : p11) (h12 : p12) (h13 : p13) (h14 : p14) (h15 : p15) : A15 p1 p2 p3 p4 p5 p6 p7 p8 p9 p10 p11 p12 p13 p14 p15
section
variable {P : Par} {sc : Scope} {v : FV} {ns : List Str} {ρ ρ' : Env1} {x x' : Cl} {X X' Z : List Addr} {m m' : Names} {s s' : Shared} {c c' : CO} {hn : Bool} {d : Nat} {A : Around} {h h' : Heap}
theorem St.upZ (S : St P sc v ns ρ c x X m h) (k : Sure Z h h') (hZ : ∀ b ∈ Z, b ∈ X) (hLZ : v.L ∉ Z) (hx : ∀ b ∈ X, ∃ o, h'.get? b = some o) (hf : ∀ b ∈ Z, ∃ o, h'.get? b = some o ∧ ∀ vs, o.data ≠ .fields vs) (kb : P.base.StaysIn h') (hc : CellAt x X h' c') :
    St P sc v ns ρ c' x X m h' := by
  obtain ⟨⟨hns, hkeep⟩, hff, hcell, hlX, hxL, hxs, hxb, hloc⟩ := S
  obtain ⟨oL, es, ep, hL, hLd, hLk, hLf⟩ := hns
  obtain ⟨sl, hL'⟩ := k v.L oL hL (by rw [hLd]; exact fun _ q => nomatch q) hLZ
  refine ⟨⟨⟨_, es, ep, hL', hLd, hLk, hLf⟩, kb⟩, funFrames_alive (fun b o e hd => ?_) hff, hc, hlX, hxL, hx, hxb, fun i n sv h1 h2 => ?_⟩
  · by_cases q : b ∈ Z
    · exact hf b q
    · obtain ⟨sl, e'⟩ := k b o e hd q
      exact ⟨_, e', hd⟩
  · obtain ⟨val, hv, hr⟩ := hloc i n sv h1 h2
    exact ⟨val, hv.up (k.more hZ), RelV.up (k.more hZ) sv val hr⟩
theorem St.widen {Y : List Addr} (S : St P sc v ns ρ c x X m h) (k : ∀ b o, h.get? b = some o → h'.get? b = some o) (hY : ∀ b ∈ Y, h.get? b = none ∧ ∃ o, h'.get? b = some o) : St P sc v ns ρ c x (Y ++ X) m h' := by
  have hasd : ∀ b o, h.get? b = some o → b ∉ X → b ∉ Y ++ X := fun b o e n q => by
    rcases List.mem_append.mp q with q | q
    · rw [(hY b q).1] at e; cases e
    · exact n q
  have ks : ∀ Y, Sure Y h h' := fun Y b o e _ _ => ⟨o.slots, k b o e⟩
  have sub : ∀ b ∈ X, b ∈ Y ++ X := fun b hb => List.mem_append.mpr (.inr hb)
  refine ⟨⟨S.fr.ns.at' fun o e => k _ o e, fun b o e => k b o (S.fr.keep b o e)⟩, funFrames_alive (fun b o e hd => ⟨o, k b o e, hd⟩) S.ff, (S.cell.more sub hasd).up (ks []), sub _ S.lX, S.xL, fun b hb => ?_, fun b hb => ?_, fun i n sv hi hρ => ?_⟩
  · rcases List.mem_append.mp hb with hb | hb
    · exact (hY b hb).2
    · obtain ⟨o, e⟩ := S.xs b hb; exact ⟨o, k b o e⟩
  · rcases List.mem_append.mp hb with hb | hb
    · cases q : P.base.get? b with
      | none => rfl
      | some o => have := S.fr.keep _ _ q; rw [(hY b hb).1] at this; cases this
    · exact S.xb b hb
  · obtain ⟨val, hv, hr⟩ := S.loc i n sv hi hρ
    refine ⟨val, ?_, RelV.up (ks _) _ _ (RelV.aside hasd (.inr rfl) _ _ hr)⟩
    rcases hv with ⟨a, b⟩ | ⟨a, y, o, h3, h4, h5, h6⟩
    · exact .inl ⟨a, b⟩
    · exact .inr ⟨a, y, o, h3, k _ _ h4, h5, hasd _ _ h4 h6⟩
theorem St.narrow {Y : List Addr} (S : St P sc v ns ρ c x (Y ++ X) m h) (hL : v.L ∈ X) (hp : ∀ p, x = some p → p.2 ∈ X) : St P sc v ns ρ c x X m h := by
  have sub : ∀ b ∈ X, b ∈ Y ++ X := fun b hb => List.mem_append.mpr (.inr hb)
  have back : ∀ b o, h.get? b = some o → b ∉ Y ++ X → b ∉ X := fun b o _ n q => n (sub b q)
  refine ⟨S.fr, S.ff, S.cell.back sub hp, hL, S.xL, fun b hb => S.xs b (sub b hb), fun b hb => S.xb b (sub b hb), fun i n sv hi hρ => ?_⟩
  obtain ⟨val, hv, hr⟩ := S.loc i n sv hi hρ
  refine ⟨val, ?_, RelV.aside back (.inr rfl) _ _ hr⟩
  rcases hv with ⟨a, b⟩ | ⟨a, y, o, h3, h4, h5, h6⟩
  · exact .inl ⟨a, b⟩
  · exact .inr ⟨a, y, o, h3, h4, h5, fun q => h6 (sub _ q)⟩
theorem St.thin {Y : List Addr} (S : St P sc v ns ρ c x Y m h) (sub : ∀ b ∈ X, b ∈ Y) (hL : v.L ∈ X) (hp : ∀ p, x = some p → p.2 ∈ X) : St P sc v ns ρ c x X m h := by
  have back : ∀ b o, h.get? b = some o → b ∉ Y → b ∉ X := fun b o _ n q => n (sub b q)
  refine ⟨S.fr, S.ff, S.cell.back sub hp, hL, S.xL, fun b hb => S.xs b (sub b hb), fun b hb => S.xb b (sub b hb), fun i n sv hi hρ => ?_⟩
  obtain ⟨val, hv, hr⟩ := S.loc i n sv hi hρ
  refine ⟨val, ?_, RelV.aside back (.inr rfl) _ _ hr⟩
  rcases hv with ⟨a, b⟩ | ⟨a, y, o, h3, h4, h5, h6⟩
  · exact .inl ⟨a, b⟩
  · exact .inr ⟨a, y, o, h3, h4, h5, fun q => h6 (sub _ q)⟩
theorem St.inner {v' : FV} {sc' : Scope} {C : Addr} {mC : Names} {y : D} {xn : Str} {frees : List (Str × Nat)} {val : Value} (S : St P sc v ns ρ c x (C :: X) m h) (hn : h.Ns C mC) (hL : v'.L = C) (hfs : v'.fs = v.fs) (hcl : ∀ q ∈ frees, v'.cl.lookup q.1 = v.cl.lookup q.1)
    (hx : sc'.names.lookup xn = some .local) (hval : mC xn = some val) (hr : Rel (C :: X) h y val) (hsc : ∀ q ∈ frees, ns[q.2]? = some q.1 ∧ sc.names.lookup q.1 ≠ some .local ∧ (sc'.names.lookup q.1 = some .cell ∨ sc'.names.lookup q.1 = some .free))
    (hxC : ∀ p, x = some p → p.1 ≠ C ∧ p.2 ≠ C) :
    St P sc' v' (xn :: frees.map (·.1)) (some (.d y) :: frees.map fun q => (ρ[q.2]?).join) c x (C :: X) mC h := by
  refine ⟨⟨hL ▸ hn, S.fr.keep⟩, hfs ▸ S.ff, S.cell, by rw [hL]; exact .head _, fun p hp => by rw [hL]; exact hxC p hp, S.xs, S.xb, fun i n sv hi hρ => ?_⟩
  cases i with
  | zero =>
    cases hi; cases hρ
    exact ⟨val, .inl ⟨hx, hval⟩, hr⟩
  | succ i =>
    have hi : (frees.map (·.1))[i]? = some n := by simpa using hi
    have hρ : (frees.map fun q => (ρ[q.2]?).join)[i]? = some (some sv) := by simpa using hρ
    rw [List.getElem?_map] at hi hρ
    obtain ⟨q, hq, rfl⟩ := Option.map_eq_some_iff.mp hi
    rw [hq] at hρ
    have hρ' : (ρ[q.2]?).join = some sv := Option.some.inj hρ
    have hmem := List.mem_of_getElem? hq
    obtain ⟨e1, e2, e3⟩ := hsc q hmem
    cases hj : ρ[q.2]? with
    | none => rw [hj] at hρ'; cases hρ'
    | some o =>
      rw [hj] at hρ'
      have : o = some sv := hρ'
      subst this
      obtain ⟨w, hv, hrel⟩ := S.loc q.2 q.1 sv e1 hj
      rcases hv with ⟨a, _⟩ | ⟨a, y', o, h3, h4, h5, h6⟩
      · exact absurd a e2
      · exact ⟨w, .inr ⟨e3, y', o, by rw [hcl q hmem]; exact h3, h4, h5, h6⟩, hrel⟩
end
noncomputable def pComp (frees : List (Str × Nat)) (pi : PI) (p : PE) : PE := fun ρ c K KE => (∀ q ∈ frees, ∃ sv, ρ[q.2]? = some (some sv)) ∧ pi ρ c (fun l c1 => ∃ J : Nat → List D → CO → Prop, l.length ≤ sizeLine ∧ J 0 [] c1 ∧
  (∀ k acc c y, l[k]? = some y → acc.length = k → J k acc c → p (some (.d y) :: frees.map fun q => (ρ[q.2]?).join) c (fun r c' => onD r fun z => J (k + 1) (acc ++ [z]) c') (fun _ _ => False)) ∧
  (∀ acc c, acc.length = l.length → J l.length acc c → K (.d (.lst acc)) c)) KE
structure CompK (sc scope sc' : Scope) (xn : Str) (frees : List (Str × Nat)) (ns : List Str) : Prop where
  clos : ∀ env : Env, (∀ q ∈ frees, ∃ a, env.cells.lookup q.1 = some a) → ∃ cl, closureFor scope env = pure cl ∧ ∀ q ∈ frees, cl.lookup q.1 = env.cells.lookup q.1
  kind : scope.kind = .function
  kind' : sc'.kind = .function
  names : ∀ y ∈ scope.names, y.2 = .local → scope.names.lookup y.1 = some .local
  nocell : ∀ y ∈ scope.names, y.2 ≠ .cell
  rel : ∀ env : Env, env.scope = sc → relabel scope env = sc'
  x : sc'.names.lookup xn = some .local
  fr : ∀ q ∈ frees, ns[q.2]? = some q.1 ∧ sc.names.lookup q.1 ≠ some .local ∧ (sc'.names.lookup q.1 = some .cell ∨ sc'.names.lookup q.1 = some .free)
section
variable {P : Par} {sc : Scope} {ns : List Str} {d : Nat}
theorem comp_core {elt iter : Expr} {xn : Str} {px pos : Pos} {scope sc' : Scope} {frees : List (Str × Nat)} {pi : PI} {p : PE} {use : Option (Value → Sem Unit)} (CK : CompK sc scope sc' xn frees ns) (h0 : SoundI P d sc ns iter pi) (h1 : SoundE P true d sc' (xn :: frees.map (·.1)) elt p)
    (hfold : ∀ env x, foldedSetIterable iter env x = pure x)
    {A : Around} {v : FV} {s : Shared} {m : Names} {ρ : Env1} {c : CO} {x : Cl} {X : List Addr} {Q E : Value → Shared → Prop} {KQ : SV → CO → Prop} {KE : Addr → CO → Prop} (G : Good A v sc true d) (S : St P sc v ns ρ c x X m s.heap) (hp : pComp frees pi p ρ c KQ KE)
    (hfin : ∀ acc c' s' D' C mC, Aft P sc v ns ρ x X m s c' s' → St P sc v ns ρ c' x ([C] ++ X) m s'.heap → Rel ([C] ++ X) s'.heap (.lst acc) (.ref D') → s'.heap.Ns C mC → s.heap.get? C = none → P.base.get? C = none → KQ (.d (.lst acc)) c' → compPost (model P.prog P.w) A E use Q (.ref D') C (.ok .next) s')
    (hE : ∀ C c' e s', Aft P sc v ns ρ x X m s c' s' → ExcAt s.heap s'.heap e C → KE C c' → E (.ref e) s') :
    wpAny (model P.prog P.w) A (comprehension (.ListComp elt [⟨.Name xn px, iter, [], 0⟩] scope pos) scope (v.env sc) (firstIterPos [⟨.Name xn px, iter, [], 0⟩] pos) (newList []) false (eval iter (v.env sc)) use) Q E s := by
  obtain ⟨hfr, hp⟩ := hp
  have hcells : ∀ q ∈ frees, ∃ a, (v.env sc).cells.lookup q.1 = some a := fun q hq => by
    obtain ⟨sv, e⟩ := hfr q hq
    obtain ⟨e1, e2, _⟩ := CK.fr q hq
    obtain ⟨w, hv, _⟩ := S.loc q.2 q.1 sv e1 e
    rcases hv with ⟨a, _⟩ | ⟨_, y, _, h3, _⟩
    · exact absurd a e2
    · exact ⟨y, h3⟩
  obtain ⟨cl, hclos, hclf⟩ := CK.clos (v.env sc) hcells
  refine wpAny_comprehension_free rfl (hfold _) hclos CK.kind CK.names ?_
  refine h0 A v s m ρ c x X _ _ _ _ G S hp (fun l c1 I fp V J s1 a1 W hJ hI hIX hfp hV hp1 => ?_) hE
  obtain ⟨Inv, hlen, hI0, hstep, hend⟩ := hp1
  have hnb : ∀ b, s.heap.get? b = none → P.base.get? b = none := fun b e => by
    cases q : P.base.get? b with
    | none => rfl
    | some o => rw [S.fr.keep _ _ q] at e; cases e
  refine wpAny_newObj_type ?_ (by size_fits)
  refine wpAny_newFunctionEnv CK.nocell (by intro y hy; simp at hy) (fun h₁ hns₁ hsb₁ => ?_) CK.kind
  dsimp only at hns₁ hsb₁ ⊢
  generalize hH2 : s1.heap.push { cls := .type "list", dict := none, data := .seq ([] : List Value).toArray } = H2 at hns₁ hsb₁ ⊢
  have hsz : H2.objs.size = s1.heap.objs.size + 1 := by rw [← hH2, Heap.size_push]
  generalize hCe : H2.objs.size = C at hns₁ hsb₁ ⊢
  generalize hDe : s1.heap.objs.size = D' at hsz ⊢
  have hDC : D' ≠ C := by walk_at "om"
  have hDs1 : s1.heap.get? D' = none := Heap.get?_none_of_le (by walk_at "om")
  have hCs1 : s1.heap.get? C = none := Heap.get?_none_of_le (by walk_at "om")
  have hDs : s.heap.get? D' = none := a1.absent _ hDs1
  have hCs : s.heap.get? C = none := a1.absent _ hCs1
  have hD0 : H2.get? D' = some { cls := .type "list", dict := none, data := .seq ([] : List Value).toArray } := by rw [← hH2, ← hDe]; exact Heap.get?_push_size _ rfl
  have k1 : ∀ b o, s1.heap.get? b = some o → h₁.get? b = some o := fun b o e =>
    hsb₁.extBut b o (neG hCs1 e) (Heap.get?_push_of_some _ (by rw [← hH2]; exact Heap.get?_push_of_some _ e))
  have hD1 : h₁.get? D' = some { cls := .type "list", dict := none, data := .seq ([] : List Value).toArray } := hsb₁.extBut _ _ hDC (Heap.get?_push_of_some _ hD0)
  have hIrec := W.recd 0 _ hJ
  have hIne : I ≠ C ∧ I ≠ D' := by
    obtain ⟨o, _, _, e, _⟩ := hIrec
    exact ⟨neG hCs1 e, neG hDs1 e⟩
  have S1 : St P sc v ns ρ c1 x ([C, D'] ++ X) m h₁ := a1.st.widen k1 (all2 (by obtain ⟨o, _, _, e, _⟩ := hns₁; exact ⟨hCs1, o, e⟩) ⟨hDs1, _, hD1⟩)
  have hIX' : I ∉ [C, D'] ++ X := not2 hIne.1 hIne.2 hIX
  have hfpX : ∀ b ∈ fp, b ∉ [C, D'] ++ X ∧ b ≠ I := fun b hb => by
    obtain ⟨f1, f2, o, f3⟩ := hfp b hb
    exact ⟨not2 (neG hCs1 f3) (neG hDs1 f3) f1, f2⟩
  have hasd : ∀ b o, s1.heap.get? b = some o → b ∉ X → b ∉ [C, D'] ++ X := fun b o e n => not2 (neG hCs1 e) (neG hDs1 e) n
  have hxX : ∀ p, x = some p → p.2 ∈ X := fun p hp => (CellAt.there hp _ a1.st.cell).1
  have hxC : ∀ p, x = some p → p.1 ≠ C ∧ p.2 ≠ C := fun p hp => by
    obtain ⟨_, o, e, _⟩ := CellAt.there hp _ a1.st.cell
    obtain ⟨o2, e2⟩ := CellAt.there1 hp _ a1.st.cell
    exact ⟨neG hCs1 e2, neG hCs1 e⟩
  let v' : FV := { qn := v.qn, fn := none, cd := v.cd, cl := cl, fm := v.fm, L := C, fs := v.fs }
  have henv : ({ newEnv scope C (v.env sc).globals cl (v.env sc).qual none Value.none (some (v.env sc)) (v.env sc).builtins with scope := relabel scope (v.env sc) } : Env) = v'.env sc' := by
    rw [CK.rel _ rfl]; rfl
  have hLC : v.L ≠ C := fun q => by
    obtain ⟨o, e⟩ := a1.st.xs _ a1.st.lX
    exact (neG hCs1 e) q
  have hLD : v.L ≠ D' := fun q => by
    obtain ⟨o, e⟩ := a1.st.xs _ a1.st.lX
    exact (neG hDs1 e) q
  have hxD : ∀ p, x = some p → p.1 ≠ D' ∧ p.2 ≠ D' := fun p hp => by
    obtain ⟨_, o, e, _⟩ := CellAt.there hp _ a1.st.cell
    obtain ⟨o2, e2⟩ := CellAt.there1 hp _ a1.st.cell
    exact ⟨neG hDs1 e2, neG hDs1 e⟩
  have nx : ∀ b, (∀ p, x = some p → p.2 ≠ b) → b ∉ x.toList.map (·.2) := fun b hb => nxL hb
  have hIx : ∀ p, x = some p → p.2 ≠ I := fun p hp q => hIX (q ▸ hxX p hp)
  have hkk : scope.kind = .function := CK.kind
  have start : ∀ (c2 : Env), c2 = v'.env sc' → codeAny (model P.prog P.w) A (.compLoop (.ListComp elt [⟨.Name xn px, iter, [], 0⟩] scope pos) 0 (.ref I) (.ref D') c2) (compPost (model P.prog P.w) A E use Q (.ref D') C) { s1 with heap := h₁, toks := s1.toks + ([] : List (Str × Value)).length } := by
    rintro _ rfl
    refine codeAny_compLoop_list (fun n s2 => Ex7 fun k acc ck mC oD items nD => A15 (n = l.length - k) (k ≤ l.length) (acc.length = k) (Rest s s2) (Kept (x.toList.map (·.2)) s.heap s2.heap) (St P sc v ns ρ ck x ([C, D'] ++ X) m s2.heap) (s2.heap.Ns C mC) (s2.heap.get? D' = some oD) (oD.cls = .type "list") (oD.data = .seq items nD) (RelL ([C, D'] ++ X) s2.heap acc items.toList) (J k s2.heap) (Inv k acc ck) ((∀ y val, Rel X s1.heap y val → Rel ([C, D'] ++ X) s2.heap y val)) (∀ b ∈ fp, ∃ o, s2.heap.get? b = some o)) ?_ l.length
      ⟨0, [], c1, _, _, _, _, rfl, Nat.zero_le _, rfl, a1.rest, fun b o e n => ?_, S1, hns₁, hD1, rfl, rfl, by unfold RelL; rfl, ?_, hI0, fun y val r => Rel.up (fun b o e _ _ => ⟨o.slots, k1 b o e⟩) _ _ (Rel.aside hasd _ _ r), fun b hb => ?_⟩
    · rintro n s2 ⟨k, acc, ck, mC, oD, items, nD, rfl, hk, hak, hrest, hkept, St2, hnC, hoD, hcD, hdD, hacc, hJk, hInv, hrel, hfpa⟩
      have hrec := W.recd k _ hJk
      rcases Nat.lt_or_ge k l.length with hlt | hge
      · refine W.item k s2 _ _ hlt hJk fun val h3 tk hval hJ3 hk3 => ?_
        dsimp only
        have sr3 : Sure [] s2.heap h3 := fun b o e nf _ => ⟨o.slots, hk3 b o (fun q => by
          obtain ⟨o2, vs, _, h1, h2, _⟩ := hrec
          rw [← q, e] at h1; cases h1
          exact nf vs h2) e⟩
        have St3 : St P sc v ns ρ ck x ([C, D'] ++ X) m h3 := St2.upZ (Z := []) sr3 (fun b q => nomatch q) (fun q => nomatch q) (fun b hb => by
            obtain ⟨o, e⟩ := St2.xs b hb
            exact ⟨o, hk3 b o (fun q => hIX' (q ▸ hb)) e⟩) (fun b q => nomatch q) (fun b o e => hk3 b o (neG (hnb _ hI) e) (St2.fr.keep b o e)) (St2.cell.up sr3)
        obtain ⟨y, hy1, hy2⟩ := hV k val hval
        have hy3 : Rel ([C, D'] ++ X) h3 y val := Rel.up (sr3.more fun _ q => nomatch q) _ _ (hrel y val hy2)
        have hnC3 : h3.Ns C mC := hnC.at' fun o e => hk3 _ _ (Ne.symm hIne.1) e
        refine wpAny_assign_Name (wpAny_storeName_local (env := v'.env sc') (s := { s2 with heap := h3, toks := tk }) CK.x hnC3 (fun h4 hn4 hs4 => ?_) (by show (sc'.kind == .class || (sc'.kind == .module && C != mainGlobals)) = false; rw [CK.kind']; rfl))
        have hn4' : h4.Ns C (fun z => if z = xn then some val else mC z) := hn4
        have k4 : ∀ b o, b ≠ C → h3.get? b = some o → h4.get? b = some o := fun b o nb e => (hs4.2 b nb).trans e
        have sr4 : Sure [C] h3 h4 := fun b o e _ nb => ⟨o.slots, k4 b o (fun q => nb (by rw [q]; exact .head _)) e⟩
        have hCX : ∀ b ∈ [C], b ∈ [C, D'] ++ X := fun b hb => by rw [List.mem_singleton.mp hb]; exact .head _
        obtain ⟨oC, esC, epC, hoC, hdC, _⟩ := id hn4'
        have St4 : St P sc v ns ρ ck x ([C, D'] ++ X) m h4 := St3.upZ (Z := [C]) sr4 hCX (fun q => hLC (List.mem_singleton.mp q)) (fun b hb => by
            by_cases q : b = C
            · exact ⟨oC, q ▸ hoC⟩
            · obtain ⟨o, e⟩ := St3.xs b hb; exact ⟨o, k4 b o q e⟩) (fun b hb => by rw [List.mem_singleton.mp hb]; exact ⟨oC, hoC, by rw [hdC]; exact fun _ q => nomatch q⟩)
          (fun b o e => k4 b o (neG (hnb _ hCs) e) (St3.fr.keep b o e)) (CellAt.shift sr4 hCX (fun p hp => ⟨fun q => (hxC p hp).1 (List.mem_singleton.mp q), fun q => (hxC p hp).2 (List.mem_singleton.mp q)⟩) _ St3.cell)
        have hy4 : Rel ([C, D'] ++ X) h4 y val := Rel.up (sr4.more hCX) _ _ hy3
        have In4 : St P sc' v' (xn :: frees.map (·.1)) (some (.d y) :: frees.map fun q => (ρ[q.2]?).join) ck x ([C, D'] ++ X) (fun z => if z = xn then some val else mC z) h4 :=
          St.inner (X := D' :: X) St4 hn4' rfl rfl hclf CK.x (if_pos rfl) hy4 CK.fr hxC
        have G' : Good A v' sc' true d := ⟨G.frames, G.some, G.handled, G.room, G.units, CK.kind'⟩
        refine h1 A v' { s2 with heap := h4, toks := tk + 1 } _ _ ck x _ _ _ _ _ G' In4 (hstep k acc ck y hy1 hak hInv) (fun r c5 val5 s5 a5 r5 hp5 => ?_) (fun C' c5 e s5 a5 ex k5 => k5.elim)
        cases r with
        | cell => exact hp5.elim
        | d z =>
          have St5 : St P sc v ns ρ c5 x ([C, D'] ++ X) m s5.heap := St4.up a5.kept.sure (fun b hb _ => a5.st.xs b hb) a5.st.fr.keep a5.st.cell
          have hD3 := hk3 _ _ (Ne.symm hIne.2) hoD
          have hD4 := k4 _ _ hDC hD3
          obtain ⟨sl5, hD5, _⟩ := a5.kept _ _ hD4 (nx _ fun p hp => (hxD p hp).2)
          have hl5 : s5.heap.IsList D' items := ⟨_, hD5, hcD, nD, hdD⟩
          have hacc5 : RelL ([C, D'] ++ X) s5.heap acc items.toList := RelL.up a5.sure _ _ (RelL.up (sr4.more hCX) _ _ (RelL.up (sr3.more fun _ q => nomatch q) _ _ hacc))
          have hisz : items.size = acc.length := by simpa using relL_length hacc
          refine wpAny_list_append hl5 (fun h6 hl6 hs6 => ?_) (by walk_at "om")
          obtain ⟨oD6, hoD6, hcD6, nD6, hdD6⟩ := hl6
          have k6 : ∀ b o, b ≠ D' → s5.heap.get? b = some o → h6.get? b = some o := fun b o nb e => (hs6.2 b nb).trans e
          have sr6 : Sure [D'] s5.heap h6 := fun b o e _ nb => ⟨o.slots, k6 b o (fun q => nb (by rw [q]; exact .head _)) e⟩
          have hDX : ∀ b ∈ [D'], b ∈ [C, D'] ++ X := fun b hb => by rw [List.mem_singleton.mp hb]; exact .tail _ (.head _)
          have St6 : St P sc v ns ρ c5 x ([C, D'] ++ X) m h6 := St5.upZ (Z := [D']) sr6 hDX (fun q => hLD (List.mem_singleton.mp q)) (fun b hb => by
              by_cases q : b = D'
              · subst q; exact ⟨oD6, hoD6⟩
              · obtain ⟨o, e⟩ := St5.xs b hb; exact ⟨o, k6 b o q e⟩) (fun b hb => by rw [List.mem_singleton.mp hb]; exact ⟨oD6, hoD6, by rw [hdD6]; exact fun _ q => nomatch q⟩)
            (fun b o e => k6 b o (neG (hnb _ hDs) e) (St5.fr.keep b o e)) (CellAt.shift sr6 hDX (fun p hp => ⟨fun q => (hxD p hp).1 (List.mem_singleton.mp q), fun q => (hxD p hp).2 (List.mem_singleton.mp q)⟩) _ St5.cell)
          have hI4 : h4.get? I = h3.get? I := hs4.2 I hIne.1
          obtain ⟨oI, vsI, nmI, e1, e2, _⟩ := W.recd (k + 1) _ hJ3
          have hI5 : s5.heap.get? I = some oI := a5.kept.rec (by rw [hI4]; exact e1) (nx _ hIx) e2
          have hI6 : h6.get? I = h3.get? I := by rw [e1]; exact k6 _ _ hIne.2 hI5
          have fpk : ∀ b ∈ fp, ∀ o, h3.get? b = some o → ∃ sl, h6.get? b = some { o with slots := sl } := fun b hb o e => by
            obtain ⟨f1, f2⟩ := hfpX b hb
            have nC : b ≠ C := fun q => f1 (by rw [q]; exact .head _)
            have nD : b ≠ D' := fun q => f1 (by rw [q]; exact .tail _ (.head _))
            obtain ⟨sl, e5, _⟩ := a5.kept _ _ (k4 b o nC e) (nx _ fun p hp q => f1 (by rw [← q]; exact .tail _ (.tail _ (hxX p hp))))
            exact ⟨sl, k6 _ _ nD e5⟩
          refine ⟨l.length - (k + 1), by walk_at "om", k + 1, acc ++ [z], c5, _, oD6, _, nD6, rfl, hlt, by simp [hak], hrest.trans ⟨rfl, rfl, rfl⟩ |>.trans a5.rest, ?_, St6, a5.st.fr.ns.at' fun o e => k6 _ _ (Ne.symm hDC) e, hoD6, hcD6, hdD6, ?_, ?_, hp5, fun y val r => ?_, fun b hb => ?_⟩
          · intro b o e n
            obtain ⟨sl, e1, g1⟩ := hkept b o e n
            have nI : b ≠ I := neG hI e
            have nC : b ≠ C := neG hCs e
            have nD : b ≠ D' := neG hDs e
            obtain ⟨sl5, e5, g5⟩ := a5.kept _ _ (k4 _ _ nC (hk3 _ _ nI e1)) n
            exact ⟨sl5, k6 _ _ nD e5, fun hf => (g5 hf).trans (g1 hf)⟩
          · rw [Array.toList_push]
            refine relL_append (RelL.up (sr6.more hDX) _ _ hacc5) ?_
            unfold RelL
            exact ⟨val5, [], rfl, Rel.up (sr6.more hDX) _ _ r5, by unfold RelL; rfl⟩
          · exact W.frame (k + 1) _ _ hJ3 hI6 fpk
          · exact Rel.up (sr6.more hDX) _ _ (Rel.up a5.sure _ _ (Rel.up (sr4.more hCX) _ _ (Rel.up (sr3.more fun _ q => nomatch q) _ _ (hrel y val r))))
          · obtain ⟨o, e⟩ := hfpa b hb
            obtain ⟨sl, e6⟩ := fpk b hb _ (hk3 _ _ (hfpX b hb).2 e)
            exact ⟨_, e6⟩
      · have hkl : k = l.length := by walk_at "om"
        subst hkl
        refine W.done s2 _ _ hJk fun h3 tk hk3 => ?_
        dsimp only
        have sr3 : Sure [] s2.heap h3 := fun b o e nf _ => ⟨o.slots, hk3 b o (fun q => by
          obtain ⟨o2, vs, _, h1, h2, _⟩ := hrec
          rw [← q, e] at h1; cases h1
          exact nf vs h2) e⟩
        have St3 : St P sc v ns ρ ck x ([C, D'] ++ X) m h3 := St2.upZ (Z := []) sr3 (fun b q => nomatch q) (fun q => nomatch q) (fun b hb => by
            obtain ⟨o, e⟩ := St2.xs b hb
            exact ⟨o, hk3 b o (fun q => hIX' (q ▸ hb)) e⟩) (fun b q => nomatch q) (fun b o e => hk3 b o (neG (hnb _ hI) e) (St2.fr.keep b o e)) (St2.cell.up sr3)
        have hnC3 : h3.Ns C mC := hnC.at' fun o e => hk3 _ _ (Ne.symm hIne.1) e
        have hD3 := hk3 _ _ (Ne.symm hIne.2) hoD
        have hacc3 := RelL.up (sr3.more fun _ q => nomatch q) _ _ hacc
        have sub1 : ∀ b ∈ [C] ++ X, b ∈ [C, D'] ++ X := fun b hb => by
          rcases List.mem_append.mp hb with hb | hb
          · rw [List.mem_singleton.mp hb]; exact .head _
          · exact .tail _ (.tail _ hb)
        have StC : St P sc v ns ρ ck x ([C] ++ X) m h3 := St3.thin sub1 (.tail _ a1.st.lX) (fun p hp => .tail _ (hxX p hp))
        have Aft3 : Aft P sc v ns ρ x X m s ck { s2 with heap := h3, toks := tk } := ⟨hrest, StC.narrow a1.st.lX hxX, fun b o e n => by
            obtain ⟨sl, e1, g1⟩ := hkept b o e n
            exact ⟨sl, hk3 _ _ (neG hI e) e1, g1⟩⟩
        refine hfin acc ck _ D' C mC Aft3 StC ?_ hnC3 hCs (hnb _ hCs) (hend acc ck hak hInv)
        unfold Rel
        refine ⟨D', oD, items, nD, rfl, fun q => ?_, hD3, hcD, hdD, RelL.aside (fun b o _ n q => n (sub1 b q)) _ _ hacc3⟩
        rcases List.mem_append.mp q with q | q
        · exact hDC (List.mem_singleton.mp q)
        · obtain ⟨o, e⟩ := a1.st.xs _ q
          rw [hDs1] at e; cases e
    · obtain ⟨sl, e1, g1⟩ := a1.kept b o e n
      exact ⟨sl, k1 _ _ e1, g1⟩
    · obtain ⟨o, vs, nm, e1, _⟩ := hIrec
      refine W.frame 0 _ _ hJ (by rw [e1]; exact k1 _ _ e1) fun b hb o e => ⟨o.slots, k1 _ _ e⟩
    · obtain ⟨_, _, o, e⟩ := hfp b hb
      exact ⟨o, k1 _ _ e⟩
  refine codeAny_compStart_list (start _ henv) (W.self 0 _ _ _ ?_ (start _ henv))
  obtain ⟨o, vs, nm, e1, _⟩ := hIrec
  exact W.frame 0 _ _ hJ (by show h₁.get? I = _; rw [e1]; exact k1 _ _ e1) fun b hb o e => ⟨o.slots, k1 _ _ e⟩
end
end
section
-- part M20
open PySem PySem.W PyProof.Rows PySem.Calls PySem.Builtin PySem.Builtin.Str PySem.Builtin.ObjectAttr
section
variable {P : Par} {sc : Scope} {ns : List Str} {d : Nat}
theorem but_up {v : FV} {ρ : Env1} {x : Cl} {X : List Addr} {m : Names} {c : CO} {s : Shared} {h h' : Heap} {C : Addr} (ff : s.heap.FunFrames P.base v.fs) (hX : ∀ b ∈ X, ∃ o, s.heap.get? b = some o) (hx1 : ∀ p, x = some p → ∃ o, s.heap.get? p.1 = some o) (kept : ∀ b o, s.heap.get? b = some o → (∀ vs, o.data ≠ .fields vs) → ∃ o', h.get? b = some o' ∧ ∀ vs, o'.data ≠ .fields vs)
    (S : St P sc v ns ρ c x ([C] ++ X) m h) (hL : v.L ∈ X) (hp : ∀ p, x = some p → p.2 ∈ X) (hC : s.heap.get? C = none) (hb : P.base.get? C = none)
    (k : ∀ b o, b ≠ C → h.get? b = some o → h'.get? b = some o) : St P sc v ns ρ c x X m h' := by
  have hCn : ∀ b, (∃ o, s.heap.get? b = some o) → b ≠ C := fun b ⟨o, e⟩ q => by rw [q, hC] at e; cases e
  have sr : Sure [C] h h' := fun b o e _ nb => ⟨o.slots, k b o (fun q => nb (by rw [q]; exact .head _)) e⟩
  have hCX : ∀ b ∈ [C], b ∈ [C] ++ X := fun b hb => List.mem_append.mpr (.inl hb)
  have sub : ∀ b ∈ X, b ∈ [C] ++ X := fun b hb => List.mem_append.mpr (.inr hb)
  have back : ∀ b o, h'.get? b = some o → b ∉ [C] ++ X → b ∉ X := fun b o _ n q => n (sub b q)
  have hLC : v.L ≠ C := hCn _ (hX _ hL)
  obtain ⟨⟨hns, hkeep⟩, hff, hcell, hlX, hxL, hxs, hxb, hloc⟩ := S
  refine ⟨⟨hns.at' fun o e => k _ o hLC e, fun b o e => k b o (neG hb e) (hkeep b o e)⟩, funFrames_alive (fun b o e hd => ?_) ff,
    (CellAt.shift sr hCX (fun p hp' => ⟨fun q => hCn _ (hx1 p hp') (List.mem_singleton.mp q), fun q => hCn _ (hX _ (hp p hp')) (List.mem_singleton.mp q)⟩) _ hcell).back sub hp, hL, hxL, fun b hb' => ?_, fun b hb' => hxb b (sub b hb'), fun i n sv hi hρ => ?_⟩
  · obtain ⟨o', e', hd'⟩ := kept b o e hd
    exact ⟨o', k b o' (hCn b ⟨o, e⟩) e', hd'⟩
  · obtain ⟨o, e⟩ := hxs b (sub b hb')
    exact ⟨o, k b o (hCn b (hX b hb')) e⟩
  · obtain ⟨val, hv, hr⟩ := hloc i n sv hi hρ
    refine ⟨val, ?_, RelV.aside back (.inr rfl) _ _ (RelV.up (sr.more hCX) _ _ hr)⟩
    rcases hv.up (sr.more hCX) with ⟨a, b⟩ | ⟨a, y, o, h3, h4, h5, h6⟩
    · exact .inl ⟨a, b⟩
    · exact .inr ⟨a, y, o, h3, h4, h5, fun q => h6 (sub _ q)⟩
theorem kept_alive {x : Cl} {X : List Addr} {h h' : Heap} {c : CO} (k : Kept (x.toList.map (·.2)) h h') (hc : CellAt x X h' c) : ∀ b o, h.get? b = some o → (∀ vs, o.data ≠ .fields vs) → ∃ o', h'.get? b = some o' ∧ ∀ vs, o'.data ≠ .fields vs := fun b o e hd => by
  by_cases q : b ∈ x.toList.map (·.2)
  · cases x with
    | none => cases q
    | some p =>
      rcases List.mem_cons.mp q with q | q
      · obtain ⟨_, o, h1, h2⟩ := CellAt.there rfl c hc
        exact ⟨o, q ▸ h1, h2⟩
      · cases q
  · obtain ⟨sl, ho', _⟩ := k b o e q
    exact ⟨_, ho', hd⟩
theorem sound_comp {elt iter : Expr} {xn : Str} {px pos : Pos} {scope sc' : Scope} {frees : List (Str × Nat)} {pi : PI} {p : PE} (CK : CompK sc scope sc' xn frees ns) (h0 : SoundI P d sc ns iter pi) (h1 : SoundE P true d sc' (xn :: frees.map (·.1)) elt p)
    (hfold : ∀ env x, foldedSetIterable iter env x = pure x) : SoundE P true d sc ns (.ListComp elt [⟨.Name xn px, iter, [], 0⟩] scope pos) (pComp frees pi p) := by
  intro A v s m ρ c x X Q E KQ KE G S hp hQ hE
  rw [eval_ListComp]
  refine comp_core (use := none) CK h0 h1 hfold G S hp (fun acc c' s' D' C mC a StC r hn hC hb k => ?_) hE
  refine ⟨mC, hn, fun h' hs => ?_⟩
  have kk : ∀ b o, b ≠ C → s'.heap.get? b = some o → h'.get? b = some o := fun b o nb e => (hs.2 b nb).trans e
  have sr : Sure [C] s'.heap h' := fun b o e _ nb => ⟨o.slots, kk b o (fun q => nb (by rw [q]; exact .head _)) e⟩
  have hxp : ∀ p, x = some p → p.2 ∈ X := fun p hp => (CellAt.there hp _ S.cell).1
  refine hQ (.d (.lst acc)) c' _ _ ⟨a.rest, but_up S.ff S.xs (fun p hp => CellAt.there1 hp _ S.cell) (kept_alive a.kept a.st.cell) StC S.lX hxp hC hb kk, fun b o e n => ?_⟩ ?_ k
  · obtain ⟨sl, e1, f1⟩ := a.kept b o e n
    exact ⟨sl, kk _ _ (neG hC e) e1, f1⟩
  · exact Rel.aside (fun b o _ n q => n (List.mem_append.mpr (.inr q))) _ _ (Rel.up (sr.more fun b hb => List.mem_append.mpr (.inl hb)) _ _ r)
theorem s_asgComp {n : Str} {np pos2 : Pos} {elt iter : Expr} {xn : Str} {px pos : Pos} {scope sc' : Scope} {frees : List (Str × Nat)} {pi : PI} {p : PE} {i : Nat} (CK : CompK sc scope sc' xn frees ns) (h0 : SoundI P d sc ns iter pi) (h1 : SoundE P true d sc' (xn :: frees.map (·.1)) elt p)
    (hfold : ∀ env x, foldedSetIterable iter env x = pure x) (hi : ns[i]? = some n) (hl : sc.names.lookup n = some .local) (hnd : ns.Nodup)
    (hs : ∀ env : Env, env.scope = sc → swapsWith (.ListComp elt [⟨.Name xn px, iter, [], 0⟩] scope pos) (some (.Name n np)) pos2.line env = pure true) :
    SoundS P true d sc ns (.Assign [.Name n np] (.ListComp elt [⟨.Name xn px, iter, [], 0⟩] scope pos) pos2) (pAsg i (pComp frees pi p)) := by
  intro A v s m ρ c x X Q E Kn Kr Ke G O S hp hQ hR hE
  rw [exec_Assign_Name_used _ _ _ _ (hs _ rfl)]
  refine wpAny_bind (wpAny_standAt (wpAny_bind ?_))
  show wpAny _ A (do let _ ← comprehension (.ListComp elt [⟨.Name xn px, iter, [], 0⟩] scope pos) scope (v.env sc) _ (newList []) false (eval iter (v.env sc)) (some (assign (.Name n np) (v.env sc)))) _ _ s
  refine wpAny_bind (wpAny_mono (comp_core (use := some (assign (.Name n np) (v.env sc))) (Q := fun _ s' => Q .next s') (E := E) CK h0 h1 hfold G S hp (fun acc c' s' D' C mC a StC r hn hC hb k => ?_) (fun C c1 e s1 a1 ex k => hE _ _ _ _ _ _ _ _ a1.toS ex k)) (fun _ s' hq => wpAny_pure (wpAny_pure hq)) fun _ _ e => e)
  have hxp : ∀ p, x = some p → p.2 ∈ X := fun p hp => (CellAt.there hp _ S.cell).1
  show wpAny _ A (assign (.Name n np) (v.env sc) (.ref D')) _ _ _
  refine wpAny_assign_Name (store_ok (sv := .d (.lst acc)) G.kind hl hi hnd StC r fun m2 s2 a2 => ?_)
  have hCn : ∀ b, (∃ o, s.heap.get? b = some o) → b ≠ C := fun b ⟨o, e⟩ q => by rw [q, hC] at e; cases e
  have hnC : C ∉ v.L :: x.toList.map (·.2) := fun q => by
    rcases List.mem_cons.mp q with q | q
    · exact hCn _ (S.xs _ S.lX) q.symm
    · cases x with
      | none => cases q
      | some p =>
        rcases List.mem_cons.mp q with q | q
        · exact hCn _ (S.xs _ (hxp p rfl)) q.symm
        · cases q
  obtain ⟨oC, esC, epC, hoC, hdC, hkC, hfC⟩ := hn
  obtain ⟨slC, hoC2, _⟩ := a2.kept C oC hoC hnC
  refine ⟨mC, ⟨_, esC, epC, hoC2, hdC, hkC, hfC⟩, fun h' hs => ?_⟩
  have kk : ∀ b o, b ≠ C → s2.heap.get? b = some o → h'.get? b = some o := fun b o nb e => (hs.2 b nb).trans e
  have kept2 : ∀ b o, s.heap.get? b = some o → (∀ vs, o.data ≠ .fields vs) → ∃ o', s2.heap.get? b = some o' ∧ ∀ vs, o'.data ≠ .fields vs := fun b o e hd => by
    by_cases q : b = v.L
    · obtain ⟨o', es', ep', e1, e2, _⟩ := a2.st.fr.ns
      exact ⟨o', q ▸ e1, by rw [e2]; exact fun _ q => nomatch q⟩
    · obtain ⟨o1, e1, hd1⟩ := kept_alive a.kept a.st.cell b o e hd
      by_cases q2 : b ∈ x.toList.map (·.2)
      · cases x with
        | none => cases q2
        | some p =>
          rcases List.mem_cons.mp q2 with q2 | q2
          · obtain ⟨_, o', h1, h2⟩ := CellAt.there rfl _ a2.st.cell
            exact ⟨o', q2 ▸ h1, h2⟩
          · cases q2
      · obtain ⟨sl, e2, _⟩ := a2.kept b o1 e1 fun q3 => by
          rcases List.mem_cons.mp q3 with q3 | q3
          · exact q q3
          · exact q2 q3
        exact ⟨_, e2, hd1⟩
  refine hQ _ c' m2 x X _ ⟨a.rest.trans a2.rest, but_up S.ff S.xs (fun p hp => CellAt.there1 hp _ S.cell) kept2 a2.st S.lX hxp hC hb kk, fun b o e nb => ?_, fun _ h => h, fun _ h => .inl h, .inl rfl⟩ k
  obtain ⟨sl, e1, f1⟩ := a.kept b o e fun q => nb (.tail _ q)
  obtain ⟨sl2, e2, f2⟩ := a2.kept b _ e1 nb
  exact ⟨sl2, kk _ _ (hCn b ⟨o, e⟩) e2, fun hf => (f2 hf).trans (f1 hf)⟩
end
@[reducible] noncomputable def puK (K : SV → CO → Prop) (c : CO) : SV → CO → Prop := fun r _ => onD r fun y => K (.d y) c
@[reducible] noncomputable def puE (KE : Addr → CO → Prop) (c : CO) : Addr → CO → Prop := fun C _ => KE C c
noncomputable def sPure (sp : Spec) : Spec := fun args c K KE => (∃ l, allD args = some l) ∧ sp args .none (puK K c) (puE KE c)
theorem allD_rel {x x' : Cl} {X : List Addr} {h : Heap} : ∀ {l : List SV} {l' : List D} {vs : List Value}, allD l = some l' → RelVs x X h l vs → RelVs x' X h l vs
  | [], _, vs, e, r => r
  | .d y :: l, _, vs, e, ⟨v, t, h0, h1, h2⟩ => by
    simp only [allD, Option.map_eq_some_iff] at e
    obtain ⟨k, e, _⟩ := e
    exact ⟨v, t, h0, h1, allD_rel e h2⟩
  | .cell :: l, _, vs, e, r => by cases e
theorem Ok.pure {P : Par} {d : Nat} {f : Value} {sp : Spec} (o : Ok P d f sp) : Ok P d f (sPure sp) := by
  intro A fs s vs args c x X Q E KQ KE h1 h0 h2 h3 h4 am rel hp hQ hE
  obtain ⟨⟨l, hl⟩, hp⟩ := hp
  have am0 : Amb P fs .none none X s.heap := ⟨am.stays, am.ff, rfl, am.xs, am.xb⟩
  have up : ∀ c' s', AmbAft P fs none X s c' s' → AmbAft P fs x X s c s' := fun c' s' a =>
    ⟨a.rest, ⟨a.amb.stays, a.amb.ff, am.cell.up (a.kept.sure), a.amb.xs, am.xb⟩, a.kept.more fun _ q => nomatch q⟩
  refine o A fs s vs args .none none X Q E _ _ h1 h0 h2 h3 h4 am0 (allD_rel hl rel) hp (fun r c' val s' a r1 k => ?_) (fun C c' e s' a ex k => hE C c e s' (up c' s' a) ex k)
  cases r with
  | d y => exact hQ (.d y) c val s' (up c' s' a) r1 k
  | cell => exact k.elim
end
section
-- part M21
open PySem PySem.W PyProof.Rows PySem.Calls PySem.Builtin PySem.Builtin.Str PySem.Builtin.ObjectAttr
section
variable {P : Par} {sc : Scope} {ns : List Str} {d : Nat}
noncomputable def SoundSsF (P : Par) (d : Nat) (sc : Scope) (ns : List Str) (st : List Stmt) (p : PS) : Prop :=
  ∀ (A : Around) (v : FV) (s : Shared) (m : Names) (ρ : Env1) (X : List Addr) (Q : Flow → Shared → Prop) (E : Value → Shared → Prop) (Kf : D → Prop),
    Good A v sc true d → v.Own sc → St P sc v ns ρ .none none X m s.heap → p ρ .none (fun _ _ => False) (fun r _ => onD r Kf) (fun _ _ _ => False) →
    (∀ y a ρ' m' X' s', AftS P sc v ns ρ' none X none X' m' s .none s' → s.heap.get? a = none → Rel X' s'.heap y (.ref a) → Kf y → Q (.ret (.ref a)) s') →
    wpAny (model P.prog P.w) A (execs st (v.env sc)) Q E s
noncomputable def pSeqF (p q : PS) : PS := fun ρ c Kn Kr Ke => p ρ c (fun ρ' c' => ifNone c' (q ρ' .none Kn Kr Ke)) (fun _ _ => False) (fun _ _ _ => False)
noncomputable def pRetF (p : PL) : PS := fun ρ c Kn Kr Ke => p ρ c (fun l c1 => ifNone c1 (oSome (allD l) fun l' => l'.length ≤ sizeLine ∧ Kr (.d (.lst l')) .none)) (fun _ _ => False)
theorem pRetF_eq (p : PL) (ρ : Env1) (c : CO) (Kn : Env1 → CO → Prop) (Kr : SV → CO → Prop) (Ke : Env1 → Addr → CO → Prop) : pRetF p ρ c Kn Kr Ke = p ρ c (fun l c1 => ifNone c1 (oSome (allD l) fun l' => l'.length ≤ sizeLine ∧ Kr (.d (.lst l')) .none)) (fun _ _ => False) := rfl
theorem ssF_cons {st : Stmt} {rest : List Stmt} {p q : PS} (h1 : SoundS P true d sc ns st p) (h2 : SoundSsF P d sc ns rest q) : SoundSsF P d sc ns (st :: rest) (pSeqF p q) := by
  intro A v s m ρ X Q E Kf G O S hp hQ
  refine wpAny_execs_cons (h1 A v s m ρ .none none X _ _ _ _ _ G O S hp (fun ρ1 c1 m1 x1 X1 s1 a1 hp1 => ?_) (fun r ρ1 c1 m1 x1 X1 val s1 a1 rel k => k.elim) (fun C ρ1 c1 m1 x1 X1 e s1 a1 ex k => k.elim))
  obtain ⟨rfl, hp1⟩ := ifNone_inv hp1
  have hx : x1 = none := a1.st.cell
  subst hx
  exact h2 A v s1 m1 ρ1 X1 _ _ Kf G O a1.st hp1 fun y a ρ2 m2 X2 s2 a2 f r k => hQ y a _ _ _ _ (a1.trans a2) (a1.absent _ f) r k
theorem ssF_ret {es : List Expr} {pos pos2 : Pos} {p : PL} (h1 : SoundL P true d sc ns es p) : SoundSsF P d sc ns [.Return (some (.List es pos)) pos2] (pRetF p) := by
  intro A v s m ρ X Q E Kf G O S hp hQ
  rw [pRetF_eq] at hp
  refine wpAny_execs_cons (wpAny_Return_some (List_ (h1 pos A v s m ρ .none none X _ _ _ _ G S hp (fun l c1 vl s1 a1 r1 hp1 => ?_) (fun C c1 e s1 a1 ex k => k.elim))))
  obtain ⟨rfl, hp1⟩ := ifNone_inv hp1
  obtain ⟨l', hl, hp1⟩ := oSome_elim hp1
  have hr := relVs_allD hl r1
  refine wpAny_newObj_type ?_ (by show vl.toArray.size ≤ sizeLine; rw [List.size_toArray, relL_length hr]; exact hp1.1)
  have g := Grow.push s1 { cls := .type "list", data := .seq vl.toArray } s1.toks
  refine hQ (.lst l') _ ρ m X _ (a1.toS.grow g) (a1.absent _ (Heap.get?_none_of_le (Nat.le_refl _))) ?_ hp1.2
  show Rel _ _ _ _
  unfold Rel
  exact ⟨_, _, _, _, rfl, fresh_notin a1.st.xs, Heap.get?_push_size _ rfl, rfl, rfl, by simpa using RelL.up (g.sure _) _ _ hr⟩
theorem ok_defF {f : Addr} {body : List Stmt} {ps : List Str} {p : PS} (DK : DefK P.K f body sc ps) (hb : SoundSsF P d sc ns body p)
    (hkind : ∀ n ∈ ps, sc.names.lookup n = some .local) (hps : ∀ (i : Nat) (n : Str), ps[i]? = some n → ns[i]? = some n) (hnd : ps.Nodup) (hnn : ns.Nodup)
    (hco : sc.isCoroutine = false) (hgen : sc.isGenerator = false) (hk : sc.kind = .function)
    {A : Around} {fs : List Env} {s : Shared} {vs : List Value} {args : List SV} {X : List Addr} {Q E : Value → Shared → Prop} {Kf : D → Prop}
    (hfr : A.frames = some fs) (hne : fs ≠ []) (hh : A.handled = none) (hdep : A.depth + (d + 1) < recursionLimit) (hun : A.units + 16 * (d + 1) + 64 < cLine) (am : Amb P fs .none none X s.heap) (rel : RelVs none X s.heap args vs) (hlen : args.length = ps.length)
    (hp : p (args.map some ++ List.replicate (ns.length - ps.length) none) .none (fun _ _ => False) (fun r _ => onD r Kf) (fun _ _ _ => False))
    (hQ : ∀ y a s', AmbAft P fs none X s .none s' → s.heap.get? a = none → Rel X s'.heap y (.ref a) → Kf y → Q (.ref a) s') :
    wpAny (model P.prog P.w) A (call (.ref f) vs) Q E s := by
  obtain ⟨oc, od, osl, name, qual, params, dV, kV, doc, pm, an, cdv, ct, hlk, hcd, hbind⟩ := DK.there
  have hX : P.K.In s.heap := P.X.keeps am.stays
  have hlv : vs.length = ps.length := (relVs_length rel).trans hlen
  refine wpAny_call (codeAny_call_function (by walk_at "om") (hX _ _ hlk) rfl hco hgen rfl (codeRec_of hX hcd) (hbind s vs hX hlv _ _ _ _ ?_))
  refine wpAny_newFunctionEnv_cells hk (fun y hy => .inl (hkind y.1 (List.of_mem_zip hy).1)) fun env he s1 hcall => ?_
  subst he
  refine ⟨((topRead_of P.T).nolimit.keeps am.stays).keeps hcall.toInCall.keep, codeAny_func ?_⟩
  obtain ⟨h₁, tk, rfl, hkeep⟩ := hcall.done
  let v : FV := { qn := qual ++ ".<locals>.", fn := some f, cd := cdv, cl := cellsFrom (s.heap.objs.size + 1) sc.names [], fm := some s.heap.objs.size, L := s.heap.objs.size, fs := newEnv sc s.heap.objs.size mainGlobals (cellsFrom (s.heap.objs.size + 1) sc.names []) (qual ++ ".<locals>.") (some f) cdv none builtinsNs :: fs }
  have hLn : s.heap.get? v.L = none := Heap.get?_none_of_le (Nat.le_refl _)
  have hLb : P.base.get? v.L = none := by
    cases q : P.base.get? v.L with
    | none => rfl
    | some o => rw [am.stays _ _ q] at hLn; cases hLn
  have hasd : ∀ b o, s.heap.get? b = some o → b ∉ X → b ∉ v.L :: X := fun b o e n q => by
    rcases List.mem_cons.mp q with q | q
    · exact (neG hLn e) q
    · exact n q
  have ksure : ∀ Y, Sure Y s.heap h₁ := fun Y b o e _ _ => ⟨o.slots, hkeep b o e⟩
  have S : St P sc v ns (args.map some ++ List.replicate (ns.length - ps.length) none) .none none (v.L :: X) (bindL (Env.kindOf (v.env sc)) (ps.zip vs) fun _ => none) h₁ := {
    fr := ⟨hcall.toInCall.ns, fun b o e => hkeep b o (am.stays b o e)⟩
    ff := Heap.FunFrames.cons (by show sc.kind ≠ _; rw [hk]; decide) rfl hcall.toInCall.ns hLb (funFrames_alive (fun b o e hd => ⟨o, hkeep b o e, hd⟩) am.ff)
    cell := rfl
    lX := .head _
    xL := fun q hq => nomatch hq
    xs := fun b hb => by
      rcases List.mem_cons.mp hb with rfl | hb
      · obtain ⟨o, _, _, e, _⟩ := hcall.toInCall.ns; exact ⟨o, e⟩
      · obtain ⟨o, e⟩ := am.xs b hb; exact ⟨o, hkeep b o e⟩
    xb := fun b hb => by
      rcases List.mem_cons.mp hb with rfl | hb
      · exact hLb
      · exact am.xb b hb
    loc := fun i n sv hn hρ => by
      have hi : i < args.length := by
        by_cases hi : i < args.length
        · exact hi
        · rw [List.getElem?_append_right (by simp; walk_at "om"), List.getElem?_replicate] at hρ
          split at hρ <;> cases hρ
      rw [List.getElem?_append_left (by simp; exact hi), List.getElem?_map] at hρ
      obtain ⟨sv', h1, h2⟩ := Option.map_eq_some_iff.mp hρ
      cases h2
      have hip : i < ps.length := by walk_at "om"
      have hpn : ps[i]? = some n := by
        have := hps i _ (List.getElem?_eq_getElem hip)
        rw [this] at hn
        rw [List.getElem?_eq_getElem hip, ← hn]
      obtain ⟨val, h3, h4⟩ := relVs_get rel h1
      exact ⟨val, .inl ⟨hkind n (List.mem_of_getElem? hpn), bindL_at (hkind n (List.mem_of_getElem? hpn)) hnd hpn h3⟩, RelV.up (ksure _) _ _ (RelV.aside hasd (.inr rfl) _ _ h4)⟩ }
  have G : Good (A.deeper (v.env sc)) v sc true d := ⟨Around.frames_deeper hfr, List.cons_ne_nil _ _, fun _ => hh, by show A.depth + 1 + d < _; walk_at "om", by show A.units + 3 + 16 * d + 64 < _; walk_at "om", hk⟩
  refine hb (A.deeper (v.env sc)) v { s with heap := h₁, toks := tk } _ _ (v.L :: X) _ _ Kf G ⟨fs, rfl, rfl⟩ S hp fun y a ρ' m' X' s' af f r k => ?_
  have am' := af.out rfl hLn am hkeep
  refine hQ y a s' am' ?_ (Rel.aside (fun b o _ n q => n (af.ext b (.tail _ q))) _ _ r) k
  cases q : s.heap.get? a with
  | none => rfl
  | some o => rw [show ({ s with heap := h₁, toks := tk } : Shared).heap.get? a = some o from hkeep _ _ q] at f; cases f
end
end
section
-- part M22
open PySem PySem.W PyProof.Rows PySem.Calls PySem.Builtin PySem.Builtin.Str PySem.Builtin.ObjectAttr
structure AftL (P : Par) (sc : Scope) (v : FV) (ns : List Str) (ρ' : Env1) (cs : Addr) (X X' : List Addr) (m' : Names) (s s' : Shared) : Prop where
  rest : Rest s s'
  st : St P sc v ns ρ' .none none (cs :: X') m' s'.heap
  nin : cs ∉ X'
  cell : ∃ ov, s'.heap.IsCell cs ov
  kept : Kept [v.L, cs] s.heap s'.heap
  new : ∀ b ∈ X', b ∈ X ∨ s.heap.get? b = none
section
variable {P : Par} {sc : Scope} {ns : List Str} {d : Nat} {v : FV} {ρ : Env1} {cs : Addr} {X X' X'' : List Addr} {m' m'' : Names} {s s' s'' : Shared}
theorem AftL.step (a : AftL P sc v ns ρ cs X X' m' s s') {I : Addr} {h' : Heap} {tk : Nat} (hI : s.heap.get? I = none) (hb : P.base.get? I = none) (hf : ∃ o vs, s'.heap.get? I = some o ∧ o.data = .fields vs) (hn : I ∉ cs :: X')
    (k : ∀ b o, b ≠ I → s'.heap.get? b = some o → h'.get? b = some o) : AftL P sc v ns ρ cs X X' m' s { s' with heap := h', toks := tk } := by
  have hs : Sure [] s'.heap h' := fun b o e nf _ => ⟨o.slots, k b o (fun q => by
    subst q
    obtain ⟨o2, vs, h1, h2⟩ := hf
    rw [e] at h1; cases h1
    exact nf vs h2) e⟩
  refine ⟨a.rest, a.st.up (hs.more fun _ q => nomatch q) (fun b hb ⟨o, e⟩ => ⟨o, k b o (fun q => hn (q ▸ hb)) e⟩) (fun b o e => k b o (fun q => by rw [q] at e; rw [hb] at e; cases e) (a.st.fr.keep b o e)) rfl, a.nin, ?_, fun b o e nb => ?_, a.new⟩
  · obtain ⟨ov, o, e, hd⟩ := a.cell
    exact ⟨ov, o, k cs o (fun q => hn (by rw [← q]; exact .head _)) e, hd⟩
  · obtain ⟨s1, e1, f1⟩ := a.kept b o e nb
    exact ⟨s1, k b _ (neG hI e) e1, f1⟩
theorem law_loop {iter : Expr} {b : List Stmt} {n : Str} {np pos : Pos} {i : Nat} {pi : PI} (hA : SoundA P sc ns (.Name n np) (gName i)) (h0 : SoundI P d sc ns iter pi) (hs : ∀ env x, foldedSetIterable iter env x = pure x)
    {A : Around} {m : Names} {Q : Flow → Shared → Prop} {E : Value → Shared → Prop} (G : Good A v sc true d) (S : St P sc v ns ρ .none none (cs :: X) m s.heap) (hcs : cs ∉ X) (hcell : ∃ ov, s.heap.IsCell cs ov)
    (hp : pi ρ .none (fun l c1 => c1 = .none ∧ ∀ (k : Nat) y, l[k]? = some y → ∃ j : Nat, j < 2 ∧ y = .int j) (fun _ _ => False))
    (turn : ∀ (j : Nat) (s4 : Shared) (m4 : Names) (X2 : List Addr) (Q2 : Flow → Shared → Prop) (E2 : Value → Shared → Prop), j < 2 → St P sc v ns (ρ.set i (some (.d (.int j)))) .none none (cs :: X2) m4 s4.heap → cs ∉ X2 → (∃ ov, s4.heap.IsCell cs ov) →
      (∀ m' X' s', AftL P sc v ns ρ cs X2 X' m' s4 s' → Q2 .next s') → wpAny (model P.prog P.w) A (execs b (v.env sc)) Q2 E2 s4)
    (hQ : ∀ m' X' s', AftL P sc v ns ρ cs X X' m' s s' → Q .next s') : wpAny (model P.prog P.w) A (exec (.For (.Name n np) iter b [] pos) (v.env sc)) Q E s := by
  refine wpAny_For ?_ (hs _)
  refine h0 A v s m ρ .none none (cs :: X) _ _ _ _ G S hp (fun l c1 I fp V J s1 a1 W hJ hI hIX hfp hV hp1 => ?_) (fun C c1 e s1 a1 ex k => k.elim)
  obtain ⟨rfl, hints⟩ := hp1
  have hIb : P.base.get? I = none := by
    cases q : P.base.get? I with
    | none => rfl
    | some o => rw [S.fr.keep _ _ q] at hI; cases hI
  have a1L : AftL P sc v ns ρ cs X X m s s1 := ⟨a1.rest, a1.st, hcs, by
    obtain ⟨ov, o, e, hd⟩ := hcell
    obtain ⟨sl, e1, _⟩ := a1.kept cs o e (fun q => nomatch q)
    exact ⟨ov, _, e1, hd⟩, a1.kept.more (fun _ q => nomatch q), fun b hb => .inl hb⟩
  refine codeAny_forLoop_any (fun n s2 => ∃ k m2 X2, n = l.length - k ∧ k ≤ l.length ∧ AftL P sc v ns ρ cs X X2 m2 s s2 ∧ J k s2.heap ∧ I ∉ cs :: X2 ∧ (∀ b ∈ fp, b ∉ cs :: X2 ∧ b ≠ I ∧ ∃ o, s2.heap.get? b = some o)) ?_ l.length
    ⟨0, m, X, rfl, Nat.zero_le _, a1L, hJ, hIX, hfp⟩
  rintro n s2 ⟨k, m2, X2, rfl, hk, a2, hJk, hI2, hf2⟩
  have hrec := W.recd k _ hJk
  have hfl : ∃ o vs, s2.heap.get? I = some o ∧ o.data = .fields vs := let ⟨o, vs, _, h1, h2, _⟩ := hrec; ⟨o, vs, h1, h2⟩
  rcases Nat.lt_or_ge k l.length with hlt | hge
  · refine W.item k s2 _ _ hlt hJk fun val h' tk hval hJ' hk' => ?_
    dsimp only
    have a3 : AftL P sc v ns ρ cs X X2 m2 s { s2 with heap := h', toks := tk } := a2.step hI hIb hfl hI2 hk'
    refine owned_ok (W.recd (k + 1) _ hJ') ?_
    obtain ⟨y, hy1, hy2⟩ := hV k val hval
    obtain ⟨j, hj, rfl⟩ := hints k y hy1
    have hy3 : Rel (cs :: X2) h' (.int j) val := by unfold Rel at hy2 ⊢; exact hy2
    refine hA A v { s2 with heap := h', toks := tk } m2 ρ .none none (cs :: X2) _ _ (fun ρ' => ρ' = ρ.set i (some (.d (.int j)))) (.int j) val (G.handled rfl) G.kind a3.st hy3 rfl fun ρ4 m4 s4 a4 hp4 => ?_
    subst hp4
    have hc4 : ∃ ov, s4.heap.IsCell cs ov := by
      obtain ⟨ov, o, e, hd⟩ := a3.cell
      obtain ⟨sl, e1, _⟩ := a4.kept cs o e (fun q => by
        rcases List.mem_cons.mp q with q | q
        · exact a3.nin (by
            have := a3.st.lX
            rcases List.mem_cons.mp this with q2 | q2
            · exfalso
              obtain ⟨oL, es, ep, hL, hLd, _⟩ := a3.st.fr.ns
              rw [q2, e] at hL
              cases hL
              rw [hd] at hLd; cases hLd
            · rw [q]; exact q2)
        · cases q)
      exact ⟨ov, _, e1, hd⟩
    refine turn j s4 m4 X2 _ _ hj a4.st a3.nin hc4 fun m5 X5 s5 a5 => ?_
    have hIn : I ∉ [v.L, cs] := fun q => by
      rcases List.mem_cons.mp q with q | q
      · exact hI2 (q ▸ a3.st.lX)
      · exact hI2 (by rw [List.mem_singleton.mp q]; exact .head _)
    have nL : ∀ b, b ∉ cs :: X2 → b ∉ [v.L, cs] := fun b hb q => hb (by
      rcases List.mem_cons.mp q with rfl | q
      · exact a3.st.lX
      · rw [List.mem_singleton.mp q]; exact .head _)
    have kp : Kept [v.L, cs] h' s5.heap := (a4.kept.more fun b hb => by
      rcases List.mem_cons.mp hb with rfl | hb
      · exact .head _
      · cases hb).trans a5.kept
    have abs4 : ∀ b, s4.heap.get? b = none → h'.get? b = none := a4.absent
    have hI5 : I ∉ cs :: X5 := fun q => by
      rcases List.mem_cons.mp q with q | q
      · exact hI2 (by rw [q]; exact .head _)
      · rcases a5.new I q with h | h
        · exact hI2 (.tail _ h)
        · obtain ⟨o, vs, nm, h1, _⟩ := W.recd (k + 1) _ hJ'
          rw [abs4 _ h] at h1; cases h1
    refine ⟨l.length - (k + 1), by walk_at "om", k + 1, m5, X5, rfl, hlt, ⟨(a3.rest.trans a4.rest).trans a5.rest, a5.st, a5.nin, a5.cell, a3.kept.trans kp, fun b hb => ?_⟩, ?_, hI5, ?_⟩
    · rcases a5.new b hb with h | h
      · exact a3.new b h
      · right
        have h2 := abs4 _ h
        cases q : s.heap.get? b with
        | none => rfl
        | some o =>
          exfalso
          by_cases hbn : b ∈ [v.L, cs]
          · rcases List.mem_cons.mp hbn with q1 | q1
            · obtain ⟨oL, es, ep, hL, _⟩ := a3.st.fr.ns
              have hL : h'.get? v.L = some oL := hL
              rw [← q1, h2] at hL; cases hL
            · obtain ⟨ov, o2, e2, _⟩ := a3.cell
              have e2 : h'.get? cs = some o2 := e2
              rw [← List.mem_singleton.mp q1, h2] at e2; cases e2
          · obtain ⟨sl, e3, _⟩ := a3.kept b o q hbn
            have e3 : h'.get? b = _ := e3
            rw [h2] at e3; cases e3
    · refine W.frame (k + 1) _ _ hJ' ?_ fun b hb o e => ?_
      · obtain ⟨o, vs, nm, h1, h2, _⟩ := W.recd (k + 1) _ hJ'
        rw [kp.rec h1 hIn h2]; exact h1.symm
      · obtain ⟨sl, e1, _⟩ := kp b o e (nL b (hf2 b hb).1)
        exact ⟨sl, e1⟩
    · intro b hb
      obtain ⟨f1, f2, o, f3⟩ := hf2 b hb
      have f4 := hk' b o f2 f3
      obtain ⟨sl, f5, _⟩ := kp b o f4 (nL b f1)
      refine ⟨fun q => ?_, f2, _, f5⟩
      rcases List.mem_cons.mp q with q | q
      · exact f1 (by rw [q]; exact .head _)
      · rcases a5.new b q with h | h
        · exact f1 (.tail _ h)
        · rw [abs4 _ h] at f4; cases f4
  · have : k = l.length := by walk_at "om"
    subst this
    refine W.done s2 _ _ hJk fun h' tk hk' => ?_
    dsimp only
    exact wpAny_execs_nil (hQ _ _ _ (a2.step hI hIb hfl hI2 hk'))
end
end
section
-- part M23
open PySem PySem.W PyProof.Rows PySem.Calls PySem.Builtin PySem.Builtin.Str PySem.Builtin.ObjectAttr
theorem relL_ints {X Y : List Addr} {h : Heap} : ∀ (l : List Int) (vs : List Value), RelL X h (l.map .int) vs → RelL Y h (l.map .int) vs
  | [], _, r => by unfold RelL at r ⊢; exact r
  | i :: l, vs, r => by
    rw [List.map_cons] at r ⊢
    unfold RelL at r ⊢
    obtain ⟨v, t, e, h1, h2⟩ := r
    exact ⟨v, t, e, by unfold Rel at h1 ⊢; exact h1, relL_ints l t h2⟩
theorem rel_ints {X : List Addr} {h : Heap} {cs : Addr} {l : List Int} {v : Value} (r : Rel X h (.lst (l.map .int)) v) (hc : ∃ ov, h.IsCell cs ov) : Rel (cs :: X) h (.lst (l.map .int)) v := by
  unfold Rel at r ⊢
  obtain ⟨a, o, vs, n, rfl, hn, ho, hcl, hd, hr⟩ := r
  refine ⟨a, o, vs, n, rfl, fun q => ?_, ho, hcl, hd, relL_ints l _ hr⟩
  rcases List.mem_cons.mp q with q | q
  · obtain ⟨ov, o2, e, hd2⟩ := hc
    rw [← q, ho] at e
    cases e
    rw [hd] at hd2; cases hd2
  · exact hn q
section
variable {P : Par} {sc : Scope} {ns : List Str} {d : Nat} {v : FV} {cs : Addr} {X : List Addr} {m : Names} {s : Shared} {A : Around}
theorem law_turn {rest : List Stmt} {call : Expr} {nsrc n0 n1 : Str} {np pos : Pos} {p : PS} {l : List Int} {k : Nat} {ρ0 : Env1} (h2 : ns[2]? = some nsrc) (h0 : ns[0]? = some n0) (h1 : ns[1]? = some n1) (k2 : sc.names.lookup nsrc = some .cell) (k0 : sc.names.lookup n0 = some .local) (k1 : sc.names.lookup n1 = some .local)
    (hcl : v.cl.lookup nsrc = some cs) (hs : ∀ env, swapsWith call (some (.Name nsrc np)) pos.line env = pure false) (hρ0 : ρ0 = some (.d (.lst (l.map .int))) :: List.replicate 8 none)
    (heval : ∀ (Q E : Value → Shared → Prop), (∀ a s' i j, Aft P sc v ns (ρ0.set 1 (some (.d (.int (k : Nat))))) none (cs :: X) m s .none s' → s.heap.get? a = none → Rel (cs :: X) s'.heap (.lst [.int i, .int j]) (.ref a) → 0 ≤ j → j < 2 ^ 31 → Q (.ref a) s') → wpAny (model P.prog P.w) A (eval call (v.env sc)) Q E s)
    (hrest : SoundSs P true d sc ns rest p) (G : Good A v sc true d) (O : v.Own sc)
    (hp : p ((ρ0.set 1 (some (.d (.int (k : Nat))))).set 2 (some .cell)) .src (fun ρ' _ => ρ'[0]? = some (some (.d (.lst (l.map .int))))) (fun _ _ => False) (fun _ _ _ => False))
    {Q : Flow → Shared → Prop} {E : Value → Shared → Prop} (S : St P sc v ns (ρ0.set 1 (some (.d (.int (k : Nat))))) .none none (cs :: X) m s.heap) (hcs : cs ∉ X) (hcell : ∃ ov, s.heap.IsCell cs ov)
    (hQ : ∀ m' X' s', AftL P sc v ns ρ0 cs X X' m' s s' → Q .next s') : wpAny (model P.prog P.w) A (execs (.Assign [.Name nsrc np] call pos :: rest) (v.env sc)) Q E s := by
  subst hρ0
  obtain ⟨ov, oc, hoc, hod⟩ := hcell
  have hcL : cs ≠ v.L := fun q => by
    obtain ⟨oL, es, ep, hL, hLd, _⟩ := S.fr.ns
    rw [← q, hoc] at hL
    cases hL
    rw [hod] at hLd; cases hLd
  refine wpAny_execs_cons (wpAny_Assign_Name (heval _ _ fun a s3 i j a1 hf r hj0 hj1 => ?_) (hs _))
  have hac : a ≠ cs := (neG hf hoc).symm
  have haL : a ≠ v.L := fun q => by
    obtain ⟨o, e⟩ := S.xs _ S.lX
    exact (neG hf e) q.symm
  obtain ⟨sl3, hoc3, _⟩ := a1.kept cs oc hoc (fun q => nomatch q)
  refine wpAny_storeName_cell (env := v.env sc) (name := nsrc) (c := cs) (v₀ := ov) G.kind k2 hcl ⟨_, hoc3, hod⟩ fun h4 hc4 hsm => ?_
  obtain ⟨o4, ho4, hd4⟩ := hc4
  have up : ∀ b o, b ≠ cs → s3.heap.get? b = some o → h4.get? b = some o := fun b o nb e => (hsm.2 b nb).trans e
  have k34 : Kept [cs] s3.heap h4 := fun b o e nb => ⟨o.slots, up b o (fun q => nb (by rw [q]; exact .head _)) e, fun _ => rfl⟩
  have k04 : Kept [cs] s.heap h4 := (a1.kept.more (fun _ q => nomatch q)).trans k34
  have hbase : ∀ b, s.heap.get? b = none → P.base.get? b = none := fun b e => by
    cases q : P.base.get? b with
    | none => rfl
    | some o => rw [S.fr.keep _ _ q] at e; cases e
  have hcb := S.xb cs (.head _)
  have hlX : v.L ∈ X := by
    rcases List.mem_cons.mp S.lX with q | q
    · exact absurd q.symm hcL
    · exact q
  have relUp : ∀ (y : D) (val : Value), Rel (cs :: X) s.heap y val → Rel (a :: X) h4 y val := fun y val r => by
    have r1 : Rel (a :: cs :: X) s.heap y val := Rel.aside (fun b o e n q => by
      rcases List.mem_cons.mp q with q | q
      · exact (neG hf e) q
      · exact n q) _ _ r
    have r2 : Rel (a :: cs :: X) h4 y val := Rel.up (k04.more fun b hb => by rw [List.mem_singleton.mp hb]; exact .tail _ (.head _)).sure _ _ r1
    exact Rel.aside (fun b o _ n q => n (by
      rcases List.mem_cons.mp q with q | q
      · rw [q]; exact .head _
      · exact .tail _ (.tail _ q))) _ _ r2
  have hcellA : CellAt (some (a, a)) (a :: X) h4 .src := by
    unfold Rel at r
    obtain ⟨a', o, vs, n, e, hn, ho, hcls, hd, hr⟩ := r
    cases e
    unfold RelL at hr
    obtain ⟨w1, t1, e1, q1, hr⟩ := hr
    unfold RelL at hr
    obtain ⟨w2, t2, e2, q2, hr⟩ := hr
    unfold RelL at hr
    unfold Rel at q1 q2
    obtain ⟨t, rfl⟩ := q1
    obtain ⟨u, rfl⟩ := q2
    have hvs : vs = #[.int i t, .int j u] := Array.toList_inj.mp (by rw [e1, e2, hr])
    subst hvs
    exact ⟨a, o, i, j, t, u, n, rfl, .head _, up _ _ hac ho, hcls, hd, hj0, hj1⟩
  obtain ⟨oa, hoa⟩ : ∃ o, h4.get? a = some o := by
    obtain ⟨o, h⟩ := CellAt.there1 rfl _ hcellA
    exact ⟨o, h⟩
  have S4 : St P sc v ns ((((some (SV.d (.lst (l.map .int))) :: List.replicate 8 none).set 1 (some (.d (.int (k : Nat))))).set 2 (some .cell))) .src (some (a, a)) (a :: X) m h4 := {
    fr := ⟨a1.st.fr.ns.at' fun o e => up _ o (Ne.symm hcL) e, fun b o e => up b o (neG hcb e) (a1.st.fr.keep b o e)⟩
    ff := funFrames_alive (fun b o e hd => by
      by_cases q : b = cs
      · subst q; exact ⟨o4, ho4, by rw [hd4]; exact fun _ q => nomatch q⟩
      · exact ⟨o, up b o q e, hd⟩) a1.st.ff
    cell := hcellA
    lX := .tail _ hlX
    xL := fun q hq => by cases hq; exact ⟨haL, haL⟩
    xs := fun b hb => by
      rcases List.mem_cons.mp hb with rfl | hb
      · exact ⟨oa, hoa⟩
      · obtain ⟨o, e⟩ := a1.st.xs b (.tail _ hb)
        exact ⟨o, up b o (fun q => hcs (q ▸ hb)) e⟩
    xb := fun b hb => by
      rcases List.mem_cons.mp hb with rfl | hb
      · exact hbase _ hf
      · exact S.xb b (.tail _ hb)
    loc := fun i' n' sv hn hρ => by
      match i', hn, hρ with
      | 0, hn, hρ =>
        rw [h0] at hn; cases hn
        cases hρ
        obtain ⟨val, hv, hr⟩ := S.loc 0 n0 (.d (.lst (l.map .int))) h0 rfl
        refine ⟨val, ?_, relUp _ _ hr⟩
        rcases hv with hv | ⟨hk, _⟩
        · exact .inl hv
        · rw [k0] at hk; rcases hk with hk | hk <;> cases hk
      | 1, hn, hρ =>
        rw [h1] at hn; cases hn
        cases hρ
        obtain ⟨val, hv, hr⟩ := S.loc 1 n1 (.d (.int (k : Nat))) h1 rfl
        refine ⟨val, ?_, relUp _ _ hr⟩
        rcases hv with hv | ⟨hk, _⟩
        · exact .inl hv
        · rw [k1] at hk; rcases hk with hk | hk <;> cases hk
      | 2, hn, hρ =>
        rw [h2] at hn; cases hn
        cases hρ
        exact ⟨.ref a, .inr ⟨.inl k2, cs, o4, hcl, ho4, hd4, fun q => by
          rcases List.mem_cons.mp q with q | q
          · exact hac q.symm
          · exact hcs q⟩, _, rfl, rfl⟩
      | i' + 3, hn, hρ =>
        exfalso
        have : (List.replicate 6 (none : Option SV))[i']? = some (some sv) := hρ
        rw [List.getElem?_replicate] at this
        split at this <;> cases this }
  refine hrest A v { s3 with heap := h4 } m _ .src (some (a, a)) (a :: X) _ _ _ _ _ G O S4 hp (fun ρ5 c5 m5 x5 X5 s5 a5 h5 => ?_) (fun r ρ5 c5 m5 x5 X5 val s5 a5 rel q => q.elim) (fun C ρ5 c5 m5 x5 X5 e s5 a5 ex q => q.elim)
  have hn5 : cs ∉ v.L :: (some (a, a) : Cl).toList.map (·.2) := fun q => by
    rcases List.mem_cons.mp q with q | q
    · exact hcL q
    · exact hac (List.mem_singleton.mp q).symm
  obtain ⟨sl5, ho5, _⟩ := a5.kept cs o4 ho4 hn5
  have hcell5 : ∃ ov, s5.heap.IsCell cs ov := ⟨_, _, ho5, hd4⟩
  have hnin : cs ∉ X5 := fun q => by
    rcases a5.new cs q with q | q
    · rcases List.mem_cons.mp q with q | q
      · exact hac q.symm
      · exact hcs q
    · have q : h4.get? cs = none := q
      rw [ho4] at q; cases q
  refine hQ m5 X5 s5 ⟨(a1.rest.trans ⟨rfl, rfl, rfl⟩).trans a5.rest, ?_, hnin, hcell5, fun b o e nb => ?_, fun b hb => ?_⟩
  · refine ⟨a5.st.fr, a5.st.ff, rfl, .tail _ a5.st.lX, (fun q hq => nomatch hq), fun b hb => ?_, fun b hb => ?_, fun i' n' sv hn hρ => ?_⟩
    · rcases List.mem_cons.mp hb with rfl | hb
      · exact ⟨_, ho5⟩
      · exact a5.st.xs b hb
    · rcases List.mem_cons.mp hb with rfl | hb
      · exact hcb
      · exact a5.st.xb b hb
    · match i', hn, hρ with
      | 0, hn, hρ =>
        rw [h0] at hn; cases hn
        cases hρ
        obtain ⟨val, hv, hr⟩ := a5.st.loc 0 n0 (.d (.lst (l.map .int))) h0 h5
        refine ⟨val, ?_, rel_ints hr hcell5⟩
        rcases hv with hv | ⟨hk, _⟩
        · exact .inl hv
        · rw [k0] at hk; rcases hk with hk | hk <;> cases hk
      | i' + 1, hn, hρ =>
        exfalso
        have : (List.replicate 8 (none : Option SV))[i']? = some (some sv) := hρ
        rw [List.getElem?_replicate] at this
        split at this <;> cases this
  · have nb1 : b ∉ [cs] := fun q => nb (.tail _ q)
    obtain ⟨s1, e1, f1⟩ := k04 b o e nb1
    obtain ⟨s2, e2, f2⟩ := a5.kept b _ e1 (fun q => by
      rcases List.mem_cons.mp q with q | q
      · exact nb (by rw [q]; exact .head _)
      · rw [List.mem_singleton.mp q, hf] at e; cases e)
    exact ⟨s2, e2, fun hf => (f2 hf).trans (f1 hf)⟩
  · rcases a5.new b hb with q | q
    · rcases List.mem_cons.mp q with q | q
      · right; rw [q]; exact hf
      · exact .inl q
    · right
      have q : h4.get? b = none := q
      cases e : s.heap.get? b with
      | none => rfl
      | some o =>
        exfalso
        by_cases hb : b = cs
        · rw [hb, ho4] at q; cases q
        · obtain ⟨sl, e1, _⟩ := k04 b o e (fun z => hb (List.mem_singleton.mp z))
          rw [q] at e1; cases e1
end
end
section
-- part N0
variable {args : List SV} {c : CO} {K : SV → CO → Prop} {KE : Addr → CO → Prop}
open PySem PySem.W PyProof.Rows PySem.Calls PySem.Builtin PySem.Builtin.Str PySem.Builtin.ObjectAttr
noncomputable def qD (q : Rat) : D := .tup [.int q.num, .int q.den]
noncomputable def c_ZERO : D := qD 0
noncomputable def c_ONE : D := qD 1
noncomputable def pD (p : Rat × Rat) : D := .tup [qD p.1, qD p.2]
structure Mx where
  a : Rat
  b : Rat
  c : Rat
  d : Rat
  e : Rat
  f : Rat
noncomputable def Mx.row (M : Mx) : List Rat := [M.a, M.b, M.c, M.d, M.e, M.f]
noncomputable def mD (M : Mx) : D := .mat [qD M.a, qD M.b, qD M.c, qD M.d, qD M.e, qD M.f]
noncomputable def Mx.vec (M : Mx) (p : Rat × Rat) : Rat × Rat := (M.a * p.1 + M.c * p.2, M.b * p.1 + M.d * p.2)
noncomputable def Mx.pt (M : Mx) (p : Rat × Rat) : Rat × Rat := ((M.vec p).1 + M.e, (M.vec p).2 + M.f)
noncomputable def Mx.thn (M N : Mx) : Mx := ⟨(N.vec (M.a, M.b)).1, (N.vec (M.a, M.b)).2, (N.vec (M.c, M.d)).1, (N.vec (M.c, M.d)).2, (N.pt (M.e, M.f)).1, (N.pt (M.e, M.f)).2⟩
noncomputable def Mx.det (M : Mx) : Rat := M.a * M.d - M.b * M.c
noncomputable def Mx.inv (M : Mx) : Mx :=
  let T : Mx := ⟨M.d / M.det, -(M.b / M.det), -(M.c / M.det), M.a / M.det, 0, 0⟩
  ⟨T.a, T.b, T.c, T.d, -(T.vec (M.e, M.f)).1, -(T.vec (M.e, M.f)).2⟩
noncomputable def P2 (n : Nat) : Nat := 2 ^ n
noncomputable def Sm (n : Nat) (q : Rat) : Prop := q.num.natAbs < P2 n ∧ q.den < P2 n
noncomputable def SmP (n : Nat) (p : Rat × Rat) : Prop := Sm n p.1 ∧ Sm n p.2
noncomputable def SmM (n : Nat) (M : Mx) : Prop := Sm n M.a ∧ Sm n M.b ∧ Sm n M.c ∧ Sm n M.d ∧ Sm n M.e ∧ Sm n M.f
noncomputable def sNever : Spec := fun _ _ _ _ => False
theorem ok_never {P : Par} {d : Nat} {f : Value} : Ok P d f sNever := fun A fs s vs args c x X Q E KQ KE h1 h0 h2 h3 h4 h5 h6 h7 => h7.elim
noncomputable def S_common_divisor : Spec := fun args c K _ => ∃ a b : Int, args = [.d (.int a), .d (.int b)] ∧ 0 ≤ b ∧ K (.d (.int (Int.gcd a b))) c
theorem i_common_divisor (a b : Int) (h0 : args = [.d (.int a), .d (.int b)]) (h1 : 0 ≤ b) (h2 : K (.d (.int (Int.gcd a b))) c) : S_common_divisor args c K KE := ⟨a, b, h0, h1, h2⟩
noncomputable def S_fraction : Spec := fun args c K _ => ∃ n d : Int, args = [.d (.int n), .d (.int d)] ∧ d ≠ 0 ∧ n.natAbs < P2 4000 ∧ d.natAbs < P2 4000 ∧ K (.d (qD (Rat.divInt n d))) c
theorem i_fraction (n d : Int) (h0 : args = [.d (.int n), .d (.int d)]) (h1 : d ≠ 0) (h2 : n.natAbs < P2 4000) (h3 : d.natAbs < P2 4000) (h4 : K (.d (qD (Rat.divInt n d))) c) : S_fraction args c K KE := ⟨n, d, h0, h1, h2, h3, h4⟩
noncomputable def S_plus : Spec := fun args c K _ => ∃ a b : Rat, args = [.d (qD a), .d (qD b)] ∧ Sm 1000 a ∧ Sm 1000 b ∧ K (.d (qD (a + b))) c
theorem i_plus (a b : Rat) (h0 : args = [.d (qD a), .d (qD b)]) (h1 : Sm 1000 a) (h2 : Sm 1000 b) (h3 : K (.d (qD (a + b))) c) : S_plus args c K KE := ⟨a, b, h0, h1, h2, h3⟩
noncomputable def S_minus : Spec := fun args c K _ => ∃ a b : Rat, args = [.d (qD a), .d (qD b)] ∧ Sm 1000 a ∧ Sm 1000 b ∧ K (.d (qD (a - b))) c
theorem i_minus (a b : Rat) (h0 : args = [.d (qD a), .d (qD b)]) (h1 : Sm 1000 a) (h2 : Sm 1000 b) (h3 : K (.d (qD (a - b))) c) : S_minus args c K KE := ⟨a, b, h0, h1, h2, h3⟩
noncomputable def S_times : Spec := fun args c K _ => ∃ a b : Rat, args = [.d (qD a), .d (qD b)] ∧ Sm 1000 a ∧ Sm 1000 b ∧ K (.d (qD (a * b))) c
theorem i_times (a b : Rat) (h0 : args = [.d (qD a), .d (qD b)]) (h1 : Sm 1000 a) (h2 : Sm 1000 b) (h3 : K (.d (qD (a * b))) c) : S_times args c K KE := ⟨a, b, h0, h1, h2, h3⟩
noncomputable def S_divided : Spec := fun args c K _ => ∃ a b : Rat, args = [.d (qD a), .d (qD b)] ∧ b ≠ 0 ∧ Sm 1000 a ∧ Sm 1000 b ∧ K (.d (qD (a / b))) c
theorem i_divided (a b : Rat) (h0 : args = [.d (qD a), .d (qD b)]) (h1 : b ≠ 0) (h2 : Sm 1000 a) (h3 : Sm 1000 b) (h4 : K (.d (qD (a / b))) c) : S_divided args c K KE := ⟨a, b, h0, h1, h2, h3, h4⟩
noncomputable def S_negated : Spec := fun args c K _ => ∃ a : Rat, args = [.d (qD a)] ∧ K (.d (qD (-a))) c
theorem i_negated (a : Rat) (h0 : args = [.d (qD a)]) (h1 : K (.d (qD (-a))) c) : S_negated args c K KE := ⟨a, h0, h1⟩
noncomputable def rnd (q : Rat) : Int := (2 * q.num + q.den) / (2 * q.den)
noncomputable def S_rounded : Spec := fun args c K _ => ∃ a : Rat, args = [.d (qD a)] ∧ Sm 1000 a ∧ K (.d (.int (rnd a))) c
theorem i_rounded (a : Rat) (h0 : args = [.d (qD a)]) (h1 : Sm 1000 a) (h2 : K (.d (.int (rnd a))) c) : S_rounded args c K KE := ⟨a, h0, h1, h2⟩
noncomputable def S_Matrix_row : Spec := fun args c K _ => ∃ M : Mx, args = [.d (mD M)] ∧ K (.d (.tup (M.row.map qD))) c
theorem i_Matrix_row (M : Mx) (h0 : args = [.d (mD M)]) (h1 : K (.d (.tup (M.row.map qD))) c) : S_Matrix_row args c K KE := ⟨M, h0, h1⟩
noncomputable def S_Matrix_vector : Spec := fun args c K _ => ∃ (M : Mx) (p : Rat × Rat), args = [.d (mD M), .d (pD p)] ∧ SmM 300 M ∧ SmP 150 p ∧ K (.d (pD (M.vec p))) c
theorem i_Matrix_vector (M : Mx) (p : Rat × Rat) (h0 : args = [.d (mD M), .d (pD p)]) (h1 : SmM 300 M) (h2 : SmP 150 p) (h3 : K (.d (pD (M.vec p))) c) : S_Matrix_vector args c K KE := ⟨M, p, h0, h1, h2, h3⟩
noncomputable def S_Matrix_point : Spec := fun args c K _ => ∃ (M : Mx) (p : Rat × Rat), args = [.d (mD M), .d (pD p)] ∧ SmM 300 M ∧ SmP 150 p ∧ K (.d (pD (M.pt p))) c
theorem i_Matrix_point (M : Mx) (p : Rat × Rat) (h0 : args = [.d (mD M), .d (pD p)]) (h1 : SmM 300 M) (h2 : SmP 150 p) (h3 : K (.d (pD (M.pt p))) c) : S_Matrix_point args c K KE := ⟨M, p, h0, h1, h2, h3⟩
noncomputable def S_Matrix_then : Spec := fun args c K _ => ∃ M N : Mx, args = [.d (mD M), .d (mD N)] ∧ SmM 100 M ∧ SmM 100 N ∧ K (.d (mD (M.thn N))) c
theorem i_Matrix_then (M N : Mx) (h0 : args = [.d (mD M), .d (mD N)]) (h1 : SmM 100 M) (h2 : SmM 100 N) (h3 : K (.d (mD (M.thn N))) c) : S_Matrix_then args c K KE := ⟨M, N, h0, h1, h2, h3⟩
noncomputable def S_Matrix_determinant : Spec := fun args c K _ => ∃ M : Mx, args = [.d (mD M)] ∧ SmM 200 M ∧ K (.d (qD M.det)) c
theorem i_Matrix_determinant (M : Mx) (h0 : args = [.d (mD M)]) (h1 : SmM 200 M) (h2 : K (.d (qD M.det)) c) : S_Matrix_determinant args c K KE := ⟨M, h0, h1, h2⟩
noncomputable def S_Matrix_inverse : Spec := fun args c K KE => ∃ M : Mx, args = [.d (mD M)] ∧ SmM 40 M ∧ (M.det ≠ 0 → K (.d (mD M.inv)) c) ∧ (M.det = 0 → KE 56 c)
theorem i_Matrix_inverse (M : Mx) (h0 : args = [.d (mD M)]) (h1 : SmM 40 M) (h2 : (M.det ≠ 0 → K (.d (mD M.inv)) c)) (h3 : (M.det = 0 → KE 56 c)) : S_Matrix_inverse args c K KE := ⟨M, h0, h1, h2, h3⟩
noncomputable def S_identity : Spec := fun args c K _ => args = [] ∧ K (.d (mD ⟨1, 0, 0, 1, 0, 0⟩)) c
theorem i_identity (h0 : args = []) (h1 : K (.d (mD ⟨1, 0, 0, 1, 0, 0⟩)) c) : S_identity args c K KE := ⟨h0, h1⟩
noncomputable def S_translation : Spec := fun args c K _ => ∃ x y : Rat, args = [.d (qD x), .d (qD y)] ∧ K (.d (mD ⟨1, 0, 0, 1, x, y⟩)) c
theorem i_translation (x y : Rat) (h0 : args = [.d (qD x), .d (qD y)]) (h1 : K (.d (mD ⟨1, 0, 0, 1, x, y⟩)) c) : S_translation args c K KE := ⟨x, y, h0, h1⟩
noncomputable def S_scaling : Spec := fun args c K _ => ∃ x y : Rat, args = [.d (qD x), .d (qD y)] ∧ K (.d (mD ⟨x, 0, 0, y, 0, 0⟩)) c
theorem i_scaling (x y : Rat) (h0 : args = [.d (qD x), .d (qD y)]) (h1 : K (.d (mD ⟨x, 0, 0, y, 0, 0⟩)) c) : S_scaling args c K KE := ⟨x, y, h0, h1⟩
noncomputable def S_spot_of : Spec := fun args c K _ => ∃ (M : Mx) (p : Rat × Rat) (g : Int), args = [.d (mD M), .d (pD p), .d (.int g)] ∧ SmM 100 M ∧ SmP 100 p ∧ 0 < g ∧ g < 1000 ∧ K (.d (.tup [.int (rnd ((M.pt p).1 * g)), .int (rnd ((M.pt p).2 * g))])) c
theorem i_spot_of (M : Mx) (p : Rat × Rat) (g : Int) (h0 : args = [.d (mD M), .d (pD p), .d (.int g)]) (h1 : SmM 100 M) (h2 : SmP 100 p) (h3 : 0 < g) (h4 : g < 1000) (h5 : K (.d (.tup [.int (rnd ((M.pt p).1 * g)), .int (rnd ((M.pt p).2 * g))])) c) : S_spot_of args c K KE := ⟨M, p, g, h0, h1, h2, h3, h4, h5⟩
theorem P2_mono {n m : Nat} (k : n ≤ m) : P2 n ≤ P2 m := Nat.pow_le_pow_right (by decide) k
theorem Sm.mono {n m : Nat} {q : Rat} (h : Sm n q) (k : n ≤ m) : Sm m q :=
  ⟨Nat.lt_of_lt_of_le h.1 (P2_mono k), Nat.lt_of_lt_of_le h.2 (P2_mono k)⟩
theorem Sm.neg {n : Nat} {q : Rat} (h : Sm n q) : Sm n (-q) := ⟨by rw [Rat.neg_num, Int.natAbs_neg]; exact h.1, by rw [Rat.neg_den]; exact h.2⟩
theorem divInt_le (n d : Int) (hd : d ≠ 0) : (Rat.divInt n d).num.natAbs ≤ n.natAbs ∧ (Rat.divInt n d).den ≤ d.natAbs := by
  constructor
  · rw [Rat.num_divInt, Int.natAbs_ediv_of_dvd]
    · rw [Int.natAbs_mul]
      have h1 : d.sign.natAbs ≤ 1 := by rw [Int.natAbs_sign_of_ne_zero hd]; exact Nat.le_refl _
      refine Nat.le_trans (Nat.div_le_self _ _) ?_
      exact Nat.le_trans (Nat.mul_le_mul_right _ h1) (by walk_at "om")
    · exact Int.dvd_trans (Int.gcd_dvd_right ..) (Int.dvd_mul_left ..)
  · rw [Rat.den_divInt, if_neg hd]; exact Nat.div_le_self _ _
theorem sm_divInt {n d : Int} {k : Nat} (hd : d ≠ 0) (h1 : n.natAbs < P2 k) (h2 : d.natAbs < P2 k) : Sm k (Rat.divInt n d) :=
  ⟨Nat.lt_of_le_of_lt (divInt_le n d hd).1 h1, Nat.lt_of_le_of_lt (divInt_le n d hd).2 h2⟩
theorem add_divInt (a b : Rat) : a + b = Rat.divInt (a.num * b.den + b.num * a.den) (a.den * b.den) := by
  rw [Rat.add_def', ← Rat.divInt_ofNat, Int.natCast_mul]
theorem sub_divInt (a b : Rat) : a - b = Rat.divInt (a.num * b.den - b.num * a.den) (a.den * b.den) := by
  rw [Rat.sub_def', ← Rat.divInt_ofNat, Int.natCast_mul]
theorem mul_divInt (a b : Rat) : a * b = Rat.divInt (a.num * b.num) (a.den * b.den) := by
  rw [Rat.mul_def', ← Rat.divInt_ofNat, Int.natCast_mul]
theorem div_divInt (a b : Rat) : a / b = Rat.divInt (a.num * b.den) (a.den * b.num) := by
  conv => lhs; rw [← Rat.num_divInt_den a, Rat.div_def, Rat.inv_def, Rat.divInt_mul_divInt]
theorem den_ne (q : Rat) : (q.den : Int) ≠ 0 := by have := q.den_nz; walk_at "om"
theorem den_pos' (q : Rat) : 0 < (q.den : Int) := by have := q.den_pos; walk_at "om"
theorem lt_mul_pow {x y n m : Nat} (hx : x < 2 ^ n) (hy : y < 2 ^ m) : x * y < 2 ^ (n + m) := by
  rw [Nat.pow_add]
  exact Nat.mul_lt_mul'' hx hy
theorem nums_add0 {n m : Nat} {a b : Rat} (ha : Sm n a) (hb : Sm m b) : (a.num * b.den + b.num * a.den).natAbs < 2 ^ (n + m + 1) ∧ (a.num * b.den - b.num * a.den).natAbs < 2 ^ (n + m + 1) ∧ ((a.den : Int) * b.den).natAbs < 2 ^ (n + m) ∧ (a.num * b.num).natAbs < 2 ^ (n + m) ∧ (a.num * b.den).natAbs < 2 ^ (n + m) ∧ ((a.den : Int) * b.num).natAbs < 2 ^ (n + m) ∧ (b.num * a.den).natAbs < 2 ^ (n + m) := by
  have h1 := lt_mul_pow ha.1 hb.2
  have h2 := lt_mul_pow hb.1 ha.2
  have h3 := lt_mul_pow ha.2 hb.2
  have h4 := lt_mul_pow ha.1 hb.1
  have h5 := lt_mul_pow ha.2 hb.1
  rw [Nat.add_comm m n] at h2
  have e1 : (a.num * b.den).natAbs = a.num.natAbs * b.den := by rw [Int.natAbs_mul]; rfl
  have e2 : (b.num * a.den).natAbs = b.num.natAbs * a.den := by rw [Int.natAbs_mul]; rfl
  have e3 : ((a.den : Int) * b.den).natAbs = a.den * b.den := by rw [Int.natAbs_mul]; rfl
  have e4 : (a.num * b.num).natAbs = a.num.natAbs * b.num.natAbs := Int.natAbs_mul ..
  have e5 : ((a.den : Int) * b.num).natAbs = a.den * b.num.natAbs := by rw [Int.natAbs_mul]; rfl
  have hp : 2 ^ (n + m + 1) = 2 ^ (n + m) + 2 ^ (n + m) := by rw [Nat.pow_succ]; walk_at "om"
  refine ⟨?_, ?_, by walk_at "om", by walk_at "om", by walk_at "om", by walk_at "om", by walk_at "om"⟩
  · exact Nat.lt_of_le_of_lt (Int.natAbs_add_le _ _) (by rw [hp, e1, e2]; exact Nat.add_lt_add h1 h2)
  · exact Nat.lt_of_le_of_lt (Int.natAbs_sub_le _ _) (by rw [hp, e1, e2]; exact Nat.add_lt_add h1 h2)
theorem nums_add {n m : Nat} {a b : Rat} (ha : Sm n a) (hb : Sm m b) : (a.num * b.den + b.num * a.den).natAbs < P2 (n + m + 1) ∧ (a.num * b.den - b.num * a.den).natAbs < P2 (n + m + 1) ∧ ((a.den : Int) * b.den).natAbs < P2 (n + m) ∧ (a.num * b.num).natAbs < P2 (n + m) ∧ (a.num * b.den).natAbs < P2 (n + m) ∧ ((a.den : Int) * b.num).natAbs < P2 (n + m) ∧ (b.num * a.den).natAbs < P2 (n + m) := nums_add0 ha hb
theorem lt_mulP {x y n m : Nat} (hx : x < P2 n) (hy : y < P2 m) : x * y < P2 (n + m) := lt_mul_pow hx hy
theorem den_mul_ne (a b : Rat) : (a.den : Int) * b.den ≠ 0 := Int.mul_ne_zero (den_ne a) (den_ne b)
theorem Sm.add {n m k : Nat} {a b : Rat} (ha : Sm n a) (hb : Sm m b) (hk : n + m + 1 ≤ k) : Sm k (a + b) := by
  have h := nums_add ha hb
  rw [add_divInt]
  exact (sm_divInt (den_mul_ne a b) h.1 (Nat.lt_of_lt_of_le h.2.2.1 (P2_mono (by walk_at "om")))).mono hk
theorem Sm.sub {n m k : Nat} {a b : Rat} (ha : Sm n a) (hb : Sm m b) (hk : n + m + 1 ≤ k) : Sm k (a - b) := by
  have h := nums_add ha hb
  rw [sub_divInt]
  exact (sm_divInt (den_mul_ne a b) h.2.1 (Nat.lt_of_lt_of_le h.2.2.1 (P2_mono (by walk_at "om")))).mono hk
theorem Sm.mul {n m k : Nat} {a b : Rat} (ha : Sm n a) (hb : Sm m b) (hk : n + m ≤ k) : Sm k (a * b) := by
  have h := nums_add ha hb
  rw [mul_divInt]
  exact (sm_divInt (den_mul_ne a b) h.2.2.2.1 h.2.2.1).mono hk
theorem num_ne {b : Rat} (h : b ≠ 0) : b.num ≠ 0 := fun q => h (Rat.num_eq_zero.mp q)
theorem Sm.div {n m k : Nat} {a b : Rat} (ha : Sm n a) (hb : Sm m b) (h0 : b ≠ 0) (hk : n + m ≤ k) : Sm k (a / b) := by
  have h := nums_add ha hb
  rw [div_divInt]
  exact (sm_divInt (Int.mul_ne_zero (den_ne a) (num_ne h0)) h.2.2.2.2.1 h.2.2.2.2.2.1).mono hk
theorem SmM.mono {n m : Nat} {M : Mx} (h : SmM n M) (k : n ≤ m) : SmM m M := ⟨h.1.mono k, h.2.1.mono k, h.2.2.1.mono k, h.2.2.2.1.mono k, h.2.2.2.2.1.mono k, h.2.2.2.2.2.mono k⟩
theorem SmP.mono {n m : Nat} {p : Rat × Rat} (h : SmP n p) (k : n ≤ m) : SmP m p := ⟨h.1.mono k, h.2.mono k⟩
theorem SmM.vec {n m k : Nat} {M : Mx} {p : Rat × Rat} (h : SmM n M) (hp : SmP m p) (hk : 2 * n + 2 * m + 1 ≤ k) : SmP k (M.vec p) := by
  obtain ⟨h1, h2, h3, h4, _, _⟩ := h
  have q : n + m + (n + m) + 1 ≤ k := by walk_at "om"
  exact ⟨(h1.mul hp.1 (Nat.le_refl _)).add (h3.mul hp.2 (Nat.le_refl _)) q, (h2.mul hp.1 (Nat.le_refl _)).add (h4.mul hp.2 (Nat.le_refl _)) q⟩
theorem SmM.pt {n m k : Nat} {M : Mx} {p : Rat × Rat} (h : SmM n M) (hp : SmP m p) (hk : 3 * n + 2 * m + 2 ≤ k) : SmP k (M.pt p) := by
  have v := h.vec hp (Nat.le_refl _)
  exact ⟨v.1.add h.2.2.2.2.1 (by walk_at "om"), v.2.add h.2.2.2.2.2 (by walk_at "om")⟩
theorem SmM.thn {n m k : Nat} {M N : Mx} (h : SmM n M) (h' : SmM m N) (hk : 3 * m + 2 * n + 2 ≤ k) : SmM k (M.thn N) := by
  have v1 := h'.vec (p := (M.a, M.b)) ⟨h.1, h.2.1⟩ (k := k) (by walk_at "om")
  have v2 := h'.vec (p := (M.c, M.d)) ⟨h.2.2.1, h.2.2.2.1⟩ (k := k) (by walk_at "om")
  have v3 := h'.pt (p := (M.e, M.f)) ⟨h.2.2.2.2.1, h.2.2.2.2.2⟩ hk
  exact ⟨v1.1, v1.2, v2.1, v2.2, v3.1, v3.2⟩
theorem SmM.det {n k : Nat} {M : Mx} (h : SmM n M) (hk : 4 * n + 1 ≤ k) : Sm k M.det :=
  (h.1.mul h.2.2.2.1 (Nat.le_refl _)).sub (h.2.1.mul h.2.2.1 (Nat.le_refl _)) (by walk_at "om")
theorem sm_zero {k : Nat} (h : 1 ≤ k) : Sm k 0 := by
  have : Sm 1 0 := by constructor <;> decide
  exact this.mono h
theorem SmM.inv {n k : Nat} {M : Mx} (h : SmM n M) (h0 : M.det ≠ 0) (hk : 12 * n + 3 ≤ k) : SmM k M.inv := by
  have hd := h.det (Nat.le_refl _)
  have q1 := (h.2.2.2.1.div hd h0 (Nat.le_refl _))
  have q2 := (h.2.1.div hd h0 (Nat.le_refl _)).neg
  have q3 := (h.2.2.1.div hd h0 (Nat.le_refl _)).neg
  have q4 := (h.1.div hd h0 (Nat.le_refl _))
  have hn : 1 ≤ n + (4 * n + 1) := by walk_at "om"
  have T : SmM (n + (4 * n + 1)) ⟨M.d / M.det, -(M.b / M.det), -(M.c / M.det), M.a / M.det, 0, 0⟩ := ⟨q1, q2, q3, q4, sm_zero hn, sm_zero hn⟩
  have v := T.vec (p := (M.e, M.f)) ⟨h.2.2.2.2.1, h.2.2.2.2.2⟩ (k := k) (by walk_at "om")
  exact ⟨q1.mono (by walk_at "om"), q2.mono (by walk_at "om"), q3.mono (by walk_at "om"), q4.mono (by walk_at "om"), v.1.neg, v.2.neg⟩
end
section
open PySem.Builtin PySem.Builtin.Str PySem.Builtin.ObjectAttr
-- part N1
open PySem PySem.W PyProof.Rows PySem.Calls PySem.Builtin PySem.Builtin.Str PySem.Builtin.ObjectAttr
theorem cLe_s (a b : Str) (K : Bool → Prop) : cLe (.str a) (.str b) K = K (!(b.cps.toList < a.cps.toList)) := Eq.trans rfl rfl
theorem finS_nd (K : SV → CO → Prop) (y : D) (c' : CO) : finS .none K (.d y) c' = K (.d y) .none := Eq.trans rfl rfl
theorem finS_src (K : SV → CO → Prop) (r : SV) (c' : CO) : finS .src K r c' = K r c' := Eq.trans rfl rfl
theorem onIdx_q0 {a : Rat} {c : CO} {K : SV → CO → Prop} (h : K (.d (.int a.num)) c) : onIdx (.d (qD a)) (.d (.int 0)) c K := onIdx_of ⟨by decide, by decide, h⟩
theorem onIdx_q1 {a : Rat} {c : CO} {K : SV → CO → Prop} (h : K (.d (.int a.den)) c) : onIdx (.d (qD a)) (.d (.int 1)) c K := onIdx_of ⟨by decide, by decide, h⟩
theorem onIdx_p0 {p : Rat × Rat} {c : CO} {K : SV → CO → Prop} (h : K (.d (qD p.1)) c) : onIdx (.d (pD p)) (.d (.int 0)) c K := onIdx_of ⟨by decide, by decide, h⟩
theorem onIdx_p1 {p : Rat × Rat} {c : CO} {K : SV → CO → Prop} (h : K (.d (qD p.2)) c) : onIdx (.d (pD p)) (.d (.int 1)) c K := onIdx_of ⟨by decide, by decide, h⟩
theorem e_pSeq {p q : PS} {ρ : Env1} {c : CO} {Kn : Env1 → CO → Prop} {Kr : SV → CO → Prop} {Ke : Env1 → Addr → CO → Prop} : pSeq p q ρ c Kn Kr Ke = p ρ c (fun ρ' c' => q ρ' c' Kn Kr Ke) Kr Ke := Eq.trans rfl rfl
section
variable {ρ : Env1} {c : CO} {K : SV → CO → Prop} {KE : Addr → CO → Prop} {KB : Bool → CO → Prop} {KL : List SV → CO → Prop} {KO : Option Int → CO → Prop} {KI : List D → CO → Prop} {i : Nat} {p q r : PE} {t u : PT} {l : PL} {y : D}
theorem e_pLoc : pLoc i ρ c K KE = oSome (ρ[i]?) fun o => oSome o fun sv => K sv c := Eq.trans rfl rfl
theorem e_pNil : pNil ρ c KL KE = KL [] c := Eq.trans rfl rfl
theorem e_pCons : pCons p l ρ c KL KE = p ρ c (fun a c1 => l ρ c1 (fun l c2 => KL (a :: l) c2) KE) KE := Eq.trans rfl rfl
end
theorem q_oSome {α : Type} (a : α) (K : α → Prop) : oSome (some a) K = K a := Eq.trans rfl rfl
theorem q_onD (y : D) (K : D → Prop) : onD (.d y) K = K y := Eq.trans rfl rfl
theorem zY {Y : Prop} (t : True) (y : Y) : Y := y
theorem zQ {X Y : Prop} (e : Y = X) (x : X) : Y := e.symm ▸ x
theorem zT {X Y : Prop} (f : X → Y) (z : False) : X := z.elim
theorem zI {X Y : Prop} (f : X → Y) (x : X) : Y := f x
theorem zAndR {A B B' : Prop} (h : A ∧ B') (g : B' → B) : A ∧ B := ⟨h.1, g h.2⟩
theorem zImp {P A A' : Prop} (h : P → A') (f : P → A' → A) : P → A := fun p => f p (h p)
theorem zAndNe {α : Type} {a b : α} {B B' : Prop} (h : a ≠ b ∧ B') (g : B' → B) : a ≠ b ∧ B := ⟨h.1, g h.2⟩
theorem zAndImp {P A A' B B' : Prop} (h : (P → A') ∧ B') (f : P → A' → A) (g : B' → B) : (P → A) ∧ B := ⟨fun p => f p (h.1 p), g h.2⟩
theorem zNe {α : Type} {a b : α} (h : a ≠ b) : a ≠ b := h
theorem zC_sAbs {l : List SV} {c : CO} {K : SV → CO → Prop} {KE : Addr → CO → Prop} (h : sAbs l c K KE) : zCall sAbs l c K KE := zCall_of h
theorem zC_sMax {l : List SV} {c : CO} {K : SV → CO → Prop} {KE : Addr → CO → Prop} (h : sMax l c K KE) : zCall sMax l c K KE := zCall_of h
theorem zC_sMin {l : List SV} {c : CO} {K : SV → CO → Prop} {KE : Addr → CO → Prop} (h : sMin l c K KE) : zCall sMin l c K KE := zCall_of h
theorem zC_sLen {l : List SV} {c : CO} {K : SV → CO → Prop} {KE : Addr → CO → Prop} (h : sLen l c K KE) : zCall sLen l c K KE := zCall_of h
theorem zC_sMat {l : List SV} {c : CO} {K : SV → CO → Prop} {KE : Addr → CO → Prop} (h : sMat l c K KE) : zCall sMat l c K KE := zCall_of h
theorem zC_sApp {l : List SV} {c : CO} {K : SV → CO → Prop} {KE : Addr → CO → Prop} (h : sApp l c K KE) : zCall sApp l c K KE := zCall_of h
local macro_rules | `(tactic| walk_at "vd") => `(tactic| first | exact rfl | exact Nat.le_of_ble_eq_true rfl | decide)
local macro_rules | `(tactic| walk_at "vz") => `(tactic| (
  intro h
  (conv => whnf)
  repeat ((first | with_reducible refine zC_sAbs ?_ | with_reducible refine zC_sMax ?_ | with_reducible refine zC_sMin ?_ | with_reducible refine zC_sLen ?_ | with_reducible refine zC_sMat ?_ | with_reducible refine zC_sApp ?_); (conv => whnf))
  first
  | with_reducible exact zNe h
  | ((with_reducible refine zCall_of ?_); exact h)
  | ((with_reducible refine' zImp h ?g); (case g => (intro p; walk_at "vz")))
  | ((with_reducible refine' zAndNe h ?g); (case g => walk_at "vz"))
  | ((with_reducible refine' zAndImp h ?f ?g); (case f => (intro p; walk_at "vz")); (case g => walk_at "vz"))
  | ((with_reducible refine' zAndR h ?g); (case g => walk_at "vz"))
  | exact h))
local macro_rules | `(tactic| walk_at "vs") => `(tactic| (case' _ => (refine' zY ?vt ?vy; (case vt => trivial); (refine' zQ (X := type_of% (zT (Y := type_of% ?vy) (by walk_at "vz") ?vz :)) ?ve ?vx; (case ve => kernel_rfl)))))
local macro_rules | `(tactic| walk_at "vi") => `(tactic| ((first | refine onIdx_q0 ?_ | refine onIdx_q1 ?_ | refine onIdx_p0 ?_ | refine onIdx_p1 ?_); (try walk_at "vs")))
noncomputable def p_common_divisor : PS := (pSeq (pSwp [2, 3] (pTup (pCons (pCall sAbs (pCons (pLoc 0) pNil)) (pCons (pLoc 1) pNil)))) (pSeq (pWhile (pCmp cGt (pLoc 3) (pLit (.int 0))) (pSeq (pSwp [2, 3] (pTup (pCons (pLoc 3) (pCons (pBin oMod (pLoc 2) (pLoc 3)) pNil)))) pSkip)) (pSeq (pRet (pLoc 2)) pSkip)))
noncomputable def p_fraction : PS := (pSeq (pIfS (pCmp cEq (pLoc 1) (pLit (.int 0))) (pSeq (pRaise 44 (pLit (.str (Str.ofString "a fraction with nothing beneath")))) pSkip) pSkip) (pSeq (pIfS (pCmp cLt (pLoc 1) (pLit (.int 0))) (pSeq (pSwp [0, 1] (pTup (pCons (pNeg (pLoc 0)) (pCons (pNeg (pLoc 1)) pNil)))) pSkip) pSkip) (pSeq (pAsg 2 (pCall S_common_divisor (pCons (pLoc 0) (pCons (pLoc 1) pNil)))) (pSeq (pRet (pTup (pCons (pBin oDiv (pLoc 0) (pLoc 2)) (pCons (pBin oDiv (pLoc 1) (pLoc 2)) pNil)))) pSkip))))
noncomputable def p_plus : PS := (pSeq (pRet (pCall S_fraction (pCons (pBin oAdd (pBin oMul (pIdx (pLoc 0) (pLit (.int 0))) (pIdx (pLoc 1) (pLit (.int 1)))) (pBin oMul (pIdx (pLoc 1) (pLit (.int 0))) (pIdx (pLoc 0) (pLit (.int 1))))) (pCons (pBin oMul (pIdx (pLoc 0) (pLit (.int 1))) (pIdx (pLoc 1) (pLit (.int 1)))) pNil)))) pSkip)
noncomputable def p_minus : PS := (pSeq (pRet (pCall S_fraction (pCons (pBin oSub (pBin oMul (pIdx (pLoc 0) (pLit (.int 0))) (pIdx (pLoc 1) (pLit (.int 1)))) (pBin oMul (pIdx (pLoc 1) (pLit (.int 0))) (pIdx (pLoc 0) (pLit (.int 1))))) (pCons (pBin oMul (pIdx (pLoc 0) (pLit (.int 1))) (pIdx (pLoc 1) (pLit (.int 1)))) pNil)))) pSkip)
noncomputable def p_times : PS := (pSeq (pRet (pCall S_fraction (pCons (pBin oMul (pIdx (pLoc 0) (pLit (.int 0))) (pIdx (pLoc 1) (pLit (.int 0)))) (pCons (pBin oMul (pIdx (pLoc 0) (pLit (.int 1))) (pIdx (pLoc 1) (pLit (.int 1)))) pNil)))) pSkip)
noncomputable def p_divided : PS := (pSeq (pIfS (pCmp cEq (pIdx (pLoc 1) (pLit (.int 0))) (pLit (.int 0))) (pSeq (pRaise 44 (pLit (.str (Str.ofString "a division by 0")))) pSkip) pSkip) (pSeq (pRet (pCall S_fraction (pCons (pBin oMul (pIdx (pLoc 0) (pLit (.int 0))) (pIdx (pLoc 1) (pLit (.int 1)))) (pCons (pBin oMul (pIdx (pLoc 0) (pLit (.int 1))) (pIdx (pLoc 1) (pLit (.int 0)))) pNil)))) pSkip))
noncomputable def p_negated : PS := (pSeq (pRet (pTup (pCons (pNeg (pIdx (pLoc 0) (pLit (.int 0)))) (pCons (pIdx (pLoc 0) (pLit (.int 1))) pNil)))) pSkip)
noncomputable def p_rounded : PS := (pSeq (pRet (pBin oDiv (pBin oAdd (pBin oMul (pLit (.int 2)) (pIdx (pLoc 0) (pLit (.int 0)))) (pIdx (pLoc 0) (pLit (.int 1)))) (pBin oMul (pLit (.int 2)) (pIdx (pLoc 0) (pLit (.int 1)))))) pSkip)
noncomputable def p_Matrix_row : PS := (pSeq (pRet (pTup (pCons (pFld (fMat 0) (pLoc 0)) (pCons (pFld (fMat 1) (pLoc 0)) (pCons (pFld (fMat 2) (pLoc 0)) (pCons (pFld (fMat 3) (pLoc 0)) (pCons (pFld (fMat 4) (pLoc 0)) (pCons (pFld (fMat 5) (pLoc 0)) pNil)))))))) pSkip)
noncomputable def p_Matrix_vector : PS := (pSeq (pUnp [2, 3] (pLoc 1)) (pSeq (pRet (pTup (pCons (pCall S_plus (pCons (pCall S_times (pCons (pFld (fMat 0) (pLoc 0)) (pCons (pLoc 2) pNil))) (pCons (pCall S_times (pCons (pFld (fMat 2) (pLoc 0)) (pCons (pLoc 3) pNil))) pNil))) (pCons (pCall S_plus (pCons (pCall S_times (pCons (pFld (fMat 1) (pLoc 0)) (pCons (pLoc 2) pNil))) (pCons (pCall S_times (pCons (pFld (fMat 3) (pLoc 0)) (pCons (pLoc 3) pNil))) pNil))) pNil)))) pSkip))
noncomputable def p_Matrix_point : PS := (pSeq (pUnp [2, 3] (pMeth isMat S_Matrix_vector (pLoc 0) (pCons (pLoc 1) pNil))) (pSeq (pRet (pTup (pCons (pCall S_plus (pCons (pLoc 2) (pCons (pFld (fMat 4) (pLoc 0)) pNil))) (pCons (pCall S_plus (pCons (pLoc 3) (pCons (pFld (fMat 5) (pLoc 0)) pNil))) pNil)))) pSkip))
noncomputable def p_Matrix_then : PS := (pSeq (pUnp [2, 3] (pMeth isMat S_Matrix_vector (pLoc 1) (pCons (pTup (pCons (pFld (fMat 0) (pLoc 0)) (pCons (pFld (fMat 1) (pLoc 0)) pNil))) pNil))) (pSeq (pUnp [4, 5] (pMeth isMat S_Matrix_vector (pLoc 1) (pCons (pTup (pCons (pFld (fMat 2) (pLoc 0)) (pCons (pFld (fMat 3) (pLoc 0)) pNil))) pNil))) (pSeq (pUnp [6, 7] (pMeth isMat S_Matrix_point (pLoc 1) (pCons (pTup (pCons (pFld (fMat 4) (pLoc 0)) (pCons (pFld (fMat 5) (pLoc 0)) pNil))) pNil))) (pSeq (pRet (pCall sMat (pCons (pLoc 2) (pCons (pLoc 3) (pCons (pLoc 4) (pCons (pLoc 5) (pCons (pLoc 6) (pCons (pLoc 7) pNil)))))))) pSkip))))
noncomputable def p_Matrix_determinant : PS := (pSeq (pRet (pCall S_minus (pCons (pCall S_times (pCons (pFld (fMat 0) (pLoc 0)) (pCons (pFld (fMat 3) (pLoc 0)) pNil))) (pCons (pCall S_times (pCons (pFld (fMat 1) (pLoc 0)) (pCons (pFld (fMat 2) (pLoc 0)) pNil))) pNil)))) pSkip)
noncomputable def p_Matrix_inverse : PS := (pSeq (pAsg 1 (pMeth isMat S_Matrix_determinant (pLoc 0) pNil)) (pSeq (pIfS (pCmp cEq (pIdx (pLoc 1) (pLit (.int 0))) (pLit (.int 0))) (pSeq (pRaise 56 (pLit (.str (Str.ofString "a matrix that leads all to a line has no way back")))) pSkip) pSkip) (pSeq (pAsg 2 (pCall sMat (pCons (pCall S_divided (pCons (pFld (fMat 3) (pLoc 0)) (pCons (pLoc 1) pNil))) (pCons (pCall S_negated (pCons (pCall S_divided (pCons (pFld (fMat 1) (pLoc 0)) (pCons (pLoc 1) pNil))) pNil)) (pCons (pCall S_negated (pCons (pCall S_divided (pCons (pFld (fMat 2) (pLoc 0)) (pCons (pLoc 1) pNil))) pNil)) (pCons (pCall S_divided (pCons (pFld (fMat 0) (pLoc 0)) (pCons (pLoc 1) pNil))) (pCons (pLit c_ZERO) (pCons (pLit c_ZERO) pNil)))))))) (pSeq (pUnp [3, 4] (pMeth isMat S_Matrix_vector (pLoc 2) (pCons (pTup (pCons (pFld (fMat 4) (pLoc 0)) (pCons (pFld (fMat 5) (pLoc 0)) pNil))) pNil))) (pSeq (pRet (pCall sMat (pCons (pFld (fMat 0) (pLoc 2)) (pCons (pFld (fMat 1) (pLoc 2)) (pCons (pFld (fMat 2) (pLoc 2)) (pCons (pFld (fMat 3) (pLoc 2)) (pCons (pCall S_negated (pCons (pLoc 3) pNil)) (pCons (pCall S_negated (pCons (pLoc 4) pNil)) pNil)))))))) pSkip)))))
noncomputable def p_identity : PS := (pSeq (pRet (pCall sMat (pCons (pLit c_ONE) (pCons (pLit c_ZERO) (pCons (pLit c_ZERO) (pCons (pLit c_ONE) (pCons (pLit c_ZERO) (pCons (pLit c_ZERO) pNil)))))))) pSkip)
noncomputable def p_translation : PS := (pSeq (pRet (pCall sMat (pCons (pLit c_ONE) (pCons (pLit c_ZERO) (pCons (pLit c_ZERO) (pCons (pLit c_ONE) (pCons (pLoc 0) (pCons (pLoc 1) pNil)))))))) pSkip)
noncomputable def p_scaling : PS := (pSeq (pRet (pCall sMat (pCons (pLoc 0) (pCons (pLit c_ZERO) (pCons (pLit c_ZERO) (pCons (pLoc 1) (pCons (pLit c_ZERO) (pCons (pLit c_ZERO) pNil)))))))) pSkip)
noncomputable def p_spot_of : PS := (pSeq (pUnp [3, 4] (pMeth isMat S_Matrix_point (pLoc 0) (pCons (pLoc 1) pNil))) (pSeq (pRet (pTup (pCons (pCall S_rounded (pCons (pCall S_times (pCons (pLoc 3) (pCons (pTup (pCons (pLoc 2) (pCons (pLit (.int 1)) pNil))) pNil))) pNil)) (pCons (pCall S_rounded (pCons (pCall S_times (pCons (pLoc 4) (pCons (pTup (pCons (pLoc 2) (pCons (pLit (.int 1)) pNil))) pNil))) pNil)) pNil)))) pSkip))
theorem gcd_step {x y : Int} (hx : 0 ≤ x) (hy : 0 ≤ y) : Int.gcd y (x % y) = Int.gcd x y := by
  obtain ⟨m, rfl⟩ := Int.eq_ofNat_of_zero_le hx
  obtain ⟨n, rfl⟩ := Int.eq_ofNat_of_zero_le hy
  rw [← Int.natCast_emod, Int.gcd_natCast_natCast, Int.gcd_natCast_natCast, Nat.gcd_comm m n]
  conv => rhs; rw [Nat.gcd_rec]
  exact Nat.gcd_comm _ _
theorem vc_common_divisor (args : List SV) (c : CO) (K : SV → CO → Prop) (KE : Addr → CO → Prop) : S_common_divisor args c K KE → sPure (sDef 2 4 p_common_divisor) args c K KE := by
  rintro ⟨a, b, rfl, hb, hK⟩
  refine ⟨⟨_, rfl⟩, rfl, ?_⟩
  unfold p_common_divisor
  walk_at "vs"
  refine ⟨by walk_at "vd", ?_⟩
  try unfold pWhile
  refine ⟨fun n ρ c' => ∃ x y : Int, ρ = [some (.d (.int a)), some (.d (.int b)), some (.d (.int x)), some (.d (.int y))] ∧ c' = .none ∧ 0 ≤ x ∧ 0 ≤ y ∧ Int.gcd x y = Int.gcd a b ∧ n = y.toNat, ⟨_, _, b, rfl, rfl, ?_, hb, ?_, rfl⟩, ?_⟩
  · split <;> walk_at "om"
  · split
    · rw [Int.neg_gcd]
    · rfl
  rintro n ρ c' ⟨x, y, rfl, rfl, hx, hy, hg, rfl⟩
  walk_at "vs"
  refine ⟨fun h => ⟨?_, by walk_at "vd", ?_⟩, fun h => ?_⟩
  · simp only [decide_eq_true_eq] at h; walk_at "om"
  · simp only [decide_eq_true_eq] at h
    rw [Int.fmod_eq_emod_of_nonneg _ hy]
    refine ⟨(x % y).toNat, ?_, y, x % y, rfl, rfl, hy, Int.emod_nonneg _ (by walk_at "om"), ?_, rfl⟩
    · have := Int.emod_lt_of_pos x h
      have := Int.emod_nonneg x (show y ≠ 0 by walk_at "om")
      walk_at "om"
    · rw [← hg]; exact gcd_step hx hy
  · simp only [decide_eq_false_iff_not] at h
    have : y = 0 := by walk_at "om"
    subst this
    rw [Int.gcd_zero] at hg
    have : x = (Int.gcd a b : Int) := by walk_at "om"
    rw [this]; exact hK
theorem qD_divInt {n d : Int} (hd : 0 < d) : D.tup [.int (n.fdiv (Int.gcd n d)), .int (d.fdiv (Int.gcd n d))] = qD (Rat.divInt n d) := by
  unfold qD
  rw [Int.fdiv_eq_ediv_of_nonneg _ (by walk_at "om"), Int.fdiv_eq_ediv_of_nonneg _ (by walk_at "om")]
  have e1 : (Rat.divInt n d).num = n / (Int.gcd n d : Int) := by
    rw [Rat.num_divInt, Int.sign_eq_one_of_pos hd, Int.one_mul, Int.gcd_comm]
  have e2 : ((Rat.divInt n d).den : Int) = d / (Int.gcd n d : Int) := by
    rw [Rat.den_divInt, if_neg (by walk_at "om"), Int.gcd_comm d n, Int.natCast_ediv]
    congr 1
    walk_at "om"
  rw [e1, e2]
theorem small_log {g k : Nat} (h : g < P2 k) (h9 : k ≤ 9000) : g.log2 < 9000 := by
  by_cases h0 : g = 0
  · subst h0; decide
  · unfold P2 at h
    exact Nat.lt_of_lt_of_le ((Nat.log2_lt h0).mpr h) h9
theorem gcd_facts (n d : Int) (hd : 0 < d) : 0 < Int.gcd n d ∧ Int.gcd n d ≤ d.natAbs ∧ (Int.gcd n d : Int) ≠ 0 := by
  have hg : 0 < Int.gcd n d := Nat.pos_of_ne_zero fun q => by have := (Int.gcd_eq_zero_iff.mp q).2; walk_at "om"
  have hgd : Int.gcd n d ≤ d.natAbs := Nat.le_of_dvd (by walk_at "om") (Int.natAbs_dvd_natAbs.mpr (Int.gcd_dvd_right ..))
  exact ⟨hg, hgd, by walk_at "om"⟩
theorem gcd_log {n d : Int} (hd : 0 < d) (hdl : d.natAbs < P2 4000) : (Int.gcd n d : Int).natAbs.log2 < 9000 :=
  small_log (k := 4000) (by rw [Int.natAbs_natCast]; exact Nat.lt_of_le_of_lt (gcd_facts n d hd).2.1 hdl) (by walk_at "vd")
theorem vc_fraction (args : List SV) (c : CO) (K : SV → CO → Prop) (KE : Addr → CO → Prop) : S_fraction args c K KE → sPure (sDef 2 3 p_fraction) args c K KE := by
  rintro ⟨n, d, rfl, hd, hn, hdl, hK⟩
  refine ⟨⟨_, rfl⟩, rfl, ?_⟩
  unfold p_fraction
  walk_at "vs"
  refine ⟨fun h => absurd (beq_iff_eq.mp h) hd, fun _ => ⟨fun h => ⟨by walk_at "vd", -n, -d, rfl, ?_, ?_⟩, fun h => ⟨n, d, rfl, ?_, ?_⟩⟩⟩
  · simp only [decide_eq_true_eq] at h; walk_at "om"
  · simp only [decide_eq_true_eq] at h
    have hp : 0 < -d := by walk_at "om"
    have k := (gcd_facts (-n) (-d) hp).2.2
    have k2 := gcd_log (n := -n) hp (by rw [Int.natAbs_neg]; exact hdl)
    walk_at "vs"
    refine ⟨k, k2, k, k2, by walk_at "vd", ?_⟩
    rw [qD_divInt hp, Rat.neg_divInt_neg]; exact hK
  · simp only [decide_eq_false_iff_not] at h; walk_at "om"
  · simp only [decide_eq_false_iff_not] at h
    have hp : 0 < d := by walk_at "om"
    have k := (gcd_facts n d hp).2.2
    have k2 := gcd_log (n := n) hp hdl
    walk_at "vs"
    refine ⟨k, k2, k, k2, by walk_at "vd", ?_⟩
    rw [qD_divInt hp]; exact hK
theorem intBits_lt {x : Int} {n : Nat} (h : x.natAbs < P2 n) : Builtin.Int.intBits x ≤ n := by
  unfold Builtin.Int.intBits
  split
  · exact Nat.zero_le _
  · rename_i h0
    have h0 : x.natAbs ≠ 0 := by simpa using h0
    unfold P2 at h
    exact (Nat.log2_lt h0).mpr h
theorem mul_ok {a b : Int} {n m : Nat} (ha : a.natAbs < P2 n) (hb : b.natAbs < P2 m) (hn : n ≤ 100000) (hm : m ≤ 100000) : IntMulOk a b :=
  IntMulOk.of_bits (Nat.le_trans (intBits_lt ha) (by walk_at "om")) (Nat.le_trans (intBits_lt hb) (by walk_at "om"))
theorem Sm.nd {n m : Nat} {a b : Rat} (ha : Sm n a) (hb : Sm m b) (hn : n ≤ 100000 := by walk_at "vd") (hm : m ≤ 100000 := by walk_at "vd") : IntMulOk a.num b.den := mul_ok ha.1 (b := b.den) (by rw [Int.natAbs_natCast]; exact hb.2) hn hm
theorem Sm.dd {n m : Nat} {a b : Rat} (ha : Sm n a) (hb : Sm m b) (hn : n ≤ 100000 := by walk_at "vd") (hm : m ≤ 100000 := by walk_at "vd") : IntMulOk a.den b.den := mul_ok (a := a.den) (by rw [Int.natAbs_natCast]; exact ha.2) (b := b.den) (by rw [Int.natAbs_natCast]; exact hb.2) hn hm
theorem Sm.nn {n m : Nat} {a b : Rat} (ha : Sm n a) (hb : Sm m b) (hn : n ≤ 100000 := by walk_at "vd") (hm : m ≤ 100000 := by walk_at "vd") : IntMulOk a.num b.num := mul_ok ha.1 hb.1 hn hm
theorem Sm.dn {n m : Nat} {a b : Rat} (ha : Sm n a) (hb : Sm m b) (hn : n ≤ 100000 := by walk_at "vd") (hm : m ≤ 100000 := by walk_at "vd") : IntMulOk a.den b.num := mul_ok (a := a.den) (by rw [Int.natAbs_natCast]; exact ha.2) hb.1 hn hm
theorem Sm.dabs {n : Nat} {q : Rat} (h : Sm n q) : (q.den : Int).natAbs < P2 n := by rw [Int.natAbs_natCast]; exact h.2
theorem P2_le {x n m : Nat} (h : x < P2 n) (k : n ≤ m) : x < P2 m := Nat.lt_of_lt_of_le h (P2_mono k)
theorem vc_plus (args : List SV) (c : CO) (K : SV → CO → Prop) (KE : Addr → CO → Prop) : S_plus args c K KE → sPure (sDef 2 2 p_plus) args c K KE := by
  rintro ⟨a, b, rfl, ha, hb, hK⟩
  refine ⟨⟨_, rfl⟩, rfl, ?_⟩
  unfold p_plus
  walk_at "vs"
  repeat walk_at "vi"
  refine ⟨ha.nd hb, ?_⟩
  repeat walk_at "vi"
  refine ⟨hb.nd ha, ?_⟩
  repeat walk_at "vi"
  have h := nums_add ha hb
  refine ⟨ha.dd hb, i_fraction _ _ rfl (den_mul_ne a b) (P2_le h.1 (by walk_at "vd")) (P2_le h.2.2.1 (by walk_at "vd")) ?_⟩
  rw [add_divInt] at hK
  exact hK
theorem vc_minus (args : List SV) (c : CO) (K : SV → CO → Prop) (KE : Addr → CO → Prop) : S_minus args c K KE → sPure (sDef 2 2 p_minus) args c K KE := by
  rintro ⟨a, b, rfl, ha, hb, hK⟩
  refine ⟨⟨_, rfl⟩, rfl, ?_⟩
  unfold p_minus
  walk_at "vs"
  repeat walk_at "vi"
  refine ⟨ha.nd hb, ?_⟩
  repeat walk_at "vi"
  refine ⟨hb.nd ha, ?_⟩
  repeat walk_at "vi"
  have h := nums_add ha hb
  refine ⟨ha.dd hb, i_fraction _ _ rfl (den_mul_ne a b) (P2_le h.2.1 (by walk_at "vd")) (P2_le h.2.2.1 (by walk_at "vd")) ?_⟩
  rw [sub_divInt] at hK
  exact hK
theorem vc_times (args : List SV) (c : CO) (K : SV → CO → Prop) (KE : Addr → CO → Prop) : S_times args c K KE → sPure (sDef 2 2 p_times) args c K KE := by
  rintro ⟨a, b, rfl, ha, hb, hK⟩
  refine ⟨⟨_, rfl⟩, rfl, ?_⟩
  unfold p_times
  walk_at "vs"
  repeat walk_at "vi"
  refine ⟨ha.nn hb, ?_⟩
  repeat walk_at "vi"
  have h := nums_add ha hb
  refine ⟨ha.dd hb, i_fraction _ _ rfl (den_mul_ne a b) (P2_le h.2.2.2.1 (by walk_at "vd")) (P2_le h.2.2.1 (by walk_at "vd")) ?_⟩
  rw [mul_divInt] at hK
  exact hK
theorem vc_divided (args : List SV) (c : CO) (K : SV → CO → Prop) (KE : Addr → CO → Prop) : S_divided args c K KE → sPure (sDef 2 2 p_divided) args c K KE := by
  rintro ⟨a, b, rfl, h0, ha, hb, hK⟩
  refine ⟨⟨_, rfl⟩, rfl, ?_⟩
  unfold p_divided
  walk_at "vs"
  repeat walk_at "vi"
  refine ⟨fun h => absurd (beq_iff_eq.mp h) (num_ne h0), fun _ => ?_⟩
  repeat walk_at "vi"
  refine ⟨ha.nd hb, ?_⟩
  repeat walk_at "vi"
  have h := nums_add ha hb
  refine ⟨ha.dn hb, i_fraction _ _ rfl (Int.mul_ne_zero (den_ne a) (num_ne h0)) (P2_le h.2.2.2.2.1 (by walk_at "vd")) (P2_le h.2.2.2.2.2.1 (by walk_at "vd")) ?_⟩
  rw [div_divInt] at hK
  exact hK
theorem vc_negated (args : List SV) (c : CO) (K : SV → CO → Prop) (KE : Addr → CO → Prop) : S_negated args c K KE → sPure (sDef 1 1 p_negated) args c K KE := by
  rintro ⟨a, rfl, hK⟩
  refine ⟨⟨_, rfl⟩, rfl, ?_⟩
  unfold p_negated
  walk_at "vs"
  repeat walk_at "vi"
  exact ⟨by walk_at "vd", hK⟩
theorem two_abs : (2 : Int).natAbs < P2 2 := by walk_at "vd"
theorem two_den_ne (a : Rat) : (2 : Int) * a.den ≠ 0 := by have := den_pos' a; walk_at "om"
theorem two_den_nn (a : Rat) : 0 ≤ (2 : Int) * a.den := by have := den_pos' a; walk_at "om"
theorem vc_rounded (args : List SV) (c : CO) (K : SV → CO → Prop) (KE : Addr → CO → Prop) : S_rounded args c K KE → sPure (sDef 1 1 p_rounded) args c K KE := by
  rintro ⟨a, rfl, ha, hK⟩
  refine ⟨⟨_, rfl⟩, rfl, ?_⟩
  unfold p_rounded
  walk_at "vs"
  repeat walk_at "vi"
  have hd := ha.dabs
  refine ⟨mul_ok two_abs ha.1 (by walk_at "vd") (by walk_at "vd"), ?_⟩
  repeat walk_at "vi"
  refine ⟨mul_ok two_abs hd (by walk_at "vd") (by walk_at "vd"), ?_, ?_, ?_⟩
  · exact two_den_ne a
  · refine small_log (k := 2 + 1000) ?_ (by walk_at "vd")
    rw [Int.natAbs_mul]
    exact lt_mulP two_abs hd
  · rw [Int.fdiv_eq_ediv_of_nonneg _ (two_den_nn a)]
    exact hK
theorem vc_Matrix_row (args : List SV) (c : CO) (K : SV → CO → Prop) (KE : Addr → CO → Prop) : S_Matrix_row args c K KE → sPure (sDef 1 1 p_Matrix_row) args c K KE := by
  rintro ⟨M, rfl, hK⟩
  refine ⟨⟨_, rfl⟩, rfl, ?_⟩
  unfold p_Matrix_row
  walk_at "vs"
  exact ⟨by walk_at "vd", hK⟩
theorem vc_Matrix_vector (args : List SV) (c : CO) (K : SV → CO → Prop) (KE : Addr → CO → Prop) : S_Matrix_vector args c K KE → sPure (sDef 2 4 p_Matrix_vector) args c K KE := by
  rintro ⟨M, p, rfl, hM, hp, hK⟩
  refine ⟨⟨_, rfl⟩, rfl, ?_⟩
  unfold p_Matrix_vector
  walk_at "vs"
  obtain ⟨h1, h2, h3, h4, _, _⟩ := hM
  refine i_times M.a p.1 rfl (h1.mono (by walk_at "vd")) (hp.1.mono (by walk_at "vd")) ?_
  walk_at "vs"
  refine i_times M.c p.2 rfl (h3.mono (by walk_at "vd")) (hp.2.mono (by walk_at "vd")) ?_
  walk_at "vs"
  refine i_plus _ _ rfl (h1.mul hp.1 (by walk_at "vd")) (h3.mul hp.2 (by walk_at "vd")) ?_
  walk_at "vs"
  refine i_times M.b p.1 rfl (h2.mono (by walk_at "vd")) (hp.1.mono (by walk_at "vd")) ?_
  walk_at "vs"
  refine i_times M.d p.2 rfl (h4.mono (by walk_at "vd")) (hp.2.mono (by walk_at "vd")) ?_
  walk_at "vs"
  refine i_plus _ _ rfl (h2.mul hp.1 (by walk_at "vd")) (h4.mul hp.2 (by walk_at "vd")) ?_
  walk_at "vs"
  exact ⟨by walk_at "vd", hK⟩
theorem vc_Matrix_point (args : List SV) (c : CO) (K : SV → CO → Prop) (KE : Addr → CO → Prop) : S_Matrix_point args c K KE → sPure (sDef 2 4 p_Matrix_point) args c K KE := by
  rintro ⟨M, p, rfl, hM, hp, hK⟩
  refine ⟨⟨_, rfl⟩, rfl, ?_⟩
  unfold p_Matrix_point
  walk_at "vs"
  have v := hM.vec hp (k := 901) (by walk_at "vd")
  refine i_Matrix_vector M p rfl hM hp ?_
  walk_at "vs"
  refine i_plus _ _ rfl (v.1.mono (by walk_at "vd")) (hM.2.2.2.2.1.mono (by walk_at "vd")) ?_
  walk_at "vs"
  refine i_plus _ _ rfl (v.2.mono (by walk_at "vd")) (hM.2.2.2.2.2.mono (by walk_at "vd")) ?_
  walk_at "vs"
  exact ⟨by walk_at "vd", hK⟩
theorem vc_Matrix_then (args : List SV) (c : CO) (K : SV → CO → Prop) (KE : Addr → CO → Prop) : S_Matrix_then args c K KE → sPure (sDef 2 8 p_Matrix_then) args c K KE := by
  rintro ⟨M, N, rfl, hM, hN, hK⟩
  refine ⟨⟨_, rfl⟩, rfl, ?_⟩
  unfold p_Matrix_then
  walk_at "vs"
  obtain ⟨h1, h2, h3, h4, h5, h6⟩ := hM
  refine ⟨by walk_at "vd", i_Matrix_vector N ((M.a, M.b)) rfl (hN.mono (by walk_at "vd")) ⟨h1.mono (by walk_at "vd"), h2.mono (by walk_at "vd")⟩ ?_⟩
  walk_at "vs"
  refine ⟨by walk_at "vd", i_Matrix_vector N ((M.c, M.d)) rfl (hN.mono (by walk_at "vd")) ⟨h3.mono (by walk_at "vd"), h4.mono (by walk_at "vd")⟩ ?_⟩
  walk_at "vs"
  refine ⟨by walk_at "vd", i_Matrix_point N ((M.e, M.f)) rfl (hN.mono (by walk_at "vd")) ⟨h5.mono (by walk_at "vd"), h6.mono (by walk_at "vd")⟩ ?_⟩
  walk_at "vs"
  exact hK
theorem vc_Matrix_determinant (args : List SV) (c : CO) (K : SV → CO → Prop) (KE : Addr → CO → Prop) : S_Matrix_determinant args c K KE → sPure (sDef 1 1 p_Matrix_determinant) args c K KE := by
  rintro ⟨M, rfl, hM, hK⟩
  refine ⟨⟨_, rfl⟩, rfl, ?_⟩
  unfold p_Matrix_determinant
  walk_at "vs"
  obtain ⟨h1, h2, h3, h4, h5, h6⟩ := hM
  refine i_times _ _ rfl (h1.mono (by walk_at "vd")) (h4.mono (by walk_at "vd")) ?_
  walk_at "vs"
  refine i_times _ _ rfl (h2.mono (by walk_at "vd")) (h3.mono (by walk_at "vd")) ?_
  walk_at "vs"
  exact i_minus _ _ rfl (h1.mul h4 (by walk_at "vd")) (h2.mul h3 (by walk_at "vd")) hK
theorem vc_identity (args : List SV) (c : CO) (K : SV → CO → Prop) (KE : Addr → CO → Prop) : S_identity args c K KE → sPure (sDef 0 0 p_identity) args c K KE := by
  rintro ⟨rfl, hK⟩
  refine ⟨⟨_, rfl⟩, rfl, ?_⟩
  unfold p_identity
  walk_at "vs"
  exact hK
theorem vc_translation (args : List SV) (c : CO) (K : SV → CO → Prop) (KE : Addr → CO → Prop) : S_translation args c K KE → sPure (sDef 2 2 p_translation) args c K KE := by
  rintro ⟨x, y, rfl, hK⟩
  refine ⟨⟨_, rfl⟩, rfl, ?_⟩
  unfold p_translation
  walk_at "vs"
  exact hK
theorem vc_scaling (args : List SV) (c : CO) (K : SV → CO → Prop) (KE : Addr → CO → Prop) : S_scaling args c K KE → sPure (sDef 2 2 p_scaling) args c K KE := by
  rintro ⟨x, y, rfl, hK⟩
  refine ⟨⟨_, rfl⟩, rfl, ?_⟩
  unfold p_scaling
  walk_at "vs"
  exact hK
theorem vc_Matrix_inverse (args : List SV) (c : CO) (K : SV → CO → Prop) (KE : Addr → CO → Prop) : S_Matrix_inverse args c K KE → sPure (sDef 1 5 p_Matrix_inverse) args c K KE := by
  rintro ⟨M, rfl, hM, h1, h0⟩
  refine ⟨⟨_, rfl⟩, rfl, ?_⟩
  unfold p_Matrix_inverse
  walk_at "vs"
  refine i_Matrix_determinant M rfl (hM.mono (by walk_at "vd")) ?_
  walk_at "vs"
  repeat walk_at "vi"
  refine ⟨fun h => (h0 (Rat.num_eq_zero.mp (beq_iff_eq.mp h))), fun h => ?_⟩
  have hd : M.det ≠ 0 := fun q => by rw [q] at h; cases h
  have sd := hM.det (k := 161) (by walk_at "vd")
  obtain ⟨ha, hb, hc, hd', he, hf⟩ := hM
  have q1 := hd'.div sd hd (k := 201) (by walk_at "vd")
  have q2 := hb.div sd hd (k := 201) (by walk_at "vd")
  have q3 := hc.div sd hd (k := 201) (by walk_at "vd")
  have q4 := ha.div sd hd (k := 201) (by walk_at "vd")
  refine i_divided M.d M.det rfl hd (hd'.mono (by walk_at "vd")) (sd.mono (by walk_at "vd")) ?_
  walk_at "vs"
  refine i_divided M.b M.det rfl hd (hb.mono (by walk_at "vd")) (sd.mono (by walk_at "vd")) ?_
  walk_at "vs"
  refine i_negated _ rfl ?_
  walk_at "vs"
  refine i_divided M.c M.det rfl hd (hc.mono (by walk_at "vd")) (sd.mono (by walk_at "vd")) ?_
  walk_at "vs"
  refine i_negated _ rfl ?_
  walk_at "vs"
  refine i_divided M.a M.det rfl hd (ha.mono (by walk_at "vd")) (sd.mono (by walk_at "vd")) ?_
  walk_at "vs"
  refine ⟨by walk_at "vd", i_Matrix_vector ⟨M.d / M.det, -(M.b / M.det), -(M.c / M.det), M.a / M.det, 0, 0⟩ ((M.e, M.f)) rfl ⟨q1.mono (by walk_at "vd"), q2.neg.mono (by walk_at "vd"), q3.neg.mono (by walk_at "vd"), q4.mono (by walk_at "vd"), sm_zero (by walk_at "vd"), sm_zero (by walk_at "vd")⟩ ⟨he.mono (by walk_at "vd"), hf.mono (by walk_at "vd")⟩ ?_⟩
  walk_at "vs"
  refine i_negated _ rfl ?_
  walk_at "vs"
  refine i_negated _ rfl ?_
  walk_at "vs"
  exact h1 hd
theorem vc_spot_of (args : List SV) (c : CO) (K : SV → CO → Prop) (KE : Addr → CO → Prop) : S_spot_of args c K KE → sPure (sDef 3 5 p_spot_of) args c K KE := by
  rintro ⟨M, p, g, rfl, hM, hp, hg0, hg1, hK⟩
  refine ⟨⟨_, rfl⟩, rfl, ?_⟩
  unfold p_spot_of
  walk_at "vs"
  have v := hM.pt hp (k := 502) (by walk_at "vd")
  have eg : D.tup [.int g, .int 1] = qD (g : Rat) := rfl
  have sg : Sm 10 (g : Rat) := ⟨by show g.natAbs < 1024; walk_at "om", by show 1 < 1024; decide⟩
  refine i_Matrix_point M p rfl (hM.mono (by walk_at "vd")) (hp.mono (by walk_at "vd")) ?_
  walk_at "vs"
  refine ⟨by walk_at "vd", ?_⟩
  rw [eg]
  refine i_times _ _ rfl (v.1.mono (by walk_at "vd")) (sg.mono (by walk_at "vd")) ?_
  walk_at "vs"
  refine i_rounded _ rfl (v.1.mul sg (by walk_at "vd")) ?_
  walk_at "vs"
  refine ⟨by walk_at "vd", ?_⟩
  refine i_times _ _ rfl (v.2.mono (by walk_at "vd")) (sg.mono (by walk_at "vd")) ?_
  walk_at "vs"
  refine i_rounded _ rfl (v.2.mul sg (by walk_at "vd")) ?_
  walk_at "vs"
  exact ⟨by walk_at "vd", hK⟩
section
-- part N2
open PySem PySem.W PyProof.Rows PySem.Calls PySem.Builtin PySem.Builtin.Str PySem.Builtin.ObjectAttr
noncomputable def tx (l : List Nat) : Str := ⟨l.toArray⟩
noncomputable def tD (l : List Nat) : D := .str (tx l)
theorem tx_len (l : List Nat) : (tx l).length = l.length := by simp [tx, Str.length]
theorem tx_app (a b : List Nat) : tx a ++ tx b = tx (a ++ b) := Str.ext' (by rw [Str.cps_append]; simp [tx])
theorem tx_inj {a b : List Nat} (h : tx a = tx b) : a = b := by
  have := congrArg (fun s : Str => s.cps.toList) h
  exact this
theorem tx_beq (a b : List Nat) : (tx a == tx b) = decide (a = b) := by
  by_cases h : a = b
  · subst h; simp
  · simp [h]; exact fun q => h (tx_inj q)
theorem tx_bne (a b : List Nat) : (tx a != tx b) = !decide (a = b) := by rw [bne, tx_beq]
theorem tx_mem (g : Nat) (l : List Nat) : decide (g ∈ (tx l).cps.toList) = decide (g ∈ l) := Eq.trans rfl rfl
theorem cLe_t (a b : Nat) (K : Bool → Prop) : cLe (.str (tx [a])) (.str (tx [b])) K = K (decide (a ≤ b)) := by
  rw [cLe_s]
  show K (!decide ([b] < [a])) = _
  rw [StrLaws.lt_cons_cons]
  congr 1
  by_cases h : a ≤ b
  · have : ¬ b < a := by walk_at "om"
    simp [h, this]
  · have : b < a := by walk_at "om"
    simp [h, this]
theorem onIdx_t {w : List Nat} {i g : Nat} {c : CO} {K : SV → CO → Prop} (hw : w.length < 2 ^ 40) (h : w[i]? = some g) (k : K (.d (.str (tx [g]))) c) : onIdx (.d (.str (tx w))) (.d (.int (i : Int))) c K := by
  have hi : i < w.length := (List.getElem?_eq_some_iff.mp h).1
  apply onIdx_of
  refine ⟨by omega, by omega, ?_⟩
  rw [StrLaws.at_nonneg (n := g) (by walk_at "om") (by simpa [tx] using h)]
  exact k
theorem slice_t (w : List Nat) {a b : Nat} (hab : a ≤ b) (hb : b ≤ w.length) : Txt.slice (tx w) (some (a : Int)) (some (b : Int)) = tx ((w.drop a).take (b - a)) :=
  StrLaws.sliceText_nat (tx w) hab (by rw [tx_len]; exact hb)
theorem slice_from (w : List Nat) {a : Nat} (ha : a ≤ w.length) : Txt.slice (tx w) (some (a : Int)) none = tx (w.drop a) := by
  have := StrLaws.sliceText_from (x := tx w) (i := (a : Int)) ⟨by walk_at "om", by simp [tx]; walk_at "om"⟩
  refine this.trans ?_
  have e : ((tx w).cps.toList.length : Int) - (a : Int) = ((w.length - a : Nat) : Int) := by simp [tx]; walk_at "om"
  rw [e, Int.toNat_natCast, Int.toNat_natCast]
  show (⟨((w.drop a).take (w.length - a)).toArray⟩ : Str) = ⟨(w.drop a).toArray⟩
  rw [List.take_of_length_le (by simp)]
theorem lower_t {w : List Nat} (h : ∀ c ∈ w, c < 128) : Txt.lower (tx w) = tx (w.map lo1) := by
  rw [lower_ascii (by exact h)]
  simp [tx]
noncomputable def cS (s : String) : List Nat := s.toList.map Char.toNat
end
-- part N3
variable {args : List SV} {c : CO} {K : SV → CO → Prop} {KE : Addr → CO → Prop}
open PySem PySem.W PyProof.Rows PySem.Calls PySem.Builtin PySem.Builtin.Str PySem.Builtin.ObjectAttr
theorem lit_SP : Str.ofString " " = tx [32] := by decide +kernel
theorem lit_E0 : Str.ofString "" = tx [] := by decide +kernel
theorem lit_a : Str.ofString "a" = tx [97] := by decide +kernel
theorem lit_z : Str.ofString "z" = tx [122] := by decide +kernel
theorem lit_A : Str.ofString "A" = tx [65] := by decide +kernel
theorem lit_Z : Str.ofString "Z" = tx [90] := by decide +kernel
theorem lit_eE : Str.ofString "eE" = tx [101, 69] := by decide +kernel
theorem lit_e : Str.ofString "e" = tx [101] := by decide +kernel
theorem lit_pm : Str.ofString "+-" = tx [43, 45] := by decide +kernel
theorem lit_m : Str.ofString "-" = tx [45] := by decide +kernel
theorem lit_dot : Str.ofString "." = tx [46] := by decide +kernel
theorem lit_com : Str.ofString "," = tx [44] := by decide +kernel
theorem lit_0 : Str.ofString "0" = tx [48] := by decide +kernel
theorem lit_9 : Str.ofString "9" = tx [57] := by decide +kernel
theorem lit_lp : Str.ofString "(" = tx [40] := by decide +kernel
theorem lit_rp : Str.ofString ")" = tx [41] := by decide +kernel
theorem cLe_q (a b : Nat) : (!((tx [b]).cps.toList < (tx [a]).cps.toList : Bool)) = decide (a ≤ b) := by
  have := cLe_t a b (fun r => r = decide (a ≤ b))
  rw [cLe_s] at this
  exact this.mpr rfl
noncomputable def c_SPACES : D := tD [32, 9, 10, 13]
noncomputable def c_DIGITS : D := tD [48, 49, 50, 51, 52, 53, 54, 55, 56, 57]
noncomputable def c_MOST_EXPONENT : D := .int 300
noncomputable def c_MOST_PLACES : D := .int 40
noncomputable def c_PLACES_ELSE : D := .int 12
theorem tx_lt {w : List Nat} (h : w.length < 2 ^ 40) : (tx w).length < 2 ^ 62 := by rw [tx_len]; walk_at "om"
noncomputable def isSp (c : Nat) : Bool := decide (c ∈ [32, 9, 10, 13])
noncomputable def isLet (c : Nat) : Bool := (decide (97 ≤ c) && decide (c ≤ 122)) || (decide (65 ≤ c) && decide (c ≤ 90))
noncomputable def isE (c : Nat) : Bool := decide (c ∈ [101, 69])
noncomputable def isPM (c : Nat) : Bool := decide (c ∈ [43, 45])
noncomputable def isDig (c : Nat) : Bool := decide (48 ≤ c) && decide (c ≤ 57)
noncomputable def spn (p : Nat → Bool) : List Nat → Nat
  | [] => 0
  | c :: r => if p c then spn p r + 1 else 0
theorem spn_le (p : Nat → Bool) : ∀ l, spn p l ≤ l.length
  | [] => Nat.le_refl _
  | c :: r => by unfold spn; split <;> simp [spn_le p r]
noncomputable def scan (first : Bool) (pts : Nat) (e : Bool) : List Nat → Nat
  | [] => 0
  | c :: r =>
    if c = 46 then (if pts + 1 > 1 ∨ e then 0 else scan false (pts + 1) e r + 1)
    else if isPM c then (if first then scan false pts e r + 1 else 0)
    else if isE c then (if first then 0 else scan true pts true r + 1)
    else if isDig c then scan false pts e r + 1 else 0
theorem scan_le : ∀ (l : List Nat) (f : Bool) (p : Nat) (e : Bool), scan f p e l ≤ l.length
  | [], _, _, _ => Nat.le_refl _
  | c :: r, f, p, e => by
    unfold scan
    repeat' split
    all_goals first | exact Nat.zero_le _ | exact Nat.succ_le_succ (scan_le r _ _ _)
noncomputable def gapN (l : List Nat) : Option Nat :=
  match l.drop (spn isSp l) with
  | [] => some (spn isSp l)
  | c :: r => if c = 44 then (if spn isSp r = r.length then none else some (spn isSp l + 1 + spn isSp r)) else some (spn isSp l)
noncomputable def TOk (w : List Nat) : Prop := w.length < 2 ^ 20 ∧ ∀ c ∈ w, c < 128
noncomputable def S_spaces_end : Spec := fun args c K _ => ∃ (w : List Nat) (i : Nat), args = [.d (.str (tx w)), .d (.int (i : Int))] ∧ w.length < 2 ^ 40 ∧ i ≤ w.length ∧ K (.d (.int ((i + spn isSp (w.drop i) : Nat) : Int))) c
theorem i_spaces_end (w : List Nat) (i : Nat) (h0 : args = [.d (.str (tx w)), .d (.int (i : Int))]) (h1 : w.length < 2 ^ 40) (h2 : i ≤ w.length) (h3 : K (.d (.int ((i + spn isSp (w.drop i) : Nat) : Int))) c) : S_spaces_end args c K KE := ⟨w, i, h0, h1, h2, h3⟩
noncomputable def S_name_end : Spec := fun args c K _ => ∃ (w : List Nat) (i : Nat), args = [.d (.str (tx w)), .d (.int (i : Int))] ∧ w.length < 2 ^ 40 ∧ i ≤ w.length ∧ K (.d (.int ((i + spn isLet (w.drop i) : Nat) : Int))) c
theorem i_name_end (w : List Nat) (i : Nat) (h0 : args = [.d (.str (tx w)), .d (.int (i : Int))]) (h1 : w.length < 2 ^ 40) (h2 : i ≤ w.length) (h3 : K (.d (.int ((i + spn isLet (w.drop i) : Nat) : Int))) c) : S_name_end args c K KE := ⟨w, i, h0, h1, h2, h3⟩
noncomputable def S_number_end : Spec := fun args c K _ => ∃ (w : List Nat) (i : Nat), args = [.d (.str (tx w)), .d (.int (i : Int))] ∧ TOk w ∧ i ≤ w.length ∧ K (.d (.int ((i + scan true 0 false (w.drop i) : Nat) : Int))) c
theorem i_number_end (w : List Nat) (i : Nat) (h0 : args = [.d (.str (tx w)), .d (.int (i : Int))]) (h1 : TOk w) (h2 : i ≤ w.length) (h3 : K (.d (.int ((i + scan true 0 false (w.drop i) : Nat) : Int))) c) : S_number_end args c K KE := ⟨w, i, h0, h1, h2, h3⟩
noncomputable def S_gap_end : Spec := fun args c K KE => ∃ (w : List Nat) (i : Nat), args = [.d (.str (tx w)), .d (.int (i : Int))] ∧ w.length < 2 ^ 40 ∧ i ≤ w.length ∧
  (∀ n, gapN (w.drop i) = some n → K (.d (.int ((i + n : Nat) : Int))) c) ∧ (gapN (w.drop i) = none → KE 68 c)
theorem i_gap_end (w : List Nat) (i : Nat) (h0 : args = [.d (.str (tx w)), .d (.int (i : Int))]) (h1 : w.length < 2 ^ 40) (h2 : i ≤ w.length) (h3 : (∀ n, gapN (w.drop i) = some n → K (.d (.int ((i + n : Nat) : Int))) c)) (h4 : (gapN (w.drop i) = none → KE 68 c)) : S_gap_end args c K KE := ⟨w, i, h0, h1, h2, h3, h4⟩
noncomputable def p_spaces_end : PS := (pSeq (pWhile (pAnd (pCmp cLt (pLoc 1) (pCall sLen (pCons (pLoc 0) pNil))) (pCmp cIn (pIdx (pLoc 0) (pLoc 1)) (pLit c_SPACES))) (pSeq (pInc 1 (pLit (.int 1))) pSkip)) (pSeq (pRet (pLoc 1)) pSkip))
noncomputable def p_name_end : PS := (pSeq (pWhile (pAnd (pCmp cLt (pLoc 1) (pCall sLen (pCons (pLoc 0) pNil))) (pOr (pChain cLe cLe (pLit (.str (Str.ofString "a"))) (pIdx (pLoc 0) (pLoc 1)) (pLit (.str (Str.ofString "z")))) (pChain cLe cLe (pLit (.str (Str.ofString "A"))) (pIdx (pLoc 0) (pLoc 1)) (pLit (.str (Str.ofString "Z")))))) (pSeq (pInc 1 (pLit (.int 1))) pSkip)) (pSeq (pRet (pLoc 1)) pSkip))
noncomputable def p_number_end_b : PS := (pSeq (pIfS (pCmp cEq (pLoc 4) (pLit (.str (Str.ofString ".")))) (pSeq (pInc 3 (pLit (.int 1))) (pSeq (pIfS (pOr (pCmp cGt (pLoc 3) (pLit (.int 1))) (pCmp cIn (pLit (.str (Str.ofString "e"))) (pMeth isText sLower (pCut (pLoc 0) (pOSome (pLoc 2)) (pOSome (pLoc 1))) pNil))) (pSeq (pRet (pLoc 1)) pSkip) pSkip) pSkip)) (pSeq (pIfS (pCmp cIn (pLoc 4) (pLit (.str (Str.ofString "+-")))) (pSeq (pIfS (pNot (pTest (pLoc 5))) (pSeq (pRet (pLoc 1)) pSkip) pSkip) pSkip) (pSeq (pIfS (pCmp cIn (pLoc 4) (pLit (.str (Str.ofString "eE")))) (pSeq (pIfS (pTest (pLoc 5)) (pSeq (pRet (pLoc 1)) pSkip) pSkip) pSkip) (pSeq (pIfS (pNot (pChain cLe cLe (pLit (.str (Str.ofString "0"))) (pLoc 4) (pLit (.str (Str.ofString "9"))))) (pSeq (pRet (pLoc 1)) pSkip) pSkip) pSkip)) pSkip)) pSkip)) (pSeq (pInc 1 (pLit (.int 1))) pSkip))
noncomputable def p_number_end : PS := (pSeq (pSwp [2, 3] (pTup (pCons (pLoc 1) (pCons (pLit (.int 0)) pNil)))) (pSeq (pWhile (pCmp cLt (pLoc 1) (pCall sLen (pCons (pLoc 0) pNil))) (pSeq (pAsg 4 (pIdx (pLoc 0) (pLoc 1))) (pSeq (pAsg 5 (pOrV (pVal (pCmp cEq (pLoc 1) (pLoc 2))) (pVal (pCmp cIn (pIdx (pLoc 0) (pBin oSub (pLoc 1) (pLit (.int 1)))) (pLit (.str (Str.ofString "eE"))))))) p_number_end_b))) (pSeq (pRet (pLoc 1)) pSkip)))
noncomputable def p_gap_end : PS := (pSeq (pAsg 1 (pCall S_spaces_end (pCons (pLoc 0) (pCons (pLoc 1) pNil)))) (pSeq (pIfS (pAnd (pCmp cLt (pLoc 1) (pCall sLen (pCons (pLoc 0) pNil))) (pCmp cEq (pIdx (pLoc 0) (pLoc 1)) (pLit (.str (Str.ofString ","))))) (pSeq (pAsg 1 (pCall S_spaces_end (pCons (pLoc 0) (pCons (pBin oAdd (pLoc 1) (pLit (.int 1))) pNil)))) (pSeq (pIfS (pCmp cEq (pLoc 1) (pCall sLen (pCons (pLoc 0) pNil))) (pSeq (pRaise 68 (pLit (.str (Str.ofString "a comma of a transform stands at the end")))) pSkip) pSkip) pSkip)) pSkip) (pSeq (pRet (pLoc 1)) pSkip)))
local macro_rules | `(tactic| walk_at "vt") => `(tactic| (try simp only [lit_SP, lit_E0, lit_a, lit_z, lit_A, lit_Z, lit_eE, lit_e, lit_pm, lit_m, lit_dot, lit_com, lit_0, lit_9, lit_lp, lit_rp, c_SPACES, c_DIGITS, tD, tx_len, tx_beq, tx_bne, tx_app, tx_mem, cLe_q, Bool.false_eq_true, Bool.true_eq_false, false_implies, true_implies, implies_true, true_and, and_true, Bool.not_true, Bool.not_false]))
theorem drop_cons {w : List Nat} {i : Nat} (h : i < w.length) : ∃ g, w[i]? = some g ∧ w.drop i = g :: w.drop (i + 1) :=
  ⟨w[i], List.getElem?_eq_getElem h, List.drop_eq_getElem_cons h⟩
theorem vc_spaces_end (args : List SV) (c : CO) (K : SV → CO → Prop) (KE : Addr → CO → Prop) : S_spaces_end args c K KE → sPure (sDef 2 2 p_spaces_end) args c K KE := by
  rintro ⟨w, i, rfl, hw, hi, hK⟩
  refine ⟨⟨_, rfl⟩, rfl, ?_⟩
  obtain ⟨T, hT⟩ : ∃ T, T = i + spn isSp (w.drop i) := ⟨_, rfl⟩
  rw [← hT] at hK
  unfold p_spaces_end
  rw [e_pSeq]
  try unfold pWhile
  refine ⟨fun n ρ c' => ∃ j : Nat, ρ = [some (.d (.str (tx w))), some (.d (.int j))] ∧ c' = .none ∧ j ≤ w.length ∧ n = w.length - j ∧ j + spn isSp (w.drop j) = T, ⟨_, i, rfl, rfl, hi, rfl, hT.symm⟩, ?_⟩
  rintro n ρ c' ⟨j, rfl, rfl, hj, rfl, he⟩
  walk_at "vs"
  walk_at "vt"
  refine ⟨tx_lt hw, fun h => ?_, fun h => ?_⟩
  · have : w.drop j = [] := List.drop_eq_nil_of_le (by simp at h; walk_at "om")
    rw [this] at he
    have e : j = T := he
    rw [e]; exact hK
  · have hlt : j < w.length := by simp at h; walk_at "om"
    obtain ⟨g, hg, hd⟩ := drop_cons hlt
    rw [hd] at he
    unfold spn at he
    refine onIdx_t hw hg ?_
    walk_at "vs"
    walk_at "vt"
    refine ⟨fun h => ?_, fun h => ?_⟩
    · rw [if_pos (show isSp g = true from h)] at he
      exact ⟨_, by walk_at "om", j + 1, rfl, by walk_at "om", rfl, by walk_at "om"⟩
    · rw [if_neg (show ¬ isSp g = true by unfold isSp; rw [h]; decide)] at he
      have e : j = T := by walk_at "om"
      rw [e]; exact hK
theorem vc_name_end (args : List SV) (c : CO) (K : SV → CO → Prop) (KE : Addr → CO → Prop) : S_name_end args c K KE → sPure (sDef 2 2 p_name_end) args c K KE := by
  rintro ⟨w, i, rfl, hw, hi, hK⟩
  refine ⟨⟨_, rfl⟩, rfl, ?_⟩
  obtain ⟨T, hT⟩ : ∃ T, T = i + spn isLet (w.drop i) := ⟨_, rfl⟩
  rw [← hT] at hK
  unfold p_name_end
  rw [e_pSeq]
  try unfold pWhile
  refine ⟨fun n ρ c' => ∃ j : Nat, ρ = [some (.d (.str (tx w))), some (.d (.int j))] ∧ c' = .none ∧ j ≤ w.length ∧ n = w.length - j ∧ j + spn isLet (w.drop j) = T, ⟨_, i, rfl, rfl, hi, rfl, hT.symm⟩, ?_⟩
  rintro n ρ c' ⟨j, rfl, rfl, hj, rfl, he⟩
  walk_at "vs"
  walk_at "vt"
  refine ⟨tx_lt hw, fun h => ?_, fun h => ?_⟩
  · have : w.drop j = [] := List.drop_eq_nil_of_le (by simp at h; walk_at "om")
    rw [this] at he
    have e : j = T := he
    rw [e]; exact hK
  · have hlt : j < w.length := by simp at h; walk_at "om"
    obtain ⟨g, hg, hd⟩ := drop_cons hlt
    rw [hd] at he
    unfold spn at he
    have yes : isLet g = true → ∃ m, m < w.length - j ∧ ∃ j_1 : Nat, [some (SV.d (.str (tx w))), some (.d (.int ((j : Int) + 1)))] = [some (.d (.str (tx w))), some (.d (.int j_1))] ∧ j_1 ≤ w.length ∧ m = w.length - j_1 ∧ j_1 + spn isLet (w.drop j_1) = T := fun h => by
      rw [if_pos h] at he
      exact ⟨_, by walk_at "om", j + 1, rfl, by walk_at "om", rfl, by walk_at "om"⟩
    have no : isLet g = false → K (.d (.int (j : Int))) c := fun h => by
      rw [if_neg (by rw [h]; decide)] at he
      have e : j = T := by walk_at "om"
      rw [e]; exact hK
    clear he
    refine onIdx_t hw hg ?_
    walk_at "vs"
    walk_at "vt"
    refine ⟨fun h1 => ?_, fun h1 => ⟨fun h2 => ?_, fun h2 => ?_⟩⟩
    · refine onIdx_t hw hg ?_
      walk_at "vs"
      walk_at "vt"
      refine ⟨fun h3 => no (by unfold isLet; rw [h1, h3]; rfl), fun h3 => ⟨fun h4 => yes (by unfold isLet; rw [h1, h3, h4]; rfl), fun h4 => no (by unfold isLet; rw [h1, h3, h4]; rfl)⟩⟩
    · exact yes (by unfold isLet; rw [h1, h2]; rfl)
    · refine onIdx_t hw hg ?_
      walk_at "vs"
      walk_at "vt"
      refine ⟨fun h3 => no (by unfold isLet; rw [h1, h2, h3]; rfl), fun h3 => ⟨fun h4 => yes (by unfold isLet; rw [h1, h2, h3, h4]; rfl), fun h4 => no (by unfold isLet; rw [h1, h2, h3, h4]; rfl)⟩⟩
section
-- part N4
variable {args : List SV} {c : CO} {K : SV → CO → Prop} {KE : Addr → CO → Prop}
open PySem PySem.W PyProof.Rows PySem.Calls PySem.Builtin PySem.Builtin.Str PySem.Builtin.ObjectAttr
theorem sLower_t {w : List Nat} (hl : w.length < 2 ^ 20) (ha : ∀ c ∈ w, c < 128) {c : CO} {K : SV → CO → Prop} {KE : Addr → CO → Prop} (h : K (.d (.str (tx (w.map lo1)))) c) : sLower [.d (.str (tx w))] c K KE := by
  show tooLong (Txt.lower (tx w)).length = false ∧ K (.d (.str (Txt.lower (tx w)))) c
  rw [lower_t ha]
  refine ⟨?_, h⟩
  unfold tooLong
  rw [tx_len, List.length_map, decide_eq_false_iff_not, sizeLine_eq]
  walk_at "om"
theorem lo1_e (w : List Nat) : (101 ∈ w.map lo1) ↔ w.any isE = true := by
  rw [List.mem_map, List.any_eq_true]
  constructor
  · rintro ⟨a, h, e⟩
    refine ⟨a, h, ?_⟩
    unfold lo1 at e
    unfold isE
    split at e
    · have : a = 69 := by walk_at "om"
      subst this; decide
    · subst e; decide
  · rintro ⟨a, h, e⟩
    refine ⟨a, h, ?_⟩
    unfold isE at e
    simp only [List.mem_cons, List.not_mem_nil, or_false, decide_eq_true_eq] at e
    rcases e with rfl | rfl <;> decide
theorem sizeOk {n : Nat} (h : n < 2 ^ 20) : n ≤ sizeLine := by rw [sizeLine_eq]; walk_at "om"
theorem ne_step {w : List Nat} {i j pts g : Nat} {first : Bool} {Kn : Env1 → CO → Prop} {Kr : SV → CO → Prop} {Ke : Env1 → Addr → CO → Prop} (hw : w.length < 2 ^ 20) (ha : ∀ c ∈ w, c < 128) (hj : i + j ≤ w.length)
   (h1 : g = 46 → (pts + 1 > 1 ∨ ((w.drop i).take j).any isE = true) → Kr (.d (.int ((i + j : Nat) : Int))) .none)
   (h2 : g = 46 → ¬ (pts + 1 > 1 ∨ ((w.drop i).take j).any isE = true) → Kn [some (.d (.str (tx w))), some (.d (.int ((i + j + 1 : Nat) : Int))), some (.d (.int (i : Int))), some (.d (.int ((pts + 1 : Nat) : Int))), some (.d (.str (tx [g]))), some (.d (.bool first))] .none)
   (h3 : ¬ g = 46 → (isPM g = true ∧ first = false ∨ isPM g = false ∧ isE g = true ∧ first = true ∨ isPM g = false ∧ isE g = false ∧ isDig g = false) → Kr (.d (.int ((i + j : Nat) : Int))) .none)
   (h4 : ¬ g = 46 → ¬ (isPM g = true ∧ first = false ∨ isPM g = false ∧ isE g = true ∧ first = true ∨ isPM g = false ∧ isE g = false ∧ isDig g = false) → Kn [some (.d (.str (tx w))), some (.d (.int ((i + j + 1 : Nat) : Int))), some (.d (.int (i : Int))), some (.d (.int (pts : Int))), some (.d (.str (tx [g]))), some (.d (.bool first))] .none) :
   p_number_end_b [some (.d (.str (tx w))), some (.d (.int ((i + j : Nat) : Int))), some (.d (.int (i : Int))), some (.d (.int (pts : Int))), some (.d (.str (tx [g]))), some (.d (.bool first))] .none Kn Kr Ke := by
  unfold p_number_end_b
  walk_at "vs"
  walk_at "vt"
  have e1 : ((i + j : Nat) : Int) + 1 = ((i + j + 1 : Nat) : Int) := by walk_at "om"
  have e2 : (pts : Int) + 1 = ((pts + 1 : Nat) : Int) := by walk_at "om"
  try rw [e1]
  refine ⟨fun h => ?_, fun h => ?_⟩
  · have hg : g = 46 := by simpa using h
    subst hg
    refine ⟨fun q => h1 rfl (.inl (by simp at q; walk_at "om")), fun q => ⟨sizeOk hw, ?_⟩⟩
    rw [slice_t w (Nat.le_add_right i j) hj, Nat.add_sub_cancel_left]
    refine sLower_t (by rw [List.length_take, List.length_drop]; exact om14 hw) (fun c hc => ha c (List.mem_of_mem_drop (List.mem_of_mem_take hc))) ?_
    walk_at "vs"
    walk_at "vt"
    try rw [e2]
    refine ⟨fun h => h1 rfl (.inr ((lo1_e _).mp (by simpa using h))), fun h => h2 rfl fun r => ?_⟩
    rcases r with r | r
    · simp at q; walk_at "om"
    · have := (lo1_e _).mpr r
      rw [decide_eq_false_iff_not] at h
      exact h this
  · have hg : ¬ g = 46 := by simpa using h
    refine ⟨fun p => ?_, fun p => ⟨fun q => ?_, fun q => ?_⟩⟩
    · refine ⟨fun r => h3 hg (.inl ⟨p, by simpa using r⟩), fun r => h4 hg fun s => ?_⟩
      have p : isPM g = true := p
      rw [p] at s
      simp at s r
      rw [s] at r; cases r
    · have p : isPM g = false := p
      have q : isE g = true := q
      refine ⟨fun r => h3 hg (.inr (.inl ⟨p, q, r⟩)), fun r => h4 hg fun s => ?_⟩
      rw [p, q, r] at s
      simp at s
    · have p : isPM g = false := p
      have q : isE g = false := q
      refine ⟨fun r => h3 hg (.inr (.inr ⟨p, q, by unfold isDig; rw [r]; rfl⟩)), fun r => ⟨fun s => h3 hg (.inr (.inr ⟨p, q, ?_⟩)), fun s => h4 hg fun u => ?_⟩⟩
      · unfold isDig
        rw [Bool.not_eq_true'] at s
        rw [r, s]; rfl
      · rw [Bool.not_eq_false'] at s
        have : isDig g = true := by unfold isDig; rw [r, s]; rfl
        rw [p, q, this] at u
        simp at u
theorem scan_dot {f : Bool} {p : Nat} {e : Bool} {r : List Nat} (h : p + 1 > 1 ∨ e = true) : scan f p e (46 :: r) = 0 := by
  unfold scan; rw [if_pos rfl, if_pos h]
theorem scan_dot' {f : Bool} {p : Nat} {e : Bool} {r : List Nat} (h : ¬ (p + 1 > 1 ∨ e = true)) : scan f p e (46 :: r) = scan false (p + 1) e r + 1 := by
  rw [scan, if_pos rfl, if_neg h]
theorem scan_stop {f : Bool} {p g : Nat} {e : Bool} {r : List Nat} (h : ¬ g = 46) (q : isPM g = true ∧ f = false ∨ isPM g = false ∧ isE g = true ∧ f = true ∨ isPM g = false ∧ isE g = false ∧ isDig g = false) : scan f p e (g :: r) = 0 := by
  unfold scan; rw [if_neg h]
  rcases q with ⟨a, b⟩ | ⟨a, b, c⟩ | ⟨a, b, c⟩
  · rw [a, b]; rfl
  · rw [a, b, c]; rfl
  · rw [a, b, c]; rfl
theorem pm_notE {g : Nat} (h : isPM g = true) : isE g = false := by
  unfold isPM at h
  simp only [List.mem_cons, List.not_mem_nil, or_false, decide_eq_true_eq] at h
  rcases h with rfl | rfl <;> decide
theorem scan_on {f : Bool} {p g : Nat} {e : Bool} {r : List Nat} (h : ¬ g = 46) (q : ¬ (isPM g = true ∧ f = false ∨ isPM g = false ∧ isE g = true ∧ f = true ∨ isPM g = false ∧ isE g = false ∧ isDig g = false)) :
   scan f p e (g :: r) = scan (isE g) p (e || isE g) r + 1 := by
  rw [scan, if_neg h]
  cases hp : isPM g with
  | true =>
    rw [pm_notE hp]
    rw [hp] at q
    cases f with
    | false => simp at q
    | true => simp
  | false =>
    rw [hp] at q
    cases he : isE g with
    | true =>
      rw [he] at q
      cases f with
      | true => simp at q
      | false => simp
    | false =>
      rw [he] at q
      cases hd : isDig g with
      | false => rw [hd] at q; simp at q
      | true => simp
theorem take_any {u : List Nat} {j g : Nat} {p : Nat → Bool} (h : u[j]? = some g) : (u.take (j + 1)).any p = ((u.take j).any p || p g) := by
  rw [List.take_add_one, h, List.any_append]; simp
theorem vc_number_end (args : List SV) (c : CO) (K : SV → CO → Prop) (KE : Addr → CO → Prop) : S_number_end args c K KE → sPure (sDef 2 6 p_number_end) args c K KE := by
  rintro ⟨w, i, rfl, ⟨hw, hasc⟩, hi, hK⟩
  refine ⟨⟨_, rfl⟩, rfl, ?_⟩
  obtain ⟨T, hT⟩ : ∃ T, T = i + scan true 0 false (w.drop i) := ⟨_, rfl⟩
  rw [← hT] at hK
  unfold p_number_end
  walk_at "vs"
  refine ⟨by walk_at "vd", ?_⟩
  try unfold pWhile
  refine ⟨fun n ρ c' => ∃ (j pts : Nat) (first e : Bool) (s4 s5 : Option SV), ρ = [some (.d (.str (tx w))), some (.d (.int ((i + j : Nat) : Int))), some (.d (.int (i : Int))), some (.d (.int (pts : Int))), s4, s5] ∧ c' = .none ∧ i + j ≤ w.length ∧ n = w.length - (i + j) ∧
     i + j + scan first pts e (w.drop (i + j)) = T ∧ first = (decide (j = 0) || isE ((w[i + j - 1]?).getD 0)) ∧ e = ((w.drop i).take j).any isE, ⟨_, 0, 0, true, false, none, none, rfl, rfl, hi, rfl, hT.symm, rfl, rfl⟩, ?_⟩
  rintro n ρ c' ⟨j, pts, first, e, s4, s5, rfl, rfl, hj, rfl, he, hf, hee⟩
  walk_at "vs"
  walk_at "vt"
  refine ⟨tx_lt (by walk_at "om"), fun h => ?_, fun h => ?_⟩
  · have hlt : i + j < w.length := by simp at h; walk_at "om"
    obtain ⟨g, hg, hd⟩ := drop_cons hlt
    refine onIdx_t (by walk_at "om") hg ?_
    generalize hKn : (fun (ρ' : Env1) (c' : CO) => ∃ m, m < w.length - (i + j) ∧ ∃ (j pts : Nat) (first e : Bool) (s4 s5 : Option SV), ρ' = [some (.d (.str (tx w))), some (.d (.int ((i + j : Nat) : Int))), some (.d (.int (i : Int))), some (.d (.int (pts : Int))), s4, s5] ∧ c' = .none ∧ i + j ≤ w.length ∧ m = w.length - (i + j) ∧
     i + j + scan first pts e (w.drop (i + j)) = T ∧ first = (decide (j = 0) || isE ((w[i + j - 1]?).getD 0)) ∧ e = ((w.drop i).take j).any isE) = Kn
    have key : p_number_end_b [some (.d (.str (tx w))), some (.d (.int ((i + j : Nat) : Int))), some (.d (.int (i : Int))), some (.d (.int (pts : Int))), some (.d (.str (tx [g]))), some (.d (.bool first))] .none Kn (finS CO.none (puK K c)) (finK .none (puE KE c)) := by
      subst hKn
      rw [hd] at he
      have hge : ((w.drop i).take (j + 1)).any isE = (e || isE g) := by
        rw [take_any (g := g) (by rw [List.getElem?_drop]; exact hg), ← hee]
      have hgi : (w[i + (j + 1) - 1]?).getD 0 = g := by rw [show i + (j + 1) - 1 = i + j by walk_at "om", hg]; rfl
      refine ne_step hw hasc hj (fun h q => ?_) (fun h q => ?_) (fun h q => ?_) (fun h q => ?_)
      · subst h
        rw [← hee] at q
        rw [scan_dot q, Nat.add_zero] at he
        rw [he]; exact hK
      · subst h
        rw [← hee] at q
        rw [scan_dot' q] at he
        refine ⟨_, by walk_at "om", j + 1, pts + 1, false, e, _, _, rfl, rfl, by walk_at "om", rfl, ?_, ?_, ?_⟩
        · rw [← he]; show i + j + 1 + scan _ _ _ (w.drop (i + j + 1)) = _; walk_at "om"
        · rw [hgi]; rfl
        · rw [hge]; simp [isE]
      · rw [scan_stop h q, Nat.add_zero] at he
        rw [he]; exact hK
      · rw [scan_on h q] at he
        refine ⟨_, by walk_at "om", j + 1, pts, isE g, e || isE g, _, _, rfl, rfl, by walk_at "om", rfl, ?_, ?_, ?_⟩
        · rw [← he]; show i + j + 1 + scan _ _ _ (w.drop (i + j + 1)) = _; walk_at "om"
        · rw [hgi]; simp
        · rw [hge]
    clear hKn
    generalize p_number_end_b = pb at key ⊢
    refine ⟨fun q => ?_, fun q => ?_⟩
    · have : j = 0 := by simp at q; walk_at "om"
      subst this
      rw [show first = true from hf] at key
      exact key
    · have hj0 : j ≠ 0 := by
        intro z; subst z; simp at q
      have hlt' : i + j - 1 < w.length := by walk_at "om"
      have hg' := List.getElem?_eq_getElem hlt'
      walk_at "vs"
      rw [show ((i + j : Nat) : Int) - 1 = ((i + j - 1 : Nat) : Int) by walk_at "om"]
      refine onIdx_t (by walk_at "om") hg' ?_
      walk_at "vs"
      try rw [cIn_t]
      rw [hg'] at hf
      have : first = decide (w[i + j - 1] ∈ [101, 69]) := by
        rw [hf, decide_eq_false hj0]; rfl
      rw [this] at key
      exact key
  · have : w.drop (i + j) = [] := List.drop_eq_nil_of_le (by simp at h; walk_at "om")
    rw [this] at he
    have e : i + j = T := he
    rw [e]; exact hK
theorem vc_gap_end (args : List SV) (c : CO) (K : SV → CO → Prop) (KE : Addr → CO → Prop) : S_gap_end args c K KE → sPure (sDef 2 2 p_gap_end) args c K KE := by
  rintro ⟨w, i, rfl, hw, hi, hK, hE⟩
  refine ⟨⟨_, rfl⟩, rfl, ?_⟩
  unfold p_gap_end
  walk_at "vs"
  refine i_spaces_end w i rfl hw hi ?_
  walk_at "vs"
  walk_at "vt"
  have hsp := spn_le isSp (w.drop i)
  rw [List.length_drop] at hsp
  generalize hn : spn isSp (w.drop i) = n at *
  have hdd : (w.drop i).drop n = w.drop (i + n) := List.drop_drop
  unfold gapN at hK hE
  rw [hn, hdd] at hK hE
  refine ⟨tx_lt hw, fun h => ?_, fun h => ?_⟩
  · have : w.drop (i + n) = [] := List.drop_eq_nil_of_le (by simp at h; walk_at "om")
    rw [this] at hK
    exact hK n rfl
  · have hlt : i + n < w.length := by simp at h; walk_at "om"
    obtain ⟨g, hg, hd⟩ := drop_cons hlt
    rw [hd] at hK hE
    dsimp only at hK hE
    refine onIdx_t hw hg ?_
    walk_at "vs"
    walk_at "vt"
    refine ⟨fun q => ?_, fun q => ?_⟩
    · have hg : g = 44 := by simpa using q
      subst hg
      rw [if_pos rfl] at hK hE
      refine i_spaces_end w (i + n + 1) rfl hw (by walk_at "om") ?_
      try walk_at "vs"
      try walk_at "vt"
      have hsp2 := spn_le isSp (w.drop (i + n + 1))
      rw [List.length_drop] at hsp2
      refine ⟨tx_lt hw, fun r => hE ?_, fun r => ?_⟩
      · rw [if_pos]
        rw [List.length_drop]
        simp at r; walk_at "om"
      · have := hK (n + 1 + spn isSp (w.drop (i + n + 1))) (by
          rw [if_neg]
          rw [List.length_drop]
          simp at r; walk_at "om")
        rw [show ((i + n + 1 + spn isSp (w.drop (i + n + 1)) : Nat) : Int) = ((i + (n + 1 + spn isSp (w.drop (i + n + 1))) : Nat) : Int) by walk_at "om"]
        exact this
    · have hg : ¬ g = 44 := by simpa using q
      rw [if_neg hg] at hK
      exact hK n rfl
noncomputable def cutF : Nat → List Nat → Option (List (List Nat))
  | 0, _ => some []
  | k + 1, w => if w = [] then some [] else
    if scan true 0 false w = 0 then none else
    match gapN (w.drop (scan true 0 false w)) with
    | none => none
    | some m => (cutF k (w.drop (scan true 0 false w + m))).map (w.take (scan true 0 false w) :: ·)
noncomputable def S_cut_numbers : Spec := fun args c K KE => ∃ w, args = [.d (.str (tx w))] ∧ TOk w ∧ (∀ ts, cutF w.length w = some ts → K (.d (.lst (ts.map tD))) c) ∧ (cutF w.length w = none → KE 68 c)
theorem i_cut_numbers (w) (h0 : args = [.d (.str (tx w))]) (h1 : TOk w) (h2 : (∀ ts, cutF w.length w = some ts → K (.d (.lst (ts.map tD))) c)) (h3 : (cutF w.length w = none → KE 68 c)) : S_cut_numbers args c K KE := ⟨w, h0, h1, h2, h3⟩
theorem gapN_le {l : List Nat} {m : Nat} (h : gapN l = some m) : m ≤ l.length := by
  unfold gapN at h
  have h1 := spn_le isSp l
  split at h
  · cases h; exact h1
  · rename_i c r hd
    have hl : (l.drop (spn isSp l)).length = r.length + 1 := by rw [hd]; rfl
    rw [List.length_drop] at hl
    have h2 := spn_le isSp r
    split at h
    · split at h
      · cases h
      · cases h; walk_at "om"
    · cases h; exact h1
theorem cutF_nil (k : Nat) : cutF k [] = some [] := by cases k <;> simp [cutF]
noncomputable def p_cut_numbers : PS := (pSeq (pNewLst2 1 2 0) (pSeq (pWhile (pCmp cLt (pLoc 2) (pCall sLen (pCons (pLoc 0) pNil))) (pSeq (pAsg 3 (pLoc 2)) (pSeq (pAsg 2 (pCall S_number_end (pCons (pLoc 0) (pCons (pLoc 2) pNil)))) (pSeq (pIfS (pCmp cEq (pLoc 2) (pLoc 3)) (pSeq (pRaise 68 (pLit (.str (Str.ofString "a number of a transform is missing")))) pSkip) pSkip) (pSeq (pExp (pMeth isLst sApp (pLoc 1) (pCons (pCut (pLoc 0) (pOSome (pLoc 3)) (pOSome (pLoc 2))) pNil))) (pSeq (pAsg 2 (pCall S_gap_end (pCons (pLoc 0) (pCons (pLoc 2) pNil)))) pSkip)))))) (pSeq (pRet (pLoc 1)) pSkip)))
theorem vc_cut_numbers (args : List SV) (c : CO) (K : SV → CO → Prop) (KE : Addr → CO → Prop) : S_cut_numbers args c K KE → sPure (sDef 1 4 p_cut_numbers) args c K KE := by
  rintro ⟨w, rfl, ⟨hw, ha⟩, hK, hE⟩
  refine ⟨⟨_, rfl⟩, rfl, ?_⟩
  unfold p_cut_numbers
  walk_at "vs"
  try unfold pWhile
  refine ⟨fun n ρ c' => ∃ (j k : Nat) (acc : List (List Nat)) (s3 : Option SV), ρ = [some (.d (.str (tx w))), some .cell, some (.d (.int (j : Int))), s3] ∧ c' = .lst (acc.map tD) ∧ j ≤ w.length ∧ n = w.length - j ∧ w.length - j ≤ k ∧
    acc.length ≤ j ∧ cutF w.length w = (cutF k (w.drop j)).map (acc ++ ·), ⟨_, 0, w.length, [], none, rfl, rfl, Nat.zero_le _, rfl, Nat.le_refl _, Nat.le_refl _, ?_⟩, ?_⟩
  · rw [List.drop_zero]; cases cutF w.length w <;> rfl
  rintro n ρ c' ⟨j, k, acc, s3, rfl, rfl, hj, rfl, hk, hacc, he⟩
  walk_at "vs"
  walk_at "vt"
  refine ⟨tx_lt (by walk_at "om"), fun h => ?_, fun h => ?_⟩
  · have hlt : j < w.length := by simp at h; walk_at "om"
    obtain ⟨k, rfl⟩ : ∃ k', k = k' + 1 := ⟨k - 1, by walk_at "om"⟩
    have hne : w.drop j ≠ [] := fun q => by have := congrArg List.length q; simp at this; walk_at "om"
    rw [cutF, if_neg hne] at he
    refine i_number_end w j rfl ⟨hw, ha⟩ hj ?_
    try walk_at "vs"
    try walk_at "vt"
    have hsl := scan_le (w.drop j) true 0 false
    rw [List.length_drop] at hsl
    generalize hn : scan true 0 false (w.drop j) = m at *
    refine ⟨fun q => hE ?_, fun q => ?_⟩
    · have : m = 0 := by simp at q; walk_at "om"
      rw [he, if_pos this]; rfl
    · have hm : ¬ m = 0 := by intro z; subst z; simp at q
      rw [if_neg hm, List.drop_drop] at he
      refine ⟨sizeOk hw, ?_⟩
      rw [slice_t w (Nat.le_add_right j m) (by walk_at "om"), Nat.add_sub_cancel_left]
      refine ⟨by rw [sizeLine_eq, List.length_map]; walk_at "om", i_gap_end w (j + m) rfl (by walk_at "om") (by walk_at "om") (fun g hg => ?_) (fun hg => hE ?_)⟩
      · rw [hg] at he
        dsimp only at he
        try walk_at "vs"
        have hgl := gapN_le hg
        rw [List.length_drop] at hgl
        refine ⟨_, om11 hsl hm, j + m + g, k, acc ++ [(w.drop j).take m], _, rfl, by rw [List.map_append]; rfl, om12 hsl hm hgl, rfl, om13 hsl hm hk, by simp; walk_at "om", ?_⟩
        rw [he, List.drop_drop, Option.map_map, show j + (m + g) = j + m + g by walk_at "om"]
        congr 1
        funext l
        simp
      · rw [he, hg]; rfl
  · have hd : w.drop j = [] := List.drop_eq_nil_of_le (by simp at h; walk_at "om")
    rw [hd, cutF_nil] at he
    try walk_at "vs"
    exact hK _ (by rw [he]; simp)
end
section
-- part N5
variable {args : List SV} {c : CO} {K : SV → CO → Prop} {KE : Addr → CO → Prop}
open PySem PySem.W PyProof.Rows PySem.Calls PySem.Builtin PySem.Builtin.Str PySem.Builtin.ObjectAttr
noncomputable def hd1 (u l : List Nat) : Bool := match u with | [] => false | g :: _ => decide (g ∈ l)
noncomputable def S_NumberText_is_one_of : Spec := fun args c K _ => ∃ (w : List Nat) (i : Nat) (l : List Nat), args = [.cell, .d (.str (tx l))] ∧ c = .rd (tx w) (i : Int) ∧ w.length < 2 ^ 20 ∧ i ≤ w.length ∧ K (.d (.bool (hd1 (w.drop i) l))) c
theorem i_NumberText_is_one_of (w : List Nat) (i : Nat) (l : List Nat) (h0 : args = [.cell, .d (.str (tx l))]) (h1 : c = .rd (tx w) (i : Int)) (h2 : w.length < 2 ^ 20) (h3 : i ≤ w.length) (h4 : K (.d (.bool (hd1 (w.drop i) l))) c) : S_NumberText_is_one_of args c K KE := ⟨w, i, l, h0, h1, h2, h3, h4⟩
noncomputable def S_NumberText_skip : Spec := fun args c K _ => ∃ (w : List Nat) (i : Nat) (l : List Nat), args = [.cell, .d (.str (tx l))] ∧ c = .rd (tx w) (i : Int) ∧ w.length < 2 ^ 20 ∧ i ≤ w.length ∧
  (∀ g r, w.drop i = g :: r → g ∈ l → K (.d (.str (tx [g]))) (.rd (tx w) ((i + 1 : Nat) : Int))) ∧ (hd1 (w.drop i) l = false → K (.d (.str (tx []))) c)
theorem i_NumberText_skip (w : List Nat) (i : Nat) (l : List Nat) (h0 : args = [.cell, .d (.str (tx l))]) (h1 : c = .rd (tx w) (i : Int)) (h2 : w.length < 2 ^ 20) (h3 : i ≤ w.length) (h4 : (∀ g r, w.drop i = g :: r → g ∈ l → K (.d (.str (tx [g]))) (.rd (tx w) ((i + 1 : Nat) : Int)))) (h5 : (hd1 (w.drop i) l = false → K (.d (.str (tx []))) c)) : S_NumberText_skip args c K KE := ⟨w, i, l, h0, h1, h2, h3, h4, h5⟩
noncomputable def S_NumberText_digits : Spec := fun args c K _ => ∃ (w : List Nat) (i : Nat), args = [.cell] ∧ c = .rd (tx w) (i : Int) ∧ w.length < 2 ^ 20 ∧ i ≤ w.length ∧
  K (.d (.str (tx ((w.drop i).take (spn isDig (w.drop i)))))) (.rd (tx w) ((i + spn isDig (w.drop i) : Nat) : Int))
theorem i_NumberText_digits (w : List Nat) (i : Nat) (h0 : args = [.cell]) (h1 : c = .rd (tx w) (i : Int)) (h2 : w.length < 2 ^ 20) (h3 : i ≤ w.length) (h4 : K (.d (.str (tx ((w.drop i).take (spn isDig (w.drop i)))))) (.rd (tx w) ((i + spn isDig (w.drop i) : Nat) : Int))) : S_NumberText_digits args c K KE := ⟨w, i, h0, h1, h2, h3, h4⟩
noncomputable def val (ds : List Nat) : Nat := ds.foldl (fun n d => n * 10 + (d - 48)) 0
noncomputable def S_whole_of : Spec := fun args c K _ => ∃ ds : List Nat, args = [.d (.str (tx ds))] ∧ (∀ d ∈ ds, isDig d = true) ∧ ds.length ≤ 200 ∧ K (.d (.int (val ds : Nat))) c
theorem i_whole_of (ds : List Nat) (h0 : args = [.d (.str (tx ds))]) (h1 : (∀ d ∈ ds, isDig d = true)) (h2 : ds.length ≤ 200) (h3 : K (.d (.int (val ds : Nat))) c) : S_whole_of args c K KE := ⟨ds, h0, h1, h2, h3⟩
noncomputable def p_NumberText_is_one_of : PS := (pSeq (pRet (pAndV (pVal (pCmp cLt (pFld fAt (pLoc 0)) (pCall sLen (pCons (pFld fText (pLoc 0)) pNil)))) (pVal (pCmp cIn (pIdx (pFld fText (pLoc 0)) (pFld fAt (pLoc 0))) (pLoc 1))))) pSkip)
noncomputable def p_NumberText_skip : PS := (pSeq (pIfS (pNot (pTest (pMeth isRd S_NumberText_is_one_of (pLoc 0) (pCons (pLoc 1) pNil)))) (pSeq (pRet (pLit (.str (Str.ofString "")))) pSkip) pSkip) (pSeq (pIncAt 0 1) (pSeq (pRet (pIdx (pFld fText (pLoc 0)) (pBin oSub (pFld fAt (pLoc 0)) (pLit (.int 1))))) pSkip)))
noncomputable def p_NumberText_digits : PS := (pSeq (pAsg 1 (pFld fAt (pLoc 0))) (pSeq (pWhile (pTest (pMeth isRd S_NumberText_is_one_of (pLoc 0) (pCons (pLit c_DIGITS) pNil))) (pSeq (pIncAt 0 1) pSkip)) (pSeq (pRet (pCut (pFld fText (pLoc 0)) (pOSome (pLoc 1)) (pOSome (pFld fAt (pLoc 0))))) pSkip)))
noncomputable def p_whole_of : PS := (pSeq (pAsg 1 (pLit (.int 0))) (pSeq (pFor (gName 2) (pIter (pLoc 0)) (pSeq (pAsg 1 (pBin oAdd (pBin oMul (pLoc 1) (pLit (.int 10))) (pMeth isText sIndex (pLit c_DIGITS) (pCons (pLoc 2) pNil)))) pSkip)) (pSeq (pRet (pLoc 1)) pSkip)))
theorem vc_NumberText_is_one_of (args : List SV) (c : CO) (K : SV → CO → Prop) (KE : Addr → CO → Prop) : S_NumberText_is_one_of args c K KE → sDef 2 2 p_NumberText_is_one_of args c K KE := by
  rintro ⟨w, i, l, rfl, rfl, hw, hi, hK⟩
  refine ⟨rfl, ?_⟩
  unfold p_NumberText_is_one_of
  walk_at "vs"
  walk_at "vt"
  refine ⟨tx_lt (by walk_at "om"), fun h => ?_, fun h => ?_⟩
  · have hd : w.drop i = [] := List.drop_eq_nil_of_le (by simp at h; walk_at "om")
    rw [hd] at hK
    exact hK
  · have hlt : i < w.length := by simp at h; walk_at "om"
    obtain ⟨g, hg, hd⟩ := drop_cons hlt
    rw [hd] at hK
    refine onIdx_t (by walk_at "om") hg ?_
    try walk_at "vs"
    walk_at "vt"
    exact hK
theorem vc_NumberText_skip (args : List SV) (c : CO) (K : SV → CO → Prop) (KE : Addr → CO → Prop) : S_NumberText_skip args c K KE → sDef 2 2 p_NumberText_skip args c K KE := by
  rintro ⟨w, i, l, rfl, rfl, hw, hi, h1, h0⟩
  refine ⟨rfl, ?_⟩
  unfold p_NumberText_skip
  walk_at "vs"
  try walk_at "vt"
  refine i_NumberText_is_one_of w i l rfl rfl hw hi ?_
  try walk_at "vs"
  try walk_at "vt"
  refine ⟨fun h => h0 (by simpa using h), fun h => ?_⟩
  have h : hd1 (w.drop i) l = true := by simpa using h
  have hlt : i < w.length := by
    rcases Nat.lt_or_ge i w.length with q | q
    · exact q
    · rw [List.drop_eq_nil_of_le q] at h; cases h
  obtain ⟨g, hg, hd⟩ := drop_cons hlt
  rw [hd] at h
  rw [show (i : Int) + 1 - 1 = (i : Int) by walk_at "om"]
  refine onIdx_t (by walk_at "om") hg ?_
  exact h1 g _ hd (by simpa [hd1] using h)
theorem mem_dig : ∀ g ∈ [48, 49, 50, 51, 52, 53, 54, 55, 56, 57], isDig g = true := by decide
theorem dig_all {P : Nat → Prop} (h : ∀ k, k < 10 → P (48 + k)) {d : Nat} (hd : isDig d = true) : P d := by
  unfold isDig at hd
  rw [Bool.and_eq_true, decide_eq_true_eq, decide_eq_true_eq] at hd
  have e := h (d - 48) (by omega)
  rwa [Nat.add_sub_cancel' hd.1] at e
theorem dig_mem {d : Nat} (h : isDig d = true) : d ∈ [48, 49, 50, 51, 52, 53, 54, 55, 56, 57] := dig_all (P := fun d => d ∈ [48, 49, 50, 51, 52, 53, 54, 55, 56, 57]) (by decide) h
theorem vc_NumberText_digits (args : List SV) (c : CO) (K : SV → CO → Prop) (KE : Addr → CO → Prop) : S_NumberText_digits args c K KE → sDef 1 2 p_NumberText_digits args c K KE := by
  rintro ⟨w, i, rfl, rfl, hw, hi, hK⟩
  refine ⟨rfl, ?_⟩
  unfold p_NumberText_digits
  walk_at "vs"
  try unfold pWhile
  refine ⟨fun n ρ c' => ∃ j : Nat, ρ = [some .cell, some (.d (.int (i : Int)))] ∧ c' = .rd (tx w) ((i + j : Nat) : Int) ∧ i + j ≤ w.length ∧ n = w.length - (i + j) ∧ j + spn isDig (w.drop (i + j)) = spn isDig (w.drop i), ⟨_, 0, rfl, rfl, hi, rfl, by simp⟩, ?_⟩
  rintro n ρ c' ⟨j, rfl, rfl, hj, rfl, he⟩
  walk_at "vs"
  walk_at "vt"
  refine i_NumberText_is_one_of w (i + j) _ rfl rfl hw hj ?_
  try walk_at "vs"
  try walk_at "vt"
  refine ⟨fun h => ?_, fun h => ?_⟩
  · have hlt : i + j < w.length := by
      rcases Nat.lt_or_ge (i + j) w.length with q | q
      · exact q
      · rw [List.drop_eq_nil_of_le q] at h; cases h
    obtain ⟨g, hg, hd⟩ := drop_cons hlt
    rw [hd] at h he
    have hgd : isDig g = true := mem_dig g (of_decide_eq_true h)
    have he : j + (spn isDig (w.drop (i + j + 1)) + 1) = spn isDig (w.drop i) := by
      rw [← he]
      conv => rhs; unfold spn
      rw [if_pos hgd]
    refine ⟨_, by walk_at "om", j + 1, rfl, by walk_at "om", rfl, by rw [show i + (j + 1) = i + j + 1 by walk_at "om"]; walk_at "om"⟩
  · have h0 : spn isDig (w.drop (i + j)) = 0 := by
      rcases Nat.lt_or_ge (i + j) w.length with q | q
      · obtain ⟨g, hg, hd⟩ := drop_cons q
        rw [hd] at h ⊢
        unfold spn
        exact if_neg fun z => of_decide_eq_false h (dig_mem z)
      · rw [List.drop_eq_nil_of_le q]; rfl
    rw [h0, Nat.add_zero] at he
    refine ⟨sizeOk hw, ?_⟩
    rw [slice_t w (Nat.le_add_right i j) hj, Nat.add_sub_cancel_left, he]
    exact hK
theorem val_snoc (ds : List Nat) (d : Nat) : val (ds ++ [d]) = val ds * 10 + (d - 48) := by unfold val; rw [List.foldl_append]; rfl
theorem fold_lt : ∀ (ds : List Nat) (a : Nat), (∀ d ∈ ds, isDig d = true) → ds.foldl (fun n d => n * 10 + (d - 48)) a < (a + 1) * 10 ^ ds.length
  | [], a, _ => by simp
  | d :: ds, a, h => by
    have h1 := fold_lt ds (a * 10 + (d - 48)) fun e he => h e (.tail _ he)
    have h2 := h d (.head _)
    unfold isDig at h2
    simp at h2
    rw [List.foldl_cons, List.length_cons, Nat.pow_succ]
    refine Nat.lt_of_lt_of_le h1 ?_
    rw [Nat.mul_comm (10 ^ ds.length) 10, ← Nat.mul_assoc]
    exact Nat.mul_le_mul_right _ (by walk_at "om")
theorem val_lt (ds : List Nat) (h : ∀ d ∈ ds, isDig d = true) : val ds < 10 ^ ds.length := by
  have := fold_lt ds 0 h
  rwa [Nat.zero_add, Nat.one_mul] at this
theorem ten_lt (n : Nat) : 10 ^ n ≤ P2 (4 * n) := by
  unfold P2
  rw [Nat.pow_mul]
  exact Nat.pow_le_pow_left (by walk_at "vd") n
theorem idx_dig {d : Nat} (h : isDig d = true) : Builtin.Str.occurrences (tx [48, 49, 50, 51, 52, 53, 54, 55, 56, 57]) (tx [d]) 0 (tx [48, 49, 50, 51, 52, 53, 54, 55, 56, 57]).length 1 = [d - 48] :=
  dig_all (P := fun d => Builtin.Str.occurrences (tx [48, 49, 50, 51, 52, 53, 54, 55, 56, 57]) (tx [d]) 0 (tx [48, 49, 50, 51, 52, 53, 54, 55, 56, 57]).length 1 = [d - 48]) (by decide +kernel) h
theorem take_snoc {α : Type} {l : List α} {k : Nat} {y : α} (h : l[k]? = some y) : l.take (k + 1) = l.take k ++ [y] := by rw [List.take_add_one, h]; rfl
theorem vc_whole_of (args : List SV) (c : CO) (K : SV → CO → Prop) (KE : Addr → CO → Prop) : S_whole_of args c K KE → sPure (sDef 1 3 p_whole_of) args c K KE := by
  rintro ⟨ds, rfl, hd, hl, hK⟩
  refine ⟨⟨_, rfl⟩, rfl, ?_⟩
  unfold p_whole_of
  walk_at "vs"
  try unfold pFor
  walk_at "vs"
  have hall : (tx ds).cps.all (· < 128) = true := by
    rw [Array.all_eq_true_iff_forall_mem]
    intro x hx
    have := hd x (by simpa [tx] using hx)
    unfold isDig at this
    simp at this ⊢
    walk_at "om"
  refine ⟨hall, fun k ρ c' => ∃ s2, ρ = [some (.d (.str (tx ds))), some (.d (.int (val (ds.take k) : Nat))), s2] ∧ c' = .none, ⟨none, rfl, rfl⟩, ?_, ?_⟩
  · rintro k ρ c' y hy ⟨s2, rfl, rfl⟩
    have hy : (ds.map fun g => D.str ⟨#[g]⟩)[k]? = some y := hy
    rw [List.getElem?_map] at hy
    obtain ⟨g, hg, rfl⟩ := Option.map_eq_some_iff.mp hy
    walk_at "vs"
    walk_at "vt"
    have hgd := hd g (List.mem_of_getElem? hg)
    have hv : (val (ds.take k) : Nat) < P2 800 := by
      refine Nat.lt_of_lt_of_le (Nat.lt_of_lt_of_le (val_lt _ fun d q => hd d (List.mem_of_mem_take q)) ?_) (ten_lt 200)
      exact Nat.pow_le_pow_right (by walk_at "vd") (by simp; walk_at "om")
    refine ⟨mul_ok (a := (val (ds.take k) : Nat)) (by rw [Int.natAbs_natCast]; exact hv) (b := 10) (m := 4) (by walk_at "vd") (by walk_at "vd") (by walk_at "vd"), g - 48, [], idx_dig hgd, ?_⟩
    try walk_at "vs"
    rw [take_snoc hg, val_snoc]
    exact ⟨_, rfl, rfl⟩
  · rintro ρ c' ⟨s2, rfl, rfl⟩
    try walk_at "vs"
    have : ((tx ds).cps.toList.map fun g => D.str ⟨#[g]⟩).length = ds.length := by simp [tx]
    rw [this, List.take_length]
    exact hK
end
section
-- part N6
variable {args : List SV} {c : CO} {K : SV → CO → Prop} {KE : Addr → CO → Prop}
open PySem PySem.W PyProof.Rows PySem.Calls PySem.Builtin PySem.Builtin.Str PySem.Builtin.ObjectAttr
theorem drop_go {w a b : List Nat} {i : Nat} (h : w.drop i = a ++ b) : w.drop (i + a.length) = b := by rw [← List.drop_drop, h, List.drop_left]
theorem le_go {w a b : List Nat} {i : Nat} (h : w.drop i = a ++ b) (hi : i ≤ w.length) : i + a.length ≤ w.length := by
  have := congrArg List.length h
  rw [List.length_drop, List.length_append] at this
  walk_at "om"
noncomputable def stop (p : Nat → Bool) : List Nat → Bool
  | [] => true
  | g :: _ => !p g
theorem spn_go {p : Nat → Bool} : ∀ {a b : List Nat}, (∀ d ∈ a, p d = true) → stop p b = true → spn p (a ++ b) = a.length
  | [], [], _, _ => rfl
  | [], g :: r, _, h => by
    show spn p (g :: r) = 0
    unfold spn
    rw [if_neg]
    have h : (!p g) = true := h
    intro q; rw [q] at h; cases h
  | d :: a, b, ha, h => by
    show spn p (d :: (a ++ b)) = _
    unfold spn
    rw [if_pos (ha d (.head _)), spn_go (fun e q => ha e (.tail _ q)) h]
    rfl
theorem skip_go {w l sgn rest : List Nat} {i : Nat} {K : SV → CO → Prop} {KE : Addr → CO → Prop} (hw : w.length < 2 ^ 20) (hi : i ≤ w.length) (hd : w.drop i = sgn ++ rest) (hs : (sgn = [] ∧ hd1 rest l = false) ∨ ∃ g, g ∈ l ∧ sgn = [g])
    (k : K (.d (.str (tx sgn))) (.rd (tx w) ((i + sgn.length : Nat) : Int))) : S_NumberText_skip [.cell, .d (.str (tx l))] (.rd (tx w) (i : Int)) K KE := by
  refine i_NumberText_skip w i l rfl rfl hw hi (fun g r h q => ?_) (fun h => ?_)
  · rcases hs with ⟨rfl, h2⟩ | ⟨g', h1, rfl⟩
    · have hd : w.drop i = rest := hd
      rw [← hd, h] at h2
      simp [hd1] at h2
      exact absurd q h2
    · rw [h] at hd
      cases hd
      exact k
  · rcases hs with ⟨rfl, h2⟩ | ⟨g', h1, rfl⟩
    · exact k
    · rw [hd] at h
      simp [hd1] at h
      exact absurd h1 h
theorem digits_go {w ds rest : List Nat} {i : Nat} {K : SV → CO → Prop} {KE : Addr → CO → Prop} (hw : w.length < 2 ^ 20) (hi : i ≤ w.length) (hd : w.drop i = ds ++ rest) (h1 : ∀ d ∈ ds, isDig d = true) (h2 : stop isDig rest = true)
    (k : K (.d (.str (tx ds))) (.rd (tx w) ((i + ds.length : Nat) : Int))) : S_NumberText_digits [.cell] (.rd (tx w) (i : Int)) K KE := by
  refine i_NumberText_digits w i rfl rfl hw hi ?_
  rw [hd, spn_go h1 h2, List.take_left]
  exact k
noncomputable def esT : Option (List Nat) → List Nat
  | none => []
  | some e => 101 :: e
noncomputable def ptT : Option (List Nat) → List Nat
  | none => []
  | some e => 46 :: e
noncomputable def eVal : Option (List Nat) → Nat
  | none => 0
  | some e => val e
noncomputable def EsOk (es : Option (List Nat)) : Prop := ∀ e, es = some e → e ≠ [] ∧ (∀ d ∈ e, isDig d = true) ∧ e.length ≤ 9 ∧ val e ≤ 300
theorem stop_es (es : Option (List Nat)) : stop isDig (esT es) = true := by cases es <;> rfl
theorem stop_pt (pt es : Option (List Nat)) : stop isDig (ptT pt ++ esT es) = true := by cases pt <;> cases es <;> rfl
noncomputable def S_read_exponent : Spec := fun args c K _ => ∃ (w : List Nat) (i : Nat) (es : Option (List Nat)), args = [.cell] ∧ c = .rd (tx w) (i : Int) ∧ w.length < 2 ^ 20 ∧ i ≤ w.length ∧ w.drop i = esT es ∧ EsOk es ∧ K (.d (.int (eVal es : Nat))) (.rd (tx w) (w.length : Nat))
theorem i_read_exponent (w : List Nat) (i : Nat) (es : Option (List Nat)) (h0 : args = [.cell]) (h1 : c = .rd (tx w) (i : Int)) (h2 : w.length < 2 ^ 20) (h3 : i ≤ w.length) (h4 : w.drop i = esT es) (h5 : EsOk es) (h6 : K (.d (.int (eVal es : Nat))) (.rd (tx w) (w.length : Nat))) : S_read_exponent args c K KE := ⟨w, i, es, h0, h1, h2, h3, h4, h5, h6⟩
structure NumP (neg : Bool) (wh : List Nat) (pt es : Option (List Nat)) : Prop where
  hw : ∀ d ∈ wh, isDig d = true
  hp : ∀ d ∈ pt.getD [], isDig d = true
  he : EsOk es
  ne : wh ++ pt.getD [] ≠ []
  few : wh.length + (pt.getD []).length ≤ 100
noncomputable def sgT (neg : Bool) : List Nat := if neg then [45] else []
noncomputable def numText (neg : Bool) (wh : List Nat) (pt es : Option (List Nat)) : List Nat := sgT neg ++ (wh ++ (ptT pt ++ esT es))
noncomputable def numQ (neg : Bool) (wh : List Nat) (pt es : Option (List Nat)) : Rat :=
  let n : Int := if neg then -(val (wh ++ pt.getD []) : Nat) else (val (wh ++ pt.getD []) : Nat)
  let E : Int := (eVal es : Nat) - ((pt.getD []).length : Nat)
  if E < 0 then Rat.divInt n (10 ^ (-E).toNat) else ((n * 10 ^ E.toNat : Int) : Rat)
noncomputable def NumT (t : List Nat) (q : Rat) : Prop := ∃ neg wh pt es, NumP neg wh pt es ∧ t = numText neg wh pt es ∧ q = numQ neg wh pt es
noncomputable def S_read_decimal : Spec := fun args c K _ => ∃ t q, args = [.d (.str (tx t))] ∧ NumT t q ∧ K (.d (qD q)) c
theorem i_read_decimal (t q) (h0 : args = [.d (.str (tx t))]) (h1 : NumT t q) (h2 : K (.d (qD q)) c) : S_read_decimal args c K KE := ⟨t, q, h0, h1, h2⟩
noncomputable def p_read_exponent : PS := (pSeq (pIfS (pCmp cEq (pMeth isRd S_NumberText_skip (pLoc 0) (pCons (pLit (.str (Str.ofString "eE"))) pNil)) (pLit (.str (Str.ofString "")))) (pSeq (pRet (pLit (.int 0))) pSkip) pSkip) (pSeq (pSwp [1, 2] (pTup (pCons (pMeth isRd S_NumberText_skip (pLoc 0) (pCons (pLit (.str (Str.ofString "+-"))) pNil)) (pCons (pMeth isRd S_NumberText_digits (pLoc 0) pNil) pNil)))) (pSeq (pIfS (pOr (pCmp cEq (pLoc 2) (pLit (.str (Str.ofString "")))) (pOr (pCmp cGt (pCall sLen (pCons (pLoc 2) pNil)) (pLit (.int 9))) (pCmp cGt (pCall S_whole_of (pCons (pLoc 2) pNil)) (pLit c_MOST_EXPONENT)))) (pSeq (pRaise 44 (pLit (.str (Str.ofString "an exponent that is not read")))) pSkip) pSkip) (pSeq (pRet (pIf (pCmp cEq (pLoc 1) (pLit (.str (Str.ofString "-")))) (pNeg (pCall S_whole_of (pCons (pLoc 2) pNil))) (pCall S_whole_of (pCons (pLoc 2) pNil)))) pSkip))))
noncomputable def p_read_decimal_b : PS := (pSeq (pIfS (pCmp cEq (pBin oAdd (pLoc 3) (pLoc 4)) (pLit (.str (Str.ofString "")))) (pSeq (pRaise 44 (pBin oAdd (pLit (.str (Str.ofString "no number: "))) (pLoc 0))) pSkip) pSkip) (pSeq (pAsg 5 (pBin oSub (pCall S_read_exponent (pCons (pLoc 1) pNil)) (pCall sLen (pCons (pLoc 4) pNil)))) (pSeq (pIfS (pCmp cLt (pFld fAt (pLoc 1)) (pCall sLen (pCons (pLoc 0) pNil))) (pSeq (pRaise 44 (pBin oAdd (pLit (.str (Str.ofString "no number: "))) (pLoc 0))) pSkip) pSkip) (pSeq (pAsg 6 (pCall S_whole_of (pCons (pBin oAdd (pLoc 3) (pLoc 4)) pNil))) (pSeq (pIfS (pCmp cEq (pLoc 2) (pLit (.str (Str.ofString "-")))) (pSeq (pAsg 6 (pNeg (pLoc 6))) pSkip) pSkip) (pSeq (pIfS (pCmp cLt (pLoc 5) (pLit (.int 0))) (pSeq (pRet (pCall S_fraction (pCons (pLoc 6) (pCons (pBin oPow (pLit (.int 10)) (pNeg (pLoc 5))) pNil)))) pSkip) pSkip) (pSeq (pRet (pTup (pCons (pBin oMul (pLoc 6) (pBin oPow (pLit (.int 10)) (pLoc 5))) (pCons (pLit (.int 1)) pNil)))) pSkip)))))))
noncomputable def p_read_decimal : PS := (pSeq (pNewRd 1 (pLoc 0)) (pSeq (pSwp [2, 3, 4] (pTup (pCons (pMeth isRd S_NumberText_skip (pLoc 1) (pCons (pLit (.str (Str.ofString "+-"))) pNil)) (pCons (pMeth isRd S_NumberText_digits (pLoc 1) pNil) (pCons (pLit (.str (Str.ofString ""))) pNil))))) (pSeq (pIfS (pCmp cNe (pMeth isRd S_NumberText_skip (pLoc 1) (pCons (pLit (.str (Str.ofString "."))) pNil)) (pLit (.str (Str.ofString "")))) (pSeq (pAsg 4 (pMeth isRd S_NumberText_digits (pLoc 1) pNil)) pSkip) pSkip) p_read_decimal_b)))
theorem vc_read_exponent (args : List SV) (c : CO) (K : SV → CO → Prop) (KE : Addr → CO → Prop) : S_read_exponent args c K KE → sDef 1 3 p_read_exponent args c K KE := by
  rintro ⟨w, i, es, rfl, rfl, hw, hi, hd, hes, hK⟩
  refine ⟨rfl, ?_⟩
  unfold p_read_exponent
  walk_at "vs"
  walk_at "vt"
  cases es with
  | none =>
    have hii : i = w.length := by
      have := congrArg List.length hd
      rw [List.length_drop] at this
      have e0 : (esT none).length = 0 := rfl
      walk_at "om"
    refine skip_go (sgn := []) (rest := []) hw hi hd (.inl ⟨rfl, rfl⟩) ?_
    try walk_at "vs"
    try walk_at "vt"
    refine ⟨fun _ => ?_, fun h => ?_⟩
    · have e : i + 0 = w.length := by walk_at "om"
      show K _ (.rd (tx w) ((i + 0 : Nat) : Int))
      rw [e]; exact hK
    · simp at h
  | some e =>
    obtain ⟨h1, h2, h3, h4⟩ := hes e rfl
    refine skip_go (sgn := [101]) (rest := e) hw hi hd (.inr ⟨101, by walk_at "vd", rfl⟩) ?_
    try walk_at "vs"
    try walk_at "vt"
    have d1 := drop_go (a := [101]) (b := e) hd
    have l1 := le_go (a := [101]) (b := e) hd hi
    have hnpm : hd1 e [43, 45] = false := by
      cases e with
      | nil => rfl
      | cons g r =>
        have := h2 g (.head _)
        unfold isDig at this
        simp [hd1] at this ⊢
        walk_at "om"
    refine ⟨fun h => by simp at h, fun _ => skip_go (sgn := []) (rest := e) hw l1 d1 (.inl ⟨rfl, hnpm⟩) ?_⟩
    try walk_at "vs"
    try walk_at "vt"
    have d2 : w.drop (i + 1 + 0) = e ++ [] := by rw [List.append_nil]; exact d1
    refine digits_go (ds := e) (rest := []) hw l1 d2 h2 rfl ?_
    try walk_at "vs"
    try walk_at "vt"
    have ha : e.length ≤ 200 := by walk_at "om"
    refine ⟨by walk_at "vd", fun h => by simp at h; exact absurd h h1, fun _ => ⟨by walk_at "om", fun h => by simp at h; walk_at "om", fun _ => ⟨e, rfl, h2, ha, ?_⟩⟩⟩
    unfold c_MOST_EXPONENT
    try walk_at "vs"
    refine ⟨fun h => by simp at h; walk_at "om", fun _ => ⟨fun h => by (try rw [tx_beq] at h); simp at h, fun _ => ⟨e, rfl, h2, ha, ?_⟩⟩⟩
    have el : i + 1 + 0 + e.length = w.length := by
      have := congrArg List.length hd
      rw [List.length_drop] at this
      have e0 : (esT (some e)).length = e.length + 1 := rfl
      walk_at "om"
    try walk_at "vs"
    show K _ (.rd (tx w) ((i + 1 + 0 + e.length : Nat) : Int))
    rw [el]; exact hK
theorem pow_bits {k : Nat} (h : k ≤ 1000) : (Builtin.Int.intBits 10 : Int) * (k : Int) ≤ 2 ^ 27 := by
  have : Builtin.Int.intBits 10 = 4 := by walk_at "vd"
  rw [this]; walk_at "om"
theorem pow10_abs (k : Nat) : ((10 : Int) ^ k).natAbs = 10 ^ k := by rw [Int.natAbs_pow]; rfl
theorem pow10_lt {k n : Nat} (h : 4 * k < n) : ((10 : Int) ^ k).natAbs < P2 n := by
  rw [pow10_abs]
  refine Nat.lt_of_le_of_lt (ten_lt k) ?_
  exact Nat.pow_lt_pow_right (by walk_at "vd") h
theorem val_small {ds : List Nat} (h : ∀ d ∈ ds, isDig d = true) (hl : ds.length ≤ 100) : val ds < P2 400 :=
  Nat.lt_of_lt_of_le (Nat.lt_of_lt_of_le (val_lt ds h) (Nat.pow_le_pow_right (by walk_at "vd") hl)) (ten_lt 100)
theorem rd_tail {t wh pts : List Nat} {neg : Bool} {pt es : Option (List Nat)} {i : Nat} {Kn : Env1 → CO → Prop} {Kr : SV → CO → Prop} {Ke : Env1 → Addr → CO → Prop} (N : NumP neg wh pt es) (hw : t.length < 2 ^ 20) (hi : i ≤ t.length) (hd : t.drop i = esT es)
    (hpt : pts = pt.getD []) (hk : Kr (.d (qD (numQ neg wh pt es))) (.rd (tx t) (t.length : Nat))) :
    p_read_decimal_b [some (.d (.str (tx t))), some .cell, some (.d (.str (tx (sgT neg)))), some (.d (.str (tx wh))), some (.d (.str (tx pts))), none, none] (.rd (tx t) (i : Nat)) Kn Kr Ke := by
  subst hpt
  obtain ⟨hwd, hpd, he, hne, hfew⟩ := N
  unfold p_read_decimal_b
  walk_at "vs"
  walk_at "vt"
  have hsz : wh.length + (pt.getD []).length ≤ sizeLine := by rw [sizeLine_eq]; walk_at "om"
  have hdig : ∀ d ∈ wh ++ pt.getD [], isDig d = true := fun d h => by
    rcases List.mem_append.mp h with h | h
    · exact hwd d h
    · exact hpd d h
  have hlen : (wh ++ pt.getD []).length ≤ 100 := by rw [List.length_append]; exact hfew
  have hv := val_small hdig hlen
  refine ⟨hsz, fun h => absurd (by simpa using h) hne, fun _ => ⟨t, i, es, rfl, rfl, hw, hi, hd, he, ?_⟩⟩
  try walk_at "vs"
  try walk_at "vt"
  refine ⟨by walk_at "om", by walk_at "om", fun h => by simp at h, fun _ => ⟨hsz, wh ++ pt.getD [], rfl, hdig, by walk_at "om", ?_⟩⟩
  try walk_at "vs"
  try walk_at "vt"
  unfold numQ at hk
  dsimp only at hk
  generalize hn : val (wh ++ pt.getD []) = n at *
  have hE : eVal es ≤ 300 := by
    cases es with
    | none => exact Nat.zero_le _
    | some e => exact (he e rfl).2.2.2
  generalize hE' : ((eVal es : Nat) : Int) - ((pt.getD []).length : Nat) = E at *
  have fin : ∀ nn : Int, nn = (if neg then -(n : Int) else (n : Int)) → (decide (E < 0) = true → 0 ≤ -E ∧ (Builtin.Int.intBits 10 : Int) * -E ≤ 2 ^ 27 ∧ S_fraction [.d (.int nn), .d (.int (10 ^ (-E).toNat))] (.rd (tx t) (t.length : Nat)) Kr (Ke [some (.d (.str (tx t))), some .cell, some (.d (.str (tx (sgT neg)))), some (.d (.str (tx wh))), some (.d (.str (tx (pt.getD [])))), some (.d (.int E)), some (.d (.int nn))])) ∧
      (decide (E < 0) = false → 0 ≤ E ∧ (Builtin.Int.intBits 10 : Int) * E ≤ 2 ^ 27 ∧ IntMulOk nn (10 ^ E.toNat) ∧ 2 ≤ sizeLine ∧ Kr (.d (.tup [.int (nn * 10 ^ E.toNat), .int 1])) (.rd (tx t) (t.length : Nat))) := by
    intro nn hnn
    have hab : nn.natAbs < P2 400 := by rw [hnn]; cases neg <;> simp <;> exact hv
    rw [← hnn] at hk
    refine ⟨fun h => ?_, fun h => ?_⟩
    · have h : E < 0 := by simpa using h
      rw [if_pos h] at hk
      have e1 : -E = (((-E).toNat : Nat) : Int) := by walk_at "om"
      refine ⟨by walk_at "om", by rw [e1]; exact pow_bits (by walk_at "om"), i_fraction _ _ rfl ?_ (P2_le hab (by walk_at "vd")) (pow10_lt (by walk_at "om")) hk⟩
      have : (0 : Int) < 10 ^ (-E).toNat := Int.pow_pos (by walk_at "vd")
      walk_at "om"
    · have h : ¬ E < 0 := by simpa using h
      rw [if_neg h] at hk
      have e1 : E = ((E.toNat : Nat) : Int) := by walk_at "om"
      refine ⟨by walk_at "om", by rw [e1]; exact pow_bits (by walk_at "om"), mul_ok hab (pow10_lt (n := 1300) (by walk_at "om")) (by walk_at "vd") (by walk_at "vd"), by walk_at "vd", hk⟩
  refine ⟨fun h => fin (-n) ?_, fun h => fin n ?_⟩
  · cases neg with
    | true => rfl
    | false => simp [sgT] at h
  · cases neg with
    | false => rfl
    | true => simp [sgT] at h
theorem vc_read_decimal (args : List SV) (c : CO) (K : SV → CO → Prop) (KE : Addr → CO → Prop) : S_read_decimal args c K KE → sPure (sDef 1 7 p_read_decimal) args c K KE := by
  rintro ⟨t, q, rfl, ⟨neg, wh, pt, es, N, rfl, rfl⟩, hK⟩
  refine ⟨⟨_, rfl⟩, rfl, ?_⟩
  have N' := N
  obtain ⟨hwd, hpd, he, hne, hfew⟩ := N
  have hlen : (numText neg wh pt es).length < 2 ^ 20 := by
    unfold numText
    simp only [List.length_append]
    have h1 : (sgT neg).length ≤ 1 := by cases neg <;> decide
    have h2 : (ptT pt).length ≤ 1 + (pt.getD []).length := by cases pt <;> simp [ptT]; walk_at "om"
    have h3 : (esT es).length ≤ 10 := by
      cases es with
      | none => simp [esT]
      | some e => have := (he e rfl).2.2.1; simp [esT]; walk_at "om"
    walk_at "om"
  generalize ht : numText neg wh pt es = t at *
  have d0 : t.drop 0 = sgT neg ++ (wh ++ (ptT pt ++ esT es)) := ht.symm
  have d1 := drop_go d0
  have l1 := le_go d0 (Nat.zero_le _)
  have d2 := drop_go d1
  have l2 := le_go d1 l1
  unfold p_read_decimal
  walk_at "vs"
  walk_at "vt"
  refine skip_go (i := 0) hlen (Nat.zero_le _) d0 ?_ ?_
  · cases neg with
    | true => exact .inr ⟨45, by walk_at "vd", rfl⟩
    | false =>
      refine .inl ⟨rfl, ?_⟩
      cases wh with
      | cons g r =>
        have := hwd g (.head _)
        unfold isDig at this
        simp [hd1] at this ⊢
        walk_at "om"
      | nil =>
        cases pt with
        | none => exact absurd rfl hne
        | some p => rfl
  try walk_at "vs"
  try walk_at "vt"
  refine digits_go hlen l1 d1 hwd (stop_pt pt es) ?_
  try walk_at "vs"
  try walk_at "vt"
  refine ⟨by walk_at "vd", ?_⟩
  have fin : ∀ (Kn : Env1 → CO → Prop) (i : Nat) (pts : List Nat), i ≤ t.length → t.drop i = esT es → pts = pt.getD [] → p_read_decimal_b [some (.d (.str (tx t))), some .cell, some (.d (.str (tx (sgT neg)))), some (.d (.str (tx wh))), some (.d (.str (tx pts))), none, none] (.rd (tx t) (i : Nat)) Kn (finS .none (puK K c)) (finK .none (puE KE c)) := fun Kn i pts h1 h2 h3 => by
    refine rd_tail N' hlen h1 h2 h3 ?_
    rw [finS_nd]
    show K _ _
    exact hK
  generalize p_read_decimal_b = pb at fin ⊢
  cases pt with
  | none =>
    refine skip_go (sgn := []) (rest := esT es) hlen l2 d2 (.inl ⟨rfl, by cases es <;> rfl⟩) ?_
    try walk_at "vs"
    try walk_at "vt"
    refine ⟨fun h => by simp at h, fun _ => fin _ _ _ l2 d2 rfl⟩
  | some p =>
    refine skip_go (sgn := [46]) (rest := p ++ esT es) hlen l2 d2 (.inr ⟨46, by walk_at "vd", rfl⟩) ?_
    try walk_at "vs"
    try walk_at "vt"
    have d3 := drop_go (a := [46]) (b := p ++ esT es) d2
    have l3 := le_go (a := [46]) (b := p ++ esT es) d2 l2
    refine ⟨fun _ => ?_, fun h => by simp at h⟩
    refine digits_go hlen l3 d3 hpd (stop_es es) ?_
    try walk_at "vs"
    exact fin _ _ _ (le_go d3 l3) (drop_go d3) rfl
end
section
-- part N7
variable {args : List SV} {c : CO} {K : SV → CO → Prop} {KE : Addr → CO → Prop}
open PySem PySem.W PyProof.Rows PySem.Calls PySem.Builtin PySem.Builtin.Str PySem.Builtin.ObjectAttr
noncomputable def NumTs (ts : List (List Nat)) (qs : List Rat) : Prop := ts.length = qs.length ∧ ∀ (i : Nat) t, ts[i]? = some t → ∃ q, qs[i]? = some q ∧ NumT t q
noncomputable def S_read_numbers : Spec := fun args c K KE => ∃ w, args = [.d (.str (tx w))] ∧ TOk w ∧ ((∃ ts qs, cutF (w.drop (spn isSp w)).length (w.drop (spn isSp w)) = some ts ∧ NumTs ts qs ∧ ts.length ≤ 1000 ∧ K (.d (.lst (qs.map qD))) c) ∨
  (cutF (w.drop (spn isSp w)).length (w.drop (spn isSp w)) = none ∧ KE 68 c))
theorem i_read_numbers (w) (h0 : args = [.d (.str (tx w))]) (h1 : TOk w) (h2 : ((∃ ts qs, cutF (w.drop (spn isSp w)).length (w.drop (spn isSp w)) = some ts ∧ NumTs ts qs ∧ ts.length ≤ 1000 ∧ K (.d (.lst (qs.map qD))) c) ∨ (cutF (w.drop (spn isSp w)).length (w.drop (spn isSp w)) = none ∧ KE 68 c))) : S_read_numbers args c K KE := ⟨w, h0, h1, h2⟩
noncomputable def p_read_numbers : PS := (pSeq (pNewLst 1) (pSeq (pFor (gName 2) (pIter (pCall S_cut_numbers (pCons (pCut (pLoc 0) (pOSome (pCall S_spaces_end (pCons (pLoc 0) (pCons (pLit (.int 0)) pNil)))) pONone) pNil))) (pSeq (pTryQ (pSeq (pExp (pMeth isLst sApp (pLoc 1) (pCons (pCall S_read_decimal (pCons (pLoc 2) pNil)) pNil))) pSkip)) pSkip)) (pSeq (pRet (pLoc 1)) pSkip)))
theorem vc_read_numbers (args : List SV) (c : CO) (K : SV → CO → Prop) (KE : Addr → CO → Prop) : S_read_numbers args c K KE → sPure (sDef 1 4 p_read_numbers) args c K KE := by
  rintro ⟨w, rfl, ⟨hw, ha⟩, hK⟩
  refine ⟨⟨_, rfl⟩, rfl, ?_⟩
  unfold p_read_numbers
  walk_at "vs"
  try unfold pFor
  walk_at "vs"
  refine ⟨w, 0, rfl, by walk_at "om", Nat.zero_le _, ?_⟩
  try walk_at "vs"
  try walk_at "vt"
  have hsp := spn_le isSp w
  rw [List.drop_zero, Nat.zero_add, slice_from w hsp]
  refine ⟨sizeOk hw, ?_⟩
  generalize hu : w.drop (spn isSp w) = u at *
  have hul : u.length ≤ w.length := by rw [← hu]; simp
  refine i_cut_numbers u rfl ⟨by walk_at "om", fun g hg => ha g (List.mem_of_mem_drop (by rw [hu]; exact hg))⟩ (fun ts hts => ?_) (fun h => ?_)
  · rcases hK with ⟨ts', qs, h1, ⟨h2, h3⟩, hl, hK⟩ | ⟨h1, _⟩
    · rw [hts] at h1
      cases h1
      try walk_at "vs"
      refine ⟨fun k ρ c' => ∃ s2 s3, ρ = [some (.d (.str (tx w))), some .cell, s2, s3] ∧ c' = .lst ((qs.take k).map qD), ⟨none, none, rfl, rfl⟩, ?_, ?_⟩
      · rintro k ρ c' y hy ⟨s2, s3, rfl, rfl⟩
        rw [List.getElem?_map] at hy
        obtain ⟨t, ht, rfl⟩ := Option.map_eq_some_iff.mp hy
        obtain ⟨q, hq, hN⟩ := h3 k t ht
        walk_at "vs"
        refine i_read_decimal t q rfl hN ?_
        try walk_at "vs"
        refine ⟨?_, ?_⟩
        · rw [sizeLine_eq, List.length_map]
          have : (qs.take k).length ≤ qs.length := by simp; walk_at "om"
          walk_at "om"
        · rw [take_snoc hq, List.map_append]; exact ⟨_, _, rfl, rfl⟩
      · rintro ρ c' ⟨s2, s3, rfl, rfl⟩
        try walk_at "vs"
        rw [List.length_map, h2, List.take_length]
        exact hK
    · rw [hts] at h1; cases h1
  · rcases hK with ⟨ts', qs, h1, _⟩ | ⟨_, hE⟩
    · rw [h] at h1; cases h1
    · exact hE
noncomputable def nMatrix : List Nat := [109, 97, 116, 114, 105, 120]
noncomputable def nTranslate : List Nat := [116, 114, 97, 110, 115, 108, 97, 116, 101]
noncomputable def nScale : List Nat := [115, 99, 97, 108, 101]
noncomputable def nRotate : List Nat := [114, 111, 116, 97, 116, 101]
noncomputable def nSkewX : List Nat := [115, 107, 101, 119, 88]
noncomputable def nSkewY : List Nat := [115, 107, 101, 119, 89]
theorem lit_matrix : Str.ofString "matrix" = tx nMatrix := by decide +kernel
theorem lit_translate : Str.ofString "translate" = tx nTranslate := by decide +kernel
theorem lit_scale : Str.ofString "scale" = tx nScale := by decide +kernel
theorem lit_rotate : Str.ofString "rotate" = tx nRotate := by decide +kernel
theorem lit_skewX : Str.ofString "skewX" = tx nSkewX := by decide +kernel
theorem lit_skewY : Str.ofString "skewY" = tx nSkewY := by decide +kernel
noncomputable def matOf (nm : List Nat) (qs : List Rat) : Option Mx :=
  match qs with
  | [a, b, c, d, e, f] => if nm = nMatrix then some ⟨a, b, c, d, e, f⟩ else none
  | [a] => if nm = nTranslate then some ⟨1, 0, 0, 1, a, 0⟩ else if nm = nScale then some ⟨a, 0, 0, a, 0, 0⟩ else none
  | [a, b] => if nm = nTranslate then some ⟨1, 0, 0, 1, a, b⟩ else if nm = nScale then some ⟨a, 0, 0, b, 0, 0⟩ else none
  | _ => none
noncomputable def S_matrix_of : Spec := fun args c K KE => ∃ nm qs, args = [.d (.str (tx nm)), .d (.lst (qs.map qD))] ∧ qs.length ≤ 1000 ∧ TOk nm ∧ nm ≠ nRotate ∧ nm ≠ nSkewX ∧ nm ≠ nSkewY ∧ (∀ M, matOf nm qs = some M → K (.d (mD M)) c) ∧ (matOf nm qs = none → KE 68 c)
theorem i_matrix_of (nm qs) (h0 : args = [.d (.str (tx nm)), .d (.lst (qs.map qD))]) (h1 : qs.length ≤ 1000) (h2 : TOk nm) (h3 : nm ≠ nRotate) (h4 : nm ≠ nSkewX) (h5 : nm ≠ nSkewY) (h6 : (∀ M, matOf nm qs = some M → K (.d (mD M)) c)) (h7 : (matOf nm qs = none → KE 68 c)) : S_matrix_of args c K KE := ⟨nm, qs, h0, h1, h2, h3, h4, h5, h6, h7⟩
noncomputable def p_matrix_of_d : PS := (pSeq (pIfS (pAnd (pCmp cEq (pLoc 0) (pLit (.str (Str.ofString "rotate")))) (pCmp cEq (pLoc 2) (pLit (.int 1)))) (pSeq (pRet (pCall sNever (pCons (pIdx (pLoc 1) (pLit (.int 0))) pNil))) pSkip) pSkip) (pSeq (pIfS (pAnd (pCmp cEq (pLoc 0) (pLit (.str (Str.ofString "rotate")))) (pCmp cEq (pLoc 2) (pLit (.int 3)))) (pSeq (pRet (pCall sNever (pCons (pIdx (pLoc 1) (pLit (.int 0))) (pCons (pIdx (pLoc 1) (pLit (.int 1))) (pCons (pIdx (pLoc 1) (pLit (.int 2))) pNil))))) pSkip) pSkip) (pSeq (pIfS (pAnd (pCmp cIn (pLoc 0) (pTup (pCons (pLit (.str (Str.ofString "skewX"))) (pCons (pLit (.str (Str.ofString "skewY"))) pNil)))) (pCmp cEq (pLoc 2) (pLit (.int 1)))) (pSeq (pRet (pCall sNever (pCons (pLoc 0) (pCons (pIdx (pLoc 1) (pLit (.int 0))) pNil)))) pSkip) pSkip) (pSeq (pRaise 68 (pBin oAdd (pLit (.str (Str.ofString "no transform: "))) (pLoc 0))) pSkip))))
noncomputable def p_matrix_of_c : PS := (pSeq (pIfS (pAnd (pCmp cEq (pLoc 0) (pLit (.str (Str.ofString "scale")))) (pCmp cIn (pLoc 2) (pTup (pCons (pLit (.int 1)) (pCons (pLit (.int 2)) pNil))))) (pSeq (pRet (pCall S_scaling (pCons (pIdx (pLoc 1) (pLit (.int 0))) (pCons (pIdx (pLoc 1) (pNeg (pLit (.int 1)))) pNil)))) pSkip) pSkip) p_matrix_of_d)
noncomputable def p_matrix_of_b : PS := (pSeq (pIfS (pAnd (pCmp cEq (pLoc 0) (pLit (.str (Str.ofString "translate")))) (pCmp cIn (pLoc 2) (pTup (pCons (pLit (.int 1)) (pCons (pLit (.int 2)) pNil))))) (pSeq (pRet (pCall S_translation (pCons (pIdx (pLoc 1) (pLit (.int 0))) (pCons (pIf (pCmp cEq (pLoc 2) (pLit (.int 2))) (pIdx (pLoc 1) (pLit (.int 1))) (pLit c_ZERO)) pNil)))) pSkip) pSkip) p_matrix_of_c)
noncomputable def p_matrix_of : PS := (pSeq (pAsg 2 (pCall sLen (pCons (pLoc 1) pNil))) (pSeq (pIfS (pAnd (pCmp cEq (pLoc 0) (pLit (.str (Str.ofString "matrix")))) (pCmp cEq (pLoc 2) (pLit (.int 6)))) (pSeq (pRet (pCall sMat (pCons (pIdx (pLoc 1) (pLit (.int 0))) (pCons (pIdx (pLoc 1) (pLit (.int 1))) (pCons (pIdx (pLoc 1) (pLit (.int 2))) (pCons (pIdx (pLoc 1) (pLit (.int 3))) (pCons (pIdx (pLoc 1) (pLit (.int 4))) (pCons (pIdx (pLoc 1) (pLit (.int 5))) pNil)))))))) pSkip) pSkip) p_matrix_of_b))
theorem cIn_12 (n : Int) (K : Bool → Prop) : cInT (.int n) (.tup [.int 1, .int 2]) K = K (decide (n = 1 ∨ n = 2)) := by
  rw [cInT_eq]
  show (true = true ∧ K (1 == n || (2 == n || false))) = _
  rw [show (1 == n || (2 == n || false)) = decide (n = 1 ∨ n = 2) by
    by_cases h1 : n = 1
    · subst h1; rfl
    · by_cases h2 : n = 2
      · subst h2; rfl
      · simp [h1, h2, Ne.symm h1, Ne.symm h2]]
  simp
theorem cIn_sk {nm : List Nat} (ha : ∀ c ∈ nm, c < 128) (h1 : nm ≠ nSkewX) (h2 : nm ≠ nSkewY) {K : Bool → Prop} (h : K false) : cInT (.str (tx nm)) (.tup [.str (tx nSkewX), .str (tx nSkewY)]) K := by
  rw [cInT_eq]
  refine ⟨?_, by decide +kernel, ?_⟩
  · unfold PyData.strOk
    rw [Array.all_eq_true_iff_forall_mem]
    intro x hx
    have := ha x (by simpa [tx] using hx)
    simp; walk_at "om"
  · show K (tx nSkewX == tx nm || (tx nSkewY == tx nm || false))
    rw [tx_beq, tx_beq, decide_eq_false (Ne.symm h1), decide_eq_false (Ne.symm h2)]
    exact h
noncomputable abbrev stM (nm : List Nat) (qs : List Rat) : Env1 := [some (.d (.str (tx nm))), some (.d (.lst (qs.map qD))), some (.d (.int (qs.length : Nat)))]
theorem mo_d {nm : List Nat} {qs : List Rat} {Kn : Env1 → CO → Prop} {Kr : SV → CO → Prop} {Ke : Env1 → Addr → CO → Prop} (T : TOk nm) (n1 : nm ≠ nRotate) (n2 : nm ≠ nSkewX) (n3 : nm ≠ nSkewY) (h : Ke (stM nm qs) 68 .none) : p_matrix_of_d (stM nm qs) .none Kn Kr Ke := by
  unfold p_matrix_of_d
  walk_at "vs"
  simp only [lit_rotate, lit_skewX, lit_skewY, tx_beq, decide_eq_false n1, Bool.false_eq_true, Bool.true_eq_false, false_implies, true_implies, and_true, true_and]
  refine ⟨by walk_at "vd", cIn_sk T.2 n2 n3 ?_⟩
  walk_at "vs"
  refine ⟨fun _ => ⟨?_, h⟩, fun q => nomatch q⟩
  have : (Str.ofString "no transform: ").length = 14 := by decide +kernel
  rw [this, sizeLine_eq]
  have := T.1
  try rw [tx_len]
  walk_at "om"
theorem mo_c {nm : List Nat} {qs : List Rat} {Kn : Env1 → CO → Prop} {Kr : SV → CO → Prop} {Ke : Env1 → Addr → CO → Prop} (T : TOk nm) (n1 : nm ≠ nRotate) (n2 : nm ≠ nSkewX) (n3 : nm ≠ nSkewY)
    (ha : ∀ a, nm = nScale → qs = [a] → Kr (.d (mD ⟨a, 0, 0, a, 0, 0⟩)) .none) (hb : ∀ a b, nm = nScale → qs = [a, b] → Kr (.d (mD ⟨a, 0, 0, b, 0, 0⟩)) .none)
    (h : ¬ (nm = nScale ∧ (qs.length = 1 ∨ qs.length = 2)) → Ke (stM nm qs) 68 .none) : p_matrix_of_c (stM nm qs) .none Kn Kr Ke := by
  have md := @mo_d
  unfold p_matrix_of_c
  generalize p_matrix_of_d = pd at md ⊢
  walk_at "vs"
  simp only [lit_scale, tx_beq, Bool.false_eq_true, Bool.true_eq_false, false_implies, true_implies, and_true, true_and]
  by_cases e : nm = nScale
  case neg =>
    rw [decide_eq_false e]
    exact ⟨fun _ => md T n1 n2 n3 (h fun q => e q.1), fun q => nomatch q⟩
  rw [decide_eq_true e]
  refine ⟨nofun, fun _ => ⟨by walk_at "vd", ?_⟩⟩
  rw [cIn_12]
  walk_at "vs"
  match qs, ha, hb, h with
  | [], _, _, h => exact ⟨fun q => by simp at q, fun _ => md T n1 n2 n3 (h (by simp))⟩
  | [a], ha, hb, h =>
    refine ⟨fun _ => onIdx_of ⟨by walk_at "vd", by walk_at "vd", ?_⟩, fun q => by simp at q⟩
    walk_at "vs"
    refine onIdx_of ⟨by walk_at "vd", by walk_at "vd", ?_⟩
    walk_at "vs"
    exact i_scaling a a rfl (ha a e rfl)
  | [a, b], ha, hb, h =>
    refine ⟨fun _ => onIdx_of ⟨by walk_at "vd", by walk_at "vd", ?_⟩, fun q => by simp at q⟩
    walk_at "vs"
    refine onIdx_of ⟨by walk_at "vd", by walk_at "vd", ?_⟩
    walk_at "vs"
    exact i_scaling a b rfl (hb a b e rfl)
  | a :: b :: d :: r, ha, hb, h =>
    refine ⟨fun q => by simp at q; walk_at "om", fun _ => md T n1 n2 n3 (h (by simp))⟩
theorem mo_b {nm : List Nat} {qs : List Rat} {Kn : Env1 → CO → Prop} {Kr : SV → CO → Prop} {Ke : Env1 → Addr → CO → Prop} (T : TOk nm) (n1 : nm ≠ nRotate) (n2 : nm ≠ nSkewX) (n3 : nm ≠ nSkewY)
    (ha : ∀ a, nm = nTranslate → qs = [a] → Kr (.d (mD ⟨1, 0, 0, 1, a, 0⟩)) .none) (hb : ∀ a b, nm = nTranslate → qs = [a, b] → Kr (.d (mD ⟨1, 0, 0, 1, a, b⟩)) .none)
    (h : ¬ (nm = nTranslate ∧ (qs.length = 1 ∨ qs.length = 2)) → p_matrix_of_c (stM nm qs) .none Kn Kr Ke) : p_matrix_of_b (stM nm qs) .none Kn Kr Ke := by
  unfold p_matrix_of_b
  generalize p_matrix_of_c = pd at h ⊢
  walk_at "vs"
  simp only [lit_translate, tx_beq, Bool.false_eq_true, Bool.true_eq_false, false_implies, true_implies, and_true, true_and]
  by_cases e : nm = nTranslate
  case neg =>
    rw [decide_eq_false e]
    exact ⟨fun _ => (h fun q => e q.1), fun q => nomatch q⟩
  rw [decide_eq_true e]
  refine ⟨nofun, fun _ => ⟨by walk_at "vd", ?_⟩⟩
  rw [cIn_12]
  walk_at "vs"
  match qs, ha, hb, h with
  | [], _, _, h => exact ⟨fun q => by simp at q, fun _ => (h (by simp))⟩
  | [a], ha, hb, h =>
    refine ⟨fun _ => onIdx_of ⟨by walk_at "vd", by walk_at "vd", ?_⟩, fun q => by simp at q⟩
    walk_at "vs"
    refine ⟨fun q => by simp at q, fun _ => ?_⟩
    exact i_translation a 0 rfl (ha a e rfl)
  | [a, b], ha, hb, h =>
    refine ⟨fun _ => onIdx_of ⟨by walk_at "vd", by walk_at "vd", ?_⟩, fun q => by simp at q⟩
    walk_at "vs"
    refine ⟨fun _ => onIdx_of ⟨by walk_at "vd", by walk_at "vd", ?_⟩, fun q => by simp at q⟩
    walk_at "vs"
    exact i_translation a b rfl (hb a b e rfl)
  | a :: b :: d :: r, ha, hb, h =>
    refine ⟨fun q => by simp at q; walk_at "om", fun _ => (h (by simp))⟩
theorem vc_matrix_of (args : List SV) (c : CO) (K : SV → CO → Prop) (KE : Addr → CO → Prop) : S_matrix_of args c K KE → sPure (sDef 2 3 p_matrix_of) args c K KE := by
  rintro ⟨nm, qs, rfl, hl, T, n1, n2, n3, hK, hE⟩
  refine ⟨⟨_, rfl⟩, rfl, ?_⟩
  have go : ¬ (nm = nMatrix ∧ qs.length = 6) → ∀ Kn, p_matrix_of_b (stM nm qs) .none Kn (finS CO.none (puK K c)) (finK .none (puE KE c)) := fun e Kn => by
    refine mo_b T n1 n2 n3 (fun a h1 h2 => ?_) (fun a b h1 h2 => ?_) fun h' => mo_c T n1 n2 n3 (fun a h1 h2 => ?_) (fun a b h1 h2 => ?_) fun h2 => hE ?_
    · subst h1 h2; exact hK _ rfl
    · subst h1 h2; exact hK _ rfl
    · subst h1 h2; exact hK _ rfl
    · subst h1 h2; exact hK _ rfl
    · rcases qs with _ | ⟨a, _ | ⟨b, _ | ⟨c2, _ | ⟨d, _ | ⟨e2, _ | ⟨f, _ | ⟨g, r⟩⟩⟩⟩⟩⟩⟩
      · rfl
      · exact (if_neg fun q => h' ⟨q, .inl rfl⟩).trans (if_neg fun q => h2 ⟨q, .inl rfl⟩)
      · exact (if_neg fun q => h' ⟨q, .inr rfl⟩).trans (if_neg fun q => h2 ⟨q, .inr rfl⟩)
      · rfl
      · rfl
      · rfl
      · exact if_neg fun q => e ⟨q, rfl⟩
      · rfl
  unfold p_matrix_of
  generalize p_matrix_of_b = pb at go ⊢
  walk_at "vs"
  simp only [lit_matrix, List.length_map, tx_beq, Bool.false_eq_true, Bool.true_eq_false, false_implies, true_implies, and_true, true_and]
  refine ⟨by walk_at "om", ?_⟩
  by_cases e : nm = nMatrix
  case neg =>
    rw [decide_eq_false e]
    exact ⟨fun _ => go (fun q => e q.1) _, fun q => nomatch q⟩
  rw [decide_eq_true e]
  refine ⟨nofun, fun _ => ⟨fun h6 => ?_, fun h6 => go (fun q => by simp at h6; walk_at "om") _⟩⟩
  have h6 : qs.length = 6 := by simp at h6; walk_at "om"
  · obtain ⟨a0, a1, a2, a3, a4, a5, rfl⟩ := len6 h6
    iterate 6 (refine onIdx_of ⟨by walk_at "vd", by walk_at "vd", ?_⟩; walk_at "vs")
    exact hK ⟨a0, a1, a2, a3, a4, a5⟩ (by subst e; rfl)
end
section
-- part N8
variable {args : List SV} {c : CO} {K : SV → CO → Prop} {KE : Addr → CO → Prop}
open PySem PySem.W PyProof.Rows PySem.Calls PySem.Builtin PySem.Builtin.Str PySem.Builtin.ObjectAttr
theorem tx_getD {w : List Nat} {k g : Nat} (h : w[k]? = some g) : (tx w).cps.getD k 0 = g := by
  have hl := (List.getElem?_eq_some_iff.mp h).1
  have : (tx w).cps[k]? = some g := by simpa [tx] using h
  simp [Array.getD_eq_getD_getElem?, this]
theorem from_nat (n b : Nat) : fromIndex n (b : Int) = b := by
  unfold fromIndex
  rw [if_neg (by walk_at "om")]
  exact om6
theorem find_none {w : List Nat} {b : Nat} (h : 41 ∉ w.drop b) : Txt.find3 (tx w) (tx [41]) (b : Int) = -1 := by
  rcases StrLaws.find3_spec (tx w) 41 (b : Int) with ⟨h1, _⟩ | ⟨k, h1, h2, h3, h4, _⟩
  · exact h1
  · exfalso
    rw [from_nat] at h2
    rw [tx_len] at h3
    have hg := List.getElem?_eq_getElem h3
    rw [tx_getD hg] at h4
    refine h (List.mem_of_getElem? (i := k - b) ?_)
    rw [List.getElem?_drop, show b + (k - b) = k by walk_at "om", hg, h4]
theorem find_some {w u rest : List Nat} {b : Nat} (h : w.drop b = u ++ 41 :: rest) (hu : 41 ∉ u) : Txt.find3 (tx w) (tx [41]) (b : Int) = ((b + u.length : Nat) : Int) := by
  have hat : ∀ i, w[b + i]? = (u ++ 41 :: rest)[i]? := fun i => by rw [← h, List.getElem?_drop]
  have hlen : b + u.length < w.length := by
    have := hat u.length
    rw [List.getElem?_append_right (Nat.le_refl _), Nat.sub_self] at this
    exact (List.getElem?_eq_some_iff.mp this).1
  have h41 : w[b + u.length]? = some 41 := by
    rw [hat, List.getElem?_append_right (Nat.le_refl _), Nat.sub_self]; rfl
  rcases StrLaws.find3_spec (tx w) 41 (b : Int) with ⟨_, h2⟩ | ⟨k, h1, h2, h3, h4, h5⟩
  · exfalso
    rw [from_nat] at h2
    exact h2 (b + u.length) (Nat.le_add_right ..) (by rw [tx_len]; exact hlen) (tx_getD h41)
  · rw [from_nat] at h2
    refine h1.trans ?_
    rw [tx_len] at h3
    have hg := List.getElem?_eq_getElem h3
    rw [tx_getD hg] at h4
    congr 1
    rcases Nat.lt_trichotomy k (b + u.length) with q | q | q
    · exfalso
      have := hat (k - b)
      rw [show b + (k - b) = k by walk_at "om", hg, List.getElem?_append_left (by walk_at "om"), h4] at this
      exact hu (List.mem_of_getElem? this.symm)
    · exact q
    · exfalso
      rw [from_nat] at h5
      exact h5 _ (Nat.le_add_right ..) q (tx_getD h41)
theorem idx_end (n : Nat) : Builtin.Str.strSliceIndices (some (n : Int)) (some ((n : Int) + 1)) 1 n = Builtin.Str.strSliceIndices (some (n : Int)) (some (n : Int)) 1 n := by
  have a : ¬ ((n : Int) < 0) := by walk_at "om"
  have b : ¬ ((n : Int) + 1 < 0) := by walk_at "om"
  have e : min ((n : Int) + 1) n = min (n : Int) n := by walk_at "om"
  simp [Builtin.Str.strSliceIndices, a, b, e]
theorem slice_end (w : List Nat) : Txt.slice (tx w) (some (w.length : Nat)) (some ((w.length : Nat) + 1)) = tx [] := by
  have : Txt.slice (tx w) (some (w.length : Nat)) (some ((w.length : Nat) + 1)) = Txt.slice (tx w) (some (w.length : Nat)) (some (w.length : Nat)) := by
    unfold Txt.slice
    rw [tx_len, idx_end]
  rw [this, slice_t w (Nat.le_refl _) (Nat.le_refl _), Nat.sub_self, List.take_zero]
structure NmOk (nm : List Nat) : Prop where
  let' : ∀ c ∈ nm, isLet c = true
  n1 : nm ≠ nRotate
  n2 : nm ≠ nSkewX
  n3 : nm ≠ nSkewY
noncomputable abbrev trimL (w : List Nat) : List Nat := w.drop (spn isSp w)
inductive RTs : List Nat → Mx → Option Mx → Prop where
  | nil (M : Mx) : RTs [] M (some M)
  | bare (nm u : List Nat) (M : Mx) : (∀ c ∈ nm, isLet c = true) → stop isLet u = true → stop isSp u = true → nm ++ u ≠ [] → (u.take 1 ≠ [40] ∨ 41 ∉ u) → RTs (nm ++ u) M none
  | bad1 (nm body rest : List Nat) (M : Mx) : NmOk nm → 41 ∉ body → cutF (trimL body).length (trimL body) = none → RTs (nm ++ 40 :: (body ++ 41 :: rest)) M none
  | bad2 (nm body rest : List Nat) (M : Mx) (ts qs) : NmOk nm → 41 ∉ body → cutF (trimL body).length (trimL body) = some ts → NumTs ts qs → ts.length ≤ 1000 → matOf nm qs = none → RTs (nm ++ 40 :: (body ++ 41 :: rest)) M none
  | step (nm body rest : List Nat) (M N : Mx) (ts qs) (res) : NmOk nm → 41 ∉ body → cutF (trimL body).length (trimL body) = some ts → NumTs ts qs → ts.length ≤ 1000 → matOf nm qs = some N → SmM 100 N → SmM 100 M →
     (∀ m, gapN rest = some m → RTs (rest.drop m) (N.thn M) res) → (gapN rest = none → res = none) → RTs (nm ++ 40 :: (body ++ 41 :: rest)) M res
noncomputable def S_read_transforms : Spec := fun args c K KE => ∃ w res, args = [.d (.str (tx w))] ∧ TOk w ∧ RTs (trimL w) ⟨1, 0, 0, 1, 0, 0⟩ res ∧ (∀ M, res = some M → K (.d (mD M)) c) ∧ (res = none → KE 68 c)
theorem i_read_transforms (w res) (h0 : args = [.d (.str (tx w))]) (h1 : TOk w) (h2 : RTs (trimL w) ⟨1, 0, 0, 1, 0, 0⟩ res) (h3 : (∀ M, res = some M → K (.d (mD M)) c)) (h4 : (res = none → KE 68 c)) : S_read_transforms args c K KE := ⟨w, res, h0, h1, h2, h3, h4⟩
noncomputable def p_read_transforms : PS := (pSeq (pSwp [1, 2] (pTup (pCons (pCall S_identity pNil) (pCons (pCall S_spaces_end (pCons (pLoc 0) (pCons (pLit (.int 0)) pNil))) pNil)))) (pSeq (pWhile (pCmp cLt (pLoc 2) (pCall sLen (pCons (pLoc 0) pNil))) (pSeq (pAsg 3 (pCall S_name_end (pCons (pLoc 0) (pCons (pLoc 2) pNil)))) (pSeq (pAsg 4 (pCall S_spaces_end (pCons (pLoc 0) (pCons (pLoc 3) pNil)))) (pSeq (pAsg 5 (pMeth isText sFind3 (pLoc 0) (pCons (pLit (.str (Str.ofString ")"))) (pCons (pLoc 4) pNil)))) (pSeq (pIfS (pOr (pCmp cNe (pCut (pLoc 0) (pOSome (pLoc 4)) (pOSome (pBin oAdd (pLoc 4) (pLit (.int 1))))) (pLit (.str (Str.ofString "(")))) (pCmp cLt (pLoc 5) (pLit (.int 0)))) (pSeq (pRaise 68 (pLit (.str (Str.ofString "a transform without its numbers")))) pSkip) pSkip) (pSeq (pAsg 1 (pMeth isMat S_Matrix_then (pCall S_matrix_of (pCons (pCut (pLoc 0) (pOSome (pLoc 2)) (pOSome (pLoc 3))) (pCons (pCall S_read_numbers (pCons (pCut (pLoc 0) (pOSome (pBin oAdd (pLoc 4) (pLit (.int 1)))) (pOSome (pLoc 5))) pNil)) pNil))) (pCons (pLoc 1) pNil))) (pSeq (pAsg 2 (pCall S_gap_end (pCons (pLoc 0) (pCons (pBin oAdd (pLoc 5) (pLit (.int 1))) pNil)))) pSkip))))))) (pSeq (pRet (pLoc 1)) pSkip)))
noncomputable def PartR (nm body rest : List Nat) (M : Mx) (res : Option Mx) : Prop :=
  (cutF (trimL body).length (trimL body) = none ∧ res = none) ∨ ∃ ts qs, cutF (trimL body).length (trimL body) = some ts ∧ NumTs ts qs ∧ ts.length ≤ 1000 ∧
    ((matOf nm qs = none ∧ res = none) ∨ ∃ N, matOf nm qs = some N ∧ SmM 100 N ∧ SmM 100 M ∧ (∀ m, gapN rest = some m → RTs (rest.drop m) (N.thn M) res) ∧ (gapN rest = none → res = none))
theorem RTs.inv {w : List Nat} {M : Mx} {res : Option Mx} (h : RTs w M res) : (w = [] ∧ res = some M) ∨
    (∃ nm u, (∀ c ∈ nm, isLet c = true) ∧ stop isLet u = true ∧ stop isSp u = true ∧ nm ++ u ≠ [] ∧ (u.take 1 ≠ [40] ∨ 41 ∉ u) ∧ w = nm ++ u ∧ res = none) ∨
    (∃ nm body rest, NmOk nm ∧ 41 ∉ body ∧ w = nm ++ 40 :: (body ++ 41 :: rest) ∧ PartR nm body rest M res) := by
  cases h with
  | nil => exact .inl ⟨rfl, rfl⟩
  | bare nm u _ h1 h2 h3 h4 h5 => exact .inr (.inl ⟨nm, u, h1, h2, h3, h4, h5, rfl, rfl⟩)
  | bad1 nm body rest _ h1 h2 h3 => exact .inr (.inr ⟨nm, body, rest, h1, h2, rfl, .inl ⟨h3, rfl⟩⟩)
  | bad2 nm body rest _ ts qs h1 h2 h3 h4 h5 h6 => exact .inr (.inr ⟨nm, body, rest, h1, h2, rfl, .inr ⟨ts, qs, h3, h4, h5, .inl ⟨h6, rfl⟩⟩⟩)
  | step nm body rest _ N ts qs _ h1 h2 h3 h4 h5 h6 h7 h8 h9 h10 => exact .inr (.inr ⟨nm, body, rest, h1, h2, rfl, .inr ⟨ts, qs, h3, h4, h5, .inr ⟨N, h6, h7, h8, h9, h10⟩⟩⟩)
theorem vc_read_transforms (args : List SV) (c : CO) (K : SV → CO → Prop) (KE : Addr → CO → Prop) : S_read_transforms args c K KE → sPure (sDef 1 6 p_read_transforms) args c K KE := by
  rintro ⟨w, res, rfl, ⟨hw, ha⟩, hR, hK, hE⟩
  refine ⟨⟨_, rfl⟩, rfl, ?_⟩
  unfold p_read_transforms
  walk_at "vs"
  refine i_identity rfl ?_
  try walk_at "vs"
  refine i_spaces_end w 0 rfl (by walk_at "om") (Nat.zero_le _) ?_
  try walk_at "vs"
  refine ⟨by walk_at "vd", ?_⟩
  rw [List.drop_zero, Nat.zero_add]
  try unfold pWhile
  refine ⟨fun n ρ c' => ∃ (j : Nat) (M : Mx) (s3 s4 s5 : Option SV), ρ = [some (.d (.str (tx w))), some (.d (mD M)), some (.d (.int (j : Int))), s3, s4, s5] ∧ c' = .none ∧ j ≤ w.length ∧ n = w.length - j ∧ RTs (w.drop j) M res,
    ⟨_, spn isSp w, _, none, none, none, rfl, rfl, spn_le isSp w, rfl, hR⟩, ?_⟩
  rintro n ρ c' ⟨j, M, s3, s4, s5, rfl, rfl, hj, rfl, hR⟩
  walk_at "vs"
  walk_at "vt"
  refine ⟨tx_lt (by walk_at "om"), fun h => ?_, fun h => ?_⟩
  · have hlt : j < w.length := by simp at h; walk_at "om"
    refine i_name_end w j rfl (by walk_at "om") hj ?_
    try walk_at "vs"
    have hle := spn_le isLet (w.drop j)
    rw [List.length_drop] at hle
    refine i_spaces_end w (j + spn isLet (w.drop j)) rfl (by walk_at "om") (by walk_at "om") ?_
    try walk_at "vs"
    try walk_at "vt"
    have hle2 := spn_le isSp (w.drop (j + spn isLet (w.drop j)))
    rw [List.length_drop] at hle2
    rcases RTs.inv hR with ⟨h0, _⟩ | ⟨nm, u, h1, h2, h3, h4, h5, hz, hres⟩ | ⟨nm, body, rest, hN, hb, hz, hP⟩
    · exfalso
      have := congrArg List.length h0
      rw [List.length_drop] at this
      have e0 : ([] : List Nat).length = 0 := rfl
      walk_at "om"
    · have e1 : spn isLet (w.drop j) = nm.length := by rw [hz]; exact spn_go h1 h2
      rw [e1] at hle hle2 ⊢
      have d1 := drop_go hz
      have e2 : spn isSp (w.drop (j + nm.length)) = 0 := by rw [d1]; exact spn_go (a := []) (fun _ q => nomatch q) h3
      rw [e2, Nat.add_zero] at ⊢
      have d2 : (w.drop (j + nm.length)).take 1 = u.take 1 := by rw [d1]
      have hcut : Txt.slice (tx w) (some ((j + nm.length : Nat) : Int)) (some (((j + nm.length : Nat) : Int) + 1)) = tx (u.take 1) := by
        rcases Nat.lt_or_ge (j + nm.length) w.length with q | q
        · rw [show ((j + nm.length : Nat) : Int) + 1 = ((j + nm.length + 1 : Nat) : Int) by walk_at "om", slice_t w (Nat.le_add_right _ 1) q, Nat.add_sub_cancel_left, d2]
        · have hu : u = [] := by rw [← d1]; exact List.drop_eq_nil_of_le q
          have e3 : j + nm.length = w.length := by walk_at "om"
          subst hu
          rw [e3]
          exact slice_end w
      show (_ ∧ _)
      walk_at "vs"
      rw [hcut, tx_bne]
      refine ⟨sizeOk hw, fun _ => ⟨fun _ => hE hres, fun z => nomatch z⟩, fun q => ?_⟩
      have ht : u.take 1 = [40] := by simpa using q
      have hn : 41 ∉ u := h5.resolve_left fun z => z ht
      rw [find_none (by rw [d1]; exact hn)]
      exact ⟨fun _ => hE hres, fun q => by simp at q⟩
    · have e1 : spn isLet (w.drop j) = nm.length := by rw [hz]; exact spn_go hN.let' rfl
      rw [e1] at hle hle2 ⊢
      have d1 := drop_go hz
      have l1 := le_go hz hj
      have e2 : spn isSp (w.drop (j + nm.length)) = 0 := by rw [d1]; rfl
      rw [e2, Nat.add_zero] at ⊢
      have d2 : w.drop (j + nm.length + 1) = body ++ 41 :: rest := drop_go (a := [40]) d1
      have d3 := drop_go d2
      have l2 : j + nm.length + 1 ≤ w.length := le_go (a := [40]) (b := body ++ 41 :: rest) d1 l1
      have l3 := le_go d2 l2
      have d4 : w.drop (j + nm.length + 1 + body.length + 1) = rest := drop_go (a := [41]) d3
      have l4 : j + nm.length + 1 + body.length + 1 ≤ w.length := le_go (a := [41]) (b := rest) d3 l3
      have hcut : Txt.slice (tx w) (some ((j + nm.length : Nat) : Int)) (some (((j + nm.length : Nat) : Int) + 1)) = tx [40] := by
        rw [show ((j + nm.length : Nat) : Int) + 1 = ((j + nm.length + 1 : Nat) : Int) by walk_at "om", slice_t w (Nat.le_add_right _ 1) l2, Nat.add_sub_cancel_left, d1]; rfl
      have hfind : Txt.find3 (tx w) (tx [41]) ((j + nm.length : Nat) : Int) = ((j + nm.length + 1 + body.length : Nat) : Int) := by
        have := find_some (w := w) (u := 40 :: body) (rest := rest) (b := j + nm.length) d1 (fun q => by
          rcases List.mem_cons.mp q with q | q
          · cases q
          · exact hb q)
        rw [this, List.length_cons]; congr 1; walk_at "om"
      show (_ ∧ _)
      walk_at "vs"
      rw [hcut, hfind]
      refine ⟨sizeOk hw, fun q => by simp at q, fun _ => ⟨fun q => by simp at q; walk_at "om", fun _ => ⟨sizeOk hw, sizeOk hw, ?_⟩⟩⟩
      rw [slice_t w (Nat.le_add_right j nm.length) l1, Nat.add_sub_cancel_left, hz, List.take_left, show ((j + nm.length : Nat) : Int) + 1 = ((j + nm.length + 1 : Nat) : Int) by walk_at "om", slice_t w (Nat.le_add_right _ body.length) l3, Nat.add_sub_cancel_left, d2, List.take_left]
      have tb : TOk body := ⟨by walk_at "om", fun g hg => ha g (List.mem_of_mem_drop (i := j + nm.length + 1) (by rw [d2]; exact List.mem_append.mpr (.inl hg)))⟩
      have tn : TOk nm := ⟨by walk_at "om", fun g hg => ha g (List.mem_of_mem_drop (i := j) (by rw [hz]; exact List.mem_append.mpr (.inl hg)))⟩
      rcases hP with ⟨hc, hres⟩ | ⟨ts, qs, hc, hts, hl, hP⟩
      · exact i_read_numbers body rfl tb (.inr ⟨hc, hE hres⟩)
      · refine i_read_numbers body rfl tb (.inl ⟨ts, qs, hc, hts, hl, ?_⟩)
        walk_at "vs"
        refine i_matrix_of nm qs rfl (by rw [← hts.1]; exact hl) tn hN.n1 hN.n2 hN.n3 (fun N hmn => ?_) (fun hmn => ?_)
        · rcases hP with ⟨hm, _⟩ | ⟨N', hm, sN, sM, hg1, hg2⟩
          · rw [hm] at hmn; cases hmn
          · rw [hm] at hmn; cases hmn
            walk_at "vs"
            refine i_Matrix_then N M rfl sN sM ?_
            walk_at "vs"
            rw [show ((j + nm.length + 1 + body.length : Nat) : Int) + 1 = ((j + nm.length + 1 + body.length + 1 : Nat) : Int) by walk_at "om"]
            refine i_gap_end w (j + nm.length + 1 + body.length + 1) rfl (by walk_at "om") l4 (fun g hg => ?_) (fun hg => ?_)
            · rw [d4] at hg
              have hgl := gapN_le hg
              have hrl : rest.length = w.length - (j + nm.length + 1 + body.length + 1) := by rw [← d4, List.length_drop]
              refine ⟨_, ?_, _, _, _, _, _, rfl, rfl, ?_, rfl, ?_⟩
              · exact om10 l4
              · exact om5 l4 hrl hgl
              · rw [← List.drop_drop, d4]; exact hg1 g hg
            · rw [d4] at hg
              exact hE (hg2 hg)
        · rcases hP with ⟨hm, hres⟩ | ⟨N', hm, _⟩
          · exact hE hres
          · rw [hm] at hmn; cases hmn
  · have hd : w.drop j = [] := List.drop_eq_nil_of_le (by simp at h; walk_at "om")
    rw [hd] at hR
    rcases RTs.inv hR with ⟨_, hres⟩ | ⟨nm, u, h1, h2, h3, h4, h5, hz, hres⟩ | ⟨nm, body, rest, hN, hb, hz, hP⟩
    · exact hK _ hres
    · exact absurd hz.symm h4
    · simp at hz
end
section
-- part N9
variable {args : List SV} {c : CO} {K : SV → CO → Prop} {KE : Addr → CO → Prop}
open PySem PySem.W PyProof.Rows PySem.Calls PySem.Builtin PySem.Builtin.Str PySem.Builtin.ObjectAttr
noncomputable def dg (n : Nat) : List Nat := (Nat.toDigits 10 n).map Char.toNat
theorem str_dg (n : Nat) : Str.ofString (toString ((n : Nat) : Int)) = tx (dg n) := by
  apply Str.ext'
  apply Array.toList_inj.mp
  exact PySem.W.KIN.signs_num n
theorem dg_small {n : Nat} (h : n < 10) : dg n = [48 + n] := by
  unfold dg
  rw [Nat.toDigits_of_lt_base h]
  show [(Nat.digitChar n).toNat] = _
  rw [Nat.toNat_digitChar_of_lt_ten h]
theorem dg_big {n : Nat} (h : 10 ≤ n) : dg n = dg (n / 10) ++ [48 + n % 10] := by
  have hm : n % 10 < 10 := Nat.mod_lt n (by walk_at "vd")
  have t : Nat.toDigits 10 (n / 10) ++ Nat.toDigits 10 (n % 10) = Nat.toDigits 10 (10 * (n / 10) + n % 10) := Nat.toDigits_append_toDigits (by walk_at "vd") (by walk_at "om") hm
  rw [Nat.div_add_mod] at t
  unfold dg
  rw [← t, List.map_append]
  exact congrArg _ (dg_small hm)
theorem dg_ok : ∀ n, val (dg n) = n ∧ (∀ d ∈ dg n, isDig d = true) ∧ dg n ≠ [] := by
  intro n
  induction n using Nat.strongRecOn with
  | _ n ih =>
    rcases Nat.lt_or_ge n 10 with h | h
    · rw [dg_small h]
      refine ⟨?_, fun d hd => ?_, nofun⟩
      · show 0 * 10 + (48 + n - 48) = n; walk_at "om"
      · rw [List.mem_singleton.mp hd]; unfold isDig; simp; walk_at "om"
    · obtain ⟨h1, h2, h3⟩ := ih (n / 10) (by walk_at "om")
      rw [dg_big h]
      refine ⟨?_, fun d hd => ?_, by simp⟩
      · rw [val_snoc, h1]; walk_at "om"
      · rcases List.mem_append.mp hd with hd | hd
        · exact h2 d hd
        · rw [List.mem_singleton.mp hd]; unfold isDig; simp; walk_at "om"
theorem dg_len : ∀ k n, n < 10 ^ (k + 1) → (dg n).length ≤ k + 1 := by
  intro k
  induction k with
  | zero => intro n h; rw [dg_small (by simpa using h)]; exact Nat.le_refl _
  | succ k ih =>
    intro n h
    rcases Nat.lt_or_ge n 10 with q | q
    · rw [dg_small q]; simp
    · rw [dg_big q, List.length_append]
      have := ih (n / 10) (by rw [Nat.pow_succ] at h; walk_at "om")
      show _ + 1 ≤ _
      walk_at "om"
noncomputable def pd : Nat → Nat → List Nat
  | 0, _ => []
  | p + 1, r => pd p (r / 10) ++ [48 + r % 10]
theorem pd_len : ∀ p r, (pd p r).length = p
  | 0, _ => rfl
  | p + 1, r => by unfold pd; rw [List.length_append, pd_len p]; rfl
theorem pd_dig : ∀ p r, ∀ d ∈ pd p r, isDig d = true
  | 0, _, d, h => nomatch h
  | p + 1, r, d, h => by
    unfold pd at h
    rcases List.mem_append.mp h with h | h
    · exact pd_dig p _ d h
    · rw [List.mem_singleton.mp h]; unfold isDig; simp; walk_at "om"
theorem val_pd (a : List Nat) : ∀ p r, r < 10 ^ p → val (a ++ pd p r) = val a * 10 ^ p + r
  | 0, r, h => by
    have : r = 0 := by simpa using h
    subst this
    unfold pd; simp
  | p + 1, r, h => by
    unfold pd
    rw [← List.append_assoc, val_snoc, val_pd a p (r / 10) (by rw [Nat.pow_succ] at h; walk_at "om"), Nat.pow_succ, Nat.add_mul, Nat.mul_assoc]
    walk_at "om"
theorem dg_one : ∀ p r, r < 10 ^ p → dg (10 ^ p + r) = 49 :: pd p r
  | 0, r, h => by
    have : r = 0 := by simpa using h
    subst this
    rw [dg_small (by walk_at "vd")]; rfl
  | p + 1, r, h => by
    have hp : 0 < 10 ^ p := Nat.pow_pos (by walk_at "vd")
    have e1 : 10 ^ (p + 1) = 10 * 10 ^ p := by rw [Nat.pow_succ, Nat.mul_comm]
    rw [dg_big (by rw [e1]; walk_at "om")]
    have e2 : (10 ^ (p + 1) + r) / 10 = 10 ^ p + r / 10 := by rw [e1]; exact Nat.mul_add_div (by decide) _ _
    have e3 : (10 ^ (p + 1) + r) % 10 = r % 10 := by rw [e1]; exact Nat.mul_add_mod _ _ _
    rw [e2, e3, dg_one p (r / 10) (by rw [e1] at h; walk_at "om")]
    rfl
theorem val_zeros (a : List Nat) : ∀ z, val (a ++ List.replicate z 48) = val a * 10 ^ z
  | 0 => by simp
  | z + 1 => by
    rw [List.replicate_succ', ← List.append_assoc, val_snoc, val_zeros a z, Nat.pow_succ, Nat.mul_assoc]
    rfl
noncomputable def DecOk (q : Rat) : Prop := Sm 100 q ∧ ∃ k, k < 40 ∧ q.den ∣ 10 ^ k
noncomputable def S_exact_places : Spec := fun args c K _ => ∃ q, args = [.d (qD q)] ∧ DecOk q ∧ (∀ p : Nat, p < 40 → q.den ∣ 10 ^ p → K (.d (.int (p : Int))) c)
theorem i_exact_places (q) (h0 : args = [.d (qD q)]) (h1 : DecOk q) (h2 : (∀ p : Nat, p < 40 → q.den ∣ 10 ^ p → K (.d (.int (p : Int))) c)) : S_exact_places args c K KE := ⟨q, h0, h1, h2⟩
noncomputable def NumD (t : List Nat) (q : Rat) : Prop := ∃ neg wh pt, NumP neg wh pt none ∧ t = numText neg wh pt none ∧ q = numQ neg wh pt none ∧ wh ≠ []
noncomputable def S_write_decimal : Spec := fun args c K _ => ∃ (q : Rat) (p : Nat), args = [.d (qD q), .d (.int (p : Int))] ∧ p < 40 ∧ Sm 100 q ∧ q.den ∣ 10 ^ p ∧ (∀ t, NumD t q → K (.d (.str (tx t))) c)
theorem i_write_decimal (q : Rat) (p : Nat) (h0 : args = [.d (qD q), .d (.int (p : Int))]) (h1 : p < 40) (h2 : Sm 100 q) (h3 : q.den ∣ 10 ^ p) (h4 : (∀ t, NumD t q → K (.d (.str (tx t))) c)) : S_write_decimal args c K KE := ⟨q, p, h0, h1, h2, h3, h4⟩
noncomputable def p_exact_places : PS := (pSeq (pFor (gName 1) (pRng1 (pLit c_MOST_PLACES)) (pSeq (pIfS (pCmp cEq (pBin oMod (pBin oPow (pLit (.int 10)) (pLoc 1)) (pIdx (pLoc 0) (pLit (.int 1)))) (pLit (.int 0))) (pSeq (pRet (pLoc 1)) pSkip) pSkip) pSkip)) (pSeq (pRet (pLit c_PLACES_ELSE)) pSkip))
noncomputable def p_write_decimal_c : PS := (pSeq (pRet (pIf (pAnd (pCmp cLt (pIdx (pLoc 0) (pLit (.int 0))) (pLit (.int 0))) (pCmp cGt (pLoc 3) (pLit (.int 0)))) (pBin oAdd (pLit (.str (Str.ofString "-"))) (pLoc 4)) (pLoc 4))) pSkip)
noncomputable def p_write_decimal_b : PS := (pSeq (pSwp [4, 5] (pTup (pCons (pCall sText (pCons (pBin oDiv (pLoc 3) (pLoc 2)) pNil)) (pCons (pBin oMod (pLoc 3) (pLoc 2)) pNil)))) (pSeq (pIfS (pCmp cGt (pLoc 5) (pLit (.int 0))) (pSeq (pAsg 6 (pCut (pCall sText (pCons (pBin oAdd (pLoc 2) (pLoc 5)) pNil)) (pOSome (pLit (.int 1))) pONone)) (pSeq (pWhile (pCmp cEq (pIdx (pLoc 6) (pNeg (pLit (.int 1)))) (pLit (.str (Str.ofString "0")))) (pSeq (pAsg 6 (pCut (pLoc 6) pONone (pOSome (pNeg (pLit (.int 1)))))) pSkip)) (pSeq (pAsg 4 (pBin oAdd (pBin oAdd (pLoc 4) (pLit (.str (Str.ofString ".")))) (pLoc 6))) pSkip))) pSkip) p_write_decimal_c))
noncomputable def p_write_decimal : PS := (pSeq (pAsg 2 (pBin oPow (pLit (.int 10)) (pLoc 1))) (pSeq (pAsg 3 (pBin oDiv (pBin oAdd (pBin oMul (pBin oMul (pLit (.int 2)) (pCall sAbs (pCons (pIdx (pLoc 0) (pLit (.int 0))) pNil))) (pLoc 2)) (pIdx (pLoc 0) (pLit (.int 1)))) (pBin oMul (pLit (.int 2)) (pIdx (pLoc 0) (pLit (.int 1)))))) p_write_decimal_b))
theorem vc_exact_places (args : List SV) (c : CO) (K : SV → CO → Prop) (KE : Addr → CO → Prop) : S_exact_places args c K KE → sPure (sDef 1 2 p_exact_places) args c K KE := by
  rintro ⟨q, rfl, ⟨hs, k0, hk0, hd0⟩, hK⟩
  refine ⟨⟨_, rfl⟩, rfl, ?_⟩
  unfold p_exact_places
  walk_at "vs"
  try unfold pFor
  try unfold c_MOST_PLACES
  walk_at "vs"
  refine ⟨by walk_at "vd", by walk_at "vd", fun k ρ c' => ∃ s1, ρ = [some (.d (qD q)), s1] ∧ c' = .none ∧ ∀ i, i < k → ¬ q.den ∣ 10 ^ i, ⟨none, rfl, rfl, fun _ h => nomatch h⟩, ?_, ?_⟩
  · rintro k ρ c' y hy ⟨s1, rfl, rfl, hn⟩
    have hk : k < 40 ∧ y = .int (k : Nat) := by
      rw [List.getElem?_map] at hy
      obtain ⟨i, hi, rfl⟩ := Option.map_eq_some_iff.mp hy
      obtain ⟨h1, h2⟩ := List.getElem?_eq_some_iff.mp hi
      rw [List.getElem_range] at h2
      subst h2
      have : ((40 : Int).toNat) = 40 := rfl
      exact ⟨by simpa [this] using h1, rfl⟩
    obtain ⟨hk, rfl⟩ := hk
    walk_at "vs"
    refine ⟨by walk_at "om", pow_bits (by walk_at "om"), ?_⟩
    repeat walk_at "vi"
    have hd := den_ne q
    rw [Int.fmod_eq_emod_of_nonneg _ (Int.le_of_lt (den_pos' q))]
    have e : ((10 : Int) ^ ((k : Nat) : Int).toNat % (q.den : Int) == 0) = decide (q.den ∣ 10 ^ k) := by
      have h1 : (10 : Int) ^ ((k : Nat) : Int).toNat = ((10 ^ k : Nat) : Int) := by rw [Int.toNat_natCast]; norm_cast
      rw [h1, ← Int.natCast_emod]
      by_cases h : q.den ∣ 10 ^ k
      · rw [decide_eq_true h, Nat.mod_eq_zero_of_dvd h]; rfl
      · rw [decide_eq_false h, beq_eq_false_iff_ne]
        intro z
        exact h (Nat.dvd_of_mod_eq_zero (by walk_at "om"))
    rw [e]
    refine ⟨hd, fun h => hK k hk (of_decide_eq_true h), fun h => ⟨_, rfl, rfl, fun i hi => ?_⟩⟩
    rcases Nat.lt_or_ge i k with q1 | q1
    · exact hn i q1
    · have : i = k := by walk_at "om"
      subst this
      exact of_decide_eq_false h
  · rintro ρ c' ⟨s1, rfl, rfl, hn⟩
    refine absurd hd0 (hn k0 ?_)
    rw [List.length_map, List.length_range]
    exact hk0
theorem cast_divInt (a : Int) : (a : Rat) = Rat.divInt a 1 := (Rat.num_divInt_den (a : Rat)).symm
theorem numQ_eq {neg : Bool} {wh : List Nat} {pt : Option (List Nat)} {q : Rat} {p z m : Nat} (hn : neg = decide (q.num < 0)) (hm : m * q.den = 10 ^ p) (hv : val (wh ++ pt.getD []) * 10 ^ z = q.num.natAbs * m) (hl : (pt.getD []).length + z = p) : numQ neg wh pt none = q := by
  generalize hN : val (wh ++ pt.getD []) = N at *
  generalize hL : (pt.getD []).length = L at *
  have h1 : numQ neg wh pt none = Rat.divInt (if neg then -(N : Int) else (N : Int)) ((10 ^ L : Nat) : Int) := by
    unfold numQ
    dsimp only
    rw [hN, hL]
    have e0 : eVal none = 0 := rfl
    rw [e0]
    by_cases h : ((0 : Nat) : Int) - (L : Int) < 0
    · rw [if_pos h]
      have : (-(((0 : Nat) : Int) - (L : Int))).toNat = L := by walk_at "om"
      rw [this]
      norm_cast
    · rw [if_neg h]
      have : L = 0 := by walk_at "om"
      subst this
      rw [show (((0 : Nat) : Int) - ((0 : Nat) : Int)).toNat = 0 from rfl]
      rw [Int.pow_zero, Int.mul_one, Nat.pow_zero]
      exact cast_divInt _
  have hz : 0 < 10 ^ z := Nat.pow_pos (by walk_at "vd")
  have h2 : N * q.den = q.num.natAbs * 10 ^ L := by
    refine Nat.eq_of_mul_eq_mul_right hz ?_
    calc N * q.den * 10 ^ z = (N * 10 ^ z) * q.den := by rw [Nat.mul_right_comm]
      _ = q.num.natAbs * (m * q.den) := by rw [hv, Nat.mul_assoc]
      _ = q.num.natAbs * 10 ^ L * 10 ^ z := by rw [hm, ← hl, Nat.pow_add, Nat.mul_assoc]
  rw [h1]
  conv => rhs; rw [← Rat.num_divInt_den q]
  rw [Rat.divInt_eq_divInt_iff (by have : 0 < 10 ^ L := Nat.pow_pos (by walk_at "vd"); walk_at "om") (den_ne q)]
  have h3 : (N : Int) * q.den = (q.num.natAbs : Int) * ((10 ^ L : Nat) : Int) := by exact_mod_cast h2
  subst hn
  by_cases h : q.num < 0
  · rw [decide_eq_true h, if_pos rfl, Int.neg_mul, h3]
    rw [show (q.num.natAbs : Int) = -q.num by walk_at "om"]
    rw [Int.neg_mul, Int.neg_neg]
  · rw [decide_eq_false h, if_neg (by walk_at "vd"), h3]
    rw [show (q.num.natAbs : Int) = q.num by walk_at "om"]
theorem scaled_eq {n d m : Nat} (hd : 0 < d) : (2 * n * (m * d) + d) / (2 * d) = n * m := by
  have e : 2 * n * (m * d) + d = d + (n * m) * (2 * d) := by
    rw [Nat.add_comm]
    congr 1
    ac_rfl
  rw [e, Nat.add_mul_div_right _ _ (by walk_at "om"), Nat.div_eq_of_lt (by walk_at "om"), Nat.zero_add]
theorem onIdx_last {w : List Nat} {g : Nat} {c : CO} {K : SV → CO → Prop} (hw : w.length < 2 ^ 20) (k : K (.d (.str (tx [g]))) c) : onIdx (.d (.str (tx (w ++ [g])))) (.d (.int (-1))) c K := by
  apply onIdx_of
  refine ⟨by walk_at "vd", by walk_at "vd", ?_⟩
  have e : (seqIndex? (-1) (tx (w ++ [g])).length).bind ((tx (w ++ [g])).cps[·]?) = some g := by
    rw [tx_len, StrLaws.seqIndex_neg (by walk_at "vd") (by simp; walk_at "om")]
    have : ((-1 : Int) + ((w ++ [g]).length : Nat)).toNat = w.length := by simp; walk_at "om"
    rw [this]
    simp [tx]
  rw [e]
  exact k
theorem slice_init (w : List Nat) (g : Nat) : Txt.slice (tx (w ++ [g])) none (some (-1)) = tx w := by
  have h := StrLaws.sliceText_to_neg (x := tx (w ++ [g])) (j := -1) (by walk_at "vd") (by rw [tx_len]; simp; walk_at "om")
  refine Eq.trans h ?_
  have : (-1 + ((tx (w ++ [g])).length : Int) - 0).toNat = w.length := by rw [tx_len]; simp; walk_at "om"
  rw [this]
  simp [tx]
theorem slice_tail (g : Nat) (w : List Nat) : Txt.slice (tx (g :: w)) (some 1) none = tx w := slice_from (g :: w) (a := 1) (by simp)
theorem ret_dec {q : Rat} {p S s : Int} {t0 : List Nat} {s5 s6 : Option SV} {K : SV → CO → Prop} {Kn : Env1 → CO → Prop} {Ke : Env1 → Addr → CO → Prop} (hl : t0.length ≤ 1000) (hs : q.num < 0 → 0 < s) (h : K (.d (.str (tx (sgT (decide (q.num < 0)) ++ t0)))) .none) :
    p_write_decimal_c [some (.d (qD q)), some (.d (.int p)), some (.d (.int S)), some (.d (.int s)), some (.d (.str (tx t0))), s5, s6] .none Kn K Ke := by
  unfold p_write_decimal_c
  walk_at "vs"
  repeat walk_at "vi"
  try walk_at "vt"
  by_cases hq : q.num < 0
  · rw [decide_eq_true hq] at h ⊢
    refine ⟨nofun, fun _ => ⟨fun _ => ⟨by rw [sizeLine_eq]; simp; walk_at "om", h⟩, fun z => ?_⟩⟩
    have := of_decide_eq_false z
    exact absurd (hs hq) this
  · rw [decide_eq_false hq] at h ⊢
    exact ⟨fun _ => h, nofun⟩
theorem divT {s S : Nat} (hS : 0 < S) : ((s : Int)).fdiv (S : Int) = ((s / S : Nat) : Int) ∧ ((s : Int)).fmod (S : Int) = ((s % S : Nat) : Int) := by
  rw [Int.fdiv_eq_ediv_of_nonneg _ (by walk_at "om"), Int.fmod_eq_emod_of_nonneg _ (by walk_at "om")]
  exact ⟨(Int.natCast_ediv ..).symm, (Int.natCast_emod ..).symm⟩
theorem vc_write_b {q : Rat} {p m : Nat} {K : SV → CO → Prop} {Kn : Env1 → CO → Prop} {Ke : Env1 → Addr → CO → Prop} (hp : p < 40) (hq : Sm 100 q) (hm : m * q.den = 10 ^ p) (hK : ∀ t, NumD t q → K (.d (.str (tx t))) .none) :
    p_write_decimal_b [some (.d (qD q)), some (.d (.int (p : Nat))), some (.d (.int ((10 ^ p : Nat) : Int))), some (.d (.int ((q.num.natAbs * m : Nat) : Int))), none, none, none] .none Kn K Ke := by
  have hS : 0 < 10 ^ p := Nat.pow_pos (by walk_at "vd")
  have hm0 : 0 < m := Nat.pos_of_ne_zero fun z => by subst z; walk_at "om"
  generalize hs : q.num.natAbs * m = s at *
  have hpos : q.num < 0 → 0 < (s : Int) := fun h => by
    have : 0 < q.num.natAbs * m := Nat.mul_pos (by walk_at "om") hm0
    walk_at "om"
  have hwhole : s / 10 ^ p < 10 ^ (30 + 1) := by
    have h1 : s / 10 ^ p ≤ q.num.natAbs := by
      rw [← hs, ← hm]
      refine Nat.div_le_of_le_mul ?_
      rw [Nat.mul_comm q.num.natAbs m, Nat.mul_assoc]
      exact Nat.mul_le_mul_left _ (Nat.le_mul_of_pos_left _ q.den_pos)
    refine Nat.lt_of_le_of_lt h1 (Nat.lt_of_lt_of_le hq.1 ?_)
    unfold P2
    decide
  obtain ⟨hd1, hd2⟩ := divT (s := s) hS
  obtain ⟨w1, w2, w3⟩ := dg_ok (s / 10 ^ p)
  have w4 := dg_len 30 _ hwhole
  generalize hwh : dg (s / 10 ^ p) = wh at *
  have hr := Nat.mod_lt s hS
  have hsr : s = s / 10 ^ p * 10 ^ p + s % 10 ^ p := by rw [Nat.mul_comm]; exact (Nat.div_add_mod ..).symm
  have hSl : 10 ^ p < P2 160 := Nat.lt_of_lt_of_le (Nat.pow_lt_pow_right (by walk_at "vd") hp) (ten_lt 40)
  have fin : ∀ (pt : Option (List Nat)) (z : Nat), (∀ d ∈ pt.getD [], isDig d = true) → (pt.getD []).length + z = p → val (wh ++ pt.getD []) * 10 ^ z = s → ∀ s5 s6 Kn Ke,
      p_write_decimal_c [some (.d (qD q)), some (.d (.int (p : Nat))), some (.d (.int ((10 ^ p : Nat) : Int))), some (.d (.int (s : Int))), some (.d (.str (tx (wh ++ ptT pt)))), s5, s6] .none Kn K Ke := fun pt z h1 h2 h3 s5 s6 Kn Ke => by
    have hpl : (ptT pt).length ≤ 1 + (pt.getD []).length := by cases pt <;> simp [ptT]; walk_at "om"
    refine ret_dec (by rw [List.length_append]; walk_at "om") hpos (hK _ ⟨decide (q.num < 0), wh, pt, ⟨w2, h1, nofun, fun e => w3 (List.append_eq_nil_iff.mp e).1, by walk_at "om"⟩, ?_, ?_, w3⟩)
    · unfold numText
      show _ = _ ++ (wh ++ (ptT pt ++ []))
      rw [List.append_nil]
    · exact (numQ_eq rfl hm (by rw [h3, hs]) h2).symm
  unfold p_write_decimal_b
  generalize p_write_decimal_c = pc at fin ⊢
  walk_at "vs"
  rw [hd1]
  have hlog : ∀ n : Nat, n < P2 161 → ((n : Int)).natAbs.log2 < 1920 := fun n h => by
    rw [Int.natAbs_natCast]
    by_cases h0 : n = 0
    · subst h0; decide
    · exact Nat.lt_of_lt_of_le ((Nat.log2_lt h0).mpr h) (by walk_at "vd")
  have hS0 : ((10 ^ p : Nat) : Int) ≠ 0 := by walk_at "om"
  have hS9 : ((10 ^ p : Nat) : Int).natAbs.log2 < 9000 := small_log (k := 160) (by rw [Int.natAbs_natCast]; exact hSl) (by walk_at "vd")
  refine ⟨hS0, hS9, hlog _ (Nat.lt_of_lt_of_le hwhole (Nat.le_trans (ten_lt 31) (P2_mono (by walk_at "vd")))), ?_⟩
  walk_at "vs"
  rw [str_dg, hwh, hd2]
  refine ⟨hS0, by walk_at "vd", fun h => ?_, fun h => ?_⟩
  · have hr0 : 0 < s % 10 ^ p := by have := of_decide_eq_true h; walk_at "om"
    rw [show ((10 ^ p : Nat) : Int) + ((s % 10 ^ p : Nat) : Int) = ((10 ^ p + s % 10 ^ p : Nat) : Int) by walk_at "om"]
    have hb : 10 ^ p + s % 10 ^ p < P2 161 := by
      have : P2 161 = P2 160 + P2 160 := by show 2 ^ 161 = 2 ^ 160 + 2 ^ 160; decide
      walk_at "om"
    refine ⟨hlog _ hb, ?_⟩
    rw [str_dg, dg_one p _ hr]
    walk_at "vs"
    refine ⟨by rw [sizeLine_eq, tx_len, List.length_cons, pd_len]; walk_at "om", ?_⟩
    rw [slice_tail]
    try unfold pWhile
    refine ⟨fun n ρ c' => ∃ (ps : List Nat) (z : Nat), ρ = [some (.d (qD q)), some (.d (.int (p : Nat))), some (.d (.int ((10 ^ p : Nat) : Int))), some (.d (.int (s : Int))), some (.d (.str (tx wh))), some (.d (.int ((s % 10 ^ p : Nat) : Int))), some (.d (.str (tx ps)))] ∧ c' = .none ∧ n = ps.length ∧ ps ++ List.replicate z 48 = pd p (s % 10 ^ p),
      ⟨_, pd p (s % 10 ^ p), 0, rfl, rfl, rfl, by simp⟩, ?_⟩
    rintro n ρ c' ⟨ps, z, rfl, rfl, rfl, hps⟩
    have hvp := val_pd wh p (s % 10 ^ p) hr
    rw [w1, ← hsr, ← hps, ← List.append_assoc, val_zeros] at hvp
    have hlen : ps.length + z = p := by
      have := congrArg List.length hps
      rw [pd_len] at this
      simpa using this
    have hdig : ∀ d ∈ ps, isDig d = true := fun d hd => pd_dig p (s % 10 ^ p) d (by rw [← hps]; exact List.mem_append.mpr (.inl hd))
    rcases List.eq_nil_or_concat ps with he | ⟨l, g, he⟩
    · exfalso
      subst he
      have : z = p := by simpa using hlen
      subst this
      rw [List.append_nil, w1] at hvp
      walk_at "om"
    · rw [List.concat_eq_append] at he
      subst he
      walk_at "vs"
      refine onIdx_last (by simp at hlen; walk_at "om") ?_
      try walk_at "vs"
      try walk_at "vt"
      refine ⟨fun hg => ?_, fun hg => ?_⟩
      · have hg : g = 48 := by simpa using hg
        subst hg
        rw [slice_init]
        refine ⟨by rw [sizeLine_eq]; simp at hlen ⊢; walk_at "om", l.length, by simp, l, z + 1, rfl, rfl, ?_⟩
        rw [← hps, List.replicate_succ, List.append_assoc]; rfl
      · have hl2 : (l ++ [g]).length ≤ p := by walk_at "om"
        refine ⟨by rw [sizeLine_eq]; simp; walk_at "om", by rw [sizeLine_eq]; simp at hl2 ⊢; walk_at "om", ?_⟩
        have := fin (some (l ++ [g])) z hdig hlen hvp
        have e : wh ++ [46] ++ (l ++ [g]) = wh ++ ptT (some (l ++ [g])) := by simp [ptT]
        rw [e]
        exact this _ _ _ _
  · have hr0 : s % 10 ^ p = 0 := by have := of_decide_eq_false h; walk_at "om"
    have := fin none p (fun _ h => nomatch h) (by simp) (by
      show val (wh ++ []) * _ = _
      rw [List.append_nil, w1]; walk_at "om")
    have e : wh ++ ptT none = wh := List.append_nil _
    rw [e] at this
    exact this _ _ _ _
theorem vc_write_decimal (args : List SV) (c : CO) (K : SV → CO → Prop) (KE : Addr → CO → Prop) : S_write_decimal args c K KE → sPure (sDef 2 7 p_write_decimal) args c K KE := by
  rintro ⟨q, p, rfl, hp, hq, hd, hK⟩
  refine ⟨⟨_, rfl⟩, rfl, ?_⟩
  obtain ⟨m, hm⟩ := hd
  have hm : m * q.den = 10 ^ p := by rw [hm, Nat.mul_comm]
  have wb := @vc_write_b
  unfold p_write_decimal
  generalize p_write_decimal_b = pb at wb ⊢
  walk_at "vs"
  repeat walk_at "vi"
  refine ⟨by walk_at "om", pow_bits (by walk_at "om"), ?_⟩
  have e1 : (10 : Int) ^ ((p : Nat) : Int).toNat = ((10 ^ p : Nat) : Int) := by rw [Int.toNat_natCast]; norm_cast
  have e2 : (if q.num < 0 then -q.num else q.num) = (q.num.natAbs : Int) := by split <;> walk_at "om"
  have hSl : 10 ^ p < P2 160 := Nat.lt_of_lt_of_le (Nat.pow_lt_pow_right (by walk_at "vd") hp) (ten_lt 40)
  rw [e1]
  repeat walk_at "vi"
  rw [e2]
  have hq1 : ((q.num.natAbs : Nat) : Int).natAbs < P2 100 := by rw [Int.natAbs_natCast]; exact hq.1
  refine ⟨mul_ok two_abs hq1 (by walk_at "vd") (by walk_at "vd"), mul_ok (n := 102) (m := 160) ?_ (by rw [Int.natAbs_natCast]; exact hSl) (by walk_at "vd") (by walk_at "vd"), ?_⟩
  · rw [Int.natAbs_mul]; exact lt_mulP two_abs hq1
  repeat walk_at "vi"
  have hdd := hq.dabs
  refine ⟨mul_ok two_abs hdd (by walk_at "vd") (by walk_at "vd"), two_den_ne q, small_log (k := 2 + 100) (by rw [Int.natAbs_mul]; exact lt_mulP two_abs hdd) (by walk_at "vd"), ?_⟩
  have e3 : (2 * ((q.num.natAbs : Nat) : Int) * ((10 ^ p : Nat) : Int) + (q.den : Int)).fdiv (2 * (q.den : Int)) = ((q.num.natAbs * m : Nat) : Int) := by
    rw [Int.fdiv_eq_ediv_of_nonneg _ (two_den_nn q)]
    have := scaled_eq (n := q.num.natAbs) (m := m) q.den_pos
    rw [hm] at this
    exact_mod_cast this
  rw [e3]
  refine wb hp hq hm fun t ht => ?_
  exact hK t ht
noncomputable def joinL (sep : List Nat) : List (List Nat) → List Nat
  | [] => []
  | [x] => x
  | x :: y :: r => x ++ (sep ++ joinL sep (y :: r))
theorem glued_tx (sep : List Nat) : ∀ (l : List (List Nat)) (a : List Nat), (l.map tx).foldl (fun acc p => acc ++ (tx sep).cps ++ p.cps) (tx a).cps = (tx (joinL sep (a :: l))).cps
  | [], a => rfl
  | x :: l, a => by
    rw [List.map_cons, List.foldl_cons]
    have e : (tx a).cps ++ (tx sep).cps ++ (tx x).cps = (tx (a ++ (sep ++ x))).cps := by simp [tx]
    rw [e, glued_tx sep l]
    congr 2
    cases l with
    | nil => simp [joinL]
    | cons y l => simp [joinL]
theorem join_tx (sep : List Nat) (l : List (List Nat)) : Txt.join (tx sep) (l.map tx) = tx (joinL sep l) := by
  cases l with
  | nil => rfl
  | cons a l =>
    apply Str.ext'
    exact glued_tx sep l a
theorem joinOk_tx {sep : List Nat} {l : List (List Nat)} (h1 : l.length ≤ 100) (h2 : ∀ x ∈ l, x.length ≤ 10000) (h3 : sep.length ≤ 10) : JoinOk (tx sep) (l.map tx) = true := by
  have key : ∀ (l : List (List Nat)) (a : Nat), (∀ x ∈ l, x.length ≤ 10000) → (l.map tx).foldl (fun n (p : Str) => n + p.length + (tx sep).length) a ≤ a + l.length * 10010 := by
    intro l
    induction l with
    | nil => intro a _; exact Nat.le_refl _
    | cons x l ih =>
      intro a h
      rw [List.map_cons, List.foldl_cons]
      have := ih (a + (tx x).length + (tx sep).length) fun y hy => h y (.tail _ hy)
      have hx := h x (.head _)
      rw [tx_len, tx_len] at this
      rw [List.length_cons, tx_len, tx_len]
      walk_at "om"
  have := key l 0 h2
  unfold JoinOk
  rw [Bool.not_eq_true', List.foldl_toArray]
  unfold tooLong
  rw [decide_eq_false_iff_not, sizeLine_eq]
  walk_at "om"
noncomputable def S_write_matrix : Spec := fun args c K _ => ∃ M : Mx, args = [.d (mD M)] ∧ (∀ q ∈ M.row, DecOk q) ∧
  ∀ ts : List (List Nat), ts.length = 6 → (∀ (i : Nat) t, ts[i]? = some t → ∃ q, M.row[i]? = some q ∧ NumD t q) → K (.d (.str (tx (nMatrix ++ 40 :: (joinL [32] ts ++ [41]))))) c
theorem i_write_matrix (M : Mx) (h0 : args = [.d (mD M)]) (h1 : (∀ q ∈ M.row, DecOk q)) (h2 : ∀ ts : List (List Nat), ts.length = 6 → (∀ (i : Nat) t, ts[i]? = some t → ∃ q, M.row[i]? = some q ∧ NumD t q) → K (.d (.str (tx (nMatrix ++ 40 :: (joinL [32] ts ++ [41]))))) c) : S_write_matrix args c K KE := ⟨M, h0, h1, h2⟩
noncomputable def p_write_matrix : PS := (pSeq (pAsg 1 (pComp [] (pIter (pMeth isMat S_Matrix_row (pLoc 0) pNil)) (pCall S_write_decimal (pCons (pLoc 0) (pCons (pCall S_exact_places (pCons (pLoc 0) pNil)) pNil))))) (pSeq (pRet (pBin oAdd (pBin oAdd (pLit (.str (Str.ofString "matrix("))) (pMeth isText sJoin (pLit (.str (Str.ofString " "))) (pCons (pLoc 1) pNil))) (pLit (.str (Str.ofString ")"))))) pSkip))
theorem numD_len {t : List Nat} {q : Rat} (h : NumD t q) : t.length ≤ 1000 := by
  obtain ⟨neg, wh, pt, N, rfl, _, _⟩ := h
  have h1 : (sgT neg).length ≤ 1 := by cases neg <;> decide
  have h2 : (ptT pt).length ≤ 1 + (pt.getD []).length := by cases pt <;> simp [ptT]; walk_at "om"
  have h3 := N.few
  unfold numText
  simp only [List.length_append]
  have : (esT none).length = 0 := rfl
  walk_at "om"
theorem joinL_len (sep : List Nat) (n : Nat) (hs : sep.length ≤ n) : ∀ l : List (List Nat), (∀ x ∈ l, x.length ≤ n) → (joinL sep l).length ≤ 2 * n * l.length
  | [], _ => by simp [joinL]
  | [x], h => by have := h x (.head _); simp [joinL]; walk_at "om"
  | x :: y :: r, h => by
    have h1 := h x (.head _)
    have h2 := joinL_len sep n hs (y :: r) fun z hz => h z (.tail _ hz)
    simp only [joinL, List.length_append]
    rw [List.length_cons, Nat.mul_add]
    walk_at "om"
theorem lit_matrixP : Str.ofString "matrix(" = tx (nMatrix ++ [40]) := by decide +kernel
theorem vc_write_matrix (args : List SV) (c : CO) (K : SV → CO → Prop) (KE : Addr → CO → Prop) : S_write_matrix args c K KE → sPure (sDef 1 2 p_write_matrix) args c K KE := by
  rintro ⟨M, rfl, hM, hK⟩
  refine ⟨⟨_, rfl⟩, rfl, ?_⟩
  unfold p_write_matrix
  walk_at "vs"
  try unfold pComp
  walk_at "vs"
  refine ⟨nofun, M, rfl, ?_⟩
  walk_at "vs"
  rw [lit_SP, lit_matrixP, lit_rp]
  refine ⟨fun k acc c => ∃ ts : List (List Nat), acc = ts.map tD ∧ c = .none ∧ ∀ (i : Nat) t, ts[i]? = some t → ∃ q, M.row[i]? = some q ∧ NumD t q, by rw [sizeLine_eq]; simp [Mx.row], ⟨[], rfl, rfl, fun i t h => by simp at h⟩, ?_, ?_⟩
  · rintro k acc c y hy hk ⟨ts, rfl, rfl, hts⟩
    rw [List.getElem?_map] at hy
    obtain ⟨q, hq, rfl⟩ := Option.map_eq_some_iff.mp hy
    have hD := hM q (List.mem_of_getElem? hq)
    walk_at "vs"
    refine i_exact_places q rfl hD (fun p hp hd => ?_)
    walk_at "vs"
    refine i_write_decimal q p rfl hp hD.1 hd (fun t ht => ?_)
    show ∃ _, _
    refine ⟨ts ++ [t], by rw [List.map_append]; rfl, rfl, fun i t' h => ?_⟩
    rw [List.length_map] at hk
    rcases Nat.lt_or_ge i ts.length with hi | hi
    · rw [List.getElem?_append_left hi] at h
      exact hts i t' h
    · rw [List.getElem?_append_right hi] at h
      have : i = ts.length := by
        rcases Nat.lt_or_ge (i - ts.length) 1 with z | z
        · walk_at "om"
        · rw [List.getElem?_eq_none (by simpa using z)] at h; cases h
      subst this
      rw [Nat.sub_self] at h
      cases h
      exact ⟨q, by rw [hk]; exact hq, ht⟩
  · rintro acc c' hl ⟨ts, rfl, rfl, hts⟩
    have hl : ts.length = 6 := by simpa [Mx.row] using hl
    have hlen : ∀ x ∈ ts, x.length ≤ 1000 := fun x hx => by
      obtain ⟨i, hi⟩ := List.getElem?_of_mem hx
      obtain ⟨q, _, hD⟩ := hts i x hi
      exact numD_len hD
    walk_at "vs"
    refine ⟨ts.map tx, by rw [List.map_map]; rfl, joinOk_tx (by walk_at "om") (fun x hx => Nat.le_trans (hlen x hx) (by walk_at "vd")) (by walk_at "vd"), ?_⟩
    rw [join_tx]
    have hjl := joinL_len [32] 1000 (by walk_at "vd") ts hlen
    walk_at "vs"
    walk_at "vt"
    have e : nMatrix ++ [40] ++ joinL [32] ts ++ [41] = nMatrix ++ 40 :: (joinL [32] ts ++ [41]) := by simp
    rw [e]
    have hn : nMatrix.length = 6 := rfl
    refine ⟨by rw [sizeLine_eq]; simp; walk_at "om", by rw [sizeLine_eq]; simp; walk_at "om", hK ts hl hts⟩
end
section
-- part N10
variable {args : List SV} {c : CO} {K : SV → CO → Prop} {KE : Addr → CO → Prop}
open PySem PySem.W PyProof.Rows PySem.Calls PySem.Builtin PySem.Builtin.Str PySem.Builtin.ObjectAttr
noncomputable def S__law_take : Spec := fun args c K _ => ∃ top : Int, args = [.cell, .d (.int top)] ∧ c = .src ∧ 0 < top ∧ top < 2 ^ 20 ∧ ∀ r : Int, 0 ≤ r → r < top → K (.d (.int r)) .src
theorem i__law_take (top : Int) (h0 : args = [.cell, .d (.int top)]) (h1 : c = .src) (h2 : 0 < top) (h3 : top < 2 ^ 20) (h4 : ∀ r : Int, 0 ≤ r → r < top → K (.d (.int r)) .src) : S__law_take args c K KE := ⟨top, h0, h1, h2, h3, h4⟩
noncomputable def S__law_one : Spec := fun args c K _ => ∃ l : List D, args = [.cell, .d (.lst l)] ∧ c = .src ∧ 0 < l.length ∧ l.length < 2 ^ 20 ∧ ∀ y ∈ l, K (.d y) .src
theorem i__law_one (l : List D) (h0 : args = [.cell, .d (.lst l)]) (h1 : c = .src) (h2 : 0 < l.length) (h3 : l.length < 2 ^ 20) (h4 : ∀ y ∈ l, K (.d y) .src) : S__law_one args c K KE := ⟨l, h0, h1, h2, h3, h4⟩
noncomputable def hf : List Rat := [⟨0, 1, by walk_at "vd", by walk_at "vd"⟩, ⟨1, 1, by walk_at "vd", by walk_at "vd"⟩, ⟨-1, 1, by walk_at "vd", by walk_at "vd"⟩, ⟨1, 2, by walk_at "vd", by walk_at "vd"⟩, ⟨-3, 2, by walk_at "vd", by walk_at "vd"⟩, ⟨2, 1, by walk_at "vd", by walk_at "vd"⟩, ⟨5, 1, by walk_at "vd", by walk_at "vd"⟩, ⟨1, 3, by walk_at "vd", by walk_at "vd"⟩]
noncomputable def S__law_half : Spec := fun args c K _ => args = [.cell] ∧ c = .src ∧ ∀ q ∈ hf, K (.d (qD q)) .src
theorem i__law_half (h0 : args = [.cell]) (h1 : c = .src) (h2 : ∀ q ∈ hf, K (.d (qD q)) .src) : S__law_half args c K KE := ⟨h0, h1, h2⟩
noncomputable def sumR (l : List (Rat × Rat)) : Rat := l.foldl (fun s p => s + p.1 * p.2) 0
noncomputable def S__law_sum : Spec := fun args c K _ => ∃ l : List (Rat × Rat), args = [.d (.lst (l.map pD))] ∧ l.length ≤ 3 ∧ (∀ p ∈ l, SmP 150 p) ∧ K (.d (qD (sumR l))) c
theorem i__law_sum (l : List (Rat × Rat)) (h0 : args = [.d (.lst (l.map pD))]) (h1 : l.length ≤ 3) (h2 : (∀ p ∈ l, SmP 150 p)) (h3 : K (.d (qD (sumR l))) c) : S__law_sum args c K KE := ⟨l, h0, h1, h2, h3⟩
noncomputable def led (M : Mx) (p : Rat × Rat) (mv : Bool) : Rat × Rat := if mv then M.pt p else M.vec p
noncomputable def S__law_led : Spec := fun args c K _ => ∃ (M : Mx) (p : Rat × Rat) (mv : Bool) (r : D), args = [.d r, .d (pD p), .d (.int (if mv then 1 else 0))] ∧ (r = .tup (M.row.map qD) ∨ r = .lst (M.row.map qD)) ∧ SmM 100 M ∧ SmP 150 p ∧ K (.d (pD (led M p mv))) c
theorem i__law_led (M : Mx) (p : Rat × Rat) (mv : Bool) (r : D) (h0 : args = [.d r, .d (pD p), .d (.int (if mv then 1 else 0))]) (h1 : (r = .tup (M.row.map qD) ∨ r = .lst (M.row.map qD))) (h2 : SmM 100 M) (h3 : SmP 150 p) (h4 : K (.d (pD (led M p mv))) c) : S__law_led args c K KE := ⟨M, p, mv, r, h0, h1, h2, h3, h4⟩
noncomputable def p__law_take : PS := (pSeq (pIfS (pCmp cGt (pIdx (pLoc 0) (pLit (.int 0))) (pLit (.int 0))) (pSeq (pAsg 2 (pBin oMod (pIdx (pLoc 0) (pLit (.int 0))) (pLoc 1))) (pSeq (pSetSrc 0 (pBin oDiv (pIdx (pLoc 0) (pLit (.int 0))) (pLoc 1)) (pLoc 0)) (pSeq (pRet (pLoc 2)) pSkip))) pSkip) (pSeq (pSetSrc 1 (pBin oMod (pBin oAdd (pBin oMul (pIdx (pLoc 0) (pLit (.int 1))) (pLit (.int 39373))) (pLit (.int 7))) (pLit (.int 2147483647))) (pLoc 0)) (pSeq (pRet (pBin oMod (pBin oDiv (pBin oMod (pBin oMul (pIdx (pLoc 0) (pLit (.int 1))) (pIdx (pLoc 0) (pLit (.int 1)))) (pLit (.int 2147483629))) (pLit (.int 32))) (pLoc 1))) pSkip)))
noncomputable def p__law_one : PS := (pSeq (pRet (pIdx (pLoc 1) (pCall S__law_take (pCons (pLoc 0) (pCons (pCall sLen (pCons (pLoc 1) pNil)) pNil))))) pSkip)
noncomputable def p__law_half : PS := (pSeq (pRet (pCall S__law_one (pCons (pLoc 0) (pCons (pLst (pCons (pTup (pCons (pLit (.int 0)) (pCons (pLit (.int 1)) pNil))) (pCons (pTup (pCons (pLit (.int 1)) (pCons (pLit (.int 1)) pNil))) (pCons (pTup (pCons (pNeg (pLit (.int 1))) (pCons (pLit (.int 1)) pNil))) (pCons (pTup (pCons (pLit (.int 1)) (pCons (pLit (.int 2)) pNil))) (pCons (pTup (pCons (pNeg (pLit (.int 3))) (pCons (pLit (.int 2)) pNil))) (pCons (pTup (pCons (pLit (.int 2)) (pCons (pLit (.int 1)) pNil))) (pCons (pTup (pCons (pLit (.int 5)) (pCons (pLit (.int 1)) pNil))) (pCons (pTup (pCons (pLit (.int 1)) (pCons (pLit (.int 3)) pNil))) pNil))))))))) pNil)))) pSkip)
noncomputable def p__law_sum : PS := (pSeq (pUnp [1, 2] (pTup (pCons (pLit (.int 0)) (pCons (pLit (.int 1)) pNil)))) (pSeq (pFor (gTup [3, 4]) (pIter (pLoc 0)) (pSeq (pSwp [1, 2] (pTup (pCons (pBin oAdd (pBin oMul (pBin oMul (pLoc 1) (pIdx (pLoc 3) (pLit (.int 1)))) (pIdx (pLoc 4) (pLit (.int 1)))) (pBin oMul (pBin oMul (pIdx (pLoc 3) (pLit (.int 0))) (pIdx (pLoc 4) (pLit (.int 0)))) (pLoc 2))) (pCons (pBin oMul (pBin oMul (pLoc 2) (pIdx (pLoc 3) (pLit (.int 1)))) (pIdx (pLoc 4) (pLit (.int 1)))) pNil)))) pSkip)) (pSeq (pRet (pCall S_fraction (pCons (pLoc 1) (pCons (pLoc 2) pNil)))) pSkip)))
noncomputable def p__law_led : PS := (pSeq (pUnp [3, 4, 5, 6, 7, 8] (pLoc 0)) (pSeq (pAsg 9 (pTup (pCons (pLoc 2) (pCons (pLit (.int 1)) pNil)))) (pSeq (pRet (pTup (pCons (pCall S__law_sum (pCons (pLst (pCons (pTup (pCons (pLoc 3) (pCons (pIdx (pLoc 1) (pLit (.int 0))) pNil))) (pCons (pTup (pCons (pLoc 5) (pCons (pIdx (pLoc 1) (pLit (.int 1))) pNil))) (pCons (pTup (pCons (pLoc 7) (pCons (pLoc 9) pNil))) pNil)))) pNil)) (pCons (pCall S__law_sum (pCons (pLst (pCons (pTup (pCons (pLoc 4) (pCons (pIdx (pLoc 1) (pLit (.int 0))) pNil))) (pCons (pTup (pCons (pLoc 6) (pCons (pIdx (pLoc 1) (pLit (.int 1))) pNil))) (pCons (pTup (pCons (pLoc 8) (pCons (pLoc 9) pNil))) pNil)))) pNil)) pNil)))) pSkip)))
theorem src_0 {c : CO} {K : SV → CO → Prop} (h : ∀ n : Int, K (.d (.int n)) .src) : onIdx .cell (.d (.int 0)) .src K := onIdx_of (.inl ⟨rfl, h⟩)
theorem src_1 {c : CO} {K : SV → CO → Prop} (h : ∀ n : Int, 0 ≤ n → n < 2 ^ 31 → K (.d (.int n)) .src) : onIdx .cell (.d (.int 1)) .src K := onIdx_of (.inr ⟨rfl, h⟩)
theorem abs_mul {x y : Int} {n m : Nat} (hx : x.natAbs < P2 n) (hy : y.natAbs < P2 m) : (x * y).natAbs < P2 (n + m) := by rw [Int.natAbs_mul]; exact lt_mulP hx hy
theorem abs_add {x y : Int} {n : Nat} (hx : x.natAbs < P2 n) (hy : y.natAbs < P2 n) : (x + y).natAbs < P2 (n + 1) := by
  have h1 := Int.natAbs_add_le x y
  have h2 : P2 (n + 1) = P2 n * 2 := Nat.pow_succ ..
  walk_at "om"
theorem abs_31 {n : Int} (h0 : 0 ≤ n) (h1 : n < 2 ^ 31) : n.natAbs < P2 31 := by show n.natAbs < 2147483648; walk_at "om"
theorem vc__law_take (args : List SV) (c : CO) (K : SV → CO → Prop) (KE : Addr → CO → Prop) : S__law_take args c K KE → sDef 2 3 p__law_take args c K KE := by
  rintro ⟨top, rfl, rfl, h0, h1, hK⟩
  refine ⟨rfl, ?_⟩
  unfold p__law_take
  walk_at "vs"
  have hlog : top.natAbs.log2 < 9000 := small_log (k := 20) (by show top.natAbs < 1048576; walk_at "om") (by walk_at "vd")
  refine src_0 (c := .src) fun n => ?_
  walk_at "vs"
  refine ⟨fun h => ?_, fun h => ?_⟩
  · refine src_0 (c := .src) fun n => ?_
    walk_at "vs"
    refine ⟨by walk_at "om", src_0 (c := .src) fun n2 => ?_⟩
    walk_at "vs"
    refine ⟨by walk_at "om", hlog, .inl rfl, ?_⟩
    rw [Int.fmod_eq_emod_of_nonneg _ (by walk_at "om")]
    exact hK _ (Int.emod_nonneg _ (by walk_at "om")) (Int.emod_lt_of_pos _ h0)
  · refine src_1 (c := .src) fun n h2 h3 => ?_
    walk_at "vs"
    have hm : 0 ≤ (n * 39373 + 7).fmod 2147483647 ∧ (n * 39373 + 7).fmod 2147483647 < 2147483647 := by
      rw [Int.fmod_eq_emod_of_nonneg _ (by walk_at "vd")]
      exact ⟨Int.emod_nonneg _ (by walk_at "vd"), Int.emod_lt_of_pos _ (by walk_at "vd")⟩
    refine ⟨mul_ok (abs_31 h2 h3) (m := 16) (by walk_at "vd") (by walk_at "vd") (by walk_at "vd"), by walk_at "vd", .inr ⟨rfl, hm.1, Int.lt_trans hm.2 (by decide)⟩, src_1 (c := .src) fun n h2 h3 => ?_⟩
    walk_at "vs"
    refine src_1 (c := .src) fun m h4 h5 => ?_
    walk_at "vs"
    refine ⟨mul_ok (abs_31 h2 h3) (abs_31 h4 h5) (by walk_at "vd") (by walk_at "vd"), by walk_at "vd", by walk_at "vd", by walk_at "vd", by walk_at "om", ?_⟩
    rw [Int.fmod_eq_emod_of_nonneg (b := top) _ (by walk_at "om")]
    exact hK _ (Int.emod_nonneg _ (by walk_at "om")) (Int.emod_lt_of_pos _ h0)
theorem onIdx_any {l : List D} {i : Nat} {y : D} {c : CO} {K : SV → CO → Prop} (hl : l.length < 2 ^ 40) (h : l[i]? = some y) (k : K (.d y) c) : onIdx (.d (.lst l)) (.d (.int (i : Int))) c K := by
  apply onIdx_of
  have hi : i < l.length := (List.getElem?_eq_some_iff.mp h).1
  refine ⟨by omega, by omega, ?_⟩
  have e : seqIndex? (i : Int) l.length = some i := by
    unfold seqIndex?
    rw [if_neg (Int.not_lt.mpr (Int.natCast_nonneg i))]
    exact if_pos (Bool.and_eq_true_iff.mpr ⟨decide_eq_true (Int.natCast_nonneg i), decide_eq_true (Int.ofNat_lt.mpr hi)⟩)
  rw [e]
  simp [h]
  exact k
theorem vc__law_one (args : List SV) (c : CO) (K : SV → CO → Prop) (KE : Addr → CO → Prop) : S__law_one args c K KE → sDef 2 2 p__law_one args c K KE := by
  rintro ⟨l, rfl, rfl, h0, h1, hK⟩
  refine ⟨rfl, ?_⟩
  unfold p__law_one
  walk_at "vs"
  refine ⟨by omega, i__law_take ((l.length : Int)) rfl rfl (by omega) (by omega) (fun r hr0 hr1 => ?_)⟩
  obtain ⟨i, rfl⟩ := Int.eq_ofNat_of_zero_le hr0
  have hi : i < l.length := by walk_at "om"
  exact onIdx_any (by walk_at "om") (List.getElem?_eq_getElem hi) (by rw [finS_src]; exact hK _ (List.getElem_mem hi))
theorem vc__law_half (args : List SV) (c : CO) (K : SV → CO → Prop) (KE : Addr → CO → Prop) : S__law_half args c K KE → sDef 1 1 p__law_half args c K KE := by
  rintro ⟨rfl, rfl, hK⟩
  refine ⟨rfl, ?_⟩
  unfold p__law_half
  walk_at "vs"
  refine ⟨by walk_at "vd", by walk_at "vd", by walk_at "vd", by walk_at "vd", by walk_at "vd", by walk_at "vd", by walk_at "vd", by walk_at "vd", by walk_at "vd", i__law_one _ rfl rfl (by walk_at "vd") (by walk_at "vd") (fun y hy => ?_)⟩
  have : ∃ q ∈ hf, y = qD q := by
    have e : ([.tup [.int 0, .int 1], .tup [.int 1, .int 1], .tup [.int (-1), .int 1], .tup [.int 1, .int 2], .tup [.int (-3), .int 2], .tup [.int 2, .int 1], .tup [.int 5, .int 1], .tup [.int 1, .int 3]] : List D) = hf.map qD := rfl
    have hy : y ∈ hf.map qD := hy
    obtain ⟨q, h1, h2⟩ := List.mem_map.mp hy
    exact ⟨q, h1, h2.symm⟩
  obtain ⟨q, h1, rfl⟩ := this
  rw [finS_src]
  exact hK q h1
theorem sumR_snoc (l : List (Rat × Rat)) (p : Rat × Rat) : sumR (l ++ [p]) = sumR l + p.1 * p.2 := by unfold sumR; rw [List.foldl_append]; rfl
theorem sum_step {t b : Int} (hb : b ≠ 0) (p q : Rat) : Rat.divInt (t * p.den * q.den + p.num * q.num * b) (b * p.den * q.den) = Rat.divInt t b + p * q := by
  rw [mul_divInt p q, Rat.divInt_add_divInt _ _ hb (den_mul_ne p q)]
  congr 1
  · rw [Int.mul_assoc]
  · rw [Int.mul_assoc]
theorem vc__law_sum (args : List SV) (c : CO) (K : SV → CO → Prop) (KE : Addr → CO → Prop) : S__law_sum args c K KE → sPure (sDef 1 5 p__law_sum) args c K KE := by
  rintro ⟨l, rfl, hl, hs, hK⟩
  refine ⟨⟨_, rfl⟩, rfl, ?_⟩
  unfold p__law_sum
  walk_at "vs"
  try unfold pFor
  walk_at "vs"
  refine ⟨by walk_at "vd", fun k ρ c' => ∃ (t b : Int) (s3 s4 : Option SV), ρ = [some (.d (.lst (l.map pD))), some (.d (.int t)), some (.d (.int b)), s3, s4] ∧ c' = .none ∧ 0 < b ∧ b.natAbs < P2 (301 * k + 1) ∧ t.natAbs < P2 (301 * k + 1) ∧ Rat.divInt t b = sumR (l.take k),
    ⟨0, 1, none, none, rfl, rfl, by walk_at "vd", by walk_at "vd", by walk_at "vd", rfl⟩, ?_, ?_⟩
  · rintro k ρ c' y hy ⟨t, b, s3, s4, rfl, rfl, hb, hbs, hts, he⟩
    rw [List.getElem?_map] at hy
    obtain ⟨⟨p, q⟩, hpq, rfl⟩ := Option.map_eq_some_iff.mp hy
    have hk : k < 3 := by have := (List.getElem?_eq_some_iff.mp hpq).1; omega
    obtain ⟨hp, hq⟩ := hs (p, q) (List.mem_of_getElem? hpq)
    dsimp only at hp hq
    walk_at "vs"
    repeat walk_at "vi"
    have h1 := hp.dabs
    have h2 := hq.dabs
    have a1 := abs_mul hts h1
    have a2 := abs_mul hp.1 hq.1
    have a3 := abs_mul hbs h1
    have b1 := abs_mul a1 h2
    have b2 := abs_mul a2 hbs
    have b3 := abs_mul a3 h2
    refine ⟨mul_ok hts h1 (by omega) (by omega), ?_⟩
    repeat walk_at "vi"
    refine ⟨mul_ok a1 h2 (by omega) (by omega), ?_⟩
    repeat walk_at "vi"
    refine ⟨mul_ok hp.1 hq.1 (by omega) (by omega), mul_ok a2 hbs (by omega) (by omega), ?_⟩
    repeat walk_at "vi"
    refine ⟨mul_ok hbs h1 (by omega) (by omega), ?_⟩
    repeat walk_at "vi"
    refine ⟨mul_ok a3 h2 (by omega) (by omega), ?_⟩
    try walk_at "vs"
    refine ⟨by walk_at "vd", _, _, _, _, rfl, rfl, Int.mul_pos (Int.mul_pos hb (den_pos' p)) (den_pos' q), P2_le b3 (m := 301 * (k + 1) + 1) (by omega), P2_le (m := 301 * (k + 1) + 1) (abs_add (P2_le b1 (m := 301 * k + 301) (by omega)) (P2_le b2 (m := 301 * k + 301) (by omega))) (by omega), ?_⟩
    rw [take_snoc hpq, sumR_snoc, ← he, sum_step (by omega)]
  · rintro ρ c' ⟨t, b, s3, s4, rfl, rfl, hb, hbs, hts, he⟩
    try walk_at "vs"
    rw [List.length_map] at hbs hts he
    rw [List.take_length] at he
    refine i_fraction t b rfl (by omega) (P2_le hts (by omega)) (P2_le hbs (by omega)) ?_
    rw [he]; exact hK
end
section
-- part N11
open PySem PySem.W PyProof.Rows PySem.Calls PySem.Builtin PySem.Builtin.Str PySem.Builtin.ObjectAttr
theorem sum3 (a b c d e f : Rat) : sumR [(a, b), (c, d), (e, f)] = a * b + c * d + e * f := by
  show 0 + a * b + c * d + e * f = _
  rw [Rat.zero_add]
theorem sum2 (a b c d : Rat) : sumR [(a, b), (c, d)] = a * b + c * d := by
  show 0 + a * b + c * d = _
  rw [Rat.zero_add]
theorem sum1 (a b : Rat) : sumR [(a, b)] = a * b := by
  show 0 + a * b = _
  rw [Rat.zero_add]
theorem sm_one {k : Nat} (h : 1 ≤ k) : Sm k 1 := by
  have : Sm 1 1 := by constructor <;> decide
  exact this.mono h
theorem vc__law_led (args : List SV) (c : CO) (K : SV → CO → Prop) (KE : Addr → CO → Prop) : S__law_led args c K KE → sPure (sDef 3 10 p__law_led) args c K KE := by
  rintro ⟨M, p, mv, r, rfl, hr, hM, hp, hK⟩
  obtain ⟨h1, h2, h3, h4, h5, h6⟩ := hM
  refine ⟨⟨_, rfl⟩, rfl, ?_⟩
  have key : ∀ x y e : Rat, Sm 100 x → Sm 100 y → Sm 100 e → (∀ K' : SV → CO → Prop, K' (.d (qD (x * p.1 + y * p.2 + e * (if mv then 1 else 0)))) CO.none → ∀ KE', S__law_sum [.d (.lst [.tup [qD x, qD p.1], .tup [qD y, qD p.2], .tup [qD e, .tup [.int (if mv then 1 else 0), .int 1]]])] CO.none K' KE') := fun x y e hx hy he K' hk KE' => by
    refine i__law_sum ([(x, p.1), (y, p.2), (e, if mv then 1 else 0)]) (by cases mv <;> rfl) (Nat.le_refl _) (fun q hq => ?_) ?_
    · simp only [List.mem_cons, List.not_mem_nil, or_false] at hq
      rcases hq with rfl | rfl | rfl
      · exact ⟨hx.mono (by walk_at "vd"), hp.1⟩
      · exact ⟨hy.mono (by walk_at "vd"), hp.2⟩
      · exact ⟨he.mono (by walk_at "vd"), by cases mv; exact sm_zero (by walk_at "vd"); exact sm_one (by walk_at "vd")⟩
    · rw [sum3]; exact hk
  have fin : qD (M.a * p.1 + M.c * p.2 + M.e * (if mv then 1 else 0)) = qD (led M p mv).1 ∧ qD (M.b * p.1 + M.d * p.2 + M.f * (if mv then 1 else 0)) = qD (led M p mv).2 := by
    cases mv
    · show qD (_ + M.e * 0) = qD (M.a * p.1 + M.c * p.2) ∧ qD (_ + M.f * 0) = qD (M.b * p.1 + M.d * p.2)
      rw [Rat.mul_zero, Rat.add_zero, Rat.mul_zero, Rat.add_zero]; exact ⟨rfl, rfl⟩
    · show qD (_ + M.e * 1) = qD (M.a * p.1 + M.c * p.2 + M.e) ∧ qD (_ + M.f * 1) = qD (M.b * p.1 + M.d * p.2 + M.f)
      rw [Rat.mul_one, Rat.mul_one]; exact ⟨rfl, rfl⟩
  unfold p__law_led
  have hrow : M.row.map qD = [qD M.a, qD M.b, qD M.c, qD M.d, qD M.e, qD M.f] := rfl
  rw [hrow] at hr
  rcases hr with rfl | rfl
  all_goals
    walk_at "vs"
    refine ⟨by walk_at "vd", ?_⟩
    repeat walk_at "vi"
    refine ⟨by walk_at "vd", ?_⟩
    repeat walk_at "vi"
    refine ⟨by walk_at "vd", by walk_at "vd", by walk_at "vd", key _ _ _ h1 h3 h5 _ ?_ _⟩
    repeat walk_at "vi"
    try walk_at "vs"
    refine ⟨by walk_at "vd", ?_⟩
    repeat walk_at "vi"
    refine ⟨by walk_at "vd", by walk_at "vd", by walk_at "vd", key _ _ _ h2 h4 h6 _ ?_ _⟩
    try walk_at "vs"
    refine ⟨by walk_at "vd", ?_⟩
    rw [fin.1, fin.2]
    exact hK
theorem pt_thn (M N : Mx) (p : Rat × Rat) : (M.thn N).pt p = N.pt (M.pt p) := by
  apply Prod.ext <;> simp only [Mx.thn, Mx.pt, Mx.vec] <;> grind
theorem vec_thn (M N : Mx) (p : Rat × Rat) : (M.thn N).vec p = N.vec (M.vec p) := by
  apply Prod.ext <;> simp only [Mx.thn, Mx.pt, Mx.vec] <;> grind
theorem det_thn (M N : Mx) : (M.thn N).det = M.det * N.det := by
  simp only [Mx.thn, Mx.pt, Mx.vec, Mx.det]; grind
theorem inv_ex (M : Mx) (h : M.det ≠ 0) : ∃ k : Rat, (M.a * M.d - M.b * M.c) * k = 1 ∧ M.inv = ⟨M.d * k, -(M.b * k), -(M.c * k), M.a * k, -(M.d * k * M.e + -(M.c * k) * M.f), -(-(M.b * k) * M.e + M.a * k * M.f)⟩ := by
  refine ⟨M.det⁻¹, Rat.mul_inv_cancel _ h, ?_⟩
  simp only [Mx.inv, Mx.vec, Rat.div_def]
theorem pt_inv (M : Mx) (h : M.det ≠ 0) (p : Rat × Rat) : M.inv.pt (M.pt p) = p := by
  obtain ⟨k, hk, e⟩ := inv_ex M h
  rw [e]
  apply Prod.ext <;> simp only [Mx.pt, Mx.vec] <;> grind
theorem inv_pt (M : Mx) (h : M.det ≠ 0) (p : Rat × Rat) : M.pt (M.inv.pt p) = p := by
  obtain ⟨k, hk, e⟩ := inv_ex M h
  rw [e]
  apply Prod.ext <;> simp only [Mx.pt, Mx.vec] <;> grind
theorem inv_inv (M : Mx) (h : M.det ≠ 0) : M.inv.det ≠ 0 ∧ M.inv.inv = M := by
  obtain ⟨k, hk, e⟩ := inv_ex M h
  have hd : M.inv.det * (M.a * M.d - M.b * M.c) = 1 := by
    rw [e]; simp only [Mx.det]; grind
  have h2 : M.inv.det ≠ 0 := fun z => by rw [z, Rat.zero_mul] at hd; exact absurd hd (by walk_at "vd")
  obtain ⟨k2, hk2, e2⟩ := inv_ex M.inv h2
  refine ⟨h2, ?_⟩
  rw [e2]
  have hkk : k2 = M.a * M.d - M.b * M.c := by
    have h3 : M.inv.a * M.inv.d - M.inv.b * M.inv.c = M.inv.det := rfl
    rw [h3] at hk2
    have : k2 = (M.inv.det * (M.a * M.d - M.b * M.c)) * k2 := by rw [hd, Rat.one_mul]
    rw [this, Rat.mul_comm M.inv.det, Rat.mul_assoc, hk2, Rat.mul_one]
  rw [hkk, e]
  obtain ⟨a, b, c, d, x, y⟩ := M
  dsimp only at *
  have hD : k * (a * d - b * c) = 1 := (Rat.mul_comm _ _).trans hk
  have q : ∀ z, z * k * (a * d - b * c) = z := fun z => by rw [Rat.mul_assoc, hD, Rat.mul_one]
  have q' : ∀ z, -(-(z * k) * (a * d - b * c)) = z := fun z => by rw [Rat.neg_mul, Rat.neg_neg, q]
  rw [q, q, q', q']
  clear hd h2 e e2 hk2 hkk h q q' hk
  congr 1 <;> grind
end
section
-- part N12
variable {args : List SV} {c : CO} {K : SV → CO → Prop} {KE : Addr → CO → Prop}
open PySem PySem.W PyProof.Rows PySem.Calls PySem.Builtin PySem.Builtin.Str PySem.Builtin.ObjectAttr
noncomputable def S__law_product_right : Spec := fun args c K _ => ∃ (M N : Mx) (p : Rat × Rat), args = [.d (mD M), .d (mD N), .d (pD p)] ∧ SmM 4 M ∧ SmM 4 N ∧ SmP 4 p ∧ K (.d (.bool true)) c
theorem i__law_product_right (M N : Mx) (p : Rat × Rat) (h0 : args = [.d (mD M), .d (mD N), .d (pD p)]) (h1 : SmM 4 M) (h2 : SmM 4 N) (h3 : SmP 4 p) (h4 : K (.d (.bool true)) c) : S__law_product_right args c K KE := ⟨M, N, p, h0, h1, h2, h3, h4⟩
noncomputable def S__law_inverse_right : Spec := fun args c K _ => ∃ (M : Mx) (p : Rat × Rat), args = [.d (mD M), .d (pD p)] ∧ SmM 3 M ∧ SmP 3 p ∧ K (.d (.bool true)) c
theorem i__law_inverse_right (M : Mx) (p : Rat × Rat) (h0 : args = [.d (mD M), .d (pD p)]) (h1 : SmM 3 M) (h2 : SmP 3 p) (h3 : K (.d (.bool true)) c) : S__law_inverse_right args c K KE := ⟨M, p, h0, h1, h2, h3⟩
noncomputable def S__law_spot_right : Spec := fun args c K _ => ∃ (M : Mx) (p : Rat × Rat), args = [.cell, .d (mD M), .d (pD p)] ∧ c = .src ∧ SmM 4 M ∧ SmP 4 p ∧ K (.d (.bool true)) .src
theorem i__law_spot_right (M : Mx) (p : Rat × Rat) (h0 : args = [.cell, .d (mD M), .d (pD p)]) (h1 : c = .src) (h2 : SmM 4 M) (h3 : SmP 4 p) (h4 : K (.d (.bool true)) .src) : S__law_spot_right args c K KE := ⟨M, p, h0, h1, h2, h3, h4⟩
noncomputable def p__law_product_right : PS := (pSeq (pAsg 3 (pMeth isMat S_Matrix_then (pLoc 0) (pCons (pLoc 1) pNil))) (pSeq (pIfS (pCmp cNe (pMeth isMat S_Matrix_point (pLoc 3) (pCons (pLoc 2) pNil)) (pCall S__law_led (pCons (pMeth isMat S_Matrix_row (pLoc 1) pNil) (pCons (pCall S__law_led (pCons (pMeth isMat S_Matrix_row (pLoc 0) pNil) (pCons (pLoc 2) (pCons (pLit (.int 1)) pNil)))) (pCons (pLit (.int 1)) pNil))))) (pSeq (pRet (pLit (.bool false))) pSkip) pSkip) (pSeq (pIfS (pCmp cNe (pMeth isMat S_Matrix_vector (pLoc 3) (pCons (pLoc 2) pNil)) (pCall S__law_led (pCons (pMeth isMat S_Matrix_row (pLoc 1) pNil) (pCons (pCall S__law_led (pCons (pMeth isMat S_Matrix_row (pLoc 0) pNil) (pCons (pLoc 2) (pCons (pLit (.int 0)) pNil)))) (pCons (pLit (.int 0)) pNil))))) (pSeq (pRet (pLit (.bool false))) pSkip) pSkip) (pSeq (pRet (pVal (pCmp cEq (pMeth isMat S_Matrix_determinant (pLoc 3) pNil) (pCall S__law_sum (pCons (pLst (pCons (pTup (pCons (pMeth isMat S_Matrix_determinant (pLoc 0) pNil) (pCons (pMeth isMat S_Matrix_determinant (pLoc 1) pNil) pNil))) pNil)) pNil))))) pSkip))))
noncomputable def p__law_inverse_right : PS := (pSeq (pUnp [2, 3, 4, 5, 6, 7] (pMeth isMat S_Matrix_row (pLoc 0) pNil)) (pSeq (pAsg 8 (pCall S__law_sum (pCons (pLst (pCons (pTup (pCons (pLoc 2) (pCons (pLoc 5) pNil))) (pCons (pTup (pCons (pLoc 3) (pCons (pTup (pCons (pNeg (pIdx (pLoc 4) (pLit (.int 0)))) (pCons (pIdx (pLoc 4) (pLit (.int 1))) pNil))) pNil))) pNil))) pNil))) (pSeq (pIfS (pCmp cNe (pMeth isMat S_Matrix_determinant (pLoc 0) pNil) (pLoc 8)) (pSeq (pRet (pLit (.bool false))) pSkip) pSkip) (pSeq (pTry 56 (pSeq (pAsg 9 (pMeth isMat S_Matrix_inverse (pLoc 0) pNil)) pSkip) (pSeq (pRet (pVal (pCmp cEq (pIdx (pLoc 8) (pLit (.int 0))) (pLit (.int 0))))) pSkip)) (pSeq (pIfS (pOr (pCmp cEq (pIdx (pLoc 8) (pLit (.int 0))) (pLit (.int 0))) (pOr (pCmp cNe (pMeth isMat S_Matrix_point (pLoc 9) (pCons (pMeth isMat S_Matrix_point (pLoc 0) (pCons (pLoc 1) pNil)) pNil)) (pLoc 1)) (pCmp cNe (pMeth isMat S_Matrix_point (pLoc 0) (pCons (pMeth isMat S_Matrix_point (pLoc 9) (pCons (pLoc 1) pNil)) pNil)) (pLoc 1)))) (pSeq (pRet (pLit (.bool false))) pSkip) pSkip) (pSeq (pRet (pVal (pCmp cEq (pMeth isMat S_Matrix_row (pMeth isMat S_Matrix_inverse (pLoc 9) pNil) pNil) (pMeth isMat S_Matrix_row (pLoc 0) pNil)))) pSkip))))))
noncomputable def p__law_spot_right : PS := (pSeq (pAsg 3 (pCall S__law_one (pCons (pLoc 0) (pCons (pLst (pCons (pLit (.int 1)) (pCons (pLit (.int 4)) (pCons (pLit (.int 64)) pNil)))) pNil)))) (pSeq (pUnp [4, 5] (pCall S_spot_of (pCons (pLoc 1) (pCons (pLoc 2) (pCons (pLoc 3) pNil))))) (pSeq (pFor (gTup [6, 7]) (pIter (pLst (pCons (pTup (pCons (pLoc 4) (pCons (pIdx (pMeth isMat S_Matrix_point (pLoc 1) (pCons (pLoc 2) pNil)) (pLit (.int 0))) pNil))) (pCons (pTup (pCons (pLoc 5) (pCons (pIdx (pMeth isMat S_Matrix_point (pLoc 1) (pCons (pLoc 2) pNil)) (pLit (.int 1))) pNil))) pNil)))) (pSeq (pAsg 8 (pBin oSub (pBin oMul (pBin oMul (pLit (.int 2)) (pLoc 6)) (pIdx (pLoc 7) (pLit (.int 1)))) (pBin oMul (pBin oMul (pLit (.int 2)) (pIdx (pLoc 7) (pLit (.int 0)))) (pLoc 3)))) (pSeq (pIfS (pNot (pChain cLt cLe (pNeg (pIdx (pLoc 7) (pLit (.int 1)))) (pLoc 8) (pIdx (pLoc 7) (pLit (.int 1))))) (pSeq (pRet (pLit (.bool false))) pSkip) pSkip) pSkip))) (pSeq (pRet (pLit (.bool true))) pSkip))))
theorem eq_same {l : List D} {K : Bool → Prop} (h : okN 8 (.tup l) = true) (k : K true) : cEq (.tup l) (.tup l) K := ⟨h, h, fun r hr => by rw [hr.mpr rfl]; exact k⟩
theorem ne_same {l : List D} {K : Bool → Prop} (h : okN 8 (.tup l) = true) (k : K false) : cNe (.tup l) (.tup l) K := ⟨h, h, fun r hr => by
  cases r with
  | false => exact k
  | true => exact absurd rfl (hr.mp rfl)⟩
theorem okN_q (q : Rat) : okN 8 (qD q) = true := rfl
theorem okN_p (p : Rat × Rat) : okN 8 (pD p) = true := rfl
theorem okN_r (M : Mx) : okN 8 (.tup (M.row.map qD)) = true := rfl
theorem ne_p {p q : Rat × Rat} {K : Bool → Prop} (e : p = q) (k : K false) : cNe (pD p) (pD q) K := by subst e; exact ne_same (okN_p p) k
theorem ne_q {p q : Rat} {K : Bool → Prop} (e : p = q) (k : K false) : cNe (qD p) (qD q) K := by subst e; exact ne_same (okN_q p) k
theorem eq_q {p q : Rat} {K : Bool → Prop} (e : p = q) (k : K true) : cEq (qD p) (qD q) K := by subst e; exact eq_same (okN_q p) k
theorem eq_r {M N : Mx} {K : Bool → Prop} (e : M = N) (k : K true) : cEq (.tup (M.row.map qD)) (.tup (N.row.map qD)) K := by subst e; exact eq_same (okN_r M) k
theorem vc__law_product_right (args : List SV) (c : CO) (K : SV → CO → Prop) (KE : Addr → CO → Prop) : S__law_product_right args c K KE → sPure (sDef 3 4 p__law_product_right) args c K KE := by
  rintro ⟨M, N, p, rfl, hM, hN, hp, hK⟩
  refine ⟨⟨_, rfl⟩, rfl, ?_⟩
  have hB : SmM 22 (M.thn N) := hM.thn hN (by walk_at "vd")
  have hMp : SmP 22 (M.pt p) := hM.pt hp (by walk_at "vd")
  have hMv : SmP 22 (M.vec p) := hM.vec hp (by walk_at "vd")
  unfold p__law_product_right
  walk_at "vs"
  refine i_Matrix_then M N rfl (hM.mono (by walk_at "vd")) (hN.mono (by walk_at "vd")) ?_
  walk_at "vs"
  refine i_Matrix_point _ p rfl (hB.mono (by walk_at "vd")) (hp.mono (by walk_at "vd")) ?_
  walk_at "vs"
  refine i_Matrix_row N rfl ?_
  walk_at "vs"
  refine i_Matrix_row M rfl ?_
  walk_at "vs"
  refine i__law_led M p true _ rfl (.inl rfl) (hM.mono (by walk_at "vd")) (hp.mono (by walk_at "vd")) ?_
  walk_at "vs"
  refine i__law_led N (M.pt p) true _ rfl (.inl rfl) (hN.mono (by walk_at "vd")) (hMp.mono (by walk_at "vd")) ?_
  walk_at "vs"
  refine ne_p (pt_thn M N p) ⟨nofun, fun _ => ?_⟩
  try walk_at "vs"
  refine i_Matrix_vector _ p rfl (hB.mono (by walk_at "vd")) (hp.mono (by walk_at "vd")) ?_
  walk_at "vs"
  refine i_Matrix_row N rfl ?_
  walk_at "vs"
  refine i_Matrix_row M rfl ?_
  walk_at "vs"
  refine i__law_led M p false _ rfl (.inl rfl) (hM.mono (by walk_at "vd")) (hp.mono (by walk_at "vd")) ?_
  walk_at "vs"
  refine i__law_led N (M.vec p) false _ rfl (.inl rfl) (hN.mono (by walk_at "vd")) (hMv.mono (by walk_at "vd")) ?_
  walk_at "vs"
  refine ne_p (vec_thn M N p) ⟨nofun, fun _ => ?_⟩
  try walk_at "vs"
  refine i_Matrix_determinant _ rfl (hB.mono (by walk_at "vd")) ?_
  walk_at "vs"
  refine i_Matrix_determinant M rfl (hM.mono (by walk_at "vd")) ?_
  walk_at "vs"
  refine i_Matrix_determinant N rfl (hN.mono (by walk_at "vd")) ?_
  walk_at "vs"
  refine ⟨by walk_at "vd", by walk_at "vd", i__law_sum ([(M.det, N.det)]) rfl (by show 1 ≤ 3; decide) (fun q hq => ?_) ?_⟩
  · rw [List.mem_singleton.mp hq]
    exact ⟨hM.det (by walk_at "vd"), hN.det (by walk_at "vd")⟩
  · walk_at "vs"
    refine eq_q ?_ ?_
    · rw [sum1]; exact det_thn M N
    · try walk_at "vs"
      exact hK
theorem vc__law_inverse_right (args : List SV) (c : CO) (K : SV → CO → Prop) (KE : Addr → CO → Prop) : S__law_inverse_right args c K KE → sPure (sDef 2 10 p__law_inverse_right) args c K KE := by
  rintro ⟨M, p, rfl, hM, hp, hK⟩
  refine ⟨⟨_, rfl⟩, rfl, ?_⟩
  obtain ⟨h1, h2, h3, h4, h5, h6⟩ := id hM
  unfold p__law_inverse_right
  walk_at "vs"
  refine i_Matrix_row M rfl ?_
  unfold Mx.row
  walk_at "vs"
  refine ⟨by walk_at "vd", ?_⟩
  repeat walk_at "vi"
  refine ⟨by walk_at "vd", by walk_at "vd", by walk_at "vd", i__law_sum ([(M.a, M.d), (M.b, -M.c)]) rfl (by show 2 ≤ 3; decide) (fun q hq => ?_) ?_⟩
  · simp only [List.mem_cons, List.not_mem_nil, or_false] at hq
    rcases hq with rfl | rfl
    · exact ⟨h1.mono (by walk_at "vd"), h4.mono (by walk_at "vd")⟩
    · exact ⟨h2.mono (by walk_at "vd"), h3.neg.mono (by walk_at "vd")⟩
  have hdue : sumR [(M.a, M.d), (M.b, -M.c)] = M.det := by
    rw [sum2]; unfold Mx.det; grind
  rw [hdue]
  walk_at "vs"
  refine i_Matrix_determinant M rfl (hM.mono (by walk_at "vd")) ?_
  walk_at "vs"
  refine ne_q rfl ⟨nofun, fun _ => ?_⟩
  try walk_at "vs"
  refine i_Matrix_inverse M rfl (hM.mono (by walk_at "vd")) (fun hd => ?_) (fun hd => ?_)
  · repeat walk_at "vi"
    have hI := hM.inv hd (k := 39) (by walk_at "vd")
    have hMp : SmP 17 (M.pt p) := hM.pt hp (by walk_at "vd")
    have hIp : SmP 125 (M.inv.pt p) := hI.pt hp (by walk_at "vd")
    have hnum : ¬ M.det.num = 0 := num_ne hd
    refine ⟨fun h => absurd (beq_iff_eq.mp h) hnum, fun _ => ?_⟩
    refine i_Matrix_point M p rfl (hM.mono (by walk_at "vd")) (hp.mono (by walk_at "vd")) ?_
    walk_at "vs"
    refine i_Matrix_point M.inv (M.pt p) rfl (hI.mono (by walk_at "vd")) (hMp.mono (by walk_at "vd")) ?_
    walk_at "vs"
    refine ne_p (pt_inv M hd p) ⟨nofun, fun _ => ?_⟩
    try walk_at "vs"
    refine i_Matrix_point M.inv p rfl (hI.mono (by walk_at "vd")) (hp.mono (by walk_at "vd")) ?_
    walk_at "vs"
    refine i_Matrix_point M _ rfl (hM.mono (by walk_at "vd")) (hIp.mono (by walk_at "vd")) ?_
    walk_at "vs"
    refine ne_p (inv_pt M hd p) ⟨nofun, fun _ => ?_⟩
    try walk_at "vs"
    obtain ⟨hd2, hii⟩ := inv_inv M hd
    refine i_Matrix_inverse M.inv rfl (hI.mono (by walk_at "vd")) (fun _ => ?_) (fun h => absurd h hd2)
    walk_at "vs"
    refine i_Matrix_row _ rfl ?_
    walk_at "vs"
    refine i_Matrix_row M rfl ?_
    walk_at "vs"
    exact eq_r hii hK
  · refine ⟨rfl, ?_⟩
    repeat walk_at "vi"
    rw [hd]
    exact hK
theorem rnd_spec (q : Rat) (g : Int) : -(q.den : Int) < 2 * rnd (q * (g : Rat)) * q.den - 2 * q.num * g ∧ 2 * rnd (q * (g : Rat)) * q.den - 2 * q.num * g ≤ q.den := by
  generalize hr : q * (g : Rat) = r
  have e1 : r.num * q.den = q.num * g * r.den := by
    have h1 : Rat.divInt r.num r.den = Rat.divInt (q.num * g) (q.den * 1) := by
      rw [Rat.num_divInt_den, ← hr]; exact mul_divInt q (g : Rat)
    have h2 := (Rat.divInt_eq_divInt_iff (den_ne r) (by have := den_ne q; walk_at "om")).mp h1
    rw [Int.mul_one] at h2
    exact h2
  have hd := den_pos' r
  have hq := den_pos' q
  unfold rnd
  generalize hf : (2 * r.num + r.den) / (2 * (r.den : Int)) = f
  have h1 : f * (2 * r.den) ≤ 2 * r.num + r.den := by rw [← hf]; exact Int.ediv_mul_le _ (by walk_at "om")
  have h2 : 2 * r.num + r.den < f * (2 * r.den) + 2 * r.den := by
    rw [← hf]
    have := Int.lt_ediv_add_one_mul_self (2 * r.num + r.den) (show (0 : Int) < 2 * r.den by walk_at "om")
    rw [Int.add_mul, Int.one_mul] at this
    exact this
  have e2 : (r.den : Int) * (2 * f * q.den - 2 * q.num * g) = q.den * (f * (2 * r.den) - 2 * r.num) := by grind
  constructor
  · have h3 : (q.den : Int) * -(r.den : Int) < q.den * (f * (2 * r.den) - 2 * r.num) := Int.mul_lt_mul_of_pos_left (by walk_at "om") hq
    rw [← e2] at h3
    have h4 : (r.den : Int) * -(q.den : Int) < r.den * (2 * f * q.den - 2 * q.num * g) := by
      rw [Int.mul_neg, Int.mul_comm]; rw [Int.mul_neg] at h3; exact h3
    exact Int.lt_of_mul_lt_mul_left h4 (by walk_at "om")
  · have h3 : (q.den : Int) * (f * (2 * r.den) - 2 * r.num) ≤ q.den * r.den := Int.mul_le_mul_of_nonneg_left (by walk_at "om") (by walk_at "om")
    rw [← e2, Int.mul_comm (q.den : Int)] at h3
    exact Int.le_of_mul_le_mul_left h3 hd
theorem rnd_small0 {a b p x : Nat} (h : a < p) (k : b < p) (hx : x ≤ 2 * a + b) : x < p * 4 := by omega
theorem rnd_small {q : Rat} {n : Nat} (h : Sm n q) : (rnd q).natAbs < P2 (n + 2) := by
  have e : P2 (n + 2) = P2 n * 4 := by show 2 ^ (n + 2) = 2 ^ n * 4; rw [Nat.pow_add]
  rw [e]
  exact rnd_small0 h.1 h.2 (Nat.le_trans (Int.natAbs_ediv_le_natAbs _ _) (Nat.le_trans (Int.natAbs_add_le _ _) (by rw [Int.natAbs_mul]; exact Nat.le_refl _)))
theorem vc__law_spot_right (args : List SV) (c : CO) (K : SV → CO → Prop) (KE : Addr → CO → Prop) : S__law_spot_right args c K KE → sDef 3 9 p__law_spot_right args c K KE := by
  rintro ⟨M, p, rfl, rfl, hM, hp, hK⟩
  refine ⟨rfl, ?_⟩
  have hP : SmP 22 (M.pt p) := hM.pt hp (by walk_at "vd")
  unfold p__law_spot_right
  walk_at "vs"
  refine ⟨by walk_at "vd", i__law_one _ rfl rfl (by walk_at "vd") (by walk_at "vd") (fun y hy => ?_)⟩
  obtain ⟨g, rfl, hg0, hg1⟩ : ∃ g : Int, y = .int g ∧ 0 < g ∧ g < 1000 := by
    simp only [List.mem_cons, List.not_mem_nil, or_false] at hy
    rcases hy with rfl | rfl | rfl
    · exact ⟨1, rfl, by walk_at "vd", by walk_at "vd"⟩
    · exact ⟨4, rfl, by walk_at "vd", by walk_at "vd"⟩
    · exact ⟨64, rfl, by walk_at "vd", by walk_at "vd"⟩
  walk_at "vs"
  refine i_spot_of M p g rfl (hM.mono (by walk_at "vd")) (hp.mono (by walk_at "vd")) hg0 hg1 ?_
  walk_at "vs"
  try unfold pFor
  walk_at "vs"
  refine ⟨M, p, rfl, hM.mono (by walk_at "vd"), hp.mono (by walk_at "vd"), ?_⟩
  repeat walk_at "vi"
  refine ⟨by walk_at "vd", i_Matrix_point M p rfl (hM.mono (by walk_at "vd")) (hp.mono (by walk_at "vd")) ?_⟩
  repeat walk_at "vi"
  have hS : Sm 22 (M.pt p).1 ∧ Sm 22 (M.pt p).2 := hP
  generalize hq1 : (M.pt p).1 = q1 at *
  generalize hq2 : (M.pt p).2 = q2 at *
  refine ⟨by walk_at "vd", by walk_at "vd", fun k ρ c => ∃ s6 s7 s8, ρ = [some .cell, some (.d (mD M)), some (.d (pD p)), some (.d (.int g)), some (.d (.int (rnd (q1 * g)))), some (.d (.int (rnd (q2 * g)))), s6, s7, s8] ∧ c = .src, ⟨none, none, none, rfl, rfl⟩, ?_, ?_⟩
  · rintro k ρ c y hy ⟨s6, s7, s8, rfl, rfl⟩
    obtain ⟨q, rfl, hq⟩ : ∃ q : Rat, y = .tup [.int (rnd (q * g)), qD q] ∧ Sm 22 q := by
      match k, hy with
      | 0, hy => cases hy; exact ⟨q1, rfl, hS.1⟩
      | 1, hy => cases hy; exact ⟨q2, rfl, hS.2⟩
      | k + 2, hy => simp at hy
    have sg : Sm 10 (g : Rat) := ⟨by show g.natAbs < 1024; walk_at "om", by show 1 < 1024; decide⟩
    have hg : g.natAbs < P2 10 := by show g.natAbs < 1024; walk_at "om"
    have hr : (rnd (q * g)).natAbs < P2 34 := rnd_small (hq.mul sg (k := 32) (by walk_at "vd"))
    have hsp := rnd_spec q g
    generalize hrr : rnd (q * g) = r at *
    walk_at "vs"
    have hd := hq.dabs
    refine ⟨mul_ok two_abs hr (by walk_at "vd") (by walk_at "vd"), ?_⟩
    repeat walk_at "vi"
    refine ⟨mul_ok (abs_mul two_abs hr) hd (by walk_at "vd") (by walk_at "vd"), ?_⟩
    repeat walk_at "vi"
    refine ⟨mul_ok two_abs hq.1 (by walk_at "vd") (by walk_at "vd"), mul_ok (abs_mul two_abs hq.1) hg (by walk_at "vd") (by walk_at "vd"), ?_⟩
    repeat walk_at "vi"
    refine ⟨fun h => ?_, fun h => ?_⟩
    · simp only [decide_eq_false_iff_not] at h
      exact absurd hsp.1 h
    · repeat walk_at "vi"
      refine ⟨fun h => ?_, fun h => ⟨_, _, _, rfl, rfl⟩⟩
      have h : ¬ (2 * r * q.den - 2 * q.num * g ≤ q.den) := by simpa using h
      exact absurd hsp.2 h
  · rintro ρ c ⟨s6, s7, s8, rfl, rfl⟩
    exact hK
end
section
-- part N13
variable {args : List SV} {c : CO} {K : SV → CO → Prop} {KE : Addr → CO → Prop}
open PySem PySem.W PyProof.Rows PySem.Calls PySem.Builtin PySem.Builtin.Str PySem.Builtin.ObjectAttr
noncomputable def nums : List (List Nat × Rat) := [([50], ⟨2, 1, by walk_at "vd", by walk_at "vd"⟩), ([45, 49, 46, 53], ⟨-3, 2, by walk_at "vd", by walk_at "vd"⟩), ([46, 50, 53], ⟨1, 4, by walk_at "vd", by walk_at "vd"⟩), ([48], ⟨0, 1, by walk_at "vd", by walk_at "vd"⟩), ([51, 101, 49], ⟨30, 1, by walk_at "vd", by walk_at "vd"⟩), ([45, 46, 53], ⟨-1, 2, by walk_at "vd", by walk_at "vd"⟩)]
noncomputable def gaps : List (List Nat) := [[32], [44], [32, 44, 32], []]
theorem nums_ok : ∀ n ∈ nums, NumT n.1 n.2 := by
  intro n hn
  unfold nums at hn
  simp only [List.mem_cons, List.not_mem_nil, or_false] at hn
  rcases hn with rfl | rfl | rfl | rfl | rfl | rfl
  · exact ⟨false, [50], none, none, ⟨by walk_at "vd", by walk_at "vd", nofun, by walk_at "vd", by walk_at "vd"⟩, rfl, by decide +kernel⟩
  · exact ⟨true, [49], some [53], none, ⟨by walk_at "vd", by walk_at "vd", nofun, by walk_at "vd", by walk_at "vd"⟩, rfl, by decide +kernel⟩
  · exact ⟨false, [], some [50, 53], none, ⟨by walk_at "vd", by walk_at "vd", nofun, by walk_at "vd", by walk_at "vd"⟩, rfl, by decide +kernel⟩
  · exact ⟨false, [48], none, none, ⟨by walk_at "vd", by walk_at "vd", nofun, by walk_at "vd", by walk_at "vd"⟩, rfl, by decide +kernel⟩
  · exact ⟨false, [51], none, some [49], ⟨by walk_at "vd", by walk_at "vd", fun e h => by cases h; exact ⟨by walk_at "vd", by walk_at "vd", by walk_at "vd", by walk_at "vd"⟩, by walk_at "vd", by walk_at "vd"⟩, rfl, by decide +kernel⟩
  · exact ⟨true, [], some [53], none, ⟨by walk_at "vd", by walk_at "vd", nofun, by walk_at "vd", by walk_at "vd"⟩, rfl, by decide +kernel⟩
noncomputable def isPart (a b : List Nat) : Bool := b.head? == some 45 || (b.head? == some 46 && decide (46 ∈ a))
noncomputable def sepOf (gap a b : List Nat) : List Nat := if gap = [] ∧ isPart a b = false then [32] else gap
noncomputable def partL (gap a : List Nat) : List (List Nat) → List Nat
  | [] => a
  | b :: r => a ++ (sepOf gap a b ++ partL gap b r)
noncomputable def lastL (a : List Nat) : List (List Nat) → List Nat
  | [] => a
  | c :: r => lastL c r
theorem lastL_at : ∀ (r : List (List Nat)) (a : List Nat), (a :: r)[r.length]? = some (lastL a r)
  | [], _ => rfl
  | c :: r, _ => by rw [List.length_cons, List.getElem?_cons_succ]; exact lastL_at r c
theorem partL_snoc (gap : List Nat) : ∀ (r : List (List Nat)) (a b : List Nat), partL gap a (r ++ [b]) = partL gap a r ++ (sepOf gap (lastL a r) b ++ b)
  | [], a, b => rfl
  | c :: r, a, b => by
    show a ++ (sepOf gap a c ++ partL gap c (r ++ [b])) = a ++ (sepOf gap a c ++ partL gap c r) ++ (sepOf gap (lastL c r) b ++ b)
    rw [partL_snoc gap r c b]
    simp only [List.append_assoc]
noncomputable def isNum (t : List Nat) : Prop := t ∈ nums.map (·.1)
theorem isNum_cases {t : List Nat} (h : isNum t) : t = [50] ∨ t = [45, 49, 46, 53] ∨ t = [46, 50, 53] ∨ t = [48] ∨ t = [51, 101, 49] ∨ t = [45, 46, 53] := by
  unfold isNum nums at h
  simpa using h
theorem scan_num {t : List Nat} (h : isNum t) {g : Nat} {r : List Nat} (hg : g = 32 ∨ g = 44 ∨ g = 45 ∨ (g = 46 ∧ 46 ∈ t)) : scan true 0 false (t ++ g :: r) = t.length := by
  rcases isNum_cases h with rfl | rfl | rfl | rfl | rfl | rfl <;> rcases hg with rfl | rfl | rfl | ⟨rfl, hm⟩ <;> first | rfl | exact absurd hm (by walk_at "vd")
theorem scan_num0 {t : List Nat} (h : isNum t) : scan true 0 false t = t.length := by
  rcases isNum_cases h with rfl | rfl | rfl | rfl | rfl | rfl <;> rfl
theorem num_head {t : List Nat} (h : isNum t) : ∃ g r, t = g :: r ∧ isSp g = false ∧ g ≠ 44 ∧ g ≠ 41 ∧ (isPart [46] t = true ∨ True) := by
  rcases isNum_cases h with rfl | rfl | rfl | rfl | rfl | rfl <;> exact ⟨_, _, rfl, by walk_at "vd", by walk_at "vd", by walk_at "vd", .inr trivial⟩
theorem gapN_sep {sep b r : List Nat} (hs : sep ∈ gaps) (hb : isNum b) : gapN (sep ++ (b ++ r)) = some sep.length := by
  unfold gaps at hs
  simp only [List.mem_cons, List.not_mem_nil, or_false] at hs
  obtain ⟨g, u, rfl, hsp, h44, _⟩ := num_head hb
  have h32 : isSp 32 = true := rfl
  have h4 : isSp 44 = false := rfl
  rcases hs with rfl | rfl | rfl | rfl <;> simp [gapN, spn, hsp, h44, h32, h4]
theorem sep_in {gap a b : List Nat} (h : gap ∈ gaps) : sepOf gap a b ∈ gaps := by
  unfold sepOf; split
  · decide
  · exact h
theorem sep_stop {gap a b r : List Nat} (h : gap ∈ gaps) (ha : isNum a) (hb : isNum b) : ∃ g r', sepOf gap a b ++ (b ++ r) = g :: r' ∧ (g = 32 ∨ g = 44 ∨ g = 45 ∨ (g = 46 ∧ 46 ∈ a)) := by
  unfold gaps at h
  simp only [List.mem_cons, List.not_mem_nil, or_false] at h
  rcases h with rfl | rfl | rfl | rfl
  · exact ⟨32, b ++ r, rfl, .inl rfl⟩
  · exact ⟨44, b ++ r, rfl, .inr (.inl rfl)⟩
  · exact ⟨32, _, rfl, .inl rfl⟩
  · unfold sepOf
    by_cases q : isPart a b = false
    · rw [if_pos ⟨rfl, q⟩]; exact ⟨32, b ++ r, rfl, .inl rfl⟩
    · rw [if_neg fun z => q z.2]
      have q : isPart a b = true := by simpa using q
      unfold isPart at q
      rcases isNum_cases hb with rfl | rfl | rfl | rfl | rfl | rfl
      · simp at q
      · exact ⟨45, _, rfl, .inr (.inr (.inl rfl))⟩
      · exact ⟨46, _, rfl, .inr (.inr (.inr ⟨rfl, by simpa using q⟩))⟩
      · simp at q
      · simp at q
      · exact ⟨45, _, rfl, .inr (.inr (.inl rfl))⟩
theorem num_pos {t : List Nat} (h : isNum t) : t.length ≠ 0 ∧ t.length ≤ 4 := by
  rcases isNum_cases h with rfl | rfl | rfl | rfl | rfl | rfl <;> decide
theorem cut_part {gap tail : List Nat} (hg : gap ∈ gaps) (ht : tail = [] ∨ tail = [32]) : ∀ (r : List (List Nat)) (a : List Nat) (k : Nat), isNum a → (∀ b ∈ r, isNum b) → r.length < k → cutF k (partL gap a r ++ tail) = some (a :: r) := by
  intro r
  induction r with
  | nil =>
    intro a k ha _ h
    cases k with
    | zero => exact absurd h (Nat.not_lt_zero _)
    | succ k =>
      have hp := num_pos ha
      show cutF (k + 1) (a ++ tail) = _
      have hs : scan true 0 false (a ++ tail) = a.length := by
        rcases ht with rfl | rfl
        · rw [List.append_nil]; exact scan_num0 ha
        · exact scan_num ha (.inl rfl)
      rw [cutF, if_neg (fun q => hp.1 (by have := (List.append_eq_nil_iff.mp q).1; rw [this]; rfl)), hs, if_neg hp.1, List.drop_left]
      rcases ht with rfl | rfl
      · rw [show gapN [] = some 0 from rfl]
        show (cutF k (List.drop (a.length + 0) (a ++ []))).map _ = _
        rw [Nat.add_zero, List.drop_left, cutF_nil, List.take_left]; rfl
      · rw [show gapN [32] = some 1 from rfl]
        show (cutF k (List.drop _ (a ++ [32]))).map _ = _
        rw [← List.drop_drop, List.drop_left, show List.drop 1 [32] = [] from rfl, cutF_nil, List.take_left]; rfl
  | cons b r ih =>
    intro a k ha hr h
    cases k with
    | zero => exact absurd h (Nat.not_lt_zero _)
    | succ k =>
      have hp := num_pos ha
      have hb := hr b (.head _)
      obtain ⟨u, hu⟩ : ∃ u, partL gap b r ++ tail = b ++ u := by
        cases r with
        | nil => exact ⟨tail, rfl⟩
        | cons c r => exact ⟨_, by show b ++ _ ++ tail = _; rw [List.append_assoc]⟩
      have e : partL gap a (b :: r) ++ tail = a ++ (sepOf gap a b ++ (partL gap b r ++ tail)) := by
        show a ++ (sepOf gap a b ++ partL gap b r) ++ tail = _
        simp only [List.append_assoc]
      obtain ⟨g, r', e2, hgs⟩ := sep_stop (r := u) hg ha hb
      have hs : scan true 0 false (a ++ (sepOf gap a b ++ (partL gap b r ++ tail))) = a.length := by
        rw [hu, e2]; exact scan_num ha hgs
      rw [e, cutF, if_neg (fun q => hp.1 (by have := (List.append_eq_nil_iff.mp q).1; rw [this]; rfl)), hs, if_neg hp.1, List.drop_left, hu, gapN_sep (sep_in hg) hb, ← hu]
      dsimp only
      rw [← List.drop_drop, List.drop_left, List.drop_left, ih b k hb (fun c hc => hr c (.tail _ hc)) (by simp at h; walk_at "om"), List.take_left]
      rfl
theorem partL_len (gap : List Nat) : ∀ (r : List (List Nat)) (a : List Nat), isNum a → (∀ b ∈ r, isNum b) → r.length < (partL gap a r).length
  | [], a, ha, _ => by have := num_pos ha; show 0 < a.length; walk_at "om"
  | b :: r, a, ha, hr => by
    have := partL_len gap r b (hr b (.head _)) fun c hc => hr c (.tail _ hc)
    have := num_pos ha
    show r.length + 1 < (a ++ (_ ++ _)).length
    rw [List.length_append, List.length_append]
    walk_at "om"
theorem gap_len {gap : List Nat} (h : gap ∈ gaps) : gap.length ≤ 3 := by
  unfold gaps at h
  simp only [List.mem_cons, List.not_mem_nil, or_false] at h
  rcases h with rfl | rfl | rfl | rfl <;> decide
theorem partL_le {gap : List Nat} (hg : gap ∈ gaps) : ∀ (r : List (List Nat)) (a : List Nat), isNum a → (∀ b ∈ r, isNum b) → (partL gap a r).length ≤ 7 * (r.length + 1)
  | [], a, ha, _ => by have := num_pos ha; show a.length ≤ 7; walk_at "om"
  | b :: r, a, ha, hr => by
    have := partL_le hg r b (hr b (.head _)) fun c hc => hr c (.tail _ hc)
    have := num_pos ha
    have := gap_len (sep_in (a := a) (b := b) hg)
    show (a ++ (_ ++ _)).length ≤ 7 * (r.length + 1 + 1)
    rw [List.length_append, List.length_append]
    walk_at "om"
noncomputable def okC (c : Nat) : Bool := decide (c ≠ 41) && decide (c < 128)
theorem num_chars {t : List Nat} (h : isNum t) : ∀ c ∈ t, okC c = true := by
  rcases isNum_cases h with rfl | rfl | rfl | rfl | rfl | rfl <;> decide
theorem gap_chars {t : List Nat} (h : t ∈ gaps) : ∀ c ∈ t, okC c = true := by
  unfold gaps at h
  simp only [List.mem_cons, List.not_mem_nil, or_false] at h
  rcases h with rfl | rfl | rfl | rfl <;> decide
theorem partL_chars {gap : List Nat} (hg : gap ∈ gaps) : ∀ (r : List (List Nat)) (a : List Nat), isNum a → (∀ b ∈ r, isNum b) → ∀ c ∈ partL gap a r, okC c = true
  | [], a, ha, _ => num_chars ha
  | b :: r, a, ha, hr => fun c hc => by
    rcases List.mem_append.mp hc with hc | hc
    · exact num_chars ha c hc
    · rcases List.mem_append.mp hc with hc | hc
      · exact gap_chars (sep_in hg) c hc
      · exact partL_chars hg r b (hr b (.head _)) (fun c hc => hr c (.tail _ hc)) c hc
noncomputable def S__law_number : Spec := fun args c K _ => args = [.cell] ∧ c = .src ∧ ∀ n ∈ nums, K (.d (.tup [tD n.1, qD n.2])) .src
theorem i__law_number (h0 : args = [.cell]) (h1 : c = .src) (h2 : ∀ n ∈ nums, K (.d (.tup [tD n.1, qD n.2])) .src) : S__law_number args c K KE := ⟨h0, h1, h2⟩
noncomputable def S__law_parted : Spec := fun args c K _ => ∃ (gap a : List Nat) (r : List (List Nat)), args = [.d (.lst ((a :: r).map tD)), .d (.str (tx gap))] ∧ gap ∈ gaps ∧ isNum a ∧ (∀ b ∈ r, isNum b) ∧ r.length ≤ 100 ∧ K (.d (.str (tx (partL gap a r)))) c
theorem i__law_parted (gap a : List Nat) (r : List (List Nat)) (h0 : args = [.d (.lst ((a :: r).map tD)), .d (.str (tx gap))]) (h1 : gap ∈ gaps) (h2 : isNum a) (h3 : (∀ b ∈ r, isNum b)) (h4 : r.length ≤ 100) (h5 : K (.d (.str (tx (partL gap a r)))) c) : S__law_parted args c K KE := ⟨gap, a, r, h0, h1, h2, h3, h4, h5⟩
noncomputable def p__law_number : PS := (pSeq (pRet (pCall S__law_one (pCons (pLoc 0) (pCons (pLst (pCons (pTup (pCons (pLit (.str (Str.ofString "2"))) (pCons (pTup (pCons (pLit (.int 2)) (pCons (pLit (.int 1)) pNil))) pNil))) (pCons (pTup (pCons (pLit (.str (Str.ofString "-1.5"))) (pCons (pTup (pCons (pNeg (pLit (.int 3))) (pCons (pLit (.int 2)) pNil))) pNil))) (pCons (pTup (pCons (pLit (.str (Str.ofString ".25"))) (pCons (pTup (pCons (pLit (.int 1)) (pCons (pLit (.int 4)) pNil))) pNil))) (pCons (pTup (pCons (pLit (.str (Str.ofString "0"))) (pCons (pTup (pCons (pLit (.int 0)) (pCons (pLit (.int 1)) pNil))) pNil))) (pCons (pTup (pCons (pLit (.str (Str.ofString "3e1"))) (pCons (pTup (pCons (pLit (.int 30)) (pCons (pLit (.int 1)) pNil))) pNil))) (pCons (pTup (pCons (pLit (.str (Str.ofString "-.5"))) (pCons (pTup (pCons (pNeg (pLit (.int 1))) (pCons (pLit (.int 2)) pNil))) pNil))) pNil))))))) pNil)))) pSkip)
noncomputable def p__law_parted_b : PS := (pSeq (pAsg 2 (pBin oAdd (pBin oAdd (pLoc 2) (pIf (pAnd (pCmp cEq (pLoc 1) (pLit (.str (Str.ofString "")))) (pNot (pTest (pLoc 4)))) (pLit (.str (Str.ofString " "))) (pLoc 1))) (pIdx (pLoc 0) (pLoc 3)))) pSkip)
noncomputable def p__law_parted : PS := (pSeq (pAsg 2 (pIdx (pLoc 0) (pLit (.int 0)))) (pSeq (pFor (gName 3) (pRng2 (pLit (.int 1)) (pCall sLen (pCons (pLoc 0) pNil))) (pSeq (pAsg 4 (pOrV (pVal (pCmp cEq (pIdx (pIdx (pLoc 0) (pLoc 3)) (pLit (.int 0))) (pLit (.str (Str.ofString "-"))))) (pAndV (pVal (pCmp cEq (pIdx (pIdx (pLoc 0) (pLoc 3)) (pLit (.int 0))) (pLit (.str (Str.ofString "."))))) (pVal (pCmp cIn (pLit (.str (Str.ofString "."))) (pIdx (pLoc 0) (pBin oSub (pLoc 3) (pLit (.int 1))))))))) p__law_parted_b)) (pSeq (pRet (pLoc 2)) pSkip)))
theorem lit_n1 : Str.ofString "2" = tx [50] := by decide +kernel
theorem lit_n2 : Str.ofString "-1.5" = tx [45, 49, 46, 53] := by decide +kernel
theorem lit_n3 : Str.ofString ".25" = tx [46, 50, 53] := by decide +kernel
theorem lit_n5 : Str.ofString "3e1" = tx [51, 101, 49] := by decide +kernel
theorem lit_n6 : Str.ofString "-.5" = tx [45, 46, 53] := by decide +kernel
theorem vc__law_number (args : List SV) (c : CO) (K : SV → CO → Prop) (KE : Addr → CO → Prop) : S__law_number args c K KE → sDef 1 1 p__law_number args c K KE := by
  rintro ⟨rfl, rfl, hK⟩
  refine ⟨rfl, ?_⟩
  unfold p__law_number
  walk_at "vs"
  rw [lit_n1, lit_n2, lit_n3, lit_0, lit_n5, lit_n6]
  refine ⟨by walk_at "vd", by walk_at "vd", by walk_at "vd", by walk_at "vd", by walk_at "vd", by walk_at "vd", by walk_at "vd", by walk_at "vd", by walk_at "vd", by walk_at "vd", by walk_at "vd", by walk_at "vd", by walk_at "vd", i__law_one _ rfl rfl (by show 0 < 6; decide) (by show 6 < 2 ^ 20; decide) (fun y hy => ?_)⟩
  have : ∃ n ∈ nums, y = .tup [tD n.1, qD n.2] := by
    have e : ([.tup [.str (tx [50]), .tup [.int 2, .int 1]], .tup [.str (tx [45, 49, 46, 53]), .tup [.int (-3), .int 2]], .tup [.str (tx [46, 50, 53]), .tup [.int 1, .int 4]], .tup [.str (tx [48]), .tup [.int 0, .int 1]], .tup [.str (tx [51, 101, 49]), .tup [.int 30, .int 1]], .tup [.str (tx [45, 46, 53]), .tup [.int (-1), .int 2]]] : List D) = nums.map fun n => .tup [tD n.1, qD n.2] := rfl
    replace hy : y ∈ nums.map (fun n => D.tup [tD n.1, qD n.2]) := hy
    obtain ⟨q, h1, h2⟩ := List.mem_map.mp hy
    exact ⟨q, h1, h2.symm⟩
  obtain ⟨n, h1, rfl⟩ := this
  rw [finS_src]
  exact hK n h1
theorem vc__law_parted (args : List SV) (c : CO) (K : SV → CO → Prop) (KE : Addr → CO → Prop) : S__law_parted args c K KE → sPure (sDef 2 5 p__law_parted) args c K KE := by
  rintro ⟨gap, a, r, rfl, hg, ha, hr, hl, hK⟩
  refine ⟨⟨_, rfl⟩, rfl, ?_⟩
  unfold p__law_parted
  walk_at "vs"
  have hlen : ((a :: r).map tD).length < 2 ^ 40 := by simp; walk_at "om"
  refine onIdx_any (i := 0) (y := tD a) hlen rfl ?_
  try unfold pFor
  walk_at "vs"
  rw [List.length_map]
  have hn : ((((a :: r).length : Nat) : Int) - 1).toNat = r.length := by rw [List.length_cons]; walk_at "om"
  rw [hn]
  refine ⟨by rw [List.length_cons]; omega, by walk_at "vd", by walk_at "vd", by rw [List.length_cons]; omega, by rw [List.length_cons]; omega, fun k ρ c' => ∃ s3 s4, ρ = [some (.d (.lst (tD a :: r.map tD))), some (.d (.str (tx gap))), some (.d (.str (tx (partL gap a (r.take k))))), s3, s4] ∧ c' = .none, ⟨none, none, rfl, rfl⟩, ?_, ?_⟩
  · rintro k ρ c' y hy ⟨s3, s4, rfl, rfl⟩
    obtain ⟨hk, rfl⟩ : k < r.length ∧ y = .int (1 + (k : Nat)) := by
      rw [List.getElem?_map] at hy
      obtain ⟨i, hi, rfl⟩ := Option.map_eq_some_iff.mp hy
      obtain ⟨h1, h2⟩ := List.getElem?_eq_some_iff.mp hi
      rw [List.getElem_range] at h2
      subst h2
      exact ⟨by simpa using h1, rfl⟩
    obtain ⟨b, hb⟩ : ∃ b, r[k]? = some b := ⟨_, List.getElem?_eq_getElem hk⟩
    have hbn := hr b (List.mem_of_getElem? hb)
    have hcur : (tD a :: r.map tD)[k + 1]? = some (tD b) := by rw [List.getElem?_cons_succ, List.getElem?_map, hb]; rfl
    generalize hpv : lastL a (r.take k) = pv
    have hpre : (tD a :: r.map tD)[k]? = some (tD pv) := by
      have h1 := lastL_at (r.take k) a
      have h2 : (r.take k).length = k := by rw [List.length_take]; walk_at "om"
      rw [h2, hpv] at h1
      have h3 : (a :: r)[k]? = some pv := by
        rw [← h1]
        cases k with
        | zero => rfl
        | succ k => rw [List.getElem?_cons_succ, List.getElem?_cons_succ, List.getElem?_take, if_pos (Nat.lt_succ_self k)]
      have : ((a :: r).map tD)[k]? = some (tD pv) := by rw [List.getElem?_map, h3]; rfl
      exact this
    have hpl := partL_le hg (r.take k) a ha fun c hc => hr c (List.mem_of_mem_take hc)
    have htk : (r.take k).length ≤ r.length := by simp; walk_at "om"
    have hpl2 : (partL gap a (r.take k)).length ≤ 7 * 101 := Nat.le_trans hpl (by walk_at "om")
    have hbl := num_pos hbn
    have hgl := gap_len hg
    obtain ⟨g, b', hbe, _⟩ := num_head hbn
    walk_at "vs"
    rw [show (1 : Int) + (k : Nat) = ((k + 1 : Nat) : Int) by walk_at "om", lit_m, lit_dot]
    generalize hKn : (fun (ρ' : Env1) (c' : CO) => ∃ s3 s4, ρ' = [some (.d (.lst (tD a :: r.map tD))), some (.d (.str (tx gap))), some (.d (.str (tx (partL gap a (r.take (k + 1)))))), s3, s4] ∧ c' = .none) = Kn
    have tail : p__law_parted_b [some (.d (.lst (tD a :: r.map tD))), some (.d (.str (tx gap))), some (.d (.str (tx (partL gap a (r.take k))))), some (.d (.int ((k + 1 : Nat) : Int))), some (.d (.bool (isPart pv b)))] .none Kn (finS CO.none (puK K c)) (fun x x_1 x_2 => False) := by
      subst hKn
      have fin : partL gap a (r.take k) ++ (sepOf gap pv b ++ b) = partL gap a (r.take (k + 1)) := by rw [take_snoc hb, partL_snoc, hpv]
      unfold p__law_parted_b
      walk_at "vs"
      walk_at "vt"
      by_cases hge : gap = []
      · rw [decide_eq_true hge]
        by_cases hp : isPart pv b = true
        · rw [hp]
          refine ⟨nofun, fun _ => ⟨nofun, fun _ => ⟨by rw [sizeLine_eq]; walk_at "om", ?_⟩⟩⟩
          refine onIdx_any (y := .str (tx b)) (by simp; walk_at "om") hcur ?_
          walk_at "vs"
          walk_at "vt"
          rw [← fin]; unfold sepOf; rw [if_neg (by rw [hp]; simp), ← List.append_assoc]
          exact ⟨by rw [sizeLine_eq]; (try simp); walk_at "om", _, _, rfl⟩
        · have hp : isPart pv b = false := by simpa using hp
          rw [hp]
          refine ⟨nofun, fun _ => ⟨fun _ => ⟨by rw [sizeLine_eq]; simp; walk_at "om", ?_⟩, nofun⟩⟩
          refine onIdx_any (y := .str (tx b)) (by simp; walk_at "om") hcur ?_
          walk_at "vs"
          walk_at "vt"
          rw [← fin]; unfold sepOf; rw [if_pos ⟨hge, hp⟩, ← List.append_assoc]
          exact ⟨by rw [sizeLine_eq]; (try simp); walk_at "om", _, _, rfl⟩
      · rw [decide_eq_false hge]
        refine ⟨fun _ => ⟨by rw [sizeLine_eq]; walk_at "om", ?_⟩, nofun⟩
        refine onIdx_any (y := .str (tx b)) (by simp; walk_at "om") hcur ?_
        walk_at "vs"
        walk_at "vt"
        rw [← fin]; unfold sepOf; rw [if_neg fun q => hge q.1, ← List.append_assoc]
        exact ⟨by rw [sizeLine_eq]; (try simp); walk_at "om", _, _, rfl⟩
    generalize p__law_parted_b = pb at tail ⊢
    subst hbe
    refine onIdx_any (y := .str (tx (g :: b'))) (by simp; walk_at "om") hcur ?_
    refine onIdx_t (i := 0) (g := g) (by simp at hbl ⊢; walk_at "om") rfl ?_
    walk_at "vs"
    walk_at "vt"
    by_cases h45 : g = 45
    · have : isPart pv (g :: b') = true := by rw [h45]; rfl
      rw [this] at tail
      rw [h45]
      exact ⟨fun _ => tail, fun q => by simp at q⟩
    · have h1 : decide ([g] = [45]) = false := by simp [h45]
      rw [h1]
      refine ⟨nofun, fun _ => ?_⟩
      refine onIdx_any (y := .str (tx (g :: b'))) (by simp; walk_at "om") hcur ?_
      refine onIdx_t (i := 0) (g := g) (by simp at hbl ⊢; walk_at "om") rfl ?_
      walk_at "vs"
      walk_at "vt"
      by_cases h46 : g = 46
      · have h2 : decide ([g] = [46]) = true := by simp [h46]
        rw [h2]
        refine ⟨nofun, fun _ => ?_⟩
        rw [show ((k + 1 : Nat) : Int) - 1 = (k : Int) by walk_at "om"]
        refine onIdx_any (y := .str (tx pv)) (by simp; walk_at "om") hpre ?_
        walk_at "vs"
        have : isPart pv (g :: b') = decide (46 ∈ pv) := by unfold isPart; rw [h46]; simp
        rw [this] at tail
        exact tail
      · have h2 : decide ([g] = [46]) = false := by simp [h46]
        rw [h2]
        have : isPart pv (g :: b') = false := by unfold isPart; simp [h45, h46]
        rw [this] at tail
        exact ⟨fun _ => tail, nofun⟩
  · rintro ρ c' ⟨s3, s4, rfl, rfl⟩
    rw [List.length_map, List.length_range, List.take_length]
    exact hK
end
section
-- part N14
open PySem PySem.W PyProof.Rows PySem.Calls PySem.Builtin PySem.Builtin.Str PySem.Builtin.ObjectAttr
noncomputable def Gr (n : Nat) (q : Rat) : Prop := ∃ z : Int, q * ((n : Int) : Rat) = (z : Rat)
noncomputable def VOk (q : Rat) : Prop := Sm 5 q ∧ Gr 4 q
theorem vok_num : ∀ n ∈ nums, VOk n.2 := by
  intro n hn
  unfold nums at hn
  simp only [List.mem_cons, List.not_mem_nil, or_false] at hn
  rcases hn with rfl | rfl | rfl | rfl | rfl | rfl
  · exact ⟨⟨by walk_at "vd", by walk_at "vd"⟩, 8, by decide +kernel⟩
  · exact ⟨⟨by walk_at "vd", by walk_at "vd"⟩, -6, by decide +kernel⟩
  · exact ⟨⟨by walk_at "vd", by walk_at "vd"⟩, 1, by decide +kernel⟩
  · exact ⟨⟨by walk_at "vd", by walk_at "vd"⟩, 0, by decide +kernel⟩
  · exact ⟨⟨by walk_at "vd", by walk_at "vd"⟩, 120, by decide +kernel⟩
  · exact ⟨⟨by walk_at "vd", by walk_at "vd"⟩, -2, by decide +kernel⟩
theorem vok_0 : VOk 0 := ⟨⟨by walk_at "vd", by walk_at "vd"⟩, 0, by decide +kernel⟩
theorem vok_1 : VOk 1 := ⟨⟨by walk_at "vd", by walk_at "vd"⟩, 4, by decide +kernel⟩
noncomputable def VM (M : Mx) : Prop := VOk M.a ∧ VOk M.b ∧ VOk M.c ∧ VOk M.d ∧ VOk M.e ∧ VOk M.f
theorem VM.sm {M : Mx} (h : VM M) : SmM 5 M := ⟨h.1.1, h.2.1.1, h.2.2.1.1, h.2.2.2.1.1, h.2.2.2.2.1.1, h.2.2.2.2.2.1⟩
structure PartB (nm body : List Nat) (M : Mx) : Prop where
  ok : NmOk nm
  nm0 : nm ≠ []
  b41 : 41 ∉ body
  ex : ∃ ts qs, cutF (trimL body).length (trimL body) = some ts ∧ NumTs ts qs ∧ ts.length ≤ 1000 ∧ matOf nm qs = some M
  vm : VM M
  lo : ∀ c ∈ nm ++ body, c < 128
  len : nm.length + body.length ≤ 100
noncomputable def PartT (t : List Nat) (M : Mx) : Prop := ∃ nm body, t = nm ++ 40 :: (body ++ [41]) ∧ PartB nm body M
theorem numTs_nums {ns : List (List Nat × Rat)} (h : ∀ n ∈ ns, n ∈ nums) : NumTs (ns.map (·.1)) (ns.map (·.2)) := by
  refine ⟨by simp, fun i t ht => ?_⟩
  rw [List.getElem?_map] at ht
  obtain ⟨n, hn, rfl⟩ := Option.map_eq_some_iff.mp ht
  exact ⟨n.2, by rw [List.getElem?_map, hn]; rfl, nums_ok n (h n (List.mem_of_getElem? hn))⟩
theorem isNum_of {n : List Nat × Rat} (h : n ∈ nums) : isNum n.1 := List.mem_map.mpr ⟨n, h, rfl⟩
theorem spn_0 {p : Nat → Bool} {g : Nat} {r : List Nat} (h : p g = false) : spn p (g :: r) = 0 := by
  unfold spn; rw [if_neg (by rw [h]; decide)]
theorem trim_part {gap a pre tail : List Nat} {r : List (List Nat)} (ha : isNum a) (hp : pre = [] ∨ pre = [32]) : trimL (pre ++ (partL gap a r ++ tail)) = partL gap a r ++ tail := by
  obtain ⟨g, u, hu, hsp, _⟩ := num_head ha
  obtain ⟨v, hv⟩ : ∃ v, partL gap a r ++ tail = g :: v := by
    cases r with
    | nil => exact ⟨u ++ tail, by show a ++ tail = _; rw [hu]; rfl⟩
    | cons b r => exact ⟨u ++ (sepOf gap a b ++ partL gap b r) ++ tail, by show a ++ _ ++ tail = _; rw [hu]; rfl⟩
  rw [hv]
  rcases hp with rfl | rfl
  · show (g :: v).drop (spn isSp (g :: v)) = _
    rw [spn_0 hsp]; rfl
  · show (32 :: g :: v).drop (spn isSp (32 :: g :: v)) = _
    have : spn isSp (32 :: g :: v) = 1 := by
      show (if isSp 32 = true then spn isSp (g :: v) + 1 else 0) = 1
      rw [if_pos (by walk_at "vd"), spn_0 hsp]
    rw [this]; rfl
theorem part_mk {nm pre tail gap : List Nat} {n : List Nat × Rat} {r : List (List Nat × Rat)} {M : Mx} (hnm : NmOk nm) (hn0 : nm ≠ []) (hn1 : ∀ c ∈ nm, c < 128) (hn2 : nm.length ≤ 20) (hp : pre = [] ∨ pre = [32]) (ht : tail = [] ∨ tail = [32]) (hg : gap ∈ gaps) (hn : n ∈ nums) (hr : ∀ m ∈ r, m ∈ nums) (hl : r.length ≤ 5)
    (hM : matOf nm (n.2 :: r.map (·.2)) = some M) (hv : VM M) : PartT (nm ++ 40 :: (pre ++ (partL gap n.1 (r.map (·.1)) ++ tail) ++ [41])) M := by
  have ha := isNum_of hn
  have hrr : ∀ b ∈ r.map (·.1), isNum b := fun b hb => by
    obtain ⟨m, hm, rfl⟩ := List.mem_map.mp hb
    exact isNum_of (hr m hm)
  have hpc : ∀ l : List Nat, (l = [] ∨ l = [32]) → ∀ c ∈ l, okC c = true := fun l hl => by rcases hl with rfl | rfl <;> decide
  have hall : ∀ c ∈ pre ++ (partL gap n.1 (r.map (·.1)) ++ tail), okC c = true := fun c hc => by
    rcases List.mem_append.mp hc with hc | hc
    · exact hpc _ hp c hc
    · rcases List.mem_append.mp hc with hc | hc
      · exact partL_chars hg _ _ ha hrr c hc
      · exact hpc _ ht c hc
  have hpl := partL_le hg _ _ ha hrr
  rw [List.length_map] at hpl
  have l1 : pre.length ≤ 1 := by rcases hp with rfl | rfl <;> decide
  have l2 : tail.length ≤ 1 := by rcases ht with rfl | rfl <;> decide
  have hnr : ∀ m ∈ n :: r, m ∈ nums := fun m hm => by
    rcases List.mem_cons.mp hm with rfl | hm
    · exact hn
    · exact hr m hm
  refine ⟨nm, _, rfl, hnm, hn0, fun h => ?_, ⟨(n :: r).map (fun (n : List Nat × Rat) => n.1), (n :: r).map (fun (n : List Nat × Rat) => n.2), ?_, numTs_nums (ns := n :: r) hnr, by simp; walk_at "om", hM⟩, hv, fun c hc => ?_, ?_⟩
  · exact absurd (hall 41 h) (by walk_at "vd")
  · rw [trim_part ha hp]
    refine cut_part hg ht _ _ _ ha hrr ?_
    have := partL_len gap _ _ ha hrr
    rw [List.length_append]
    walk_at "om"
  · rcases List.mem_append.mp hc with hc | hc
    · exact hn1 c hc
    · have := hall c hc
      unfold okC at this
      simp at this
      exact this.2
  · simp only [List.length_append]
    walk_at "om"
theorem nmOk_matrix : NmOk nMatrix := ⟨by walk_at "vd", by walk_at "vd", by walk_at "vd", by walk_at "vd"⟩
theorem nmOk_translate : NmOk nTranslate := ⟨by walk_at "vd", by walk_at "vd", by walk_at "vd", by walk_at "vd"⟩
theorem nmOk_scale : NmOk nScale := ⟨by walk_at "vd", by walk_at "vd", by walk_at "vd", by walk_at "vd"⟩
end
section
-- part N15
variable {args : List SV} {c : CO} {K : SV → CO → Prop} {KE : Addr → CO → Prop}
open PySem PySem.W PyProof.Rows PySem.Calls PySem.Builtin PySem.Builtin.Str PySem.Builtin.ObjectAttr
noncomputable def S__law_part : Spec := fun args c K _ => args = [.cell] ∧ c = .src ∧ ∀ t M, PartT t M → K (.d (.tup [tD t, .lst (M.row.map qD)])) .src
theorem i__law_part (h0 : args = [.cell]) (h1 : c = .src) (h2 : ∀ t M, PartT t M → K (.d (.tup [tD t, .lst (M.row.map qD)])) .src) : S__law_part args c K KE := ⟨h0, h1, h2⟩
noncomputable def p__law_part_b : PS := (pSeq (pIfS (pCmp cEq (pLoc 5) (pLit (.int 0))) (pSeq (pRet (pTup (pCons (pBin oAdd (pBin oAdd (pLit (.str (Str.ofString "matrix("))) (pCall S__law_parted (pCons (pLoc 2) (pCons (pLoc 4) pNil)))) (pLit (.str (Str.ofString ")")))) (pCons (pLoc 3) pNil)))) pSkip) pSkip) (pSeq (pIfS (pCmp cLt (pLoc 5) (pLit (.int 3))) (pSeq (pAsg 6 (pLst (pCons (pIdx (pLoc 3) (pLit (.int 0))) (pCons (pIf (pCmp cEq (pLoc 5) (pLit (.int 2))) (pIdx (pLoc 3) (pLit (.int 1))) (pTup (pCons (pLit (.int 0)) (pCons (pLit (.int 1)) pNil)))) pNil)))) (pSeq (pRet (pTup (pCons (pBin oAdd (pBin oAdd (pLit (.str (Str.ofString "translate("))) (pCall S__law_parted (pCons (pCut (pLoc 2) pONone (pOSome (pLoc 5))) (pCons (pLoc 4) pNil)))) (pLit (.str (Str.ofString ")")))) (pCons (pBin oAdd (pLst (pCons (pTup (pCons (pLit (.int 1)) (pCons (pLit (.int 1)) pNil))) (pCons (pTup (pCons (pLit (.int 0)) (pCons (pLit (.int 1)) pNil))) (pCons (pTup (pCons (pLit (.int 0)) (pCons (pLit (.int 1)) pNil))) (pCons (pTup (pCons (pLit (.int 1)) (pCons (pLit (.int 1)) pNil))) pNil))))) (pLoc 6)) pNil)))) pSkip)) pSkip) (pSeq (pAsg 7 (pBin oSub (pLoc 5) (pLit (.int 2)))) (pSeq (pRet (pTup (pCons (pBin oAdd (pBin oAdd (pLit (.str (Str.ofString "scale( "))) (pCall S__law_parted (pCons (pCut (pLoc 2) pONone (pOSome (pLoc 7))) (pCons (pLoc 4) pNil)))) (pLit (.str (Str.ofString " )")))) (pCons (pLst (pCons (pIdx (pLoc 3) (pLit (.int 0))) (pCons (pTup (pCons (pLit (.int 0)) (pCons (pLit (.int 1)) pNil))) (pCons (pTup (pCons (pLit (.int 0)) (pCons (pLit (.int 1)) pNil))) (pCons (pIdx (pLoc 3) (pBin oSub (pLoc 7) (pLit (.int 1)))) (pCons (pTup (pCons (pLit (.int 0)) (pCons (pLit (.int 1)) pNil))) (pCons (pTup (pCons (pLit (.int 0)) (pCons (pLit (.int 1)) pNil))) pNil))))))) pNil)))) pSkip))))
noncomputable def p__law_part : PS := (pSeq (pAsg 1 (pComp [(Str.ofString "source", 0)] (pRng1 (pLit (.int 6))) (pCall S__law_number (pCons (pLoc 1) pNil)))) (pSeq (pSwp [2, 3] (pTup (pCons (pComp [] (pIter (pLoc 1)) (pIdx (pLoc 0) (pLit (.int 0)))) (pCons (pComp [] (pIter (pLoc 1)) (pIdx (pLoc 0) (pLit (.int 1)))) pNil)))) (pSeq (pSwp [4, 5] (pTup (pCons (pCall S__law_one (pCons (pLoc 0) (pCons (pLst (pCons (pLit (.str (Str.ofString " "))) (pCons (pLit (.str (Str.ofString ","))) (pCons (pLit (.str (Str.ofString " , "))) (pCons (pLit (.str (Str.ofString ""))) pNil))))) pNil))) (pCons (pCall S__law_take (pCons (pLoc 0) (pCons (pLit (.int 5)) pNil))) pNil)))) p__law_part_b)))
theorem lit_spp : Str.ofString " , " = tx [32, 44, 32] := by decide +kernel
theorem lit_translateP : Str.ofString "translate(" = tx (nTranslate ++ [40]) := by decide +kernel
theorem lit_scaleP : Str.ofString "scale( " = tx (nScale ++ [40, 32]) := by decide +kernel
theorem lit_srp : Str.ofString " )" = tx [32, 41] := by decide +kernel
theorem onIdx_at {l : List D} {i : Nat} {y : D} {c : CO} {K : SV → CO → Prop} (hl : l.length ≤ 100) (h : l[i]? = some y) (k : K (.d y) c) : onIdx (.d (.lst l)) (.d (.int (i : Int))) c K := onIdx_any (by walk_at "om") h k
theorem onIdx_pr0 {a b : D} {c : CO} {K : SV → CO → Prop} (h : K (.d a) c) : onIdx (.d (.tup [a, b])) (.d (.int 0)) c K := ⟨by walk_at "vd", by walk_at "vd", h⟩
theorem onIdx_pr1 {a b : D} {c : CO} {K : SV → CO → Prop} (h : K (.d b) c) : onIdx (.d (.tup [a, b])) (.d (.int 1)) c K := ⟨by walk_at "vd", by walk_at "vd", h⟩
noncomputable abbrev prt (n0 n1 n2 n3 n4 n5 : List Nat × Rat) (gap : List Nat) (way : Int) : Env1 := [some .cell, some (.d (.lst ([n0, n1, n2, n3, n4, n5].map fun n => .tup [tD n.1, qD n.2]))), some (.d (.lst [tD n0.1, tD n1.1, tD n2.1, tD n3.1, tD n4.1, tD n5.1])), some (.d (.lst [qD n0.2, qD n1.2, qD n2.2, qD n3.2, qD n4.2, qD n5.2])), some (.d (.str (tx gap))), some (.d (.int way)), none, none]
theorem part_tail {n0 n1 n2 n3 n4 n5 : List Nat × Rat} {gap : List Nat} {way : Int} {Kn : Env1 → CO → Prop} {Kr : SV → CO → Prop} {Ke : Env1 → Addr → CO → Prop}
    (h0 : n0 ∈ nums) (h1 : n1 ∈ nums) (h2 : n2 ∈ nums) (h3 : n3 ∈ nums) (h4 : n4 ∈ nums) (h5 : n5 ∈ nums) (hg : gap ∈ gaps) (hw0 : 0 ≤ way) (hw5 : way < 5) (hK : ∀ t M, PartT t M → Kr (.d (.tup [tD t, .lst (M.row.map qD)])) .src) :
    p__law_part_b (prt n0 n1 n2 n3 n4 n5 gap way) .src Kn Kr Ke := by
  have v0 := vok_num _ h0
  have v1 := vok_num _ h1
  have v2 := vok_num _ h2
  have v3 := vok_num _ h3
  have v4 := vok_num _ h4
  have v5 := vok_num _ h5
  have hr : ∀ (r : List (List Nat × Rat)), (∀ m ∈ r, m ∈ nums) → ∀ b ∈ r.map (·.1), isNum b := fun r hr b hb => by
    obtain ⟨m, hm, rfl⟩ := List.mem_map.mp hb
    exact isNum_of (hr m hm)
  have par : ∀ (r : List (List Nat × Rat)) (l : List D) (K' : SV → CO → Prop) (KE' : Addr → CO → Prop), (∀ m ∈ r, m ∈ nums) → r.length ≤ 5 → l = (n0 :: r).map (fun n => tD n.1) → (∀ Q : List Nat, Q.length ≤ 42 → (∀ nm pre tail M, NmOk nm → nm ≠ [] → (∀ c ∈ nm, c < 128) → nm.length ≤ 20 → (pre = [] ∨ pre = [32]) → (tail = [] ∨ tail = [32]) → matOf nm (n0.2 :: r.map (·.2)) = some M → VM M → PartT (nm ++ 40 :: (pre ++ (Q ++ tail) ++ [41])) M) → K' (.d (.str (tx Q))) .src) →
      S__law_parted [.d (.lst l), .d (.str (tx gap))] .src K' KE' := fun r l K' KE' h1 hl he k => by
    subst he
    have hz := partL_le hg _ _ (isNum_of h0) (hr r h1)
    rw [List.length_map] at hz
    refine i__law_parted gap n0.1 (r.map (·.1)) (by simp [List.map_map]) hg (isNum_of h0) (hr r h1) (by simp; walk_at "om") (k _ (by walk_at "om") fun nm pre tail M a1 a2 a3 a4 a5 a6 a7 a8 => ?_)
    exact part_mk a1 a2 a3 a4 a5 a6 hg h0 h1 hl a7 a8
  have lm : nMatrix.length = 6 := rfl
  have lt : nTranslate.length = 9 := rfl
  have ls : nScale.length = 5 := rfl
  have m1 : ∀ m ∈ [n1], m ∈ nums := fun m hm => by rw [List.mem_singleton.mp hm]; exact h1
  have m0 : ∀ m ∈ ([] : List (List Nat × Rat)), m ∈ nums := fun m hm => nomatch hm
  have m5 : ∀ m ∈ [n1, n2, n3, n4, n5], m ∈ nums := fun m hm => by
    simp only [List.mem_cons, List.not_mem_nil, or_false] at hm
    rcases hm with rfl | rfl | rfl | rfl | rfl <;> assumption
  have hway : way = 0 ∨ way = 1 ∨ way = 2 ∨ way = 3 ∨ way = 4 := by walk_at "om"
  unfold p__law_part_b
  rcases hway with rfl | rfl | rfl | rfl | rfl
  · walk_at "vs"
    rw [lit_matrixP, lit_rp]
    refine ⟨fun _ => ?_, fun q => by simp at q⟩
    refine par [n1, n2, n3, n4, n5] _ _ _ m5 (by simp) rfl fun Q hl hP => ?_
    walk_at "vs"
    walk_at "vt"
    refine ⟨by rw [sizeLine_eq]; simp; walk_at "om", by rw [sizeLine_eq]; simp; walk_at "om", by walk_at "vd", ?_⟩
    have h := hK _ _ (hP nMatrix [] [] _ nmOk_matrix (by walk_at "vd") (by walk_at "vd") (by walk_at "vd") (.inl rfl) (.inl rfl) rfl ⟨v0, v1, v2, v3, v4, v5⟩)
    have e : nMatrix ++ 40 :: ([] ++ (Q ++ []) ++ [41]) = nMatrix ++ [40] ++ Q ++ [41] := by simp
    rw [e] at h
    exact h
  · walk_at "vs"
    rw [lit_translateP, lit_rp]
    refine ⟨fun q => by simp at q, fun _ => ⟨fun _ => ?_, fun q => by simp at q⟩⟩
    refine onIdx_at (i := 0) (by simp) rfl ?_
    walk_at "vs"
    refine ⟨fun q => by simp at q, fun _ => ⟨by walk_at "vd", by walk_at "vd", by walk_at "vd", ?_⟩⟩
    refine par [] _ _ _ m0 (by simp) rfl fun Q hl hP => ?_
    walk_at "vs"
    walk_at "vt"
    refine ⟨by rw [sizeLine_eq]; simp; walk_at "om", by rw [sizeLine_eq]; simp; walk_at "om", by walk_at "vd", by walk_at "vd", by walk_at "vd", by walk_at "vd", by walk_at "vd", by walk_at "vd", by walk_at "vd", ?_⟩
    have h := hK _ _ (hP nTranslate [] [] _ nmOk_translate (by walk_at "vd") (by walk_at "vd") (by walk_at "vd") (.inl rfl) (.inl rfl) rfl ⟨vok_1, vok_0, vok_0, vok_1, v0, vok_0⟩)
    have e : nTranslate ++ 40 :: ([] ++ (Q ++ []) ++ [41]) = nTranslate ++ [40] ++ Q ++ [41] := by simp
    rw [e] at h
    exact h
  · walk_at "vs"
    rw [lit_translateP, lit_rp]
    refine ⟨fun q => by simp at q, fun _ => ⟨fun _ => ?_, fun q => by simp at q⟩⟩
    refine onIdx_at (i := 0) (by simp) rfl ?_
    walk_at "vs"
    refine ⟨fun _ => ?_, fun q => by simp at q⟩
    refine onIdx_at (i := 1) (by simp) rfl ?_
    walk_at "vs"
    refine ⟨by walk_at "vd", by show 6 ≤ sizeLine; decide, ?_⟩
    refine par [n1] _ _ _ m1 (by simp) rfl fun Q hl hP => ?_
    walk_at "vs"
    walk_at "vt"
    refine ⟨by rw [sizeLine_eq]; simp; walk_at "om", by rw [sizeLine_eq]; simp; walk_at "om", by walk_at "vd", by walk_at "vd", by walk_at "vd", by walk_at "vd", by walk_at "vd", by walk_at "vd", by walk_at "vd", ?_⟩
    have h := hK _ _ (hP nTranslate [] [] _ nmOk_translate (by walk_at "vd") (by walk_at "vd") (by walk_at "vd") (.inl rfl) (.inl rfl) rfl ⟨vok_1, vok_0, vok_0, vok_1, v0, v1⟩)
    have e : nTranslate ++ 40 :: ([] ++ (Q ++ []) ++ [41]) = nTranslate ++ [40] ++ Q ++ [41] := by simp
    rw [e] at h
    exact h
  · walk_at "vs"
    rw [lit_scaleP, lit_srp]
    refine ⟨fun q => by simp at q, fun _ => ⟨fun q => by simp at q, fun _ => ⟨by show 6 ≤ sizeLine; decide, ?_⟩⟩⟩
    refine par [] _ _ _ m0 (by simp) rfl fun Q hl hP => ?_
    walk_at "vs"
    walk_at "vt"
    refine ⟨by rw [sizeLine_eq]; simp; walk_at "om", by rw [sizeLine_eq]; simp; walk_at "om", ?_⟩
    refine onIdx_at (i := 0) (by simp) rfl ?_
    walk_at "vs"
    refine ⟨by walk_at "vd", by walk_at "vd", ?_⟩
    refine onIdx_at (i := 0) (by simp) rfl ?_
    walk_at "vs"
    refine ⟨by walk_at "vd", by walk_at "vd", by walk_at "vd", by walk_at "vd", ?_⟩
    have h := hK _ _ (hP nScale [32] [32] _ nmOk_scale (by walk_at "vd") (by walk_at "vd") (by walk_at "vd") (.inr rfl) (.inr rfl) rfl ⟨v0, vok_0, vok_0, v0, vok_0, vok_0⟩)
    have e : nScale ++ 40 :: ([32] ++ (Q ++ [32]) ++ [41]) = nScale ++ [40, 32] ++ Q ++ [32, 41] := by simp
    rw [e] at h
    exact h
  · walk_at "vs"
    rw [lit_scaleP, lit_srp]
    refine ⟨fun q => by simp at q, fun _ => ⟨fun q => by simp at q, fun _ => ⟨by show 6 ≤ sizeLine; decide, ?_⟩⟩⟩
    refine par [n1] _ _ _ m1 (by simp) rfl fun Q hl hP => ?_
    walk_at "vs"
    walk_at "vt"
    refine ⟨by rw [sizeLine_eq]; simp; walk_at "om", by rw [sizeLine_eq]; simp; walk_at "om", ?_⟩
    refine onIdx_at (i := 0) (by simp) rfl ?_
    walk_at "vs"
    refine ⟨by walk_at "vd", by walk_at "vd", ?_⟩
    refine onIdx_at (i := 1) (by simp) rfl ?_
    walk_at "vs"
    refine ⟨by walk_at "vd", by walk_at "vd", by walk_at "vd", by walk_at "vd", ?_⟩
    have h := hK _ _ (hP nScale [32] [32] _ nmOk_scale (by walk_at "vd") (by walk_at "vd") (by walk_at "vd") (.inr rfl) (.inr rfl) rfl ⟨v0, vok_0, vok_0, v1, vok_0, vok_0⟩)
    have e : nScale ++ 40 :: ([32] ++ (Q ++ [32]) ++ [41]) = nScale ++ [40, 32] ++ Q ++ [32, 41] := by simp
    rw [e] at h
    exact h
theorem vc__law_part (args : List SV) (c : CO) (K : SV → CO → Prop) (KE : Addr → CO → Prop) : S__law_part args c K KE → sDef 1 8 p__law_part args c K KE := by
  rintro ⟨rfl, rfl, hK⟩
  refine ⟨rfl, ?_⟩
  have pt := @part_tail
  unfold p__law_part
  generalize p__law_part_b = pb at pt ⊢
  walk_at "vs"
  try unfold pComp
  walk_at "vs"
  refine ⟨fun q hq => by rw [List.mem_singleton.mp hq]; exact ⟨_, rfl⟩, by walk_at "vd", by walk_at "vd", fun k acc c => ∃ l : List (List Nat × Rat), acc = l.map (fun n => .tup [tD n.1, qD n.2]) ∧ (∀ n ∈ l, n ∈ nums) ∧ c = .src, by rw [List.length_map, List.length_range, sizeLine_eq]; decide, ⟨[], rfl, (fun _ h => nomatch h), rfl⟩, ?_, ?_⟩
  · rintro k acc c y hy hk ⟨l, rfl, hl, rfl⟩
    walk_at "vs"
    try rw [show (some (some SV.cell)).join = some SV.cell from rfl, q_oSome]
    refine i__law_number rfl rfl (fun n hn => ?_)
    show ∃ _, _
    refine ⟨l ++ [n], by rw [List.map_append]; rfl, fun m hm => ?_, rfl⟩
    rcases List.mem_append.mp hm with hm | hm
    · exact hl m hm
    · rw [List.mem_singleton.mp hm]; exact hn
  · rintro acc c hlen ⟨l, rfl, hl, rfl⟩
    have hlen : l.length = 6 := by simpa using hlen
    · obtain ⟨n0, n1, n2, n3, n4, n5, rfl⟩ := len6 hlen
      walk_at "vs"
      refine ⟨nofun, fun k acc c => acc = ([n0, n1, n2, n3, n4, n5].map fun n => tD n.1).take k ∧ c = .src, by show 6 ≤ sizeLine; decide, ⟨rfl, rfl⟩, ?_, ?_⟩
      · rintro k acc c y hy hk ⟨rfl, rfl⟩
        have hy : ([n0, n1, n2, n3, n4, n5].map fun n => D.tup [tD n.1, qD n.2])[k]? = some y := hy
        rw [List.getElem?_map] at hy
        obtain ⟨n, hn, rfl⟩ := Option.map_eq_some_iff.mp hy
        refine onIdx_pr0 ?_
        rw [q_onD]
        exact ⟨(take_snoc (by rw [List.getElem?_map, hn]; rfl)).symm, rfl⟩
      rintro acc c hlen2 ⟨rfl, rfl⟩
      walk_at "vs"
      refine ⟨nofun, fun k acc c => acc = ([n0, n1, n2, n3, n4, n5].map fun n => qD n.2).take k ∧ c = .src, by show 6 ≤ sizeLine; decide, ⟨rfl, rfl⟩, ?_, ?_⟩
      · rintro k acc c y hy hk ⟨rfl, rfl⟩
        have hy : ([n0, n1, n2, n3, n4, n5].map fun n => D.tup [tD n.1, qD n.2])[k]? = some y := hy
        rw [List.getElem?_map] at hy
        obtain ⟨n, hn, rfl⟩ := Option.map_eq_some_iff.mp hy
        refine onIdx_pr1 ?_
        rw [q_onD]
        exact ⟨(take_snoc (by rw [List.getElem?_map, hn]; rfl)).symm, rfl⟩
      rintro acc c hlen3 ⟨rfl, rfl⟩
      walk_at "vs"
      refine ⟨by walk_at "vd", by walk_at "vd", i__law_one _ rfl rfl (by show 0 < 4; decide) (by show 4 < 2 ^ 20; decide) (fun y hy => ?_)⟩
      rw [lit_SP, lit_com, lit_spp, lit_E0] at hy
      obtain ⟨gap, hg, rfl⟩ : ∃ gap ∈ gaps, y = .str (tx gap) := by
        have e : ([.str (tx [32]), .str (tx [44]), .str (tx [32, 44, 32]), .str (tx [])] : List D) = gaps.map fun g => .str (tx g) := rfl
        replace hy : y ∈ gaps.map (fun g => D.str (tx g)) := hy
        obtain ⟨q, h1, h2⟩ := List.mem_map.mp hy
        exact ⟨q, h1, h2.symm⟩
      walk_at "vs"
      refine i__law_take 5 rfl rfl (by walk_at "vd") (by walk_at "vd") (fun way hw0 hw5 => ?_)
      walk_at "vs"
      refine ⟨by walk_at "vd", ?_⟩
      refine pt (hl n0 (by simp)) (hl n1 (by simp)) (hl n2 (by simp)) (hl n3 (by simp)) (hl n4 (by simp)) (hl n5 (by simp)) hg hw0 hw5 fun t M h => ?_
      walk_at "vs"
      exact hK t M h
end
section
-- part N16
open PySem PySem.W PyProof.Rows PySem.Calls PySem.Builtin PySem.Builtin.Str PySem.Builtin.ObjectAttr
noncomputable def I6 : Mx := ⟨1, 0, 0, 1, 0, 0⟩
theorem thn_I (M : Mx) : M.thn I6 = M := by
  obtain ⟨a, b, c, d, e, f⟩ := M
  unfold I6
  simp only [Mx.thn, Mx.vec, Mx.pt, Rat.one_mul, Rat.zero_mul, Rat.add_zero, Rat.zero_add]
theorem sm_I : SmM 1 I6 := ⟨⟨by walk_at "vd", by walk_at "vd"⟩, ⟨by walk_at "vd", by walk_at "vd"⟩, ⟨by walk_at "vd", by walk_at "vd"⟩, ⟨by walk_at "vd", by walk_at "vd"⟩, ⟨by walk_at "vd", by walk_at "vd"⟩, ⟨by walk_at "vd", by walk_at "vd"⟩⟩
theorem rts_part {t rest : List Nat} {M N : Mx} {res : Option Mx} (h : PartT t N) (hM : SmM 100 M) (h1 : ∀ m, gapN rest = some m → RTs (rest.drop m) (N.thn M) res) (h2 : gapN rest = none → res = none) : RTs (t ++ rest) M res := by
  obtain ⟨nm, body, rfl, B⟩ := h
  obtain ⟨ts, qs, e1, e2, e3, e4⟩ := B.ex
  have e : nm ++ 40 :: (body ++ [41]) ++ rest = nm ++ 40 :: (body ++ 41 :: rest) := by simp
  rw [e]
  exact .step nm body rest M N ts qs res B.ok B.b41 e1 e2 e3 e4 (B.vm.sm.mono (by walk_at "vd")) hM h1 h2
theorem part_head {t : List Nat} {M : Mx} (h : PartT t M) : ∃ g u, t = g :: u ∧ isLet g = true := by
  obtain ⟨nm, body, rfl, B⟩ := h
  have hN := B.ok
  have h0 := B.nm0
  cases nm with
  | nil => exact absurd rfl h0
  | cons g nm => exact ⟨g, _, rfl, hN.let' g (.head _)⟩
theorem let_sp {g : Nat} (h : isLet g = true) : isSp g = false ∧ g ≠ 44 := by
  unfold isLet at h
  unfold isSp
  simp at h ⊢
  have k : 65 ≤ g := h.elim (fun q => Nat.le_trans (by decide) q.1) (fun q => q.1)
  have z : ∀ m, m < 65 → ¬ g = m := fun m hm e => Nat.lt_irrefl _ (Nat.lt_of_lt_of_le (e ▸ hm) k)
  exact ⟨⟨z _ (by decide), z _ (by decide), z _ (by decide), z _ (by decide)⟩, z _ (by decide)⟩
theorem gapN_0 {g : Nat} {r : List Nat} (h : isSp g = false) (hc : g ≠ 44) : gapN (g :: r) = some 0 := by
  unfold gapN
  rw [spn_0 h]
  show (if g = 44 then _ else some 0) = some 0
  rw [if_neg hc]
theorem gapN_1 {g : Nat} {r : List Nat} (h : isSp g = false) (hc : g ≠ 44) : gapN (32 :: g :: r) = some 1 := by
  unfold gapN
  have : spn isSp (32 :: g :: r) = 1 := by
    show (if isSp 32 = true then spn isSp (g :: r) + 1 else 0) = 1
    rw [if_pos (by walk_at "vd"), spn_0 h]
  rw [this]
  show (if g = 44 then _ else some 1) = some 1
  rw [if_neg hc]
theorem gapN_c {g : Nat} {r : List Nat} (h : isSp g = false) : gapN (44 :: g :: r) = some 1 := by
  unfold gapN
  rw [spn_0 (by walk_at "vd")]
  show (if 44 = 44 then (if spn isSp (g :: r) = (g :: r).length then none else some (0 + 1 + spn isSp (g :: r))) else some 0) = some 1
  rw [spn_0 h, if_pos rfl, if_neg (by simp)]
noncomputable def seps : List (List Nat) := [[32], [44], []]
theorem gapN_of {sep : List Nat} (hs : sep ∈ seps) {g : Nat} {r : List Nat} (h : isSp g = false) (hc : g ≠ 44) : gapN (sep ++ g :: r) = some sep.length := by
  unfold seps at hs
  simp only [List.mem_cons, List.not_mem_nil, or_false] at hs
  rcases hs with rfl | rfl | rfl
  · exact gapN_1 h hc
  · exact gapN_c h
  · exact gapN_0 h hc
noncomputable def matL (l : List (List Nat × Mx)) (M : Mx) : Mx := l.foldl (fun M q => q.2.thn M) M
noncomputable def dueL (l : List (List Nat × Mx)) (p : Rat × Rat) : Rat × Rat := l.foldr (fun q p => q.2.pt p) p
theorem mat_due : ∀ (l : List (List Nat × Mx)) (M : Mx) (p : Rat × Rat), (matL l M).pt p = M.pt (dueL l p)
  | [], _, _ => rfl
  | q :: l, M, p => by
    show (matL l (q.2.thn M)).pt p = M.pt (q.2.pt (dueL l p))
    rw [mat_due l, pt_thn]
theorem I_pt (p : Rat × Rat) : I6.pt p = p := by
  apply Prod.ext <;> simp only [I6, Mx.pt, Mx.vec, Rat.one_mul, Rat.zero_mul, Rat.add_zero, Rat.zero_add]
theorem run_parts {sep u : List Nat} {f : Mx → Option Mx} (hs : sep ∈ seps) (hu : ∀ M, SmM 100 M → (∀ m, gapN u = some m → RTs (u.drop m) M (f M)) ∧ (gapN u = none → f M = none)) :
    ∀ (l : List (List Nat × Mx)), (∀ q ∈ l, PartT q.1 q.2) → l.length ≤ 2 → l ≠ [] → RTs (joinL sep (l.map (·.1)) ++ u) I6 (f (matL l I6))
  | [], _, _, h => absurd rfl h
  | [q], hq, _, _ => by
    have h1 := hq q (.head _)
    obtain ⟨nm, body, ht, B⟩ := id h1
    have b1 : SmM 15 (q.2.thn I6) := B.vm.sm.thn sm_I (by walk_at "vd")
    have := hu (q.2.thn I6) (b1.mono (by walk_at "vd"))
    exact rts_part h1 (sm_I.mono (by walk_at "vd")) this.1 this.2
  | [q, q2], hq, _, _ => by
    have h1 := hq q (.head _)
    have h2 := hq q2 (.tail _ (.head _))
    obtain ⟨_, _, _, B⟩ := id h1
    obtain ⟨_, _, _, B2⟩ := id h2
    have b1 : SmM 15 (q.2.thn I6) := B.vm.sm.thn sm_I (by walk_at "vd")
    have b2 : SmM 57 (q2.2.thn (q.2.thn I6)) := B2.vm.sm.thn b1 (by walk_at "vd")
    have := hu _ (b2.mono (by walk_at "vd"))
    have e : joinL sep ([q, q2].map (·.1)) ++ u = q.1 ++ (sep ++ (q2.1 ++ u)) := by
      show q.1 ++ (sep ++ q2.1) ++ u = _
      simp
    rw [e]
    obtain ⟨g, v, hg, hl⟩ := part_head h2
    have hgap : gapN (sep ++ (q2.1 ++ u)) = some sep.length := by
      rw [hg]; exact gapN_of hs (let_sp hl).1 (let_sp hl).2
    refine rts_part h1 (sm_I.mono (by walk_at "vd")) (fun m hm => ?_) (fun hn => ?_)
    · rw [hgap] at hm
      cases hm
      rw [List.drop_left]
      exact rts_part h2 (b1.mono (by walk_at "vd")) this.1 this.2
    · rw [hgap] at hn; cases hn
  | _ :: _ :: _ :: _, _, h, _ => by simp at h
theorem run_ok {sep : List Nat} (hs : sep ∈ seps) {l : List (List Nat × Mx)} (hq : ∀ q ∈ l, PartT q.1 q.2) (hl : l.length ≤ 2) : RTs (joinL sep (l.map (·.1))) I6 (some (matL l I6)) := by
  cases l with
  | nil => exact .nil _
  | cons q l =>
    have := run_parts (u := []) (f := some) hs (fun M _ => ⟨fun m hm => by cases hm; exact .nil _, fun h => nomatch h⟩) (q :: l) hq hl (by simp)
    rwa [List.append_nil] at this
noncomputable def WrongT (w : List Nat) : Prop := (∃ g r, w = g :: r ∧ isSp g = false ∧ g ≠ 44) ∧ (∀ c ∈ w, c < 128) ∧ w.length ≤ 100 ∧ ∀ M, SmM 100 M → RTs w M none
theorem run_wrong {sep w : List Nat} (hs : sep ∈ seps) (hw : WrongT w) {l : List (List Nat × Mx)} (hq : ∀ q ∈ l, PartT q.1 q.2) (hl : l.length ≤ 2) (hne : l ≠ []) : RTs (joinL sep (l.map (·.1)) ++ 32 :: w) I6 none := by
  obtain ⟨⟨g, r, e, h1, h2⟩, _, _, h3⟩ := hw
  refine run_parts (f := fun _ => none) hs (fun M hM => ⟨fun m hm => ?_, fun _ => rfl⟩) l hq hl hne
  rw [e, gapN_1 h1 h2] at hm
  cases hm
  exact h3 M hM
theorem trim_lead {lead J : List Nat} (hl : lead = [] ∨ lead = [32]) (hJ : J = [] ∨ ∃ g r, J = g :: r ∧ isSp g = false) : trimL (lead ++ J) = J := by
  rcases hJ with rfl | ⟨g, r, rfl, h⟩
  · rcases hl with rfl | rfl <;> rfl
  · rcases hl with rfl | rfl
    · show (g :: r).drop (spn isSp (g :: r)) = _
      rw [spn_0 h]; rfl
    · show (32 :: g :: r).drop (spn isSp (32 :: g :: r)) = _
      have : spn isSp (32 :: g :: r) = 1 := by
        show (if isSp 32 = true then spn isSp (g :: r) + 1 else 0) = 1
        rw [if_pos (by walk_at "vd"), spn_0 h]
      rw [this]; rfl
theorem join_head {sep : List Nat} {l : List (List Nat × Mx)} (hq : ∀ q ∈ l, PartT q.1 q.2) : joinL sep (l.map (·.1)) = [] ∧ l = [] ∨ ∃ g r, joinL sep (l.map (·.1)) = g :: r ∧ isLet g = true := by
  cases l with
  | nil => exact .inl ⟨rfl, rfl⟩
  | cons q l =>
    obtain ⟨g, v, hg, hl⟩ := part_head (hq q (.head _))
    right
    cases l with
    | nil => exact ⟨g, v, hg, hl⟩
    | cons q2 l => exact ⟨g, v ++ (sep ++ joinL sep ((q2 :: l).map (·.1))), by show q.1 ++ _ = _; rw [hg]; rfl, hl⟩
theorem num_dig {d : Nat} (h : isDig d = true) : NumT [d] (numQ false [d] none none) := ⟨false, [d], none, none, ⟨fun x hx => by rw [List.mem_singleton.mp hx]; exact h, nofun, nofun, by simp, by simp⟩, rfl, rfl⟩
theorem numTs_dig {l : List Nat} (h : ∀ d ∈ l, isDig d = true) : NumTs (l.map fun d => [d]) (l.map fun d => numQ false [d] none none) := by
  refine ⟨by simp, fun i t ht => ?_⟩
  rw [List.getElem?_map] at ht
  obtain ⟨n, hn, rfl⟩ := Option.map_eq_some_iff.mp ht
  exact ⟨_, by rw [List.getElem?_map, hn]; rfl, num_dig (h n (List.mem_of_getElem? hn))⟩
noncomputable def nMove : List Nat := [109, 111, 118, 101]
noncomputable def wrongs : List (List Nat) := [nScale, nScale ++ [40, 41], nMove ++ [40, 49, 41], nScale ++ [40, 49, 32, 50, 32, 51, 41], nMatrix ++ [40, 49, 32, 50, 32, 51, 32, 52, 32, 53, 41], nScale ++ [40, 49, 44, 41], nScale ++ [40, 49, 41, 44], nScale ++ [40, 97, 41], nScale ++ [40, 49], [49]]
theorem wrongs_ok : ∀ w ∈ wrongs, WrongT w := by
  intro w hw
  unfold wrongs at hw
  simp only [List.mem_cons, List.not_mem_nil, or_false] at hw
  rcases hw with rfl | rfl | rfl | rfl | rfl | rfl | rfl | rfl | rfl | rfl
  · exact ⟨⟨_, _, rfl, by walk_at "vd", by walk_at "vd"⟩, by walk_at "vd", by walk_at "vd", fun M _ => .bare nScale [] M (by walk_at "vd") (by walk_at "vd") (by walk_at "vd") (by walk_at "vd") (.inl (by walk_at "vd"))⟩
  · exact ⟨⟨_, _, rfl, by walk_at "vd", by walk_at "vd"⟩, by walk_at "vd", by walk_at "vd", fun M _ => .bad2 nScale [] [] M [] [] nmOk_scale (by walk_at "vd") rfl ⟨rfl, fun i t h => by simp at h⟩ (by simp) rfl⟩
  · exact ⟨⟨_, _, rfl, by walk_at "vd", by walk_at "vd"⟩, by walk_at "vd", by walk_at "vd", fun M _ => .bad2 nMove [49] [] M _ _ ⟨by walk_at "vd", by walk_at "vd", by walk_at "vd", by walk_at "vd"⟩ (by walk_at "vd") (by decide +kernel) (numTs_dig (l := [49]) (by walk_at "vd")) (by simp) rfl⟩
  · exact ⟨⟨_, _, rfl, by walk_at "vd", by walk_at "vd"⟩, by walk_at "vd", by walk_at "vd", fun M _ => .bad2 nScale [49, 32, 50, 32, 51] [] M _ _ nmOk_scale (by walk_at "vd") (by decide +kernel) (numTs_dig (l := [49, 50, 51]) (by walk_at "vd")) (by simp) rfl⟩
  · exact ⟨⟨_, _, rfl, by walk_at "vd", by walk_at "vd"⟩, by walk_at "vd", by walk_at "vd", fun M _ => .bad2 nMatrix [49, 32, 50, 32, 51, 32, 52, 32, 53] [] M _ _ nmOk_matrix (by walk_at "vd") (by decide +kernel) (numTs_dig (l := [49, 50, 51, 52, 53]) (by walk_at "vd")) (by simp) rfl⟩
  · exact ⟨⟨_, _, rfl, by walk_at "vd", by walk_at "vd"⟩, by walk_at "vd", by walk_at "vd", fun M _ => .bad1 nScale [49, 44] [] M nmOk_scale (by walk_at "vd") (by decide +kernel)⟩
  · refine ⟨⟨_, _, rfl, by walk_at "vd", by walk_at "vd"⟩, by walk_at "vd", by walk_at "vd", fun M hM => .step nScale [49] [44] M _ _ _ none nmOk_scale (by walk_at "vd") (by decide +kernel) (numTs_dig (l := [49]) (by walk_at "vd")) (by simp) rfl ?_ hM (fun m hm => by simp [gapN, spn, isSp] at hm) (fun _ => rfl)⟩
    have e : numQ false [49] none none = 1 := by decide +kernel
    show SmM 100 ⟨numQ false [49] none none, 0, 0, numQ false [49] none none, 0, 0⟩
    rw [e]
    exact ⟨⟨by walk_at "vd", by walk_at "vd"⟩, ⟨by walk_at "vd", by walk_at "vd"⟩, ⟨by walk_at "vd", by walk_at "vd"⟩, ⟨by walk_at "vd", by walk_at "vd"⟩, ⟨by walk_at "vd", by walk_at "vd"⟩, ⟨by walk_at "vd", by walk_at "vd"⟩⟩
  · exact ⟨⟨_, _, rfl, by walk_at "vd", by walk_at "vd"⟩, by walk_at "vd", by walk_at "vd", fun M _ => .bad1 nScale [97] [] M nmOk_scale (by walk_at "vd") (by decide +kernel)⟩
  · exact ⟨⟨_, _, rfl, by walk_at "vd", by walk_at "vd"⟩, by walk_at "vd", by walk_at "vd", fun M _ => .bare nScale [40, 49] M (by walk_at "vd") (by walk_at "vd") (by walk_at "vd") (by walk_at "vd") (.inr (by walk_at "vd"))⟩
  · exact ⟨⟨_, _, rfl, by walk_at "vd", by walk_at "vd"⟩, by walk_at "vd", by walk_at "vd", fun M _ => .bare [] [49] M (by walk_at "vd") (by walk_at "vd") (by walk_at "vd") (by walk_at "vd") (.inl (by walk_at "vd"))⟩
end
section
-- part N17
open PySem PySem.W PyProof.Rows PySem.Calls PySem.Builtin PySem.Builtin.Str PySem.Builtin.ObjectAttr
theorem scan_dig : ∀ (ds : List Nat) (f : Bool) (p : Nat) (e : Bool) (r : List Nat), (∀ d ∈ ds, isDig d = true) → ds ≠ [] → scan f p e (ds ++ r) = ds.length + scan false p e r := by
  intro ds
  induction ds with
  | nil => exact fun _ _ _ _ _ h => absurd rfl h
  | cons d ds ih =>
    intro f p e r hd _
    have h1 := hd d (.head _)
    have hg : d ≠ 46 ∧ isPM d = false ∧ isE d = false := by
      unfold isDig at h1
      unfold isPM isE
      simp at h1 ⊢
      walk_at "om"
    have hs : scan f p e (d :: (ds ++ r)) = scan false p e (ds ++ r) + 1 := by
      rw [scan, if_neg hg.1, hg.2.1, hg.2.2, h1]
      simp
    show scan f p e (d :: (ds ++ r)) = _
    rw [hs]
    cases ds with
    | nil => exact (Nat.add_comm _ _)
    | cons d2 ds => rw [ih false p e r (fun x hx => hd x (.tail _ hx)) nofun, List.length_cons (a := d), Nat.add_right_comm]
theorem scan_dig0 (ds : List Nat) (p : Nat) (e : Bool) (r : List Nat) (h : ∀ d ∈ ds, isDig d = true) : scan false p e (ds ++ r) = ds.length + scan false p e r := by
  cases ds with
  | nil => simp
  | cons d ds => exact scan_dig _ _ _ _ _ h (by simp)
noncomputable def endT (r : List Nat) : Prop := r = [] ∨ ∃ u, r = 32 :: u
theorem scan_end {r : List Nat} (h : endT r) (p : Nat) (e : Bool) : scan false p e r = 0 := by
  rcases h with rfl | ⟨u, rfl⟩
  · rfl
  · rw [scan, if_neg (by walk_at "vd")]
    have h1 : isPM 32 = false := by walk_at "vd"
    have h2 : isE 32 = false := by walk_at "vd"
    have h3 : isDig 32 = false := by walk_at "vd"
    rw [h1, h2, h3]; rfl
theorem scan_numD {t : List Nat} {q : Rat} (h : NumD t q) {r : List Nat} (hr : endT r) : scan true 0 false (t ++ r) = t.length := by
  obtain ⟨neg, wh, pt, N, rfl, _, hne⟩ := h
  have key : ∀ f, scan f 0 false (wh ++ (ptT pt ++ r)) = wh.length + (ptT pt).length := fun f => by
    rw [scan_dig _ _ _ _ _ N.hw hne]
    cases pt with
    | none => show _ + scan false 0 false r = _; rw [scan_end hr]; rfl
    | some p =>
      show _ + scan false 0 false (46 :: (p ++ r)) = _
      rw [scan_dot' (by simp), scan_dig0 p _ _ _ N.hp, scan_end hr]
      simp [ptT]
  have e : numText neg wh pt none ++ r = sgT neg ++ (wh ++ (ptT pt ++ r)) := by
    unfold numText; simp [esT]
  rw [e]
  cases neg with
  | false =>
    show scan true 0 false (wh ++ _) = _
    rw [key]; simp [numText, sgT, esT]
  | true =>
    show scan true 0 false (45 :: (wh ++ _)) = _
    rw [scan, if_neg (by walk_at "vd"), if_pos (by walk_at "vd"), if_pos rfl, key]
    simp [numText, sgT, esT]
theorem numD_head {t : List Nat} {q : Rat} (h : NumD t q) : ∃ g u, t = g :: u ∧ isSp g = false ∧ g ≠ 44 := by
  obtain ⟨neg, wh, pt, N, rfl, _, hne⟩ := h
  cases neg with
  | true => exact ⟨45, _, rfl, by walk_at "vd", by walk_at "vd"⟩
  | false =>
    match wh, hne, N.hw with
    | d :: wh, _, hw =>
      have := hw d (.head _)
      refine ⟨d, _, rfl, ?_⟩
      unfold isDig at this
      unfold isSp
      simp at this ⊢
      walk_at "om"
theorem numD_chars {t : List Nat} {q : Rat} (h : NumD t q) : ∀ c ∈ t, okC c = true := by
  obtain ⟨neg, wh, pt, N, rfl, _, hne⟩ := h
  have hd : ∀ c, isDig c = true → okC c = true := fun c h => by
    unfold isDig at h; unfold okC; simp at h ⊢; walk_at "om"
  intro c hc
  unfold numText at hc
  rcases List.mem_append.mp hc with hc | hc
  · cases neg with
    | true => rw [List.mem_singleton.mp hc]; decide
    | false => cases hc
  · rcases List.mem_append.mp hc with hc | hc
    · exact hd c (N.hw c hc)
    · rcases List.mem_append.mp hc with hc | hc
      · cases pt with
        | none => cases hc
        | some p =>
          rcases List.mem_cons.mp hc with rfl | hc
          · decide
          · exact hd c (N.hp c hc)
      · cases hc
theorem numD_T {t : List Nat} {q : Rat} (h : NumD t q) : NumT t q := by
  obtain ⟨neg, wh, pt, N, h1, h2, _⟩ := h
  exact ⟨neg, wh, pt, none, N, h1, h2⟩
noncomputable def IsD (t : List Nat) : Prop := ∃ q, NumD t q
theorem cut_join : ∀ (ts : List (List Nat)) (k : Nat), (∀ t ∈ ts, IsD t) → ts.length ≤ k → cutF k (joinL [32] ts) = some ts := by
  intro ts
  induction ts with
  | nil => exact fun k _ _ => cutF_nil k
  | cons t ts ih =>
    intro k hq hk
    cases k with
    | zero => exact absurd hk (Nat.not_succ_le_zero _)
    | succ k => cases ts with
      | nil =>
        obtain ⟨q, h⟩ := hq t (.head _)
        obtain ⟨g, u, e, _, _⟩ := numD_head h
        have hs := scan_numD h (r := []) (.inl rfl)
        rw [List.append_nil] at hs
        show cutF (k + 1) t = _
        rw [cutF, if_neg (by rw [e]; simp), hs, if_neg (by rw [e]; simp), List.drop_length]
        show (cutF k (t.drop (t.length + 0))).map _ = _
        rw [Nat.add_zero, List.drop_length, cutF_nil, List.take_length]; rfl
      | cons t2 ts =>
        obtain ⟨q, h⟩ := hq t (.head _)
        obtain ⟨q2, h2⟩ := hq t2 (.tail _ (.head _))
        obtain ⟨g, u, e, _, _⟩ := numD_head h
        obtain ⟨g2, u2, e2, e3, e4⟩ := numD_head h2
        obtain ⟨v, hv⟩ : ∃ v, joinL [32] (t2 :: ts) = g2 :: v := by
          cases ts with
          | nil => exact ⟨u2, e2⟩
          | cons t3 ts => exact ⟨_, by show t2 ++ _ = _; rw [e2]; rfl⟩
        have ih := ih k (fun x hx => hq x (.tail _ hx)) (Nat.le_of_succ_le_succ hk)
        show cutF (k + 1) (t ++ (32 :: joinL [32] (t2 :: ts))) = _
        have hs := scan_numD h (r := 32 :: joinL [32] (t2 :: ts)) (.inr ⟨_, rfl⟩)
        rw [cutF, if_neg (by rw [e]; simp), hs, if_neg (by rw [e]; simp), List.drop_left, hv, gapN_1 e3 e4, ← hv]
        dsimp only
        rw [← List.drop_drop, List.drop_left, List.take_left]
        show (cutF k (joinL [32] (t2 :: ts))).map _ = _
        rw [ih]; rfl
theorem joinL_all {p : Nat → Prop} {sep : List Nat} (hs : ∀ c ∈ sep, p c) : ∀ ts : List (List Nat), (∀ t ∈ ts, ∀ c ∈ t, p c) → ∀ c ∈ joinL sep ts, p c
  | [], _, c, hc => nomatch hc
  | [t], h, c, hc => h t (.head _) c hc
  | t :: t2 :: ts, h, c, hc => by
    rcases List.mem_append.mp hc with hc | hc
    · exact h t (.head _) c hc
    · rcases List.mem_append.mp hc with hc | hc
      · exact hs c hc
      · exact joinL_all hs (t2 :: ts) (fun x hx => h x (.tail _ hx)) c hc
theorem read_back {M : Mx} {ts : List (List Nat)} (hM : SmM 100 M) (hl : ts.length = 6) (h : ∀ (i : Nat) t, ts[i]? = some t → ∃ q, M.row[i]? = some q ∧ NumD t q) :
    TOk (nMatrix ++ 40 :: (joinL [32] ts ++ [41])) ∧ RTs (trimL (nMatrix ++ 40 :: (joinL [32] ts ++ [41]))) I6 (some M) := by
  have hD : ∀ t ∈ ts, IsD t := fun t ht => by
    obtain ⟨i, hi⟩ := List.getElem?_of_mem ht
    obtain ⟨q, _, hq⟩ := h i t hi
    exact ⟨q, hq⟩
  have hc : ∀ c ∈ joinL [32] ts, okC c = true := joinL_all (by walk_at "vd") ts fun t ht => by
    obtain ⟨q, hq⟩ := hD t ht
    exact numD_chars hq
  have hlen := joinL_len [32] 1000 (by walk_at "vd") ts fun t ht => by
    obtain ⟨q, hq⟩ := hD t ht
    exact numD_len hq
  have lm : nMatrix.length = 6 := rfl
  refine ⟨⟨by simp; walk_at "om", fun c hc' => ?_⟩, ?_⟩
  · rcases List.mem_append.mp hc' with q | q
    · exact (show ∀ c ∈ nMatrix, c < 128 by walk_at "vd") c q
    · rcases List.mem_cons.mp q with rfl | q
      · decide
      · rcases List.mem_append.mp q with q | q
        · have := hc c q; unfold okC at this; simp at this; exact this.2
        · rw [List.mem_singleton.mp q]; decide
  · have ht : trimL (nMatrix ++ 40 :: (joinL [32] ts ++ [41])) = nMatrix ++ 40 :: (joinL [32] ts ++ [41]) := rfl
    rw [ht]
    have hb : trimL (joinL [32] ts) = joinL [32] ts := by
      match ts, hl, hD with
      | t :: ts, _, hD =>
        obtain ⟨q, hq⟩ := hD t (.head _)
        obtain ⟨g, u, e, e3, _⟩ := numD_head hq
        obtain ⟨v, hv⟩ : ∃ v, joinL [32] (t :: ts) = g :: v := by
          cases ts with
          | nil => exact ⟨u, e⟩
          | cons t3 ts => exact ⟨_, by show t ++ _ = _; rw [e]; rfl⟩
        rw [hv]
        show (g :: v).drop (spn isSp (g :: v)) = _
        rw [spn_0 e3]; rfl
    have hlen2 : ts.length ≤ (joinL [32] ts).length := by
      have key : ∀ l : List (List Nat), (∀ t ∈ l, IsD t) → l.length ≤ (joinL [32] l).length := by
        intro l
        induction l with
        | nil => intro _; exact Nat.le_refl _
        | cons t l ih =>
          intro hq
          obtain ⟨q, hq1⟩ := hq t (.head _)
          obtain ⟨g, u, e, _, _⟩ := numD_head hq1
          cases l with
          | nil => show 1 ≤ t.length; rw [e]; simp
          | cons t2 l =>
            have := ih fun x hx => hq x (.tail _ hx)
            show l.length + 1 + 1 ≤ (t ++ ([32] ++ _)).length
            simp at this ⊢
            walk_at "om"
      exact key ts hD
    refine .step nMatrix (joinL [32] ts) [] I6 M ts M.row (some M) nmOk_matrix (fun q => absurd (hc 41 q) (by walk_at "vd")) ?_ ⟨by rw [hl]; rfl, fun i t hi => ?_⟩ (by walk_at "om") ?_ hM (sm_I.mono (by walk_at "vd")) (fun m hm => ?_) (fun q => nomatch q)
    · rw [hb]
      exact cut_join ts _ hD hlen2
    · obtain ⟨q, h1, h2⟩ := h i t hi
      exact ⟨q, h1, numD_T h2⟩
    · show (if nMatrix = nMatrix then some (⟨M.a, M.b, M.c, M.d, M.e, M.f⟩ : Mx) else none) = some M
      rw [if_pos rfl]
    · cases hm
      rw [thn_I]
      exact .nil M
theorem Gr.mul {a b : Nat} {x y : Rat} (hx : Gr a x) (hy : Gr b y) : Gr (a * b) (x * y) := by
  obtain ⟨z, hz⟩ := hx
  obtain ⟨w, hw⟩ := hy
  refine ⟨z * w, ?_⟩
  rw [Rat.intCast_mul, ← hz, ← hw, show (((a * b : Nat) : Int) : Rat) = ((a : Int) : Rat) * ((b : Int) : Rat) by rw [← Rat.intCast_mul]; norm_cast]
  grind
theorem Gr.add {n : Nat} {x y : Rat} (hx : Gr n x) (hy : Gr n y) : Gr n (x + y) := by
  obtain ⟨z, hz⟩ := hx
  obtain ⟨w, hw⟩ := hy
  refine ⟨z + w, ?_⟩
  rw [Rat.intCast_add, ← hz, ← hw]
  grind
theorem Gr.more {a : Nat} (b : Nat) {x : Rat} (hx : Gr a x) : Gr (a * b) x := by
  have : Gr b 1 := ⟨b, by grind⟩
  have h := hx.mul this
  rwa [Rat.mul_one] at h
theorem Gr.den {n : Nat} {x : Rat} (hn : n ≠ 0) (h : Gr n x) : x.den ∣ n := by
  obtain ⟨z, hz⟩ := h
  have hn' : (n : Int) ≠ 0 := by walk_at "om"
  have hnq : ((n : Int) : Rat) ≠ 0 := fun q => hn' (by exact_mod_cast q)
  have e : x = Rat.divInt z n := by
    rw [Rat.divInt_eq_div]
    rw [← hz, Rat.div_def, Rat.mul_assoc, Rat.mul_inv_cancel _ hnq, Rat.mul_one]
  rw [e, Rat.den_divInt, if_neg hn']
  refine Nat.div_dvd_of_dvd ?_
  have := Int.gcd_dvd_right (a := z) (b := (n : Int))
  rw [Int.natAbs_natCast]
  first | exact Int.gcd_dvd_natAbs_left .. | exact Int.natCast_dvd_natCast.mp (Int.gcd_dvd_left ..) | exact Int.natCast_dvd_natCast.mp (Int.gcd_dvd_right ..)
noncomputable def GM (n : Nat) (M : Mx) : Prop := Gr n M.a ∧ Gr n M.b ∧ Gr n M.c ∧ Gr n M.d ∧ Gr n M.e ∧ Gr n M.f
theorem GM.thn {a b : Nat} {M N : Mx} (h : GM a M) (k : GM b N) : GM (a * b) (M.thn N) := by
  obtain ⟨h1, h2, h3, h4, h5, h6⟩ := h
  obtain ⟨k1, k2, k3, k4, k5, k6⟩ := k
  have c : ∀ {x}, Gr (b * a) x → Gr (a * b) x := fun h => by rwa [Nat.mul_comm] at h
  have up : ∀ {x}, Gr b x → Gr (a * b) x := fun h => c (h.more a)
  exact ⟨(c (k1.mul h1)).add (c (k3.mul h2)), (c (k2.mul h1)).add (c (k4.mul h2)), (c (k1.mul h3)).add (c (k3.mul h4)), (c (k2.mul h3)).add (c (k4.mul h4)),
    ((c (k1.mul h5)).add (c (k3.mul h6))).add (up k5), ((c (k2.mul h5)).add (c (k4.mul h6))).add (up k6)⟩
theorem gm_I : GM 1 I6 := ⟨⟨1, by decide +kernel⟩, ⟨0, by decide +kernel⟩, ⟨0, by decide +kernel⟩, ⟨1, by decide +kernel⟩, ⟨0, by decide +kernel⟩, ⟨0, by decide +kernel⟩⟩
theorem VM.gm {M : Mx} (h : VM M) : GM 4 M := ⟨h.1.2, h.2.1.2, h.2.2.1.2, h.2.2.2.1.2, h.2.2.2.2.1.2, h.2.2.2.2.2.2⟩
theorem matL_ok : ∀ (l : List (List Nat × Mx)), (∀ q ∈ l, PartT q.1 q.2) → l.length ≤ 2 → SmM 57 (matL l I6) ∧ GM 16 (matL l I6)
  | [], _, _ => ⟨sm_I.mono (by walk_at "vd"), gm_I.1.more 16, gm_I.2.1.more 16, gm_I.2.2.1.more 16, gm_I.2.2.2.1.more 16, gm_I.2.2.2.2.1.more 16, gm_I.2.2.2.2.2.more 16⟩
  | [q], hq, _ => by
    obtain ⟨_, _, _, B⟩ := hq q (.head _)
    have g := B.vm.gm.thn gm_I
    exact ⟨(B.vm.sm.thn sm_I (k := 57) (by walk_at "vd")), g.1.more 4, g.2.1.more 4, g.2.2.1.more 4, g.2.2.2.1.more 4, g.2.2.2.2.1.more 4, g.2.2.2.2.2.more 4⟩
  | [q, q2], hq, _ => by
    obtain ⟨_, _, _, B⟩ := hq q (.head _)
    obtain ⟨_, _, _, B2⟩ := hq q2 (.tail _ (.head _))
    have b1 : SmM 15 (q.2.thn I6) := B.vm.sm.thn sm_I (by walk_at "vd")
    exact ⟨B2.vm.sm.thn b1 (by walk_at "vd"), B2.vm.gm.thn (B.vm.gm.thn gm_I)⟩
  | _ :: _ :: _ :: _, _, h => by simp at h
theorem dec_ok {M : Mx} (h : SmM 57 M) (g : GM 16 M) : ∀ q ∈ M.row, DecOk q := by
  have key : ∀ q, Sm 57 q → Gr 16 q → DecOk q := fun q h g => ⟨h.mono (by walk_at "vd"), 4, by walk_at "vd", Nat.dvd_trans (g.den (by walk_at "vd")) (by walk_at "vd")⟩
  obtain ⟨h1, h2, h3, h4, h5, h6⟩ := h
  obtain ⟨g1, g2, g3, g4, g5, g6⟩ := g
  intro q hq
  unfold Mx.row at hq
  simp only [List.mem_cons, List.not_mem_nil, or_false] at hq
  rcases hq with rfl | rfl | rfl | rfl | rfl | rfl
  · exact key _ h1 g1
  · exact key _ h2 g2
  · exact key _ h3 g3
  · exact key _ h4 g4
  · exact key _ h5 g5
  · exact key _ h6 g6
end
section
-- part N18
variable {args : List SV} {c : CO} {K : SV → CO → Prop} {KE : Addr → CO → Prop}
open PySem PySem.W PyProof.Rows PySem.Calls PySem.Builtin PySem.Builtin.Str PySem.Builtin.ObjectAttr
theorem strip_t {pre u : List Nat} (hp : pre = [] ∨ pre = [32]) (hu : u = [] ∨ (∃ g r, u = g :: r ∧ 33 ≤ g ∧ g < 127) ∧ ∃ g r, u = r ++ [g] ∧ 33 ≤ g ∧ g < 127) : Txt.strip (tx (pre ++ u)) = tx u := by
  have hlo : stripLo Unicode.isSpace true (tx (pre ++ u)) = pre.length := by
    simp only [stripLo, if_true]
    have e : (tx (pre ++ u)).cps.toList = pre ++ u := rfl
    rw [e]
    rcases hu with rfl | ⟨⟨g, r, rfl, h1, h2⟩, _⟩
    · rcases hp with rfl | rfl <;> decide +kernel
    · have hs := KXs.no_space g h2 h1
      rcases hp with rfl | rfl
      · simp [List.takeWhile_cons, hs]
      · have h32 : Unicode.isSpace 32 = true := by decide +kernel
        simp [List.takeWhile_cons, hs, h32]
  have hhi : stripHi Unicode.isSpace true (tx (pre ++ u)) pre.length = (pre ++ u).length := by
    simp only [stripHi, if_true]
    have e : (tx (pre ++ u)).cps.toList = pre ++ u := rfl
    rw [e, List.drop_left, tx_len]
    rcases hu with rfl | ⟨_, g, r, rfl, h1, h2⟩
    · rfl
    · have hs := KXs.no_space g h2 h1
      simp [List.takeWhile_cons, hs]
  unfold Txt.strip
  rw [PyProof.Rows.stripBy_eq, hlo, hhi]
  apply Str.ext'
  apply Array.toList_inj.mp
  show ((pre ++ u).toArray.extract pre.length (pre ++ u).length).toList = u
  simp
noncomputable def S__law_list_right : Spec := fun args c K _ => ∃ p : Rat × Rat, args = [.cell, .d (pD p)] ∧ c = .src ∧ SmP 3 p ∧ K (.d (.bool true)) .src
theorem i__law_list_right (p : Rat × Rat) (h0 : args = [.cell, .d (pD p)]) (h1 : c = .src) (h2 : SmP 3 p) (h3 : K (.d (.bool true)) .src) : S__law_list_right args c K KE := ⟨p, h0, h1, h2, h3⟩
noncomputable def p__law_list_right_c : PS := (pSeq (pAsg 8 (pLst (pCons (pLit (.str (Str.ofString "scale"))) (pCons (pLit (.str (Str.ofString "scale()"))) (pCons (pLit (.str (Str.ofString "move(1)"))) (pCons (pLit (.str (Str.ofString "scale(1 2 3)"))) (pCons (pLit (.str (Str.ofString "matrix(1 2 3 4 5)"))) (pCons (pLit (.str (Str.ofString "scale(1,)"))) (pCons (pLit (.str (Str.ofString "scale(1),"))) (pCons (pLit (.str (Str.ofString "scale(a)"))) (pCons (pLit (.str (Str.ofString "scale(1"))) (pCons (pLit (.str (Str.ofString "1"))) pNil)))))))))))) (pSeq (pTry 68 (pSeq (pExp (pCall S_read_transforms (pCons (pBin oAdd (pBin oAdd (pMeth isText sStrip (pLoc 3) pNil) (pLit (.str (Str.ofString " ")))) (pCall S__law_one (pCons (pLoc 0) (pCons (pLoc 8) pNil)))) pNil))) pSkip) (pSeq (pRet (pLit (.bool true))) pSkip)) (pSeq (pRet (pLit (.bool false))) pSkip)))
noncomputable def p__law_list_right_b : PS := (pSeq (pAsg 4 (pLoc 1)) (pSeq (pFor (gTup [5, 6]) (pIter (pBack (pLoc 2))) (pSeq (pAsg 4 (pCall S__law_led (pCons (pLoc 6) (pCons (pLoc 4) (pCons (pLit (.int 1)) pNil))))) pSkip)) (pSeq (pAsg 7 (pCall S_read_transforms (pCons (pLoc 3) pNil))) (pSeq (pIfS (pOr (pCmp cNe (pMeth isMat S_Matrix_point (pLoc 7) (pCons (pLoc 1) pNil)) (pLoc 4)) (pCmp cNe (pMeth isMat S_Matrix_row (pCall S_read_transforms (pCons (pCall S_write_matrix (pCons (pLoc 7) pNil)) pNil)) pNil) (pMeth isMat S_Matrix_row (pLoc 7) pNil))) (pSeq (pRet (pLit (.bool false))) pSkip) pSkip) p__law_list_right_c))))
noncomputable def p__law_list_right : PS := (pSeq (pAsg 2 (pComp [(Str.ofString "source", 0)] (pRng1 (pCall S__law_take (pCons (pLoc 0) (pCons (pLit (.int 3)) pNil)))) (pCall S__law_part (pCons (pLoc 1) pNil)))) (pSeq (pAsg 3 (pBin oAdd (pCall S__law_one (pCons (pLoc 0) (pCons (pLst (pCons (pLit (.str (Str.ofString ""))) (pCons (pLit (.str (Str.ofString " "))) pNil))) pNil))) (pMeth isText sJoin (pCall S__law_one (pCons (pLoc 0) (pCons (pLst (pCons (pLit (.str (Str.ofString " "))) (pCons (pLit (.str (Str.ofString ","))) (pCons (pLit (.str (Str.ofString ""))) pNil)))) pNil))) (pCons (pComp [] (pIter (pLoc 2)) (pIdx (pLoc 0) (pLit (.int 0)))) pNil)))) p__law_list_right_b))
theorem lits_wrong : Str.ofString "scale" = tx nScale ∧ Str.ofString "scale()" = tx (nScale ++ [40, 41]) ∧ Str.ofString "move(1)" = tx (nMove ++ [40, 49, 41]) ∧ Str.ofString "scale(1 2 3)" = tx (nScale ++ [40, 49, 32, 50, 32, 51, 41]) ∧ Str.ofString "matrix(1 2 3 4 5)" = tx (nMatrix ++ [40, 49, 32, 50, 32, 51, 32, 52, 32, 53, 41]) ∧
   Str.ofString "scale(1,)" = tx (nScale ++ [40, 49, 44, 41]) ∧ Str.ofString "scale(1)," = tx (nScale ++ [40, 49, 41, 44]) ∧ Str.ofString "scale(a)" = tx (nScale ++ [40, 97, 41]) ∧ Str.ofString "scale(1" = tx (nScale ++ [40, 49]) ∧ Str.ofString "1" = tx [49] := by decide +kernel
noncomputable def paD (q : List Nat × Mx) : D := .tup [tD q.1, .lst (q.2.row.map qD)]
theorem wrong_tail {l : List (List Nat × Mx)} {sep lead J : List Nat} {s1 s2 s4 s5 s6 s7 : Option SV} {Kn : Env1 → CO → Prop} {Kr : SV → CO → Prop} {Ke : Env1 → Addr → CO → Prop} (hq : ∀ q ∈ l, PartT q.1 q.2) (hl : l.length ≤ 2) (hs : sep ∈ seps) (hlead : lead = [] ∨ lead = [32]) (hJ : J = joinL sep (l.map (·.1))) (hJ1 : J.length ≤ 1000) (hJ2 : ∀ c ∈ J, c < 128)
    (hJ3 : J = [] ∨ (∃ g r, J = g :: r ∧ 33 ≤ g ∧ g < 127) ∧ ∃ g r, J = r ++ [g] ∧ 33 ≤ g ∧ g < 127) (hJ4 : J = [] ∧ l = [] ∨ ∃ g r, J = g :: r ∧ isLet g = true) (hK : Kr (.d (.bool true)) .src) :
    p__law_list_right_c [some .cell, s1, s2, some (.d (.str (tx (lead ++ J)))), s4, s5, s6, s7, none] .src Kn Kr Ke := by
  obtain ⟨w0, w1, w2, w3, w4, w5, w6, w7, w8, w9⟩ := lits_wrong
  unfold p__law_list_right_c
  walk_at "vs"
  rw [w0, w1, w2, w3, w4, w5, w6, w7, w8, w9, lit_SP]
  have hll : lead.length ≤ 1 := by rcases hlead with rfl | rfl <;> decide
  refine ⟨by walk_at "vd", by rw [tx_len, sizeLine_eq]; simp; walk_at "om", ?_⟩
  rw [strip_t hlead hJ3]
  walk_at "vs"
  walk_at "vt"
  refine ⟨by rw [sizeLine_eq]; simp; walk_at "om", i__law_one _ rfl rfl (by show 0 < 10; decide) (by show 10 < 2 ^ 20; decide) (fun y hy => ?_)⟩
  obtain ⟨w, hw, rfl⟩ : ∃ w ∈ wrongs, y = .str (tx w) := by
    have e : ([.str (tx nScale), .str (tx (nScale ++ [40, 41])), .str (tx (nMove ++ [40, 49, 41])), .str (tx (nScale ++ [40, 49, 32, 50, 32, 51, 41])), .str (tx (nMatrix ++ [40, 49, 32, 50, 32, 51, 32, 52, 32, 53, 41])), .str (tx (nScale ++ [40, 49, 44, 41])), .str (tx (nScale ++ [40, 49, 41, 44])), .str (tx (nScale ++ [40, 97, 41])), .str (tx (nScale ++ [40, 49])), .str (tx [49])] : List D) = wrongs.map fun g => .str (tx g) := rfl
    rw [e] at hy
    obtain ⟨q, h1, h2⟩ := List.mem_map.mp hy
    exact ⟨q, h1, h2.symm⟩
  have hW := wrongs_ok w hw
  obtain ⟨⟨g, r, eg, h1, h2⟩, h3, h4, h5⟩ := id hW
  walk_at "vs"
  walk_at "vt"
  refine ⟨by rw [sizeLine_eq]; simp; walk_at "om", i_read_transforms (J ++ [32] ++ w) none rfl ⟨by simp; walk_at "om", fun c hc => ?_⟩ ?_ ((fun _ q => no_ns q)) (fun _ => ⟨rfl, hK⟩)⟩
  · rcases List.mem_append.mp hc with hc | hc
    · rcases List.mem_append.mp hc with hc | hc
      · exact hJ2 c hc
      · rw [List.mem_singleton.mp hc]; decide
    · exact h3 c hc
  · rcases hJ4 with ⟨rfl, rfl⟩ | ⟨g2, r2, e2, h6⟩
    · show RTs (trimL ([32] ++ w)) I6 none
      rw [trim_lead (.inr rfl) (.inr ⟨g, r, eg, h1⟩)]
      exact h5 _ (sm_I.mono (by walk_at "vd"))
    · have ht : trimL (J ++ [32] ++ w) = J ++ 32 :: w := by
        have := trim_lead (lead := []) (J := J ++ 32 :: w) (.inl rfl) (.inr ⟨g2, r2 ++ 32 :: w, by rw [e2]; rfl, (let_sp h6).1⟩)
        rw [← this]; simp
      rw [ht, hJ]
      exact run_wrong hs hW hq hl fun z => by subst z; rw [hJ] at e2; cases e2
theorem part_last {t : List Nat} {M : Mx} (h : PartT t M) : ∃ r, t = r ++ [41] := by
  obtain ⟨nm, body, rfl, B⟩ := h
  exact ⟨nm ++ 40 :: body, by simp⟩
theorem part_len {t : List Nat} {M : Mx} (h : PartT t M) : t.length ≤ 102 ∧ ∀ c ∈ t, c < 128 := by
  obtain ⟨nm, body, rfl, B⟩ := h
  have := B.len
  refine ⟨by simp; walk_at "om", fun c hc => ?_⟩
  rcases List.mem_append.mp hc with hc | hc
  · exact B.lo c (List.mem_append.mpr (.inl hc))
  · rcases List.mem_cons.mp hc with rfl | hc
    · decide
    · rcases List.mem_append.mp hc with hc | hc
      · exact B.lo c (List.mem_append.mpr (.inr hc))
      · rw [List.mem_singleton.mp hc]; decide
theorem join_ends {sep : List Nat} {l : List (List Nat × Mx)} (hq : ∀ q ∈ l, PartT q.1 q.2) : joinL sep (l.map (·.1)) = [] ∨ (∃ g r, joinL sep (l.map (·.1)) = g :: r ∧ 33 ≤ g ∧ g < 127) ∧ ∃ g r, joinL sep (l.map (·.1)) = r ++ [g] ∧ 33 ≤ g ∧ g < 127 := by
  rcases join_head (sep := sep) hq with h | ⟨g, r, h, hl⟩
  · exact .inl h.1
  · right
    refine ⟨⟨g, r, h, ?_⟩, 41, ?_⟩
    · unfold isLet at hl; simp at hl; walk_at "om"
    · have key : ∀ l : List (List Nat × Mx), (∀ q ∈ l, PartT q.1 q.2) → l ≠ [] → ∃ r, joinL sep (l.map (·.1)) = r ++ [41] := by
        intro l
        induction l with
        | nil => intro _ h; exact absurd rfl h
        | cons q l ih =>
          intro hq _
          cases l with
          | nil => exact part_last (hq q (.head _))
          | cons q2 l =>
            obtain ⟨r, hr⟩ := ih (fun x hx => hq x (.tail _ hx)) (by simp)
            exact ⟨q.1 ++ (sep ++ r), by show q.1 ++ (sep ++ joinL sep ((q2 :: l).map (·.1))) = _; rw [hr]; simp⟩
      obtain ⟨r', hr⟩ := key l hq (fun z => by subst z; cases h)
      exact ⟨r', hr, by walk_at "vd", by walk_at "vd"⟩
theorem seps_c : ∀ s ∈ seps, s.length ≤ 102 ∧ ∀ c ∈ s, c < 128 := by walk_at "vd"
theorem seps_short : ∀ s ∈ seps, s.length ≤ 1 := by walk_at "vd"
theorem join_size {sep : List Nat} (hs : sep ∈ seps) {l : List (List Nat × Mx)} (hq : ∀ q ∈ l, PartT q.1 q.2) (hl : l.length ≤ 2) : (joinL sep (l.map (·.1))).length ≤ 1000 ∧ ∀ c ∈ joinL sep (l.map (·.1)), c < 128 := by
  have h1 : ∀ t ∈ l.map (·.1), t.length ≤ 102 ∧ ∀ c ∈ t, c < 128 := fun t ht => by
    obtain ⟨q, hq1, rfl⟩ := List.mem_map.mp ht
    exact part_len (hq q hq1)
  have := joinL_len sep 102 (seps_c sep hs).1 (l.map (·.1)) fun t ht => (h1 t ht).1
  rw [List.length_map] at this
  refine ⟨Nat.le_trans this ?_, joinL_all (seps_c sep hs).2 _ fun t ht => (h1 t ht).2⟩
  have : 2 * 102 * l.length ≤ 2 * 102 * 2 := Nat.mul_le_mul_left _ hl
  walk_at "om"
theorem smp3 {p : Rat × Rat} (h : SmP 3 p) (l : List (List Nat × Mx)) (hq : ∀ q ∈ l, PartT q.1 q.2) (hl : l.length ≤ 2) : SmP 63 (dueL l p) := by
  match l, hl with
  | [], _ => exact h.mono (by walk_at "vd")
  | [q], _ =>
    obtain ⟨_, _, _, B⟩ := hq q (.head _)
    exact B.vm.sm.pt h (by walk_at "vd")
  | [q, q2], _ =>
    obtain ⟨_, _, _, B⟩ := hq q (.head _)
    obtain ⟨_, _, _, B2⟩ := hq q2 (.tail _ (.head _))
    have h2 : SmP 23 (q2.2.pt p) := B2.vm.sm.pt h (by walk_at "vd")
    exact B.vm.sm.pt h2 (by walk_at "vd")
  | _ :: _ :: _ :: _, h => simp at h
theorem pick_rev (l : List D) (h : l.length ≤ 2) : pickD l none none (some (-1)) = l.reverse := by
  match l, h with
  | [], _ => rfl
  | [a], _ =>
    have e : sliceRange (sliceBounds none none (some (-1)) 1).1 (sliceBounds none none (some (-1)) 1).2.1 (sliceBounds none none (some (-1)) 1).2.2 = [0] := by decide +kernel
    show (sliceRange (sliceBounds none none (some (-1)) 1).1 (sliceBounds none none (some (-1)) 1).2.1 (sliceBounds none none (some (-1)) 1).2.2).filterMap ([a][·]?) = _
    rw [e]; rfl
  | [a, b], _ =>
    have e : sliceRange (sliceBounds none none (some (-1)) 2).1 (sliceBounds none none (some (-1)) 2).2.1 (sliceBounds none none (some (-1)) 2).2.2 = [1, 0] := by decide +kernel
    show (sliceRange (sliceBounds none none (some (-1)) 2).1 (sliceBounds none none (some (-1)) 2).2.1 (sliceBounds none none (some (-1)) 2).2.2).filterMap ([a, b][·]?) = _
    rw [e]; rfl
  | _ :: _ :: _ :: _, h => simp at h
theorem list_tail {l : List (List Nat × Mx)} {sep lead J : List Nat} {p : Rat × Rat} {Kn : Env1 → CO → Prop} {Kr : SV → CO → Prop} {Ke : Env1 → Addr → CO → Prop} (hq : ∀ q ∈ l, PartT q.1 q.2) (hl : l.length ≤ 2) (hs : sep ∈ seps) (hlead : lead = [] ∨ lead = [32]) (hJ : J = joinL sep (l.map (·.1))) (hp : SmP 3 p) (hK : Kr (.d (.bool true)) .src) :
    p__law_list_right_b [some .cell, some (.d (pD p)), some (.d (.lst (l.map paD))), some (.d (.str (tx (lead ++ J)))), none, none, none, none, none] .src Kn Kr Ke := by
  have hJ' := hJ
  have hz := join_size hs hq hl
  have he := join_ends (sep := sep) hq
  have hh := join_head (sep := sep) hq
  rw [← hJ'] at hz he hh
  have hll : lead.length ≤ 1 := by rcases hlead with rfl | rfl <;> decide
  have hlc : ∀ c ∈ lead, c < 128 := by rcases hlead with rfl | rfl <;> decide
  unfold p__law_list_right_b
  walk_at "vs"
  try unfold pFor
  walk_at "vs"
  rw [pick_rev _ (by rw [List.length_map]; exact hl)]
  have hrl : (l.map paD).reverse.length = l.length := by simp
  refine ⟨by rw [sizeLine_eq]; simp; walk_at "om", fun k ρ c => ∃ s5 s6, ρ = [some .cell, some (.d (pD p)), some (.d (.lst (l.map paD))), some (.d (.str (tx (lead ++ J)))), some (.d (pD (dueL (l.drop (l.length - k)) p))), s5, s6, none, none] ∧ c = .src, ⟨none, none, by simp [dueL], rfl⟩, ?_, ?_⟩
  · rintro k ρ c y hy ⟨s5, s6, rfl, rfl⟩
    have hk : k < l.length := by
      have := (List.getElem?_eq_some_iff.mp hy).1
      simpa using this
    rw [List.getElem?_reverse (by rw [List.length_map]; exact hk), List.length_map, List.getElem?_map] at hy
    obtain ⟨q, hq1, rfl⟩ := Option.map_eq_some_iff.mp hy
    obtain ⟨g, hg, hdr⟩ : ∃ g, l[l.length - 1 - k]? = some g ∧ l.drop (l.length - 1 - k) = g :: l.drop (l.length - 1 - k + 1) := ⟨l[l.length - 1 - k], List.getElem?_eq_getElem (om2 hk), List.drop_eq_getElem_cons (om2 hk)⟩
    rw [hq1] at hg
    cases hg
    have e1 : l.length - (k + 1) = l.length - 1 - k := om4
    have e2 : l.length - 1 - k + 1 = l.length - k := om3 hk
    rw [e2] at hdr
    have hqm := hq q (List.mem_of_getElem? hq1)
    obtain ⟨_, _, _, B⟩ := id hqm
    have hd := smp3 hp (l.drop (l.length - k)) (fun x hx => hq x (List.mem_of_mem_drop hx)) (by simp; walk_at "om")
    have key : dueL (l.drop (l.length - (k + 1))) p = q.2.pt (dueL (l.drop (l.length - k)) p) := by rw [e1, hdr]; rfl
    show oSome (itemsOf (.d (.tup [tD q.1, .lst (q.2.row.map qD)]))) _
    walk_at "vs"
    refine i__law_led q.2 (dueL (l.drop (l.length - k)) p) true _ rfl (.inr rfl) (B.vm.sm.mono (by walk_at "vd")) (hd.mono (by walk_at "vd")) ?_
    walk_at "vs"
    rw [key]
    exact ⟨_, _, rfl, rfl⟩
  · rintro ρ c ⟨s5, s6, rfl, rfl⟩
    rw [hrl, Nat.sub_self, List.drop_zero]
    have hd := smp3 hp l hq hl
    have hm := matL_ok l hq hl
    have hR : RTs (trimL (lead ++ J)) I6 (some (matL l I6)) := by
      rw [trim_lead hlead, hJ]
      · exact run_ok hs hq hl
      · rcases hh with h | ⟨g, r, h, h2⟩
        · exact .inl h.1
        · exact .inr ⟨g, r, h, (let_sp h2).1⟩
    walk_at "vs"
    refine i_read_transforms (lead ++ J) (some (matL l I6)) rfl ⟨by simp; walk_at "om", fun c hc => ?_⟩ hR (fun M hM => ?_) nofun
    · rcases List.mem_append.mp hc with hc | hc
      · exact hlc c hc
      · exact hz.2 c hc
    cases hM
    generalize hMM : matL l I6 = M at *
    walk_at "vs"
    refine i_Matrix_point M p rfl (hm.1.mono (by walk_at "vd")) (hp.mono (by walk_at "vd")) ?_
    walk_at "vs"
    refine ne_p (by rw [← hMM, mat_due, I_pt]) ⟨nofun, fun _ => ?_⟩
    try walk_at "vs"
    refine i_write_matrix M rfl (dec_ok hm.1 hm.2) (fun ts h6 hts => ?_)
    have hb := read_back (M := M) (hm.1.mono (by walk_at "vd")) h6 hts
    walk_at "vs"
    refine i_read_transforms _ (some M) rfl hb.1 hb.2 (fun M' hM' => ?_) nofun
    cases hM'
    walk_at "vs"
    refine i_Matrix_row M rfl ?_
    walk_at "vs"
    refine i_Matrix_row M rfl ?_
    walk_at "vs"
    refine ne_same (okN_r M) ⟨nofun, fun _ => ?_⟩
    exact wrong_tail hq hl hs hlead hJ hz.1 hz.2 he hh hK
theorem vc__law_list_right (args : List SV) (c : CO) (K : SV → CO → Prop) (KE : Addr → CO → Prop) : S__law_list_right args c K KE → sDef 2 9 p__law_list_right args c K KE := by
  rintro ⟨p, rfl, rfl, hp, hK⟩
  refine ⟨rfl, ?_⟩
  have lt := @list_tail
  unfold p__law_list_right
  generalize p__law_list_right_b = pb at lt ⊢
  walk_at "vs"
  try unfold pComp
  walk_at "vs"
  refine ⟨fun q hq => by rw [List.mem_singleton.mp hq]; exact ⟨_, rfl⟩, 3, rfl, rfl, by walk_at "vd", by walk_at "vd", fun r hr0 hr1 => ?_⟩
  walk_at "vs"
  have hrl : ((List.range r.toNat).map fun i : Nat => D.int i).length = r.toNat := by simp
  refine ⟨hr0, by walk_at "om", fun k acc c => ∃ l : List (List Nat × Mx), acc = l.map paD ∧ (∀ n ∈ l, PartT n.1 n.2) ∧ c = .src, by rw [hrl, sizeLine_eq]; walk_at "om", ⟨[], rfl, (fun _ h => nomatch h), rfl⟩, ?_, ?_⟩
  · rintro k acc c y hy hk ⟨l, rfl, hl, rfl⟩
    walk_at "vs"
    try rw [show (some (some SV.cell)).join = some SV.cell from rfl, q_oSome]
    refine i__law_part rfl rfl (fun t M h => ?_)
    show ∃ _, _
    refine ⟨l ++ [(t, M)], by rw [List.map_append]; rfl, fun m hm => ?_, rfl⟩
    rcases List.mem_append.mp hm with hm | hm
    · exact hl m hm
    · rw [List.mem_singleton.mp hm]; exact h
  · rintro acc c hlen ⟨l, rfl, hq, rfl⟩
    have hl : l.length ≤ 2 := by rw [List.length_map, hrl] at hlen; walk_at "om"
    rw [lit_E0, lit_SP, lit_com]
    walk_at "vs"
    refine ⟨by walk_at "vd", i__law_one _ rfl rfl (by walk_at "vd") (by walk_at "vd") (fun y hy => ?_)⟩
    obtain ⟨lead, hlead, rfl⟩ : ∃ lead, (lead = [] ∨ lead = [32]) ∧ y = .str (tx lead) := by
      simp only [List.mem_cons, List.not_mem_nil, or_false] at hy
      rcases hy with rfl | rfl
      · exact ⟨[], .inl rfl, rfl⟩
      · exact ⟨[32], .inr rfl, rfl⟩
    walk_at "vs"
    refine ⟨by walk_at "vd", i__law_one _ rfl rfl (by walk_at "vd") (by walk_at "vd") (fun y hy => ?_)⟩
    obtain ⟨sep, hs, rfl⟩ : ∃ sep ∈ seps, y = .str (tx sep) := by
      have e : ([.str (tx [32]), .str (tx [44]), .str (tx [])] : List D) = seps.map fun g => .str (tx g) := rfl
      replace hy : y ∈ seps.map (fun g => D.str (tx g)) := hy
      obtain ⟨q, h1, h2⟩ := List.mem_map.mp hy
      exact ⟨q, h1, h2.symm⟩
    walk_at "vs"
    refine ⟨nofun, fun k acc c => acc = (l.map fun n => tD n.1).take k ∧ c = .src, by rw [List.length_map, sizeLine_eq]; walk_at "om", ⟨rfl, rfl⟩, ?_, ?_⟩
    · rintro k acc c y hy hk ⟨rfl, rfl⟩
      rw [List.getElem?_map] at hy
      obtain ⟨n, hn, rfl⟩ := Option.map_eq_some_iff.mp hy
      unfold paD
      refine onIdx_pr0 ?_
      rw [q_onD]
      exact ⟨(take_snoc (by rw [List.getElem?_map, hn]; rfl)).symm, rfl⟩
    rintro acc c hlen2 ⟨rfl, rfl⟩
    have e : ((l.map fun n => tD n.1).take (l.map paD).length) = ((l.map (·.1)).map tx).map D.str := by
      rw [List.length_map, ← List.length_map (f := fun n : List Nat × Mx => tD n.1), List.take_length, List.map_map, List.map_map]; rfl
    rw [e]
    have hz := join_size hs hq hl
    have hll : lead.length ≤ 1 := by rcases hlead with rfl | rfl <;> decide
    walk_at "vs"
    refine ⟨(l.map (·.1)).map tx, rfl, joinOk_tx (by simp; walk_at "om") (fun x hx => ?_) (Nat.le_trans (seps_short sep hs) (by walk_at "vd")), ?_⟩
    · obtain ⟨q, h1, rfl⟩ := List.mem_map.mp hx
      have := (part_len (hq q h1)).1
      walk_at "om"
    rw [join_tx]
    walk_at "vs"
    walk_at "vt"
    refine ⟨by rw [sizeLine_eq]; walk_at "om", ?_⟩
    exact lt hq hl hs hlead rfl hp (by rw [finS_src]; exact hK)
end
section
-- part N20
open PySem PySem.W PyProof.Rows PySem.Calls PySem.Builtin PySem.Builtin.Str PySem.Builtin.ObjectAttr
noncomputable def p_turn_e : PS := (pSeq (pIfS (pOr (pCmp cNe (pMeth isMat S_Matrix_point (pCall S_scaling (pCons (pLoc 7) (pCons (pLoc 8) pNil))) (pCons (pLoc 6) pNil)) (pTup (pCons (pCall S__law_sum (pCons (pLst (pCons (pTup (pCons (pIdx (pLoc 6) (pLit (.int 0))) (pCons (pLoc 7) pNil))) pNil)) pNil)) (pCons (pCall S__law_sum (pCons (pLst (pCons (pTup (pCons (pIdx (pLoc 6) (pLit (.int 1))) (pCons (pLoc 8) pNil))) pNil)) pNil)) pNil)))) (pNot (pTest (pCall S__law_spot_right (pCons (pLoc 2) (pCons (pLoc 4) (pCons (pLoc 6) pNil))))))) (pSeq (pRet (pLit (.bool false))) pSkip) pSkip) pSkip)
noncomputable def p_turn_d : PS := (pSeq (pSwp [7, 8] (pTup (pCons (pCall S__law_half (pCons (pLoc 2) pNil)) (pCons (pCall S__law_half (pCons (pLoc 2) pNil)) pNil)))) (pSeq (pIfS (pCmp cNe (pMeth isMat S_Matrix_point (pCall S_translation (pCons (pLoc 7) (pCons (pLoc 8) pNil))) (pCons (pLoc 6) pNil)) (pTup (pCons (pCall S__law_sum (pCons (pLst (pCons (pTup (pCons (pIdx (pLoc 6) (pLit (.int 0))) (pCons (pTup (pCons (pLit (.int 1)) (pCons (pLit (.int 1)) pNil))) pNil))) (pCons (pTup (pCons (pLoc 7) (pCons (pTup (pCons (pLit (.int 1)) (pCons (pLit (.int 1)) pNil))) pNil))) pNil))) pNil)) (pCons (pCall S__law_sum (pCons (pLst (pCons (pTup (pCons (pIdx (pLoc 6) (pLit (.int 1))) (pCons (pTup (pCons (pLit (.int 1)) (pCons (pLit (.int 1)) pNil))) pNil))) (pCons (pTup (pCons (pLoc 8) (pCons (pTup (pCons (pLit (.int 1)) (pCons (pLit (.int 1)) pNil))) pNil))) pNil))) pNil)) pNil)))) (pSeq (pRet (pLit (.bool false))) pSkip) pSkip) p_turn_e))
noncomputable def p_turn_c : PS := (pSeq (pIfS (pOr (pNot (pTest (pCall S__law_product_right (pCons (pLoc 4) (pCons (pLoc 5) (pCons (pLoc 6) pNil)))))) (pOr (pNot (pTest (pCall S__law_inverse_right (pCons (pLoc 4) (pCons (pLoc 6) pNil))))) (pNot (pTest (pCall S__law_list_right (pCons (pLoc 2) (pCons (pLoc 6) pNil))))))) (pSeq (pRet (pLit (.bool false))) pSkip) pSkip) p_turn_d)
noncomputable def p_turn_b : PS := (pSeq (pIfS (pOr (pCmp cNe (pMeth isMat S_Matrix_row (pLoc 4) pNil) (pCall sTuple (pCons (pIdx (pLoc 3) (pLit (.int 0))) pNil))) (pOr (pCmp cNe (pMeth isMat S_Matrix_point (pLoc 4) (pCons (pLoc 6) pNil)) (pCall S__law_led (pCons (pIdx (pLoc 3) (pLit (.int 0))) (pCons (pLoc 6) (pCons (pLit (.int 1)) pNil))))) (pCmp cNe (pMeth isMat S_Matrix_vector (pLoc 4) (pCons (pLoc 6) pNil)) (pCall S__law_led (pCons (pIdx (pLoc 3) (pLit (.int 0))) (pCons (pLoc 6) (pCons (pLit (.int 0)) pNil))))))) (pSeq (pRet (pLit (.bool false))) pSkip) pSkip) p_turn_c)
noncomputable def p_turn : PS := (pSeq (pAsg 3 (pComp [(Str.ofString "source", 2)] (pRng1 (pLit (.int 2))) (pComp [(Str.ofString "source", 1)] (pRng1 (pLit (.int 6))) (pCall S__law_half (pCons (pLoc 1) pNil))))) (pSeq (pUnp [4, 5] (pComp [] (pIter (pLoc 3)) (pCall sMat (pCons (pIdx (pLoc 0) (pLit (.int 0))) (pCons (pIdx (pLoc 0) (pLit (.int 1))) (pCons (pIdx (pLoc 0) (pLit (.int 2))) (pCons (pIdx (pLoc 0) (pLit (.int 3))) (pCons (pIdx (pLoc 0) (pLit (.int 4))) (pCons (pIdx (pLoc 0) (pLit (.int 5))) pNil))))))))) (pSeq (pAsg 6 (pTup (pCons (pCall S__law_half (pCons (pLoc 2) pNil)) (pCons (pCall S__law_half (pCons (pLoc 2) pNil)) pNil)))) p_turn_b)))
theorem sm_hf : ∀ q ∈ hf, Sm 3 q := by
  intro q hq
  unfold hf at hq
  simp only [List.mem_cons, List.not_mem_nil, or_false] at hq
  rcases hq with rfl | rfl | rfl | rfl | rfl | rfl | rfl | rfl <;> exact ⟨by walk_at "vd", by walk_at "vd"⟩
theorem sTuple_l (l : List D) (c : CO) (K : SV → CO → Prop) (KE : Addr → CO → Prop) : sTuple [.d (.lst l)] c K KE ↔ (l.length ≤ sizeLine ∧ K (.d (.tup l)) c) := Iff.rfl
noncomputable abbrev tst (l : List Int) (k : Nat) (M1 M2 : Mx) (sp sx sy : Option SV) : Env1 := [some (.d (.lst (l.map .int))), some (.d (.int (k : Nat))), some .cell, some (.d (.lst [.lst (M1.row.map qD), .lst (M2.row.map qD)])), some (.d (mD M1)), some (.d (mD M2)), sp, sx, sy]
noncomputable def Kturn (l : List Int) : Env1 → CO → Prop := fun ρ' _ => ρ'[0]? = some (some (.d (.lst (l.map .int))))
theorem turn_e {l : List Int} {k : Nat} {M1 M2 : Mx} {p : Rat × Rat} {x y : Rat} (h1 : SmM 3 M1) (hp : SmP 3 p) (hx : Sm 3 x) (hy : Sm 3 y) : p_turn_e (tst l k M1 M2 (some (.d (pD p))) (some (.d (qD x))) (some (.d (qD y)))) .src (Kturn l) (fun _ _ => False) (fun _ _ _ => False) := by
  unfold p_turn_e
  walk_at "vs"
  have z0 : Sm 3 0 := sm_zero (by walk_at "vd")
  refine i_scaling x y rfl ?_
  walk_at "vs"
  refine i_Matrix_point _ p rfl ⟨hx.mono (by walk_at "vd"), z0.mono (by walk_at "vd"), z0.mono (by walk_at "vd"), hy.mono (by walk_at "vd"), z0.mono (by walk_at "vd"), z0.mono (by walk_at "vd")⟩ (hp.mono (by walk_at "vd")) ?_
  walk_at "vs"
  refine onIdx_pr0 ?_
  walk_at "vs"
  refine ⟨by walk_at "vd", by walk_at "vd", i__law_sum ([(p.1, x)]) rfl (by simp) (fun q hq => by rw [List.mem_singleton.mp hq]; exact ⟨hp.1.mono (by walk_at "vd"), hx.mono (by walk_at "vd")⟩) ?_⟩
  rw [sum1]
  refine onIdx_pr1 ?_
  walk_at "vs"
  refine ⟨by walk_at "vd", by walk_at "vd", i__law_sum ([(p.2, y)]) rfl (by simp) (fun q hq => by rw [List.mem_singleton.mp hq]; exact ⟨hp.2.mono (by walk_at "vd"), hy.mono (by walk_at "vd")⟩) ?_⟩
  rw [sum1]
  walk_at "vs"
  refine ⟨by walk_at "vd", ?_⟩
  try walk_at "vs"
  refine ne_p (q := (p.1 * x, p.2 * y)) ?_ ⟨nofun, fun _ => ?_⟩
  try walk_at "vs"
  · apply Prod.ext <;> simp only [Mx.pt, Mx.vec, Rat.zero_mul, Rat.add_zero, Rat.zero_add] <;> grind
  try walk_at "vs"
  refine i__law_spot_right M1 p rfl rfl (h1.mono (by walk_at "vd")) (hp.mono (by walk_at "vd")) ?_
  walk_at "vs"
  refine ⟨nofun, fun _ => rfl⟩
theorem half_go {K : SV → CO → Prop} {KE : Addr → CO → Prop} (h : ∀ q, Sm 3 q → K (.d (qD q)) .src) : S__law_half [.cell] .src K KE := ⟨rfl, rfl, fun q hq => h q (sm_hf q hq)⟩
theorem turn_d {l : List Int} {k : Nat} {M1 M2 : Mx} {p : Rat × Rat} (h1 : SmM 3 M1) (hp : SmP 3 p) : p_turn_d (tst l k M1 M2 (some (.d (pD p))) none none) .src (Kturn l) (fun _ _ => False) (fun _ _ _ => False) := by
  have nx := @turn_e
  unfold p_turn_d
  generalize p_turn_e = pn at nx ⊢
  walk_at "vs"
  refine half_go fun x hx => ?_
  try walk_at "vs"
  refine half_go fun y hy => ?_
  walk_at "vs"
  refine ⟨by walk_at "vd", ?_⟩
  try walk_at "vs"
  refine ⟨x, y, rfl, ?_⟩
  walk_at "vs"
  have z0 : Sm 3 0 := sm_zero (by walk_at "vd")
  have z1 : Sm 3 1 := sm_one (by walk_at "vd")
  refine i_Matrix_point _ p rfl ⟨z1.mono (by walk_at "vd"), z0.mono (by walk_at "vd"), z0.mono (by walk_at "vd"), z1.mono (by walk_at "vd"), hx.mono (by walk_at "vd"), hy.mono (by walk_at "vd")⟩ (hp.mono (by walk_at "vd")) ?_
  walk_at "vs"
  refine onIdx_pr0 ?_
  walk_at "vs"
  refine ⟨by walk_at "vd", by walk_at "vd", by walk_at "vd", by walk_at "vd", by walk_at "vd", i__law_sum ([(p.1, 1), (x, 1)]) rfl (by simp) (fun q hq => ?_) ?_⟩
  · simp only [List.mem_cons, List.not_mem_nil, or_false] at hq
    rcases hq with rfl | rfl
    · exact ⟨hp.1.mono (by walk_at "vd"), z1.mono (by walk_at "vd")⟩
    · exact ⟨hx.mono (by walk_at "vd"), z1.mono (by walk_at "vd")⟩
  rw [sum2]
  refine onIdx_pr1 ?_
  walk_at "vs"
  refine ⟨by walk_at "vd", by walk_at "vd", by walk_at "vd", by walk_at "vd", by walk_at "vd", i__law_sum ([(p.2, 1), (y, 1)]) rfl (by simp) (fun q hq => ?_) ?_⟩
  · simp only [List.mem_cons, List.not_mem_nil, or_false] at hq
    rcases hq with rfl | rfl
    · exact ⟨hp.2.mono (by walk_at "vd"), z1.mono (by walk_at "vd")⟩
    · exact ⟨hy.mono (by walk_at "vd"), z1.mono (by walk_at "vd")⟩
  rw [sum2]
  walk_at "vs"
  refine ⟨by walk_at "vd", ?_⟩
  try walk_at "vs"
  refine ne_p (q := (p.1 * 1 + x * 1, p.2 * 1 + y * 1)) ?_ ⟨nofun, fun _ => ?_⟩
  try walk_at "vs"
  · apply Prod.ext <;> simp only [Mx.pt, Mx.vec, Rat.zero_mul, Rat.one_mul, Rat.mul_one, Rat.add_zero, Rat.zero_add]
  try walk_at "vs"
  exact nx h1 hp hx hy
theorem turn_c {l : List Int} {k : Nat} {M1 M2 : Mx} {p : Rat × Rat} (h1 : SmM 3 M1) (h2 : SmM 3 M2) (hp : SmP 3 p) : p_turn_c (tst l k M1 M2 (some (.d (pD p))) none none) .src (Kturn l) (fun _ _ => False) (fun _ _ _ => False) := by
  have nx := @turn_d
  unfold p_turn_c
  generalize p_turn_d = pn at nx ⊢
  walk_at "vs"
  refine i__law_product_right M1 M2 p rfl (h1.mono (by walk_at "vd")) (h2.mono (by walk_at "vd")) (hp.mono (by walk_at "vd")) ?_
  walk_at "vs"
  refine ⟨nofun, fun _ => ?_⟩
  try walk_at "vs"
  refine ⟨M1, p, rfl, h1, hp, ?_⟩
  walk_at "vs"
  refine ⟨nofun, fun _ => ?_⟩
  try walk_at "vs"
  refine ⟨p, rfl, rfl, hp, ?_⟩
  walk_at "vs"
  refine ⟨nofun, fun _ => ?_⟩
  try walk_at "vs"
  exact nx h1 hp
theorem turn_b {l : List Int} {k : Nat} {M1 M2 : Mx} {p : Rat × Rat} (h1 : SmM 3 M1) (h2 : SmM 3 M2) (hp : SmP 3 p) : p_turn_b (tst l k M1 M2 (some (.d (pD p))) none none) .src (Kturn l) (fun _ _ => False) (fun _ _ _ => False) := by
  have nx := @turn_c
  unfold p_turn_b
  generalize p_turn_c = pn at nx ⊢
  walk_at "vs"
  refine i_Matrix_row M1 rfl ?_
  walk_at "vs"
  refine onIdx_at (i := 0) (by simp) rfl ?_
  try walk_at "vs"
  refine (sTuple_l ..).mpr ?_
  refine ⟨by rw [sizeLine_eq]; simp [Mx.row], ?_⟩
  walk_at "vs"
  refine ne_same (okN_r M1) ⟨nofun, fun _ => ?_⟩
  try walk_at "vs"
  refine i_Matrix_point M1 p rfl (h1.mono (by walk_at "vd")) (hp.mono (by walk_at "vd")) ?_
  try walk_at "vs"
  refine onIdx_at (i := 0) (by simp) rfl ?_
  try walk_at "vs"
  refine i__law_led M1 p true _ rfl (.inr rfl) (h1.mono (by walk_at "vd")) (hp.mono (by walk_at "vd")) ?_
  walk_at "vs"
  refine ne_p rfl ⟨nofun, fun _ => ?_⟩
  try walk_at "vs"
  refine i_Matrix_vector M1 p rfl (h1.mono (by walk_at "vd")) (hp.mono (by walk_at "vd")) ?_
  try walk_at "vs"
  refine onIdx_at (i := 0) (by simp) rfl ?_
  try walk_at "vs"
  refine i__law_led M1 p false _ rfl (.inr rfl) (h1.mono (by walk_at "vd")) (hp.mono (by walk_at "vd")) ?_
  walk_at "vs"
  refine ne_p rfl ⟨nofun, fun _ => ?_⟩
  try walk_at "vs"
  exact nx h1 h2 hp
theorem row_of {l : List Rat} (h : l.length = 6) (hq : ∀ q ∈ l, Sm 3 q) : ∃ M : Mx, M.row = l ∧ SmM 3 M := by
  obtain ⟨a, b, c, d, e, f, rfl⟩ := len6 h
  exact ⟨⟨a, b, c, d, e, f⟩, rfl, hq a (by simp), hq b (by simp), hq c (by simp), hq d (by simp), hq e (by simp), hq f (by simp)⟩
theorem onIdx_row {M : Mx} {i : Nat} {q : Rat} {c : CO} {K : SV → CO → Prop} (h : M.row[i]? = some q) (k : K (.d (qD q)) c) : onIdx (.d (.lst (M.row.map qD))) (.d (.int (i : Int))) c K := onIdx_at (by simp [Mx.row]) (by rw [List.getElem?_map, h]; rfl) k
theorem vc_turn {l : List Int} {k : Nat} : p_turn [some (.d (.lst (l.map .int))), some (.d (.int (k : Nat))), some .cell, none, none, none, none, none, none] .src (Kturn l) (fun _ _ => False) (fun _ _ _ => False) := by
  have nx := @turn_b
  unfold p_turn
  generalize p_turn_b = pn at nx ⊢
  walk_at "vs"
  try unfold pComp
  walk_at "vs"
  refine ⟨fun q hq => by rw [List.mem_singleton.mp hq]; exact ⟨_, rfl⟩, by walk_at "vd", by walk_at "vd", fun k acc c => ∃ Ms : List Mx, acc = Ms.map (fun M => .lst (M.row.map qD)) ∧ (∀ M ∈ Ms, SmM 3 M) ∧ c = .src, by rw [sizeLine_eq]; decide, ⟨[], rfl, (fun _ h => nomatch h), rfl⟩, ?_, ?_⟩
  · rintro k acc c y hy hk ⟨Ms, rfl, hMs, rfl⟩
    try walk_at "vs"
    refine ⟨fun q hq => by rw [List.mem_singleton.mp hq]; exact ⟨_, rfl⟩, ?_⟩
    walk_at "vs"
    refine ⟨by walk_at "vd", by walk_at "vd", fun k acc c => ∃ qs : List Rat, acc = qs.map qD ∧ (∀ q ∈ qs, Sm 3 q) ∧ c = .src, by rw [sizeLine_eq]; decide, ⟨[], rfl, (fun _ h => nomatch h), rfl⟩, ?_, ?_⟩
    · rintro k acc c y hy hk ⟨qs, rfl, hqs, rfl⟩
      walk_at "vs"
      refine half_go fun q hq => ?_
      try walk_at "vs"
      try rw [q_onD]
      refine ⟨qs ++ [q], by rw [List.map_append]; rfl, fun r hr => ?_, rfl⟩
      rcases List.mem_append.mp hr with hr | hr
      · exact hqs r hr
      · rw [List.mem_singleton.mp hr]; exact hq
    · rintro acc c hlen ⟨qs, rfl, hqs, rfl⟩
      have hlen : qs.length = 6 := by simpa using hlen
      obtain ⟨M, rfl, hM⟩ := row_of hlen hqs
      refine ⟨Ms ++ [M], by rw [List.map_append]; rfl, fun r hr => ?_, rfl⟩
      rcases List.mem_append.mp hr with hr | hr
      · exact hMs r hr
      · rw [List.mem_singleton.mp hr]; exact hM
  · rintro acc c hlen ⟨Ms, rfl, hMs, rfl⟩
    have hlen : Ms.length = 2 := by simpa using hlen
    · obtain ⟨M1, M2, rfl⟩ := len2 hlen
      have h1 := hMs M1 (by simp)
      have h2 := hMs M2 (by simp)
      walk_at "vs"
      refine ⟨nofun, fun k acc c => acc = ([M1, M2].map mD).take k ∧ c = .src, by show 2 ≤ sizeLine; decide, ⟨rfl, rfl⟩, ?_, ?_⟩
      · rintro k acc c y hy hk ⟨rfl, rfl⟩
        have hy : ([M1, M2].map fun M => D.lst (M.row.map qD))[k]? = some y := hy
        rw [List.getElem?_map] at hy
        obtain ⟨M, hM, rfl⟩ := Option.map_eq_some_iff.mp hy
        refine onIdx_row (i := 0) rfl (onIdx_row (i := 1) rfl (onIdx_row (i := 2) rfl (onIdx_row (i := 3) rfl (onIdx_row (i := 4) rfl (onIdx_row (i := 5) rfl ?_)))))
        walk_at "vs"
        exact ⟨(take_snoc (l := [M1, M2].map mD) (y := mD M) (by rw [List.getElem?_map, hM]; rfl)).symm, rfl⟩
      rintro acc c hlen2 ⟨rfl, rfl⟩
      show oSome (itemsOf (.d (.lst [mD M1, mD M2]))) _
      walk_at "vs"
      refine half_go fun p1 hp1 => ?_
      try walk_at "vs"
      refine half_go fun p2 hp2 => ?_
      walk_at "vs"
      refine ⟨by walk_at "vd", ?_⟩
      try walk_at "vs"
      exact nx (p := (p1, p2)) h1 h2 ⟨hp1, hp2⟩
end
section
-- part N21
open PySem PySem.W PyProof.Rows PySem.Calls PySem.Builtin PySem.Builtin.Str PySem.Builtin.ObjectAttr
noncomputable def p_pool_Fc : PS := (pSeqF (pAsg 3 (pCall sMax (pCons (pLoc 2) (pCons (pBin oSub (pNeg (pLit (.int 1))) (pLoc 2)) pNil)))) (pSeqF (pAsg 4 (pBin oMod (pBin oMul (pBin oAdd (pBin oAdd (pBin oAdd (pBin oMod (pLoc 3) (pLit (.int 2147483629))) (pBin oMul (pBin oMul (pLit (.int 7919)) (pLoc 1)) (pLoc 1))) (pBin oMul (pLit (.int 31)) (pLoc 1))) (pLit (.int 17))) (pLit (.int 48271))) (pLit (.int 2147483647)))) (pRetF (pCons (pIf (pCmp cGe (pLoc 3) (pBin oPow (pLit (.int 10)) (pLit (.int 18)))) (pLoc 3) (pLit (.int 0))) (pCons (pLoc 4) pNil)))))
noncomputable def p_pool_F : PS := (pSeqF (pAsg 2 (pIf (pCmp cLt (pLoc 1) (pCall sLen (pCons (pLoc 0) pNil))) (pIdx (pLoc 0) (pLoc 1)) (pLit (.int 0)))) p_pool_Fc)
section
variable {ρ : Env1} {c : CO} {Kn : Env1 → CO → Prop} {Kr : SV → CO → Prop} {Ke : Env1 → Addr → CO → Prop}
theorem e_pSeqF {p q : PS} : pSeqF p q ρ c Kn Kr Ke = p ρ c (fun ρ' c' => ifNone c' (q ρ' .none Kn Kr Ke)) (fun _ _ => False) (fun _ _ _ => False) := rfl
theorem e_pRetF {p : PL} : pRetF p ρ c Kn Kr Ke = p ρ c (fun l c1 => ifNone c1 (oSome (allD l) fun l' => l'.length ≤ sizeLine ∧ Kr (.d (.lst l')) .none)) (fun _ => fun _ => False) := rfl
end
noncomputable def Kpool (y : D) : Prop := ∃ i j : Int, y = .lst [.int i, .int j] ∧ 0 ≤ j ∧ j < 2 ^ 31
theorem vc_pool_Fc {l : List D} {k : Nat} {n : Int} (hk : k < 2) : p_pool_Fc [some (.d (.lst l)), some (.d (.int (k : Nat))), some (.d (.int n)), none, none] .none (fun _ _ => False) (fun r _ => onD r Kpool) (fun _ _ _ => False) := by
  unfold p_pool_Fc
  rw [e_pSeqF]
  walk_at "vs"
  try rw [e_pSeqF]
  walk_at "vs"
  generalize (if -1 - n > n then -1 - n else n) = b
  have hk' : k = 0 ∨ k = 1 := by walk_at "om"
  have hm : 0 ≤ b.fmod 2147483629 ∧ b.fmod 2147483629 < 2147483629 := by
    rw [Int.fmod_eq_emod_of_nonneg _ (by walk_at "vd")]
    exact ⟨Int.emod_nonneg _ (by walk_at "vd"), Int.emod_lt_of_pos _ (by walk_at "vd")⟩
  generalize b.fmod 2147483629 = e at hm
  have fin : ∀ z : Int, 0 ≤ (z * 48271).fmod 2147483647 ∧ (z * 48271).fmod 2147483647 < 2147483647 := fun z => by
    rw [Int.fmod_eq_emod_of_nonneg _ (by walk_at "vd")]
    exact ⟨Int.emod_nonneg _ (by walk_at "vd"), Int.emod_lt_of_pos _ (by walk_at "vd")⟩
  try rw [e_pRetF]
  walk_at "vs"
  rcases hk' with rfl | rfl
  all_goals
    refine ⟨by walk_at "vd", mul_ok (n := 13) (m := 1) (by walk_at "vd") (by walk_at "vd") (by walk_at "vd") (by walk_at "vd"), mul_ok (n := 13) (m := 1) (by walk_at "vd") (by walk_at "vd") (by walk_at "vd") (by walk_at "vd"), mul_ok (n := 5) (m := 1) (by walk_at "vd") (by walk_at "vd") (by walk_at "vd") (by walk_at "vd"), mul_ok (n := 32) (m := 16) (by show _ < 4294967296; simp; walk_at "om") (by walk_at "vd") (by walk_at "vd") (by walk_at "vd"), by walk_at "vd", by walk_at "vd", by walk_at "vd", fun _ => ⟨by walk_at "vd", _, _, rfl, (fin _).1, Int.lt_trans (fin _).2 (by walk_at "vd")⟩, fun _ => ⟨by walk_at "vd", _, _, rfl, (fin _).1, Int.lt_trans (fin _).2 (by walk_at "vd")⟩⟩
theorem vc_pool_Fa {pc : PS} (nx : ∀ {l : List D} {k : Nat} {n : Int}, k < 2 → pc [some (.d (.lst l)), some (.d (.int (k : Nat))), some (.d (.int n)), none, none] .none (fun _ _ => False) (fun r _ => onD r Kpool) (fun _ _ _ => False))
    {l : List Int} {k : Nat} (hl : l.length < 2 ^ 20) (hk : k < 2) : pSeqF (pAsg 2 (pIf (pCmp cLt (pLoc 1) (pCall sLen (pCons (pLoc 0) pNil))) (pIdx (pLoc 0) (pLoc 1)) (pLit (.int 0)))) pc [some (.d (.lst (l.map .int))), some (.d (.int (k : Nat))), none, none, none] .none (fun _ _ => False) (fun r _ => onD r Kpool) (fun _ _ _ => False) := by
  rw [e_pSeqF]
  walk_at "vs"
  rw [List.length_map]
  refine ⟨by walk_at "om", fun h => ?_, fun h => ?_⟩
  · have h : k < l.length := by simpa using h
    refine onIdx_any (y := .int l[k]) (by rw [List.length_map]; walk_at "om") (by rw [List.getElem?_map, List.getElem?_eq_getElem h]; rfl) ?_
    exact nx hk
  · exact nx hk
theorem vc_pool_F {l : List Int} {k : Nat} (hl : l.length < 2 ^ 20) (hk : k < 2) : p_pool_F [some (.d (.lst (l.map .int))), some (.d (.int (k : Nat))), none, none, none] .none (fun _ _ => False) (fun r _ => onD r Kpool) (fun _ _ _ => False) := by
  unfold p_pool_F
  exact vc_pool_Fa vc_pool_Fc hl hk
end
section
-- part K0
noncomputable def srcOf (s : Option Stmt) : Arguments × List Stmt × Scope := match s with
  | some (.FunctionDef _ a b _ _ _ sc _ _ _) => (a, b, sc)
  | _ => (⟨[], [], none, [], [], none, []⟩, [], ⟨.module, [], false, false, []⟩)
noncomputable def clsBody (s : Option Stmt) : List Stmt := match s with
  | some (.ClassDef _ _ _ b _ _ _ _ _ _ _) => b
  | _ => []
noncomputable def tF (i : Nat) : Arguments × List Stmt × Scope := srcOf (PySem.Challenge.pw_nu0033_01.main.body[i]?)
noncomputable def mF (i j : Nat) : Arguments × List Stmt × Scope := srcOf ((clsBody (PySem.Challenge.pw_nu0033_01.main.body[i]?))[j]?)
noncomputable def kS (s : String) (t : Nat) : Value := .str (Str.ofString s) t
noncomputable def kE (P : Params) (s : String) (t : Nat) (v : Value) : DictEntry := ⟨PyData.keyHash P (Str.ofString s), kS s t, v⟩
noncomputable def kT (vs : Array Value) : Obj := ⟨.type "tuple", none, .seq vs 0, #[]⟩
noncomputable def kC (vs : Array Value) : Obj := ⟨.type "code", none, .fields vs, #[]⟩
noncomputable def kF (n q : String) (t : Arguments × List Stmt × Scope) (d m c : Value) : Obj := ⟨.type "function", none, .func ⟨Str.ofString n, Str.ofString q, t.1, .stmts t.2.1, t.2.2, 3, [], d, .none, .none, m, none, c, .none, 0⟩, #[]⟩
noncomputable def K0 (P : Params) : Frag :=
⟨nat_lit 2, ⟨.none, none, (.dict #[kE P "type.__subclasses__.Exception.0" 214 (.int 31 0), kE P "type.__subclasses__.Exception.n" 215 (.int 1 0)] 2), #[]⟩⟩ ::
⟨nat_lit 3, ⟨(.type "dict"), none, (.dict #[kE P "__name__" 165 (kS "law_nu0033_01" 830), kE P "__doc__" 166 .none, kE P "__package__" 167 .none, kE P "__loader__" 168 (.builtin "__main__.__loader__#opaque"), kE P "__spec__" 169 .none, kE P "__annotations__" 170 (.ref 6), kE P "__builtins__" 171 (.ref 4), kE P "__file__" 173 (kS "/claim/cut.py" 172), kE P "__cached__" 174 .none, kE P "MillError" 217 (.ref 31), kE P "NumberFault" 233 (.ref 44), kE P "MatrixFault" 249 (.ref 56), kE P "SheetFault" 265 (.ref 68), kE P "ZERO" 270 (.ref 71), kE P "ONE" 273 (.ref 72), kE P "DIGITS" 275 (kS "0123456789" 274), kE P "MOST_EXPONENT" 277 (.int 300 276), kE P "common_divisor" 287 (.ref 79), kE P "fraction" 297 (.ref 87), kE P "plus" 305 (.ref 94), kE P "minus" 313 (.ref 101), kE P "times" 321 (.ref 108), kE P "divided" 329 (.ref 115), kE P "negated" 336 (.ref 122), kE P "sign_of" 343 (.ref 129), kE P "compare" 351 (.ref 136), kE P "floor_of" 358 (.ref 143), kE P "rounded" 365 (.ref 150), kE P "NumberText" 419 (.ref 188), kE P "whole_of" 428 (.ref 199), kE P "read_exponent" 437 (.ref 206), kE P "read_decimal" 450 (.ref 213), kE P "write_decimal" 464 (.ref 221), kE P "PI_TOP" 468 (.int 314159265358979323846264338327950288419716939937510 467), kE P "PI_BOTTOM" 472 (.int 100000000000000000000000000000000000000000000000000 471), kE P "MORE" 476 (.int 65536 475), kE P "RIGHT" 479 (.ref 222), kE P "HALF_RIGHT" 482 (.ref 223), kE P "scaled_radians" 490 (.ref 230), kE P "series" 503 (.ref 237), kE P "small_turn" 516 (.ref 244), kE P "near" 525 (.ref 251), kE P "quarter_turn" 536 (.ref 258), kE P "turn_of" 550 (.ref 266), kE P "tangent_of" 562 (.ref 274), kE P "Matrix" 662 (.ref 333), kE P "identity" 668 (.ref 344), kE P "translation" 676 (.ref 351), kE P "scaling" 684 (.ref 358), kE P "rotation" 693 (.ref 365), kE P "rotation_about" 702 (.ref 372), kE P "skewing" 710 (.ref 379), kE P "SPACES" 714 (kS " \t\n\x0d" 713), kE P "MOST_PLACES" 716 (.int 40 715), kE P "PLACES_ELSE" 718 (.int 12 717), kE P "cut_numbers" 728 (.ref 386), kE P "number_end" 740 (.ref 393), kE P "gap_end" 748 (.ref 400), kE P "spaces_end" 756 (.ref 407), kE P "read_numbers" 766 (.ref 414), kE P "matrix_of" 775 (.ref 421), kE P "skew_of" 784 (.ref 428), kE P "name_end" 792 (.ref 435), kE P "read_transforms" 804 (.ref 442), kE P "exact_places" 812 (.ref 449), kE P "write_matrix" 818 (.ref 454), kE P "spot_of" 829 (.ref 461), kE P "_law_pool" 842 (.ref 468), kE P "_law_take" 851 (.ref 475), kE P "_law_one" 859 (.ref 482), kE P "_law_half" 866 (.ref 489), kE P "_law_sum" 877 (.ref 496), kE P "_law_led" 893 (.ref 503), kE P "_law_product_right" 903 (.ref 510), kE P "_law_inverse_right" 919 (.ref 517), kE P "_law_number" 926 (.ref 524), kE P "_law_parted" 937 (.ref 531), kE P "_law_part" 943 (.ref 536), kE P "_law_list_right" 949 (.ref 541), kE P "_law_spot_right" 964 (.ref 548), kE P "law" 970 (.ref 553)] 81), #[]⟩⟩ ::
⟨nat_lit 15, kT #[(.type "Exception")]⟩ ::
⟨nat_lit 22, kT #[]⟩ ::
⟨nat_lit 24, kT #[(kS "self" 204), (kS "message" 205)]⟩ ::
⟨nat_lit 25, kT #[]⟩ ::
⟨nat_lit 27, kC #[(kS "__init__" 201), (kS "MillError.__init__" 202), (kS "/claim/cut.py" 203), (.int 4 0), (.int 2 0), (.int 0 0), (.int 0 0), (.int 3 0), (.ref 22), (.bool true), (.int 181 0), (.ref 23), .none, (.ref 24), (.ref 25), (.ref 26), (.int 206 0), (.int 4 0), (kS "/claim/cut.py" 207)]⟩ ::
⟨nat_lit 28, kF "__init__" "MillError.__init__" (mF 1 0) .none (kS "outlinemill.errors" 187) (.ref 27)⟩ ::
⟨nat_lit 29, kT #[(kS "message" 209)]⟩ ::
⟨nat_lit 30, ⟨(.type "dict"), none, (.dict #[kE P "__module__" 196 (kS "outlinemill.errors" 187), kE P "__firstlineno__" 200 (.int 2 199), kE P "__init__" 208 (.ref 28), kE P "__static_attributes__" 210 (.ref 29), kE P "__weakref__" 212 (.ref 32), kE P "__doc__" 213 .none] 3), #[]⟩⟩ ::
⟨nat_lit 31, ⟨(.type "type"), none, (.cls ⟨(Str.ofString "MillError"), [(.type "Exception")], [(.ref 31), (.type "Exception"), (.type "BaseException"), (.type "object")], 30, (Str.ofString "MillError"), true, [], [(.ref 44), (.ref 56), (.ref 68)], false, none, false⟩), #[(some (.ref 15)), none, (some (kS "MillError" 189)), (some (kS "MillError" 197)), (some (.builtin "Exception.__new__")), (some (.bool true))]⟩⟩ ::
⟨nat_lit 32, ⟨(.type "getset_descriptor"), none, (.fields #[(kS "__weakref__" 211), (.ref 31), (.builtin "ExceptionGroup.__weakref__"), .none]), #[]⟩⟩ ::
⟨nat_lit 35, kT #[(.ref 31)]⟩ ::
⟨nat_lit 42, kT #[]⟩ ::
⟨nat_lit 43, ⟨(.type "dict"), none, (.dict #[kE P "__module__" 225 (kS "outlinemill.errors" 187), kE P "__firstlineno__" 229 (.int 6 228), kE P "__static_attributes__" 230 (.ref 42), kE P "__doc__" 231 .none] 2), #[]⟩⟩ ::
⟨nat_lit 44, ⟨(.type "type"), none, (.cls ⟨(Str.ofString "NumberFault"), [(.ref 31)], [(.ref 44), (.ref 31), (.type "Exception"), (.type "BaseException"), (.type "object")], 43, (Str.ofString "NumberFault"), true, [], [], false, none, false⟩), #[(some (.ref 35)), none, (some (kS "NumberFault" 218)), (some (kS "NumberFault" 226)), (some (.builtin "Exception.__new__")), (some (.bool true))]⟩⟩ ::
⟨nat_lit 47, kT #[(.ref 31)]⟩ ::
⟨nat_lit 54, kT #[]⟩ ::
⟨nat_lit 55, ⟨(.type "dict"), none, (.dict #[kE P "__module__" 241 (kS "outlinemill.errors" 187), kE P "__firstlineno__" 245 (.int 8 244), kE P "__static_attributes__" 246 (.ref 54), kE P "__doc__" 247 .none] 2), #[]⟩⟩ ::
⟨nat_lit 56, ⟨(.type "type"), none, (.cls ⟨(Str.ofString "MatrixFault"), [(.ref 31)], [(.ref 56), (.ref 31), (.type "Exception"), (.type "BaseException"), (.type "object")], 55, (Str.ofString "MatrixFault"), true, [], [], false, none, false⟩), #[(some (.ref 47)), none, (some (kS "MatrixFault" 234)), (some (kS "MatrixFault" 242)), (some (.builtin "Exception.__new__")), (some (.bool true))]⟩⟩ ::
⟨nat_lit 59, kT #[(.ref 31)]⟩ ::
⟨nat_lit 66, kT #[]⟩ ::
⟨nat_lit 67, ⟨(.type "dict"), none, (.dict #[kE P "__module__" 257 (kS "outlinemill.errors" 187), kE P "__firstlineno__" 261 (.int 10 260), kE P "__static_attributes__" 262 (.ref 66), kE P "__doc__" 263 .none] 2), #[]⟩⟩ ::
⟨nat_lit 68, ⟨(.type "type"), none, (.cls ⟨(Str.ofString "SheetFault"), [(.ref 31)], [(.ref 68), (.ref 31), (.type "Exception"), (.type "BaseException"), (.type "object")], 67, (Str.ofString "SheetFault"), true, [], [], false, none, false⟩), #[(some (.ref 59)), none, (some (kS "SheetFault" 250)), (some (kS "SheetFault" 258)), (some (.builtin "Exception.__new__")), (some (.bool true))]⟩⟩ ::
⟨nat_lit 71, kT #[(.int 0 268), (.int 1 269)]⟩ ::
⟨nat_lit 72, kT #[(.int 1 271), (.int 1 272)]⟩ ::
⟨nat_lit 73, kT #[]⟩ ::
⟨nat_lit 75, kT #[(kS "one" 281), (kS "other" 282), (kS "first" 283), (kS "second" 284)]⟩ ::
⟨nat_lit 76, kT #[]⟩ ::
⟨nat_lit 78, kC #[(kS "common_divisor" 278), (kS "common_divisor" 279), (kS "/claim/cut.py" 280), (.int 17 0), (.int 2 0), (.int 0 0), (.int 0 0), (.int 3 0), (.ref 73), (.bool true), (.int 181 0), (.ref 74), .none, (.ref 75), (.ref 76), (.ref 77), (.int 285 0), (.int 17 0), (kS "/claim/cut.py" 286)]⟩ ::
⟨nat_lit 79, kF "common_divisor" "common_divisor" (tF 10) .none (kS "outlinemill.exact" 266) (.ref 78)⟩ ::
⟨nat_lit 80, kT #[(.int 1 288)]⟩ ::
⟨nat_lit 81, kT #[]⟩ ::
⟨nat_lit 83, kT #[(kS "top" 292), (kS "bottom" 293), (kS "common" 294)]⟩ ::
⟨nat_lit 84, kT #[]⟩ ::
⟨nat_lit 86, kC #[(kS "fraction" 289), (kS "fraction" 290), (kS "/claim/cut.py" 291), (.int 22 0), (.int 2 0), (.int 0 0), (.int 0 0), (.int 3 0), (.ref 81), (.bool true), (.int 181 0), (.ref 82), .none, (.ref 83), (.ref 84), (.ref 85), (.int 295 0), (.int 22 0), (kS "/claim/cut.py" 296)]⟩ ::
⟨nat_lit 87, kF "fraction" "fraction" (tF 11) (.ref 80) (kS "outlinemill.exact" 266) (.ref 86)⟩ ::
⟨nat_lit 88, kT #[]⟩ ::
⟨nat_lit 90, kT #[(kS "a" 301), (kS "b" 302)]⟩ ::
⟨nat_lit 91, kT #[]⟩ ::
⟨nat_lit 93, kC #[(kS "plus" 298), (kS "plus" 299), (kS "/claim/cut.py" 300), (.int 29 0), (.int 2 0), (.int 0 0), (.int 0 0), (.int 3 0), (.ref 88), (.bool true), (.int 181 0), (.ref 89), .none, (.ref 90), (.ref 91), (.ref 92), (.int 303 0), (.int 29 0), (kS "/claim/cut.py" 304)]⟩ ::
⟨nat_lit 94, kF "plus" "plus" (tF 12) .none (kS "outlinemill.exact" 266) (.ref 93)⟩ ::
⟨nat_lit 95, kT #[]⟩ ::
⟨nat_lit 97, kT #[(kS "a" 309), (kS "b" 310)]⟩ ::
⟨nat_lit 98, kT #[]⟩ ::
⟨nat_lit 100, kC #[(kS "minus" 306), (kS "minus" 307), (kS "/claim/cut.py" 308), (.int 31 0), (.int 2 0), (.int 0 0), (.int 0 0), (.int 3 0), (.ref 95), (.bool true), (.int 181 0), (.ref 96), .none, (.ref 97), (.ref 98), (.ref 99), (.int 311 0), (.int 31 0), (kS "/claim/cut.py" 312)]⟩ ::
⟨nat_lit 101, kF "minus" "minus" (tF 13) .none (kS "outlinemill.exact" 266) (.ref 100)⟩ ::
⟨nat_lit 102, kT #[]⟩ ::
⟨nat_lit 104, kT #[(kS "a" 317), (kS "b" 318)]⟩ ::
⟨nat_lit 105, kT #[]⟩ ::
⟨nat_lit 107, kC #[(kS "times" 314), (kS "times" 315), (kS "/claim/cut.py" 316), (.int 33 0), (.int 2 0), (.int 0 0), (.int 0 0), (.int 3 0), (.ref 102), (.bool true), (.int 181 0), (.ref 103), .none, (.ref 104), (.ref 105), (.ref 106), (.int 319 0), (.int 33 0), (kS "/claim/cut.py" 320)]⟩ ::
⟨nat_lit 108, kF "times" "times" (tF 14) .none (kS "outlinemill.exact" 266) (.ref 107)⟩ ::
⟨nat_lit 109, kT #[]⟩ ::
⟨nat_lit 111, kT #[(kS "a" 325), (kS "b" 326)]⟩ ::
⟨nat_lit 112, kT #[]⟩ ::
⟨nat_lit 114, kC #[(kS "divided" 322), (kS "divided" 323), (kS "/claim/cut.py" 324), (.int 35 0), (.int 2 0), (.int 0 0), (.int 0 0), (.int 3 0), (.ref 109), (.bool true), (.int 181 0), (.ref 110), .none, (.ref 111), (.ref 112), (.ref 113), (.int 327 0), (.int 35 0), (kS "/claim/cut.py" 328)]⟩ ::
⟨nat_lit 115, kF "divided" "divided" (tF 15) .none (kS "outlinemill.exact" 266) (.ref 114)⟩ ::
⟨nat_lit 116, kT #[]⟩ ::
⟨nat_lit 118, kT #[(kS "a" 333)]⟩ ::
⟨nat_lit 119, kT #[]⟩ ::
⟨nat_lit 121, kC #[(kS "negated" 330), (kS "negated" 331), (kS "/claim/cut.py" 332), (.int 39 0), (.int 1 0), (.int 0 0), (.int 0 0), (.int 3 0), (.ref 116), (.bool true), (.int 181 0), (.ref 117), .none, (.ref 118), (.ref 119), (.ref 120), (.int 334 0), (.int 39 0), (kS "/claim/cut.py" 335)]⟩ ::
⟨nat_lit 122, kF "negated" "negated" (tF 16) .none (kS "outlinemill.exact" 266) (.ref 121)⟩ ::
⟨nat_lit 123, kT #[]⟩ ::
⟨nat_lit 125, kT #[(kS "a" 340)]⟩ ::
⟨nat_lit 126, kT #[]⟩ ::
⟨nat_lit 128, kC #[(kS "sign_of" 337), (kS "sign_of" 338), (kS "/claim/cut.py" 339), (.int 41 0), (.int 1 0), (.int 0 0), (.int 0 0), (.int 3 0), (.ref 123), (.bool true), (.int 181 0), (.ref 124), .none, (.ref 125), (.ref 126), (.ref 127), (.int 341 0), (.int 41 0), (kS "/claim/cut.py" 342)]⟩ ::
⟨nat_lit 129, kF "sign_of" "sign_of" (tF 17) .none (kS "outlinemill.exact" 266) (.ref 128)⟩ ::
⟨nat_lit 130, kT #[]⟩ ::
⟨nat_lit 132, kT #[(kS "a" 347), (kS "b" 348)]⟩ ::
⟨nat_lit 133, kT #[]⟩ ::
⟨nat_lit 135, kC #[(kS "compare" 344), (kS "compare" 345), (kS "/claim/cut.py" 346), (.int 47 0), (.int 2 0), (.int 0 0), (.int 0 0), (.int 3 0), (.ref 130), (.bool true), (.int 181 0), (.ref 131), .none, (.ref 132), (.ref 133), (.ref 134), (.int 349 0), (.int 47 0), (kS "/claim/cut.py" 350)]⟩ ::
⟨nat_lit 136, kF "compare" "compare" (tF 18) .none (kS "outlinemill.exact" 266) (.ref 135)⟩ ::
⟨nat_lit 137, kT #[]⟩ ::
⟨nat_lit 139, kT #[(kS "a" 355)]⟩ ::
⟨nat_lit 140, kT #[]⟩ ::
⟨nat_lit 142, kC #[(kS "floor_of" 352), (kS "floor_of" 353), (kS "/claim/cut.py" 354), (.int 49 0), (.int 1 0), (.int 0 0), (.int 0 0), (.int 3 0), (.ref 137), (.bool true), (.int 181 0), (.ref 138), .none, (.ref 139), (.ref 140), (.ref 141), (.int 356 0), (.int 49 0), (kS "/claim/cut.py" 357)]⟩ ::
⟨nat_lit 143, kF "floor_of" "floor_of" (tF 19) .none (kS "outlinemill.exact" 266) (.ref 142)⟩ ::
⟨nat_lit 144, kT #[]⟩ ::
⟨nat_lit 146, kT #[(kS "a" 362)]⟩ ::
⟨nat_lit 147, kT #[]⟩ ::
⟨nat_lit 149, kC #[(kS "rounded" 359), (kS "rounded" 360), (kS "/claim/cut.py" 361), (.int 51 0), (.int 1 0), (.int 0 0), (.int 0 0), (.int 3 0), (.ref 144), (.bool true), (.int 181 0), (.ref 145), .none, (.ref 146), (.ref 147), (.ref 148), (.int 363 0), (.int 51 0), (kS "/claim/cut.py" 364)]⟩ ::
⟨nat_lit 150, kF "rounded" "rounded" (tF 20) .none (kS "outlinemill.exact" 266) (.ref 149)⟩ ::
⟨nat_lit 158, kT #[]⟩ ::
⟨nat_lit 160, kT #[(kS "self" 381), (kS "text" 382)]⟩ ::
⟨nat_lit 161, kT #[]⟩ ::
⟨nat_lit 163, kC #[(kS "__init__" 378), (kS "NumberText.__init__" 379), (kS "/claim/cut.py" 380), (.int 55 0), (.int 2 0), (.int 0 0), (.int 0 0), (.int 3 0), (.ref 158), (.bool true), (.int 181 0), (.ref 159), .none, (.ref 160), (.ref 161), (.ref 162), (.int 383 0), (.int 55 0), (kS "/claim/cut.py" 384)]⟩ ::
⟨nat_lit 164, kF "__init__" "NumberText.__init__" (mF 21 0) .none (kS "outlinemill.exact" 266) (.ref 163)⟩ ::
⟨nat_lit 165, kT #[]⟩ ::
⟨nat_lit 167, kT #[(kS "self" 389), (kS "signs" 390)]⟩ ::
⟨nat_lit 168, kT #[]⟩ ::
⟨nat_lit 170, kC #[(kS "is_one_of" 386), (kS "NumberText.is_one_of" 387), (kS "/claim/cut.py" 388), (.int 59 0), (.int 2 0), (.int 0 0), (.int 0 0), (.int 3 0), (.ref 165), (.bool true), (.int 181 0), (.ref 166), .none, (.ref 167), (.ref 168), (.ref 169), (.int 391 0), (.int 59 0), (kS "/claim/cut.py" 392)]⟩ ::
⟨nat_lit 171, kF "is_one_of" "NumberText.is_one_of" (mF 21 1) .none (kS "outlinemill.exact" 266) (.ref 170)⟩ ::
⟨nat_lit 172, kT #[]⟩ ::
⟨nat_lit 174, kT #[(kS "self" 397), (kS "signs" 398)]⟩ ::
⟨nat_lit 175, kT #[]⟩ ::
⟨nat_lit 177, kC #[(kS "skip" 394), (kS "NumberText.skip" 395), (kS "/claim/cut.py" 396), (.int 62 0), (.int 2 0), (.int 0 0), (.int 0 0), (.int 3 0), (.ref 172), (.bool true), (.int 181 0), (.ref 173), .none, (.ref 174), (.ref 175), (.ref 176), (.int 399 0), (.int 62 0), (kS "/claim/cut.py" 400)]⟩ ::
⟨nat_lit 178, kF "skip" "NumberText.skip" (mF 21 2) .none (kS "outlinemill.exact" 266) (.ref 177)⟩ ::
⟨nat_lit 179, kT #[]⟩ ::
⟨nat_lit 181, kT #[(kS "self" 405), (kS "begin" 406)]⟩ ::
⟨nat_lit 182, kT #[]⟩ ::
⟨nat_lit 184, kC #[(kS "digits" 402), (kS "NumberText.digits" 403), (kS "/claim/cut.py" 404), (.int 68 0), (.int 1 0), (.int 0 0), (.int 0 0), (.int 3 0), (.ref 179), (.bool true), (.int 181 0), (.ref 180), .none, (.ref 181), (.ref 182), (.ref 183), (.int 407 0), (.int 68 0), (kS "/claim/cut.py" 408)]⟩ ::
⟨nat_lit 185, kF "digits" "NumberText.digits" (mF 21 3) .none (kS "outlinemill.exact" 266) (.ref 184)⟩ ::
⟨nat_lit 186, kT #[(kS "at" 410), (kS "text" 411)]⟩ ::
⟨nat_lit 187, ⟨(.type "dict"), none, (.dict #[kE P "__module__" 373 (kS "outlinemill.exact" 266), kE P "__firstlineno__" 377 (.int 53 376), kE P "__init__" 385 (.ref 164), kE P "is_one_of" 393 (.ref 171), kE P "skip" 401 (.ref 178), kE P "digits" 409 (.ref 185), kE P "__static_attributes__" 412 (.ref 186), kE P "__dict__" 414 (.ref 189), kE P "__weakref__" 416 (.ref 190), kE P "__doc__" 417 .none] 4), #[]⟩⟩ ::
⟨nat_lit 188, ⟨(.type "type"), none, (.cls ⟨(Str.ofString "NumberText"), [(.type "object")], [(.ref 188), (.type "object")], 187, (Str.ofString "NumberText"), true, [], [], false, none, false⟩), #[none, none, (some (kS "NumberText" 366)), (some (kS "NumberText" 374)), (some (.builtin "object.__new__")), (some (.bool true))]⟩⟩ ::
⟨nat_lit 189, ⟨(.type "getset_descriptor"), none, (.fields #[(kS "__dict__" 413), (.ref 188), (.builtin "function.__dict__"), (.builtin "function.__dict__#set")]), #[]⟩⟩ ::
⟨nat_lit 190, ⟨(.type "getset_descriptor"), none, (.fields #[(kS "__weakref__" 415), (.ref 188), (.builtin "ExceptionGroup.__weakref__"), .none]), #[]⟩⟩ ::
⟨nat_lit 193, kT #[]⟩ ::
⟨nat_lit 195, kT #[(kS "digits" 423), (kS "number" 424), (kS "digit" 425)]⟩ ::
⟨nat_lit 196, kT #[]⟩ ::
⟨nat_lit 198, kC #[(kS "whole_of" 420), (kS "whole_of" 421), (kS "/claim/cut.py" 422), (.int 73 0), (.int 1 0), (.int 0 0), (.int 0 0), (.int 3 0), (.ref 193), (.bool true), (.int 181 0), (.ref 194), .none, (.ref 195), (.ref 196), (.ref 197), (.int 426 0), (.int 73 0), (kS "/claim/cut.py" 427)]⟩ ::
⟨nat_lit 199, kF "whole_of" "whole_of" (tF 22) .none (kS "outlinemill.exact" 266) (.ref 198)⟩ ::
⟨nat_lit 200, kT #[]⟩ ::
⟨nat_lit 202, kT #[(kS "reader" 432), (kS "sign" 433), (kS "digits" 434)]⟩ ::
⟨nat_lit 203, kT #[]⟩ ::
⟨nat_lit 205, kC #[(kS "read_exponent" 429), (kS "read_exponent" 430), (kS "/claim/cut.py" 431), (.int 78 0), (.int 1 0), (.int 0 0), (.int 0 0), (.int 3 0), (.ref 200), (.bool true), (.int 181 0), (.ref 201), .none, (.ref 202), (.ref 203), (.ref 204), (.int 435 0), (.int 78 0), (kS "/claim/cut.py" 436)]⟩ ::
⟨nat_lit 206, kF "read_exponent" "read_exponent" (tF 23) .none (kS "outlinemill.exact" 266) (.ref 205)⟩ ::
⟨nat_lit 207, kT #[]⟩ ::
⟨nat_lit 209, kT #[(kS "text" 441), (kS "reader" 442), (kS "sign" 443), (kS "whole" 444), (kS "parts" 445), (kS "exponent" 446), (kS "number" 447)]⟩ ::
⟨nat_lit 210, kT #[]⟩ ::
⟨nat_lit 212, kC #[(kS "read_decimal" 438), (kS "read_decimal" 439), (kS "/claim/cut.py" 440), (.int 85 0), (.int 1 0), (.int 0 0), (.int 0 0), (.int 3 0), (.ref 207), (.bool true), (.int 181 0), (.ref 208), .none, (.ref 209), (.ref 210), (.ref 211), (.int 448 0), (.int 85 0), (kS "/claim/cut.py" 449)]⟩ ::
⟨nat_lit 213, kF "read_decimal" "read_decimal" (tF 24) .none (kS "outlinemill.exact" 266) (.ref 212)⟩ ::
⟨nat_lit 214, kT #[(.int 6 451)]⟩ ::
⟨nat_lit 215, kT #[]⟩ ::
⟨nat_lit 217, kT #[(kS "a" 455), (kS "places" 456), (kS "scale" 457), (kS "scaled" 458), (kS "told" 459), (kS "rest" 460), (kS "parts" 461)]⟩ ::
⟨nat_lit 218, kT #[]⟩ ::
⟨nat_lit 220, kC #[(kS "write_decimal" 452), (kS "write_decimal" 453), (kS "/claim/cut.py" 454), (.int 101 0), (.int 2 0), (.int 0 0), (.int 0 0), (.int 3 0), (.ref 215), (.bool true), (.int 181 0), (.ref 216), .none, (.ref 217), (.ref 218), (.ref 219), (.int 462 0), (.int 101 0), (kS "/claim/cut.py" 463)]⟩ ::
⟨nat_lit 221, kF "write_decimal" "write_decimal" (tF 25) (.ref 214) (kS "outlinemill.exact" 266) (.ref 220)⟩ ::
⟨nat_lit 222, kT #[(.int 90 477), (.int 1 478)]⟩ ::
⟨nat_lit 223, kT #[(.int 45 480), (.int 1 481)]⟩ ::
⟨nat_lit 224, kT #[]⟩ ::
⟨nat_lit 226, kT #[(kS "degrees" 486), (kS "scale" 487)]⟩ ::
⟨nat_lit 227, kT #[]⟩ ::
⟨nat_lit 229, kC #[(kS "scaled_radians" 483), (kS "scaled_radians" 484), (kS "/claim/cut.py" 485), (.int 117 0), (.int 2 0), (.int 0 0), (.int 0 0), (.int 3 0), (.ref 224), (.bool true), (.int 181 0), (.ref 225), .none, (.ref 226), (.ref 227), (.ref 228), (.int 488 0), (.int 117 0), (kS "/claim/cut.py" 489)]⟩ ::
⟨nat_lit 230, kF "scaled_radians" "scaled_radians" (tF 32) .none (kS "outlinemill.angles" 465) (.ref 229)⟩ ::
⟨nat_lit 231, kT #[]⟩ ::
⟨nat_lit 233, kT #[(kS "first" 494), (kS "square" 495), (kS "scale" 496), (kS "begin" 497), (kS "total" 498), (kS "term" 499), (kS "step" 500)]⟩ ::
⟨nat_lit 234, kT #[]⟩ ::
⟨nat_lit 236, kC #[(kS "series" 491), (kS "series" 492), (kS "/claim/cut.py" 493), (.int 119 0), (.int 4 0), (.int 0 0), (.int 0 0), (.int 3 0), (.ref 231), (.bool true), (.int 181 0), (.ref 232), .none, (.ref 233), (.ref 234), (.ref 235), (.int 501 0), (.int 119 0), (kS "/claim/cut.py" 502)]⟩ ::
⟨nat_lit 237, kF "series" "series" (tF 33) .none (kS "outlinemill.angles" 465) (.ref 236)⟩ ::
⟨nat_lit 238, kT #[]⟩ ::
⟨nat_lit 240, kT #[(kS "degrees" 507), (kS "bottom" 508), (kS "scale" 509), (kS "radians" 510), (kS "square" 511), (kS "cosine" 512), (kS "sine" 513)]⟩ ::
⟨nat_lit 241, kT #[]⟩ ::
⟨nat_lit 243, kC #[(kS "small_turn" 504), (kS "small_turn" 505), (kS "/claim/cut.py" 506), (.int 126 0), (.int 2 0), (.int 0 0), (.int 0 0), (.int 3 0), (.ref 238), (.bool true), (.int 181 0), (.ref 239), .none, (.ref 240), (.ref 241), (.ref 242), (.int 514 0), (.int 126 0), (kS "/claim/cut.py" 515)]⟩ ::
⟨nat_lit 244, kF "small_turn" "small_turn" (tF 34) .none (kS "outlinemill.angles" 465) (.ref 243)⟩ ::
⟨nat_lit 245, kT #[]⟩ ::
⟨nat_lit 247, kT #[(kS "number" 520), (kS "scale" 521), (kS "bottom" 522)]⟩ ::
⟨nat_lit 248, kT #[]⟩ ::
⟨nat_lit 250, kC #[(kS "near" 517), (kS "near" 518), (kS "/claim/cut.py" 519), (.int 132 0), (.int 3 0), (.int 0 0), (.int 0 0), (.int 3 0), (.ref 245), (.bool true), (.int 181 0), (.ref 246), .none, (.ref 247), (.ref 248), (.ref 249), (.int 523 0), (.int 132 0), (kS "/claim/cut.py" 524)]⟩ ::
⟨nat_lit 251, kF "near" "near" (tF 35) .none (kS "outlinemill.angles" 465) (.ref 250)⟩ ::
⟨nat_lit 252, kT #[]⟩ ::
⟨nat_lit 254, kT #[(kS "degrees" 529), (kS "bottom" 530), (kS "side" 531), (kS "cosine" 532), (kS "sine" 533)]⟩ ::
⟨nat_lit 255, kT #[]⟩ ::
⟨nat_lit 257, kC #[(kS "quarter_turn" 526), (kS "quarter_turn" 527), (kS "/claim/cut.py" 528), (.int 134 0), (.int 2 0), (.int 0 0), (.int 0 0), (.int 3 0), (.ref 252), (.bool true), (.int 181 0), (.ref 253), .none, (.ref 254), (.ref 255), (.ref 256), (.int 534 0), (.int 134 0), (kS "/claim/cut.py" 535)]⟩ ::
⟨nat_lit 258, kF "quarter_turn" "quarter_turn" (tF 36) .none (kS "outlinemill.angles" 465) (.ref 257)⟩ ::
⟨nat_lit 259, kT #[(.int 65536 537)]⟩ ::
⟨nat_lit 260, kT #[]⟩ ::
⟨nat_lit 262, kT #[(kS "degrees" 541), (kS "bottom" 542), (kS "quarters" 543), (kS "rest" 544), (kS "cosine" 545), (kS "sine" 546), (kS "turn" 547)]⟩ ::
⟨nat_lit 263, kT #[]⟩ ::
⟨nat_lit 265, kC #[(kS "turn_of" 538), (kS "turn_of" 539), (kS "/claim/cut.py" 540), (.int 143 0), (.int 2 0), (.int 0 0), (.int 0 0), (.int 3 0), (.ref 260), (.bool true), (.int 181 0), (.ref 261), .none, (.ref 262), (.ref 263), (.ref 264), (.int 548 0), (.int 143 0), (kS "/claim/cut.py" 549)]⟩ ::
⟨nat_lit 266, kF "turn_of" "turn_of" (tF 37) (.ref 259) (kS "outlinemill.angles" 465) (.ref 265)⟩ ::
⟨nat_lit 267, kT #[(.int 65536 551)]⟩ ::
⟨nat_lit 268, kT #[]⟩ ::
⟨nat_lit 270, kT #[(kS "degrees" 555), (kS "bottom" 556), (kS "cosine" 557), (kS "sine" 558), (kS "told" 559)]⟩ ::
⟨nat_lit 271, kT #[]⟩ ::
⟨nat_lit 273, kC #[(kS "tangent_of" 552), (kS "tangent_of" 553), (kS "/claim/cut.py" 554), (.int 152 0), (.int 2 0), (.int 0 0), (.int 0 0), (.int 3 0), (.ref 268), (.bool true), (.int 181 0), (.ref 269), .none, (.ref 270), (.ref 271), (.ref 272), (.int 560 0), (.int 152 0), (kS "/claim/cut.py" 561)]⟩ ::
⟨nat_lit 274, kF "tangent_of" "tangent_of" (tF 38) (.ref 267) (kS "outlinemill.angles" 465) (.ref 273)⟩ ::
⟨nat_lit 282, kT #[]⟩ ::
⟨nat_lit 284, kT #[(kS "self" 580), (kS "a" 581), (kS "b" 582), (kS "c" 583), (kS "d" 584), (kS "e" 585), (kS "f" 586)]⟩ ::
⟨nat_lit 285, kT #[]⟩ ::
⟨nat_lit 287, kC #[(kS "__init__" 577), (kS "Matrix.__init__" 578), (kS "/claim/cut.py" 579), (.int 161 0), (.int 7 0), (.int 0 0), (.int 0 0), (.int 3 0), (.ref 282), (.bool true), (.int 181 0), (.ref 283), .none, (.ref 284), (.ref 285), (.ref 286), (.int 587 0), (.int 161 0), (kS "/claim/cut.py" 588)]⟩ ::
⟨nat_lit 288, kF "__init__" "Matrix.__init__" (mF 40 0) .none (kS "outlinemill.matrix" 563) (.ref 287)⟩ ::
⟨nat_lit 289, kT #[]⟩ ::
⟨nat_lit 291, kT #[(kS "self" 593)]⟩ ::
⟨nat_lit 292, kT #[]⟩ ::
⟨nat_lit 294, kC #[(kS "row" 590), (kS "Matrix.row" 591), (kS "/claim/cut.py" 592), (.int 169 0), (.int 1 0), (.int 0 0), (.int 0 0), (.int 3 0), (.ref 289), (.bool true), (.int 181 0), (.ref 290), .none, (.ref 291), (.ref 292), (.ref 293), (.int 594 0), (.int 169 0), (kS "/claim/cut.py" 595)]⟩ ::
⟨nat_lit 295, kF "row" "Matrix.row" (mF 40 1) .none (kS "outlinemill.matrix" 563) (.ref 294)⟩ ::
⟨nat_lit 296, kT #[]⟩ ::
⟨nat_lit 298, kT #[(kS "self" 600), (kS "p" 601), (kS "x" 602), (kS "y" 603)]⟩ ::
⟨nat_lit 299, kT #[]⟩ ::
⟨nat_lit 301, kC #[(kS "vector" 597), (kS "Matrix.vector" 598), (kS "/claim/cut.py" 599), (.int 172 0), (.int 2 0), (.int 0 0), (.int 0 0), (.int 3 0), (.ref 296), (.bool true), (.int 181 0), (.ref 297), .none, (.ref 298), (.ref 299), (.ref 300), (.int 604 0), (.int 172 0), (kS "/claim/cut.py" 605)]⟩ ::
⟨nat_lit 302, kF "vector" "Matrix.vector" (mF 40 2) .none (kS "outlinemill.matrix" 563) (.ref 301)⟩ ::
⟨nat_lit 303, kT #[]⟩ ::
⟨nat_lit 305, kT #[(kS "self" 610), (kS "p" 611), (kS "x" 612), (kS "y" 613)]⟩ ::
⟨nat_lit 306, kT #[]⟩ ::
⟨nat_lit 308, kC #[(kS "point" 607), (kS "Matrix.point" 608), (kS "/claim/cut.py" 609), (.int 176 0), (.int 2 0), (.int 0 0), (.int 0 0), (.int 3 0), (.ref 303), (.bool true), (.int 181 0), (.ref 304), .none, (.ref 305), (.ref 306), (.ref 307), (.int 614 0), (.int 176 0), (kS "/claim/cut.py" 615)]⟩ ::
⟨nat_lit 309, kF "point" "Matrix.point" (mF 40 3) .none (kS "outlinemill.matrix" 563) (.ref 308)⟩ ::
⟨nat_lit 310, kT #[]⟩ ::
⟨nat_lit 312, kT #[(kS "self" 620), (kS "other" 621), (kS "a" 622), (kS "b" 623), (kS "c" 624), (kS "d" 625), (kS "e" 626), (kS "f" 627)]⟩ ::
⟨nat_lit 313, kT #[]⟩ ::
⟨nat_lit 315, kC #[(kS "then" 617), (kS "Matrix.then" 618), (kS "/claim/cut.py" 619), (.int 180 0), (.int 2 0), (.int 0 0), (.int 0 0), (.int 3 0), (.ref 310), (.bool true), (.int 181 0), (.ref 311), .none, (.ref 312), (.ref 313), (.ref 314), (.int 628 0), (.int 180 0), (kS "/claim/cut.py" 629)]⟩ ::
⟨nat_lit 316, kF "then" "Matrix.then" (mF 40 4) .none (kS "outlinemill.matrix" 563) (.ref 315)⟩ ::
⟨nat_lit 317, kT #[]⟩ ::
⟨nat_lit 319, kT #[(kS "self" 634)]⟩ ::
⟨nat_lit 320, kT #[]⟩ ::
⟨nat_lit 322, kC #[(kS "determinant" 631), (kS "Matrix.determinant" 632), (kS "/claim/cut.py" 633), (.int 186 0), (.int 1 0), (.int 0 0), (.int 0 0), (.int 3 0), (.ref 317), (.bool true), (.int 181 0), (.ref 318), .none, (.ref 319), (.ref 320), (.ref 321), (.int 635 0), (.int 186 0), (kS "/claim/cut.py" 636)]⟩ ::
⟨nat_lit 323, kF "determinant" "Matrix.determinant" (mF 40 5) .none (kS "outlinemill.matrix" 563) (.ref 322)⟩ ::
⟨nat_lit 324, kT #[]⟩ ::
⟨nat_lit 326, kT #[(kS "self" 641), (kS "whole" 642), (kS "turned" 643), (kS "e" 644), (kS "f" 645)]⟩ ::
⟨nat_lit 327, kT #[]⟩ ::
⟨nat_lit 329, kC #[(kS "inverse" 638), (kS "Matrix.inverse" 639), (kS "/claim/cut.py" 640), (.int 189 0), (.int 1 0), (.int 0 0), (.int 0 0), (.int 3 0), (.ref 324), (.bool true), (.int 181 0), (.ref 325), .none, (.ref 326), (.ref 327), (.ref 328), (.int 646 0), (.int 189 0), (kS "/claim/cut.py" 647)]⟩ ::
⟨nat_lit 330, kF "inverse" "Matrix.inverse" (mF 40 6) .none (kS "outlinemill.matrix" 563) (.ref 329)⟩ ::
⟨nat_lit 331, kT #[(kS "a" 649), (kS "b" 650), (kS "c" 651), (kS "d" 652), (kS "e" 653), (kS "f" 654)]⟩ ::
⟨nat_lit 332, ⟨(.type "dict"), none, (.dict #[kE P "__module__" 572 (kS "outlinemill.matrix" 563), kE P "__firstlineno__" 576 (.int 159 575), kE P "__init__" 589 (.ref 288), kE P "row" 596 (.ref 295), kE P "vector" 606 (.ref 302), kE P "point" 616 (.ref 309), kE P "then" 630 (.ref 316), kE P "determinant" 637 (.ref 323), kE P "inverse" 648 (.ref 330), kE P "__static_attributes__" 655 (.ref 331), kE P "__dict__" 657 (.ref 334), kE P "__weakref__" 659 (.ref 335), kE P "__doc__" 660 .none] 4), #[]⟩⟩ ::
⟨nat_lit 333, ⟨(.type "type"), none, (.cls ⟨(Str.ofString "Matrix"), [(.type "object")], [(.ref 333), (.type "object")], 332, (Str.ofString "Matrix"), true, [], [], false, none, false⟩), #[none, none, (some (kS "Matrix" 565)), (some (kS "Matrix" 573)), (some (.builtin "object.__new__")), (some (.bool true))]⟩⟩ ::
⟨nat_lit 334, ⟨(.type "getset_descriptor"), none, (.fields #[(kS "__dict__" 656), (.ref 333), (.builtin "function.__dict__"), (.builtin "function.__dict__#set")]), #[]⟩⟩ ::
⟨nat_lit 335, ⟨(.type "getset_descriptor"), none, (.fields #[(kS "__weakref__" 658), (.ref 333), (.builtin "ExceptionGroup.__weakref__"), .none]), #[]⟩⟩ ::
⟨nat_lit 338, kT #[]⟩ ::
⟨nat_lit 340, kT #[]⟩ ::
⟨nat_lit 341, kT #[]⟩ ::
⟨nat_lit 343, kC #[(kS "identity" 663), (kS "identity" 664), (kS "/claim/cut.py" 665), (.int 196 0), (.int 0 0), (.int 0 0), (.int 0 0), (.int 3 0), (.ref 338), (.bool true), (.int 181 0), (.ref 339), .none, (.ref 340), (.ref 341), (.ref 342), (.int 666 0), (.int 196 0), (kS "/claim/cut.py" 667)]⟩ ::
⟨nat_lit 344, kF "identity" "identity" (tF 41) .none (kS "outlinemill.matrix" 563) (.ref 343)⟩ ::
⟨nat_lit 345, kT #[]⟩ ::
⟨nat_lit 347, kT #[(kS "x" 672), (kS "y" 673)]⟩ ::
⟨nat_lit 348, kT #[]⟩ ::
⟨nat_lit 350, kC #[(kS "translation" 669), (kS "translation" 670), (kS "/claim/cut.py" 671), (.int 198 0), (.int 2 0), (.int 0 0), (.int 0 0), (.int 3 0), (.ref 345), (.bool true), (.int 181 0), (.ref 346), .none, (.ref 347), (.ref 348), (.ref 349), (.int 674 0), (.int 198 0), (kS "/claim/cut.py" 675)]⟩ ::
⟨nat_lit 351, kF "translation" "translation" (tF 42) .none (kS "outlinemill.matrix" 563) (.ref 350)⟩ ::
⟨nat_lit 352, kT #[]⟩ ::
⟨nat_lit 354, kT #[(kS "x" 680), (kS "y" 681)]⟩ ::
⟨nat_lit 355, kT #[]⟩ ::
⟨nat_lit 357, kC #[(kS "scaling" 677), (kS "scaling" 678), (kS "/claim/cut.py" 679), (.int 200 0), (.int 2 0), (.int 0 0), (.int 0 0), (.int 3 0), (.ref 352), (.bool true), (.int 181 0), (.ref 353), .none, (.ref 354), (.ref 355), (.ref 356), (.int 682 0), (.int 200 0), (kS "/claim/cut.py" 683)]⟩ ::
⟨nat_lit 358, kF "scaling" "scaling" (tF 43) .none (kS "outlinemill.matrix" 563) (.ref 357)⟩ ::
⟨nat_lit 359, kT #[]⟩ ::
⟨nat_lit 361, kT #[(kS "degrees" 688), (kS "cosine" 689), (kS "sine" 690)]⟩ ::
⟨nat_lit 362, kT #[]⟩ ::
⟨nat_lit 364, kC #[(kS "rotation" 685), (kS "rotation" 686), (kS "/claim/cut.py" 687), (.int 202 0), (.int 1 0), (.int 0 0), (.int 0 0), (.int 3 0), (.ref 359), (.bool true), (.int 181 0), (.ref 360), .none, (.ref 361), (.ref 362), (.ref 363), (.int 691 0), (.int 202 0), (kS "/claim/cut.py" 692)]⟩ ::
⟨nat_lit 365, kF "rotation" "rotation" (tF 44) .none (kS "outlinemill.matrix" 563) (.ref 364)⟩ ::
⟨nat_lit 366, kT #[]⟩ ::
⟨nat_lit 368, kT #[(kS "degrees" 697), (kS "x" 698), (kS "y" 699)]⟩ ::
⟨nat_lit 369, kT #[]⟩ ::
⟨nat_lit 371, kC #[(kS "rotation_about" 694), (kS "rotation_about" 695), (kS "/claim/cut.py" 696), (.int 205 0), (.int 3 0), (.int 0 0), (.int 0 0), (.int 3 0), (.ref 366), (.bool true), (.int 181 0), (.ref 367), .none, (.ref 368), (.ref 369), (.ref 370), (.int 700 0), (.int 205 0), (kS "/claim/cut.py" 701)]⟩ ::
⟨nat_lit 372, kF "rotation_about" "rotation_about" (tF 45) .none (kS "outlinemill.matrix" 563) (.ref 371)⟩ ::
⟨nat_lit 373, kT #[]⟩ ::
⟨nat_lit 375, kT #[(kS "x_degrees" 706), (kS "y_degrees" 707)]⟩ ::
⟨nat_lit 376, kT #[]⟩ ::
⟨nat_lit 378, kC #[(kS "skewing" 703), (kS "skewing" 704), (kS "/claim/cut.py" 705), (.int 207 0), (.int 2 0), (.int 0 0), (.int 0 0), (.int 3 0), (.ref 373), (.bool true), (.int 181 0), (.ref 374), .none, (.ref 375), (.ref 376), (.ref 377), (.int 708 0), (.int 207 0), (kS "/claim/cut.py" 709)]⟩ ::
⟨nat_lit 379, kF "skewing" "skewing" (tF 46) .none (kS "outlinemill.matrix" 563) (.ref 378)⟩ ::
⟨nat_lit 380, kT #[]⟩ ::
⟨nat_lit 382, kT #[(kS "text" 722), (kS "found" 723), (kS "at" 724), (kS "begin" 725)]⟩ ::
⟨nat_lit 383, kT #[]⟩ ::
⟨nat_lit 385, kC #[(kS "cut_numbers" 719), (kS "cut_numbers" 720), (kS "/claim/cut.py" 721), (.int 213 0), (.int 1 0), (.int 0 0), (.int 0 0), (.int 3 0), (.ref 380), (.bool true), (.int 181 0), (.ref 381), .none, (.ref 382), (.ref 383), (.ref 384), (.int 726 0), (.int 213 0), (kS "/claim/cut.py" 727)]⟩ ::
⟨nat_lit 386, kF "cut_numbers" "cut_numbers" (tF 51) .none (kS "outlinemill.transforms" 711) (.ref 385)⟩ ::
⟨nat_lit 387, kT #[]⟩ ::
⟨nat_lit 389, kT #[(kS "text" 732), (kS "at" 733), (kS "begin" 734), (kS "points" 735), (kS "sign" 736), (kS "is_first" 737)]⟩ ::
⟨nat_lit 390, kT #[]⟩ ::
⟨nat_lit 392, kC #[(kS "number_end" 729), (kS "number_end" 730), (kS "/claim/cut.py" 731), (.int 223 0), (.int 2 0), (.int 0 0), (.int 0 0), (.int 3 0), (.ref 387), (.bool true), (.int 181 0), (.ref 388), .none, (.ref 389), (.ref 390), (.ref 391), (.int 738 0), (.int 223 0), (kS "/claim/cut.py" 739)]⟩ ::
⟨nat_lit 393, kF "number_end" "number_end" (tF 52) .none (kS "outlinemill.transforms" 711) (.ref 392)⟩ ::
⟨nat_lit 394, kT #[]⟩ ::
⟨nat_lit 396, kT #[(kS "text" 744), (kS "at" 745)]⟩ ::
⟨nat_lit 397, kT #[]⟩ ::
⟨nat_lit 399, kC #[(kS "gap_end" 741), (kS "gap_end" 742), (kS "/claim/cut.py" 743), (.int 242 0), (.int 2 0), (.int 0 0), (.int 0 0), (.int 3 0), (.ref 394), (.bool true), (.int 181 0), (.ref 395), .none, (.ref 396), (.ref 397), (.ref 398), (.int 746 0), (.int 242 0), (kS "/claim/cut.py" 747)]⟩ ::
⟨nat_lit 400, kF "gap_end" "gap_end" (tF 53) .none (kS "outlinemill.transforms" 711) (.ref 399)⟩ ::
⟨nat_lit 401, kT #[]⟩ ::
⟨nat_lit 403, kT #[(kS "text" 752), (kS "at" 753)]⟩ ::
⟨nat_lit 404, kT #[]⟩ ::
⟨nat_lit 406, kC #[(kS "spaces_end" 749), (kS "spaces_end" 750), (kS "/claim/cut.py" 751), (.int 249 0), (.int 2 0), (.int 0 0), (.int 0 0), (.int 3 0), (.ref 401), (.bool true), (.int 181 0), (.ref 402), .none, (.ref 403), (.ref 404), (.ref 405), (.int 754 0), (.int 249 0), (kS "/claim/cut.py" 755)]⟩ ::
⟨nat_lit 407, kF "spaces_end" "spaces_end" (tF 54) .none (kS "outlinemill.transforms" 711) (.ref 406)⟩ ::
⟨nat_lit 408, kT #[]⟩ ::
⟨nat_lit 410, kT #[(kS "text" 760), (kS "found" 761), (kS "told" 762), (kS "e" 763)]⟩ ::
⟨nat_lit 411, kT #[]⟩ ::
⟨nat_lit 413, kC #[(kS "read_numbers" 757), (kS "read_numbers" 758), (kS "/claim/cut.py" 759), (.int 253 0), (.int 1 0), (.int 0 0), (.int 0 0), (.int 3 0), (.ref 408), (.bool true), (.int 181 0), (.ref 409), .none, (.ref 410), (.ref 411), (.ref 412), (.int 764 0), (.int 253 0), (kS "/claim/cut.py" 765)]⟩ ::
⟨nat_lit 414, kF "read_numbers" "read_numbers" (tF 55) .none (kS "outlinemill.transforms" 711) (.ref 413)⟩ ::
⟨nat_lit 415, kT #[]⟩ ::
⟨nat_lit 417, kT #[(kS "name" 770), (kS "numbers" 771), (kS "many" 772)]⟩ ::
⟨nat_lit 418, kT #[]⟩ ::
⟨nat_lit 420, kC #[(kS "matrix_of" 767), (kS "matrix_of" 768), (kS "/claim/cut.py" 769), (.int 261 0), (.int 2 0), (.int 0 0), (.int 0 0), (.int 3 0), (.ref 415), (.bool true), (.int 181 0), (.ref 416), .none, (.ref 417), (.ref 418), (.ref 419), (.int 773 0), (.int 261 0), (kS "/claim/cut.py" 774)]⟩ ::
⟨nat_lit 421, kF "matrix_of" "matrix_of" (tF 56) .none (kS "outlinemill.transforms" 711) (.ref 420)⟩ ::
⟨nat_lit 422, kT #[]⟩ ::
⟨nat_lit 424, kT #[(kS "name" 779), (kS "degrees" 780), (kS "e" 781)]⟩ ::
⟨nat_lit 425, kT #[]⟩ ::
⟨nat_lit 427, kC #[(kS "skew_of" 776), (kS "skew_of" 777), (kS "/claim/cut.py" 778), (.int 276 0), (.int 2 0), (.int 0 0), (.int 0 0), (.int 3 0), (.ref 422), (.bool true), (.int 181 0), (.ref 423), .none, (.ref 424), (.ref 425), (.ref 426), (.int 782 0), (.int 276 0), (kS "/claim/cut.py" 783)]⟩ ::
⟨nat_lit 428, kF "skew_of" "skew_of" (tF 57) .none (kS "outlinemill.transforms" 711) (.ref 427)⟩ ::
⟨nat_lit 429, kT #[]⟩ ::
⟨nat_lit 431, kT #[(kS "text" 788), (kS "at" 789)]⟩ ::
⟨nat_lit 432, kT #[]⟩ ::
⟨nat_lit 434, kC #[(kS "name_end" 785), (kS "name_end" 786), (kS "/claim/cut.py" 787), (.int 281 0), (.int 2 0), (.int 0 0), (.int 0 0), (.int 3 0), (.ref 429), (.bool true), (.int 181 0), (.ref 430), .none, (.ref 431), (.ref 432), (.ref 433), (.int 790 0), (.int 281 0), (kS "/claim/cut.py" 791)]⟩ ::
⟨nat_lit 435, kF "name_end" "name_end" (tF 58) .none (kS "outlinemill.transforms" 711) (.ref 434)⟩ ::
⟨nat_lit 436, kT #[]⟩ ::
⟨nat_lit 438, kT #[(kS "text" 796), (kS "found" 797), (kS "at" 798), (kS "end" 799), (kS "begin" 800), (kS "last" 801)]⟩ ::
⟨nat_lit 439, kT #[]⟩ ::
⟨nat_lit 441, kC #[(kS "read_transforms" 793), (kS "read_transforms" 794), (kS "/claim/cut.py" 795), (.int 285 0), (.int 1 0), (.int 0 0), (.int 0 0), (.int 3 0), (.ref 436), (.bool true), (.int 181 0), (.ref 437), .none, (.ref 438), (.ref 439), (.ref 440), (.int 802 0), (.int 285 0), (kS "/claim/cut.py" 803)]⟩ ::
⟨nat_lit 442, kF "read_transforms" "read_transforms" (tF 59) .none (kS "outlinemill.transforms" 711) (.ref 441)⟩ ::
⟨nat_lit 443, kT #[]⟩ ::
⟨nat_lit 445, kT #[(kS "a" 808), (kS "places" 809)]⟩ ::
⟨nat_lit 446, kT #[]⟩ ::
⟨nat_lit 448, kC #[(kS "exact_places" 805), (kS "exact_places" 806), (kS "/claim/cut.py" 807), (.int 296 0), (.int 1 0), (.int 0 0), (.int 0 0), (.int 3 0), (.ref 443), (.bool true), (.int 181 0), (.ref 444), .none, (.ref 445), (.ref 446), (.ref 447), (.int 810 0), (.int 296 0), (kS "/claim/cut.py" 811)]⟩ ::
⟨nat_lit 449, kF "exact_places" "exact_places" (tF 60) .none (kS "outlinemill.transforms" 711) (.ref 448)⟩ ::
⟨nat_lit 450, kT #[]⟩ ::
⟨nat_lit 453, kC #[(kS "write_matrix" 813), (kS "write_matrix" 814), (kS "/claim/cut.py" 815), (.int 301 0), (.int 1 0), (.int 0 0), (.int 0 0), (.int 3 0), (.ref 450), (.bool true), (.int 181 0), (.ref 451), .none, .none, .none, (.ref 452), (.int 816 0), (.int 301 0), (kS "/claim/cut.py" 817)]⟩ ::
⟨nat_lit 454, kF "write_matrix" "write_matrix" (tF 61) .none (kS "outlinemill.transforms" 711) (.ref 453)⟩ ::
⟨nat_lit 455, kT #[]⟩ ::
⟨nat_lit 457, kT #[(kS "matrix" 822), (kS "p" 823), (kS "grain" 824), (kS "x" 825), (kS "y" 826)]⟩ ::
⟨nat_lit 458, kT #[]⟩ ::
⟨nat_lit 460, kC #[(kS "spot_of" 819), (kS "spot_of" 820), (kS "/claim/cut.py" 821), (.int 304 0), (.int 3 0), (.int 0 0), (.int 0 0), (.int 3 0), (.ref 455), (.bool true), (.int 181 0), (.ref 456), .none, (.ref 457), (.ref 458), (.ref 459), (.int 827 0), (.int 304 0), (kS "/claim/cut.py" 828)]⟩ ::
⟨nat_lit 461, kF "spot_of" "spot_of" (tF 62) .none (kS "outlinemill.transforms" 711) (.ref 460)⟩ ::
⟨nat_lit 462, kT #[]⟩ ::
⟨nat_lit 464, kT #[(kS "script" 835), (kS "k" 836), (kS "cell" 837), (kS "big" 838), (kS "mixed" 839)]⟩ ::
⟨nat_lit 465, kT #[]⟩ ::
⟨nat_lit 467, kC #[(kS "_law_pool" 832), (kS "_law_pool" 833), (kS "/claim/cut.py" 834), (.int 308 0), (.int 2 0), (.int 0 0), (.int 0 0), (.int 3 0), (.ref 462), (.bool true), (.int 181 0), (.ref 463), .none, (.ref 464), (.ref 465), (.ref 466), (.int 840 0), (.int 308 0), (kS "/claim/cut.py" 841)]⟩ ::
⟨nat_lit 468, kF "_law_pool" "_law_pool" (tF 64) .none (kS "law_nu0033_01" 830) (.ref 467)⟩ ::
⟨nat_lit 469, kT #[]⟩ ::
⟨nat_lit 471, kT #[(kS "source" 846), (kS "top" 847), (kS "drawn" 848)]⟩ ::
⟨nat_lit 472, kT #[]⟩ ::
⟨nat_lit 474, kC #[(kS "_law_take" 843), (kS "_law_take" 844), (kS "/claim/cut.py" 845), (.int 313 0), (.int 2 0), (.int 0 0), (.int 0 0), (.int 3 0), (.ref 469), (.bool true), (.int 181 0), (.ref 470), .none, (.ref 471), (.ref 472), (.ref 473), (.int 849 0), (.int 313 0), (kS "/claim/cut.py" 850)]⟩ ::
⟨nat_lit 475, kF "_law_take" "_law_take" (tF 65) .none (kS "law_nu0033_01" 830) (.ref 474)⟩ ::
⟨nat_lit 476, kT #[]⟩ ::
⟨nat_lit 478, kT #[(kS "source" 855), (kS "things" 856)]⟩ ::
⟨nat_lit 479, kT #[]⟩ ::
⟨nat_lit 481, kC #[(kS "_law_one" 852), (kS "_law_one" 853), (kS "/claim/cut.py" 854), (.int 320 0), (.int 2 0), (.int 0 0), (.int 0 0), (.int 3 0), (.ref 476), (.bool true), (.int 181 0), (.ref 477), .none, (.ref 478), (.ref 479), (.ref 480), (.int 857 0), (.int 320 0), (kS "/claim/cut.py" 858)]⟩ ::
⟨nat_lit 482, kF "_law_one" "_law_one" (tF 66) .none (kS "law_nu0033_01" 830) (.ref 481)⟩ ::
⟨nat_lit 483, kT #[]⟩ ::
⟨nat_lit 485, kT #[(kS "source" 863)]⟩ ::
⟨nat_lit 486, kT #[]⟩ ::
⟨nat_lit 488, kC #[(kS "_law_half" 860), (kS "_law_half" 861), (kS "/claim/cut.py" 862), (.int 322 0), (.int 1 0), (.int 0 0), (.int 0 0), (.int 3 0), (.ref 483), (.bool true), (.int 181 0), (.ref 484), .none, (.ref 485), (.ref 486), (.ref 487), (.int 864 0), (.int 322 0), (kS "/claim/cut.py" 865)]⟩ ::
⟨nat_lit 489, kF "_law_half" "_law_half" (tF 67) .none (kS "law_nu0033_01" 830) (.ref 488)⟩ ::
⟨nat_lit 490, kT #[]⟩ ::
⟨nat_lit 492, kT #[(kS "rows" 870), (kS "top" 871), (kS "bottom" 872), (kS "a" 873), (kS "b" 874)]⟩ ::
⟨nat_lit 493, kT #[]⟩ ::
⟨nat_lit 495, kC #[(kS "_law_sum" 867), (kS "_law_sum" 868), (kS "/claim/cut.py" 869), (.int 324 0), (.int 1 0), (.int 0 0), (.int 0 0), (.int 3 0), (.ref 490), (.bool true), (.int 181 0), (.ref 491), .none, (.ref 492), (.ref 493), (.ref 494), (.int 875 0), (.int 324 0), (kS "/claim/cut.py" 876)]⟩ ::
⟨nat_lit 496, kF "_law_sum" "_law_sum" (tF 68) .none (kS "law_nu0033_01" 830) (.ref 495)⟩ ::
⟨nat_lit 497, kT #[]⟩ ::
⟨nat_lit 499, kT #[(kS "row" 881), (kS "p" 882), (kS "move" 883), (kS "a" 884), (kS "b" 885), (kS "c" 886), (kS "d" 887), (kS "e" 888), (kS "f" 889), (kS "one" 890)]⟩ ::
⟨nat_lit 500, kT #[]⟩ ::
⟨nat_lit 502, kC #[(kS "_law_led" 878), (kS "_law_led" 879), (kS "/claim/cut.py" 880), (.int 329 0), (.int 3 0), (.int 0 0), (.int 0 0), (.int 3 0), (.ref 497), (.bool true), (.int 181 0), (.ref 498), .none, (.ref 499), (.ref 500), (.ref 501), (.int 891 0), (.int 329 0), (kS "/claim/cut.py" 892)]⟩ ::
⟨nat_lit 503, kF "_law_led" "_law_led" (tF 69) .none (kS "law_nu0033_01" 830) (.ref 502)⟩ ::
⟨nat_lit 504, kT #[]⟩ ::
⟨nat_lit 506, kT #[(kS "one" 897), (kS "other" 898), (kS "p" 899), (kS "both" 900)]⟩ ::
⟨nat_lit 507, kT #[]⟩ ::
⟨nat_lit 509, kC #[(kS "_law_product_right" 894), (kS "_law_product_right" 895), (kS "/claim/cut.py" 896), (.int 333 0), (.int 3 0), (.int 0 0), (.int 0 0), (.int 3 0), (.ref 504), (.bool true), (.int 181 0), (.ref 505), .none, (.ref 506), (.ref 507), (.ref 508), (.int 901 0), (.int 333 0), (kS "/claim/cut.py" 902)]⟩ ::
⟨nat_lit 510, kF "_law_product_right" "_law_product_right" (tF 70) .none (kS "law_nu0033_01" 830) (.ref 509)⟩ ::
⟨nat_lit 511, kT #[]⟩ ::
⟨nat_lit 513, kT #[(kS "matrix" 907), (kS "p" 908), (kS "a" 909), (kS "b" 910), (kS "c" 911), (kS "d" 912), (kS "e" 913), (kS "f" 914), (kS "due" 915), (kS "back" 916)]⟩ ::
⟨nat_lit 514, kT #[]⟩ ::
⟨nat_lit 516, kC #[(kS "_law_inverse_right" 904), (kS "_law_inverse_right" 905), (kS "/claim/cut.py" 906), (.int 340 0), (.int 2 0), (.int 0 0), (.int 0 0), (.int 3 0), (.ref 511), (.bool true), (.int 181 0), (.ref 512), .none, (.ref 513), (.ref 514), (.ref 515), (.int 917 0), (.int 340 0), (kS "/claim/cut.py" 918)]⟩ ::
⟨nat_lit 517, kF "_law_inverse_right" "_law_inverse_right" (tF 71) .none (kS "law_nu0033_01" 830) (.ref 516)⟩ ::
⟨nat_lit 518, kT #[]⟩ ::
⟨nat_lit 520, kT #[(kS "source" 923)]⟩ ::
⟨nat_lit 521, kT #[]⟩ ::
⟨nat_lit 523, kC #[(kS "_law_number" 920), (kS "_law_number" 921), (kS "/claim/cut.py" 922), (.int 352 0), (.int 1 0), (.int 0 0), (.int 0 0), (.int 3 0), (.ref 518), (.bool true), (.int 181 0), (.ref 519), .none, (.ref 520), (.ref 521), (.ref 522), (.int 924 0), (.int 352 0), (kS "/claim/cut.py" 925)]⟩ ::
⟨nat_lit 524, kF "_law_number" "_law_number" (tF 72) .none (kS "law_nu0033_01" 830) (.ref 523)⟩ ::
⟨nat_lit 525, kT #[]⟩ ::
⟨nat_lit 527, kT #[(kS "texts" 930), (kS "gap" 931), (kS "found" 932), (kS "at" 933), (kS "is_parted" 934)]⟩ ::
⟨nat_lit 528, kT #[]⟩ ::
⟨nat_lit 530, kC #[(kS "_law_parted" 927), (kS "_law_parted" 928), (kS "/claim/cut.py" 929), (.int 354 0), (.int 2 0), (.int 0 0), (.int 0 0), (.int 3 0), (.ref 525), (.bool true), (.int 181 0), (.ref 526), .none, (.ref 527), (.ref 528), (.ref 529), (.int 935 0), (.int 354 0), (kS "/claim/cut.py" 936)]⟩ ::
⟨nat_lit 531, kF "_law_parted" "_law_parted" (tF 73) .none (kS "law_nu0033_01" 830) (.ref 530)⟩ ::
⟨nat_lit 532, kT #[]⟩ ::
⟨nat_lit 535, kC #[(kS "_law_part" 938), (kS "_law_part" 939), (kS "/claim/cut.py" 940), (.int 360 0), (.int 1 0), (.int 0 0), (.int 0 0), (.int 3 0), (.ref 532), (.bool true), (.int 181 0), (.ref 533), .none, .none, .none, (.ref 534), (.int 941 0), (.int 360 0), (kS "/claim/cut.py" 942)]⟩ ::
⟨nat_lit 536, kF "_law_part" "_law_part" (tF 74) .none (kS "law_nu0033_01" 830) (.ref 535)⟩ ::
⟨nat_lit 537, kT #[]⟩ ::
⟨nat_lit 540, kC #[(kS "_law_list_right" 944), (kS "_law_list_right" 945), (kS "/claim/cut.py" 946), (.int 371 0), (.int 2 0), (.int 0 0), (.int 0 0), (.int 3 0), (.ref 537), (.bool true), (.int 181 0), (.ref 538), .none, .none, .none, (.ref 539), (.int 947 0), (.int 371 0), (kS "/claim/cut.py" 948)]⟩ ::
⟨nat_lit 541, kF "_law_list_right" "_law_list_right" (tF 75) .none (kS "law_nu0033_01" 830) (.ref 540)⟩ ::
⟨nat_lit 542, kT #[]⟩ ::
⟨nat_lit 544, kT #[(kS "source" 953), (kS "matrix" 954), (kS "p" 955), (kS "grain" 956), (kS "x" 957), (kS "y" 958), (kS "told" 959), (kS "due" 960), (kS "apart" 961)]⟩ ::
⟨nat_lit 545, kT #[]⟩ ::
⟨nat_lit 547, kC #[(kS "_law_spot_right" 950), (kS "_law_spot_right" 951), (kS "/claim/cut.py" 952), (.int 386 0), (.int 3 0), (.int 0 0), (.int 0 0), (.int 3 0), (.ref 542), (.bool true), (.int 181 0), (.ref 543), .none, (.ref 544), (.ref 545), (.ref 546), (.int 962 0), (.int 386 0), (kS "/claim/cut.py" 963)]⟩ ::
⟨nat_lit 548, kF "_law_spot_right" "_law_spot_right" (tF 76) .none (kS "law_nu0033_01" 830) (.ref 547)⟩ ::
⟨nat_lit 549, kT #[]⟩ ::
⟨nat_lit 552, kC #[(kS "law" 965), (kS "law" 966), (kS "/claim/cut.py" 967), (.int 394 0), (.int 1 0), (.int 0 0), (.int 0 0), (.int 3 0), (.ref 549), (.bool true), (.int 181 0), (.ref 550), .none, .none, .none, (.ref 551), (.int 968 0), (.int 394 0), (kS "/claim/cut.py" 969)]⟩ ::
⟨nat_lit 553, kF "law" "law" (tF 77) .none (kS "law_nu0033_01" 830) (.ref 552)⟩ ::
[]
end
section
-- part O0
open PySem PySem.W PyProof.Rows PySem.Calls PySem.Builtin PySem.Builtin.Str PySem.Builtin.ObjectAttr
set_option maxHeartbeats 8000000
theorem fill (w : World) : K0 w.params = K0 w.params ∧ PySem.Challenge.rw_nu0033_01.row.prog = PySem.Challenge.rw_nu0033_01.row.prog := by
  k_fill
  exact ⟨rfl, rfl⟩
theorem defK_mk {K : Frag} {f : Addr} {body : List Stmt} {scope : Scope} {ps : List Str} {oc od osl name qual params dV kV doc pm an cdv ct} (h1 : K.lookup f = some ⟨oc, od, .func (fnOf name qual params body scope dV kV doc pm an cdv ct), osl⟩)
  (h2 : codeIn K cdv qual = true) (h3 : Binds K (fnOf name qual params body scope dV kV doc pm an cdv ct) ps) : DefK K f body scope ps := ⟨⟨_, _, _, _, _, _, _, _, _, _, _, _, _, h1, h2, h3⟩⟩
noncomputable def kindOk (names : List (Str × NameKind)) (n : Str) : Bool := names.lookup n == some .local || names.lookup n == some .cell
theorem kinds_of {sc : Scope} {ps : List Str} (h : ps.all (kindOk sc.names) = true) : ∀ n ∈ ps, sc.names.lookup n = some .local ∨ (sc.names.lookup n = some .cell ∧ ∀ k, ∃ a, (cellsFrom k sc.names []).lookup n = some a) := fun n hn => by
  have := List.all_eq_true.mp h n hn
  unfold kindOk at this
  rcases Bool.or_eq_true_iff.mp this with q | q
  · exact .inl (by simpa using q)
  · have q : sc.names.lookup n = some .cell := by simpa using q
    exact .inr ⟨q, fun k => Option.isSome_iff_exists.mp (cellsFrom_some sc.names k [] (.inl q))⟩
theorem prefix_of {ps ns : List Str} (h : ps.isPrefixOf ns = true) : ∀ (i : Nat) (n : Str), ps[i]? = some n → ns[i]? = some n := fun i n hi => by
  obtain ⟨t, rfl⟩ := List.isPrefixOf_iff_prefix.mp h
  rw [List.getElem?_append_left (List.getElem?_eq_some_iff.mp hi).1]; exact hi
theorem Ok.id {P : Par} {d : Nat} {f : Value} {sp : Spec} (o : Ok P d f sp) : Ok P d f sp := o
noncomputable def relab (scope sc : Scope) : Scope := { scope with names := scope.names.map fun (n, k) => if (k == .free && sc.kind == .function && sc.names.lookup n == some .cell) then (n, .cell) else (n, k) }
theorem kMat {P : Par} (hK : P.K = K0 P.w.params) : ClsK P.K cMat matNames where
  plain := by rw [hK]; k_is
  dict := by rw [hK]; k_is
  fld := by
    intro n hn
    unfold matNames at hn
    rw [hK]
    simp only [List.mem_cons, List.not_mem_nil, or_false] at hn
    rcases hn with rfl | rfl | rfl | rfl | rfl | rfl <;> k_is
theorem kNum {P : Par} (hK : P.K = K0 P.w.params) : ClsK P.K cNum [Str.ofString "text", Str.ofString "at"] where
  plain := by rw [hK]; k_is
  dict := by rw [hK]; k_is
  fld := by
    intro n hn
    rw [hK]
    simp only [List.mem_cons, List.not_mem_nil, or_false] at hn
    rcases hn with rfl | rfl <;> k_is
theorem g_common_divisor {P : Par} (hK : P.K = K0 P.w.params) : nsIn P.K mainGlobals (Str.ofString "common_divisor") = some (some (.ref 79)) := by rw [hK]; k_is
theorem k_common_divisor {P : Par} (hK : P.K = K0 P.w.params) : keepIn P.K (.ref 79) = true := by rw [hK]; k_is
theorem g_fraction {P : Par} (hK : P.K = K0 P.w.params) : nsIn P.K mainGlobals (Str.ofString "fraction") = some (some (.ref 87)) := by rw [hK]; k_is
theorem k_fraction {P : Par} (hK : P.K = K0 P.w.params) : keepIn P.K (.ref 87) = true := by rw [hK]; k_is
theorem g_plus {P : Par} (hK : P.K = K0 P.w.params) : nsIn P.K mainGlobals (Str.ofString "plus") = some (some (.ref 94)) := by rw [hK]; k_is
theorem k_plus {P : Par} (hK : P.K = K0 P.w.params) : keepIn P.K (.ref 94) = true := by rw [hK]; k_is
theorem g_minus {P : Par} (hK : P.K = K0 P.w.params) : nsIn P.K mainGlobals (Str.ofString "minus") = some (some (.ref 101)) := by rw [hK]; k_is
theorem k_minus {P : Par} (hK : P.K = K0 P.w.params) : keepIn P.K (.ref 101) = true := by rw [hK]; k_is
theorem g_times {P : Par} (hK : P.K = K0 P.w.params) : nsIn P.K mainGlobals (Str.ofString "times") = some (some (.ref 108)) := by rw [hK]; k_is
theorem k_times {P : Par} (hK : P.K = K0 P.w.params) : keepIn P.K (.ref 108) = true := by rw [hK]; k_is
theorem g_divided {P : Par} (hK : P.K = K0 P.w.params) : nsIn P.K mainGlobals (Str.ofString "divided") = some (some (.ref 115)) := by rw [hK]; k_is
theorem k_divided {P : Par} (hK : P.K = K0 P.w.params) : keepIn P.K (.ref 115) = true := by rw [hK]; k_is
theorem g_negated {P : Par} (hK : P.K = K0 P.w.params) : nsIn P.K mainGlobals (Str.ofString "negated") = some (some (.ref 122)) := by rw [hK]; k_is
theorem k_negated {P : Par} (hK : P.K = K0 P.w.params) : keepIn P.K (.ref 122) = true := by rw [hK]; k_is
theorem g_rounded {P : Par} (hK : P.K = K0 P.w.params) : nsIn P.K mainGlobals (Str.ofString "rounded") = some (some (.ref 150)) := by rw [hK]; k_is
theorem k_rounded {P : Par} (hK : P.K = K0 P.w.params) : keepIn P.K (.ref 150) = true := by rw [hK]; k_is
theorem g_whole_of {P : Par} (hK : P.K = K0 P.w.params) : nsIn P.K mainGlobals (Str.ofString "whole_of") = some (some (.ref 199)) := by rw [hK]; k_is
theorem k_whole_of {P : Par} (hK : P.K = K0 P.w.params) : keepIn P.K (.ref 199) = true := by rw [hK]; k_is
theorem g_read_exponent {P : Par} (hK : P.K = K0 P.w.params) : nsIn P.K mainGlobals (Str.ofString "read_exponent") = some (some (.ref 206)) := by rw [hK]; k_is
theorem k_read_exponent {P : Par} (hK : P.K = K0 P.w.params) : keepIn P.K (.ref 206) = true := by rw [hK]; k_is
theorem g_read_decimal {P : Par} (hK : P.K = K0 P.w.params) : nsIn P.K mainGlobals (Str.ofString "read_decimal") = some (some (.ref 213)) := by rw [hK]; k_is
theorem k_read_decimal {P : Par} (hK : P.K = K0 P.w.params) : keepIn P.K (.ref 213) = true := by rw [hK]; k_is
theorem g_write_decimal {P : Par} (hK : P.K = K0 P.w.params) : nsIn P.K mainGlobals (Str.ofString "write_decimal") = some (some (.ref 221)) := by rw [hK]; k_is
theorem k_write_decimal {P : Par} (hK : P.K = K0 P.w.params) : keepIn P.K (.ref 221) = true := by rw [hK]; k_is
theorem g_identity {P : Par} (hK : P.K = K0 P.w.params) : nsIn P.K mainGlobals (Str.ofString "identity") = some (some (.ref 344)) := by rw [hK]; k_is
theorem k_identity {P : Par} (hK : P.K = K0 P.w.params) : keepIn P.K (.ref 344) = true := by rw [hK]; k_is
theorem g_translation {P : Par} (hK : P.K = K0 P.w.params) : nsIn P.K mainGlobals (Str.ofString "translation") = some (some (.ref 351)) := by rw [hK]; k_is
theorem k_translation {P : Par} (hK : P.K = K0 P.w.params) : keepIn P.K (.ref 351) = true := by rw [hK]; k_is
theorem g_scaling {P : Par} (hK : P.K = K0 P.w.params) : nsIn P.K mainGlobals (Str.ofString "scaling") = some (some (.ref 358)) := by rw [hK]; k_is
theorem k_scaling {P : Par} (hK : P.K = K0 P.w.params) : keepIn P.K (.ref 358) = true := by rw [hK]; k_is
theorem g_rotation {P : Par} (hK : P.K = K0 P.w.params) : nsIn P.K mainGlobals (Str.ofString "rotation") = some (some (.ref 365)) := by rw [hK]; k_is
theorem k_rotation {P : Par} (hK : P.K = K0 P.w.params) : keepIn P.K (.ref 365) = true := by rw [hK]; k_is
theorem g_rotation_about {P : Par} (hK : P.K = K0 P.w.params) : nsIn P.K mainGlobals (Str.ofString "rotation_about") = some (some (.ref 372)) := by rw [hK]; k_is
theorem k_rotation_about {P : Par} (hK : P.K = K0 P.w.params) : keepIn P.K (.ref 372) = true := by rw [hK]; k_is
theorem g_skew_of {P : Par} (hK : P.K = K0 P.w.params) : nsIn P.K mainGlobals (Str.ofString "skew_of") = some (some (.ref 428)) := by rw [hK]; k_is
theorem k_skew_of {P : Par} (hK : P.K = K0 P.w.params) : keepIn P.K (.ref 428) = true := by rw [hK]; k_is
theorem g_cut_numbers {P : Par} (hK : P.K = K0 P.w.params) : nsIn P.K mainGlobals (Str.ofString "cut_numbers") = some (some (.ref 386)) := by rw [hK]; k_is
theorem k_cut_numbers {P : Par} (hK : P.K = K0 P.w.params) : keepIn P.K (.ref 386) = true := by rw [hK]; k_is
theorem g_number_end {P : Par} (hK : P.K = K0 P.w.params) : nsIn P.K mainGlobals (Str.ofString "number_end") = some (some (.ref 393)) := by rw [hK]; k_is
theorem k_number_end {P : Par} (hK : P.K = K0 P.w.params) : keepIn P.K (.ref 393) = true := by rw [hK]; k_is
theorem g_gap_end {P : Par} (hK : P.K = K0 P.w.params) : nsIn P.K mainGlobals (Str.ofString "gap_end") = some (some (.ref 400)) := by rw [hK]; k_is
theorem k_gap_end {P : Par} (hK : P.K = K0 P.w.params) : keepIn P.K (.ref 400) = true := by rw [hK]; k_is
theorem g_spaces_end {P : Par} (hK : P.K = K0 P.w.params) : nsIn P.K mainGlobals (Str.ofString "spaces_end") = some (some (.ref 407)) := by rw [hK]; k_is
theorem k_spaces_end {P : Par} (hK : P.K = K0 P.w.params) : keepIn P.K (.ref 407) = true := by rw [hK]; k_is
theorem g_read_numbers {P : Par} (hK : P.K = K0 P.w.params) : nsIn P.K mainGlobals (Str.ofString "read_numbers") = some (some (.ref 414)) := by rw [hK]; k_is
theorem k_read_numbers {P : Par} (hK : P.K = K0 P.w.params) : keepIn P.K (.ref 414) = true := by rw [hK]; k_is
theorem g_matrix_of {P : Par} (hK : P.K = K0 P.w.params) : nsIn P.K mainGlobals (Str.ofString "matrix_of") = some (some (.ref 421)) := by rw [hK]; k_is
theorem k_matrix_of {P : Par} (hK : P.K = K0 P.w.params) : keepIn P.K (.ref 421) = true := by rw [hK]; k_is
theorem g_name_end {P : Par} (hK : P.K = K0 P.w.params) : nsIn P.K mainGlobals (Str.ofString "name_end") = some (some (.ref 435)) := by rw [hK]; k_is
theorem k_name_end {P : Par} (hK : P.K = K0 P.w.params) : keepIn P.K (.ref 435) = true := by rw [hK]; k_is
theorem g_read_transforms {P : Par} (hK : P.K = K0 P.w.params) : nsIn P.K mainGlobals (Str.ofString "read_transforms") = some (some (.ref 442)) := by rw [hK]; k_is
theorem k_read_transforms {P : Par} (hK : P.K = K0 P.w.params) : keepIn P.K (.ref 442) = true := by rw [hK]; k_is
theorem g_exact_places {P : Par} (hK : P.K = K0 P.w.params) : nsIn P.K mainGlobals (Str.ofString "exact_places") = some (some (.ref 449)) := by rw [hK]; k_is
theorem k_exact_places {P : Par} (hK : P.K = K0 P.w.params) : keepIn P.K (.ref 449) = true := by rw [hK]; k_is
theorem g_write_matrix {P : Par} (hK : P.K = K0 P.w.params) : nsIn P.K mainGlobals (Str.ofString "write_matrix") = some (some (.ref 454)) := by rw [hK]; k_is
theorem k_write_matrix {P : Par} (hK : P.K = K0 P.w.params) : keepIn P.K (.ref 454) = true := by rw [hK]; k_is
theorem g_spot_of {P : Par} (hK : P.K = K0 P.w.params) : nsIn P.K mainGlobals (Str.ofString "spot_of") = some (some (.ref 461)) := by rw [hK]; k_is
theorem k_spot_of {P : Par} (hK : P.K = K0 P.w.params) : keepIn P.K (.ref 461) = true := by rw [hK]; k_is
theorem g__law_pool {P : Par} (hK : P.K = K0 P.w.params) : nsIn P.K mainGlobals (Str.ofString "_law_pool") = some (some (.ref 468)) := by rw [hK]; k_is
theorem k__law_pool {P : Par} (hK : P.K = K0 P.w.params) : keepIn P.K (.ref 468) = true := by rw [hK]; k_is
theorem g__law_take {P : Par} (hK : P.K = K0 P.w.params) : nsIn P.K mainGlobals (Str.ofString "_law_take") = some (some (.ref 475)) := by rw [hK]; k_is
theorem k__law_take {P : Par} (hK : P.K = K0 P.w.params) : keepIn P.K (.ref 475) = true := by rw [hK]; k_is
theorem g__law_one {P : Par} (hK : P.K = K0 P.w.params) : nsIn P.K mainGlobals (Str.ofString "_law_one") = some (some (.ref 482)) := by rw [hK]; k_is
theorem k__law_one {P : Par} (hK : P.K = K0 P.w.params) : keepIn P.K (.ref 482) = true := by rw [hK]; k_is
theorem g__law_half {P : Par} (hK : P.K = K0 P.w.params) : nsIn P.K mainGlobals (Str.ofString "_law_half") = some (some (.ref 489)) := by rw [hK]; k_is
theorem k__law_half {P : Par} (hK : P.K = K0 P.w.params) : keepIn P.K (.ref 489) = true := by rw [hK]; k_is
theorem g__law_sum {P : Par} (hK : P.K = K0 P.w.params) : nsIn P.K mainGlobals (Str.ofString "_law_sum") = some (some (.ref 496)) := by rw [hK]; k_is
theorem k__law_sum {P : Par} (hK : P.K = K0 P.w.params) : keepIn P.K (.ref 496) = true := by rw [hK]; k_is
theorem g__law_led {P : Par} (hK : P.K = K0 P.w.params) : nsIn P.K mainGlobals (Str.ofString "_law_led") = some (some (.ref 503)) := by rw [hK]; k_is
theorem k__law_led {P : Par} (hK : P.K = K0 P.w.params) : keepIn P.K (.ref 503) = true := by rw [hK]; k_is
theorem g__law_product_right {P : Par} (hK : P.K = K0 P.w.params) : nsIn P.K mainGlobals (Str.ofString "_law_product_right") = some (some (.ref 510)) := by rw [hK]; k_is
theorem k__law_product_right {P : Par} (hK : P.K = K0 P.w.params) : keepIn P.K (.ref 510) = true := by rw [hK]; k_is
theorem g__law_inverse_right {P : Par} (hK : P.K = K0 P.w.params) : nsIn P.K mainGlobals (Str.ofString "_law_inverse_right") = some (some (.ref 517)) := by rw [hK]; k_is
theorem k__law_inverse_right {P : Par} (hK : P.K = K0 P.w.params) : keepIn P.K (.ref 517) = true := by rw [hK]; k_is
theorem g__law_number {P : Par} (hK : P.K = K0 P.w.params) : nsIn P.K mainGlobals (Str.ofString "_law_number") = some (some (.ref 524)) := by rw [hK]; k_is
theorem k__law_number {P : Par} (hK : P.K = K0 P.w.params) : keepIn P.K (.ref 524) = true := by rw [hK]; k_is
theorem g__law_parted {P : Par} (hK : P.K = K0 P.w.params) : nsIn P.K mainGlobals (Str.ofString "_law_parted") = some (some (.ref 531)) := by rw [hK]; k_is
theorem k__law_parted {P : Par} (hK : P.K = K0 P.w.params) : keepIn P.K (.ref 531) = true := by rw [hK]; k_is
theorem g__law_part {P : Par} (hK : P.K = K0 P.w.params) : nsIn P.K mainGlobals (Str.ofString "_law_part") = some (some (.ref 536)) := by rw [hK]; k_is
theorem k__law_part {P : Par} (hK : P.K = K0 P.w.params) : keepIn P.K (.ref 536) = true := by rw [hK]; k_is
theorem g__law_list_right {P : Par} (hK : P.K = K0 P.w.params) : nsIn P.K mainGlobals (Str.ofString "_law_list_right") = some (some (.ref 541)) := by rw [hK]; k_is
theorem k__law_list_right {P : Par} (hK : P.K = K0 P.w.params) : keepIn P.K (.ref 541) = true := by rw [hK]; k_is
theorem g__law_spot_right {P : Par} (hK : P.K = K0 P.w.params) : nsIn P.K mainGlobals (Str.ofString "_law_spot_right") = some (some (.ref 548)) := by rw [hK]; k_is
theorem k__law_spot_right {P : Par} (hK : P.K = K0 P.w.params) : keepIn P.K (.ref 548) = true := by rw [hK]; k_is
theorem g_Matrix {P : Par} (hK : P.K = K0 P.w.params) : nsIn P.K mainGlobals (Str.ofString "Matrix") = some (some (.ref 333)) := by rw [hK]; k_is
theorem k_Matrix {P : Par} (hK : P.K = K0 P.w.params) : keepIn P.K (.ref 333) = true := by rw [hK]; k_is
theorem g_NumberText {P : Par} (hK : P.K = K0 P.w.params) : nsIn P.K mainGlobals (Str.ofString "NumberText") = some (some (.ref 188)) := by rw [hK]; k_is
theorem k_NumberText {P : Par} (hK : P.K = K0 P.w.params) : keepIn P.K (.ref 188) = true := by rw [hK]; k_is
theorem g_NumberFault {P : Par} (hK : P.K = K0 P.w.params) : nsIn P.K mainGlobals (Str.ofString "NumberFault") = some (some (.ref 44)) := by rw [hK]; k_is
theorem k_NumberFault {P : Par} (hK : P.K = K0 P.w.params) : keepIn P.K (.ref 44) = true := by rw [hK]; k_is
theorem g_MatrixFault {P : Par} (hK : P.K = K0 P.w.params) : nsIn P.K mainGlobals (Str.ofString "MatrixFault") = some (some (.ref 56)) := by rw [hK]; k_is
theorem k_MatrixFault {P : Par} (hK : P.K = K0 P.w.params) : keepIn P.K (.ref 56) = true := by rw [hK]; k_is
theorem g_SheetFault {P : Par} (hK : P.K = K0 P.w.params) : nsIn P.K mainGlobals (Str.ofString "SheetFault") = some (some (.ref 68)) := by rw [hK]; k_is
theorem k_SheetFault {P : Par} (hK : P.K = K0 P.w.params) : keepIn P.K (.ref 68) = true := by rw [hK]; k_is
theorem g_len {P : Par} (hK : P.K = K0 P.w.params) : nsIn P.K mainGlobals (Str.ofString "len") = some none := by rw [hK]; k_is
theorem b_len : bootBuiltins (Str.ofString "len") = some (.builtin "len") := by boot_by_name
theorem g_abs {P : Par} (hK : P.K = K0 P.w.params) : nsIn P.K mainGlobals (Str.ofString "abs") = some none := by rw [hK]; k_is
theorem b_abs : bootBuiltins (Str.ofString "abs") = some (.builtin "abs") := by boot_by_name
theorem g_max {P : Par} (hK : P.K = K0 P.w.params) : nsIn P.K mainGlobals (Str.ofString "max") = some none := by rw [hK]; k_is
theorem b_max : bootBuiltins (Str.ofString "max") = some (.builtin "max") := by boot_by_name
theorem g_min {P : Par} (hK : P.K = K0 P.w.params) : nsIn P.K mainGlobals (Str.ofString "min") = some none := by rw [hK]; k_is
theorem b_min : bootBuiltins (Str.ofString "min") = some (.builtin "min") := by boot_by_name
theorem g_str {P : Par} (hK : P.K = K0 P.w.params) : nsIn P.K mainGlobals (Str.ofString "str") = some none := by rw [hK]; k_is
theorem b_str : bootBuiltins (Str.ofString "str") = some (.type "str") := by boot_by_name
theorem g_tuple {P : Par} (hK : P.K = K0 P.w.params) : nsIn P.K mainGlobals (Str.ofString "tuple") = some none := by rw [hK]; k_is
theorem b_tuple : bootBuiltins (Str.ofString "tuple") = some (.type "tuple") := by boot_by_name
theorem g_range {P : Par} (hK : P.K = K0 P.w.params) : nsIn P.K mainGlobals (Str.ofString "range") = some none := by rw [hK]; k_is
theorem b_range : bootBuiltins (Str.ofString "range") = some (.type "range") := by boot_by_name
theorem k_NumberText_is_one_of {P : Par} (hK : P.K = K0 P.w.params) : keepIn P.K (.ref 171) = true := by rw [hK]; k_is
theorem m_NumberText_is_one_of {P : Par} (hK : P.K = K0 P.w.params) : GetsM P (Str.ofString "is_one_of") (.ref 171) isRd := getsM_rd (kNum hK) (by rw [hK]; k_is) (by rw [hK]; k_is) rfl rfl
theorem k_NumberText_skip {P : Par} (hK : P.K = K0 P.w.params) : keepIn P.K (.ref 178) = true := by rw [hK]; k_is
theorem m_NumberText_skip {P : Par} (hK : P.K = K0 P.w.params) : GetsM P (Str.ofString "skip") (.ref 178) isRd := getsM_rd (kNum hK) (by rw [hK]; k_is) (by rw [hK]; k_is) rfl rfl
theorem k_NumberText_digits {P : Par} (hK : P.K = K0 P.w.params) : keepIn P.K (.ref 185) = true := by rw [hK]; k_is
theorem m_NumberText_digits {P : Par} (hK : P.K = K0 P.w.params) : GetsM P (Str.ofString "digits") (.ref 185) isRd := getsM_rd (kNum hK) (by rw [hK]; k_is) (by rw [hK]; k_is) rfl rfl
theorem k_Matrix_row {P : Par} (hK : P.K = K0 P.w.params) : keepIn P.K (.ref 295) = true := by rw [hK]; k_is
theorem m_Matrix_row {P : Par} (hK : P.K = K0 P.w.params) : GetsM P (Str.ofString "row") (.ref 295) isMat := getsM_mat (kMat hK) (by rw [hK]; k_is) (by rw [hK]; k_is) rfl
theorem k_Matrix_vector {P : Par} (hK : P.K = K0 P.w.params) : keepIn P.K (.ref 302) = true := by rw [hK]; k_is
theorem m_Matrix_vector {P : Par} (hK : P.K = K0 P.w.params) : GetsM P (Str.ofString "vector") (.ref 302) isMat := getsM_mat (kMat hK) (by rw [hK]; k_is) (by rw [hK]; k_is) rfl
theorem k_Matrix_point {P : Par} (hK : P.K = K0 P.w.params) : keepIn P.K (.ref 309) = true := by rw [hK]; k_is
theorem m_Matrix_point {P : Par} (hK : P.K = K0 P.w.params) : GetsM P (Str.ofString "point") (.ref 309) isMat := getsM_mat (kMat hK) (by rw [hK]; k_is) (by rw [hK]; k_is) rfl
theorem k_Matrix_then {P : Par} (hK : P.K = K0 P.w.params) : keepIn P.K (.ref 316) = true := by rw [hK]; k_is
theorem m_Matrix_then {P : Par} (hK : P.K = K0 P.w.params) : GetsM P (Str.ofString "then") (.ref 316) isMat := getsM_mat (kMat hK) (by rw [hK]; k_is) (by rw [hK]; k_is) rfl
theorem k_Matrix_determinant {P : Par} (hK : P.K = K0 P.w.params) : keepIn P.K (.ref 323) = true := by rw [hK]; k_is
theorem m_Matrix_determinant {P : Par} (hK : P.K = K0 P.w.params) : GetsM P (Str.ofString "determinant") (.ref 323) isMat := getsM_mat (kMat hK) (by rw [hK]; k_is) (by rw [hK]; k_is) rfl
theorem k_Matrix_inverse {P : Par} (hK : P.K = K0 P.w.params) : keepIn P.K (.ref 330) = true := by rw [hK]; k_is
theorem m_Matrix_inverse {P : Par} (hK : P.K = K0 P.w.params) : GetsM P (Str.ofString "inverse") (.ref 330) isMat := getsM_mat (kMat hK) (by rw [hK]; k_is) (by rw [hK]; k_is) rfl
theorem ok_common_divisor {P : Par} (hK : P.K = K0 P.w.params) : Ok P 3 (.ref 79) S_common_divisor := by
  refine' Ok.mono (Ok.pure (ok_def (d := 2) (ns := [Str.ofString "one", Str.ofString "other", Str.ofString "first", Str.ofString "second"]) (ps := [Str.ofString "one", Str.ofString "other"]) (p := p_common_divisor) ?D ?hb ?h1 ?h2 ?h3 ?h4 ?h5 ?h6 ?h7)) vc_common_divisor
  case D =>
    rw [hK]
    refine' defK_mk ?a ?b ?c
    case a => k_is
    case b => k_is
    case c =>
      intro s vs hX hl
      obtain ⟨v0, v1, rfl⟩ := len2 hl
      exact BindsTo.of_eq rfl
  case hb => exact (ss_cons (s_swp (is := [2, 3]) (names := [Str.ofString "first", Str.ofString "second"]) (sound_tup (sound_args_cons (sound_callB (g_abs hK) b_abs (by decide) rfl abs_ok (by decide) (sound_args_cons (sound_loc (i := 0) rfl rfl rfl) sound_args_nil (fun _ => rfl)) (fun _ => rfl) (fun _ => rfl) rfl) (sound_args_cons (sound_loc (i := 1) rfl rfl rfl) sound_args_nil (fun _ => rfl)) (fun _ => rfl))) (by decide) (fun _ _ => (Stores.cons (n := Str.ofString "second") (fun _ _ _ _ _ _ h => wpAny_bindName h) rfl rfl (Stores.cons (n := Str.ofString "first") (fun _ _ _ _ _ _ h => wpAny_bindName h) rfl rfl Stores.nil))) (fun _ => rfl) (fun env he => by cases env; cases he; rfl)) (ss_cons (s_while (sound_cmpT gt_sound (sound_loc (i := 3) rfl rfl rfl) sound_int rfl) (ss_cons (s_swp (is := [2, 3]) (names := [Str.ofString "first", Str.ofString "second"]) (sound_tup (sound_args_cons (sound_loc (i := 3) rfl rfl rfl) (sound_args_cons (sound_bin mod_sound (sound_loc (i := 2) rfl rfl rfl) (sound_loc (i := 3) rfl rfl rfl)) sound_args_nil (fun _ => rfl)) (fun _ => rfl))) (by decide) (fun _ _ => (Stores.cons (n := Str.ofString "second") (fun _ _ _ _ _ _ h => wpAny_bindName h) rfl rfl (Stores.cons (n := Str.ofString "first") (fun _ _ _ _ _ _ h => wpAny_bindName h) rfl rfl Stores.nil))) (fun _ => rfl) (fun env he => by cases env; cases he; rfl)) ss_nil)) (ss_cons (s_ret (sound_loc (i := 2) rfl rfl rfl)) ss_nil)))
  case h1 => exact kinds_of rfl
  case h2 => exact prefix_of rfl
  case h3 => decide
  case h4 => decide
  case h5 => rfl
  case h6 => rfl
  case h7 => rfl
end
section
-- part O1
open PySem PySem.W PyProof.Rows PySem.Calls PySem.Builtin PySem.Builtin.Str PySem.Builtin.ObjectAttr
set_option maxHeartbeats 8000000
theorem fill1 (w : World) : K0 w.params = K0 w.params ∧ PySem.Challenge.rw_nu0033_01.row.prog = PySem.Challenge.rw_nu0033_01.row.prog := by
  k_fill
  exact ⟨rfl, rfl⟩
theorem setK_mk {K : Frag} {C : Addr} {n : Str} {cd} (h2 : clsIn K C = some cd) (h1 : findIn K (.ref C) "__setattr__" = some (some (.builtin "object.__setattr__"))) (h5 : mroIn K C (.type "object") = some true) (h6 : takerIn K C n = some none)
  (h3 : cd.hasDict = true) (h4 : ∀ self, refuseLoop self "__setattr__" cd.mro = pure ()) : SetK K C n := ⟨h1, ⟨cd, h2, h3, h4⟩, h5, h6⟩
theorem excCls_mk {K : Frag} {C : Addr} {nm q N bs bm hdct sn sub ab col dd k0 k1 k2 k3 k5} (h : K.lookup C = some (excClassObj nm q C N bs bm hdct sn sub ab col dd k0 k1 k2 k3 k5 "Exception.__new__")) (hb : BmOk bm) :
  ∃ nm q N bs bm hdct sn sub ab col dd k0 k1 k2 k3 k5, K.lookup C = some (excClassObj nm q C N bs bm hdct sn sub ab col dd k0 k1 k2 k3 k5 "Exception.__new__") ∧ BmOk bm := ⟨_, _, _, _, _, _, _, _, _, _, _, _, _, _, _, _, h, hb⟩
theorem initK_mk {K : Frag} {fI : Addr} {sp mp ap pos sc} (h : DefK K fI [.Assign [.Attribute (.Name (Str.ofString "self") sp) (Str.ofString "message") ap] (.Name (Str.ofString "message") mp) pos] sc [Str.ofString "self", Str.ofString "message"]) (h1 : sc.names.lookup (Str.ofString "self") = some .local) (h2 : sc.names.lookup (Str.ofString "message") = some .local) (h3 : sc.isCoroutine = false) (h4 : sc.isGenerator = false) (h5 : sc.kind = .function) : InitK K fI := ⟨⟨_, _, _, _, _, h, h1, h2, h3, h4, h5⟩⟩
theorem clsK_mk {K : Frag} {C : Addr} {ps : List Str} {l : List (Str × Src)} {fI body sc} (h0 : findIn K (.ref C) "__init__" = some (some (.ref fI))) (h1 : typeIn K (.ref fI) = some (.type "function")) (h : DefK K fI body sc (Str.ofString "self" :: ps)) (h2 : IB sc body l) (h3 : sc.names.lookup (Str.ofString "self") = some .local) (h4 : ∀ p ∈ ps, sc.names.lookup p = some .local) (h5 : sc.isCoroutine = false) (h6 : sc.isGenerator = false) (h7 : sc.kind = .function) :
  ∃ fI body sc, findIn K (.ref C) "__init__" = some (some (.ref fI)) ∧ typeIn K (.ref fI) = some (.type "function") ∧ DefK K fI body sc (Str.ofString "self" :: ps) ∧ IB sc body l ∧
    sc.names.lookup (Str.ofString "self") = some .local ∧ (∀ p ∈ ps, sc.names.lookup p = some .local) ∧ sc.isCoroutine = false ∧ sc.isGenerator = false ∧ sc.kind = .function := ⟨_, _, _, h0, h1, h, h2, h3, h4, h5, h6, h7⟩
theorem globE_mk {P : Par} {n : Str} {y : D} {val : Value} (h1 : nsIn P.K mainGlobals n = some (some val)) (h2 : ∀ X h, P.base.StaysIn h → (∀ b ∈ X, P.base.get? b = none) → Rel X h y val) : ∃ val, nsIn P.K mainGlobals n = some (some val) ∧ ∀ X h, P.base.StaysIn h → (∀ b ∈ X, P.base.get? b = none) → Rel X h y val := ⟨_, h1, h2⟩
theorem refuse_obj (self : Value) (a : Addr) : refuseLoop self "__setattr__" [.ref a, .type "object"] = pure () := by
  rw [refuseLoop_ref]; exact PySem.F.store_object.passes self
theorem set_NumberFault {P : Par} (hK : P.K = K0 P.w.params) : SetK P.K 44 (Str.ofString "message") := by
  rw [hK]
  refine' setK_mk ?a ?b ?c ?d ?e ?f
  case a => k_is
  case b => k_is
  case c => k_is
  case d => k_is
  case e => rfl
  case f => exact fun self => refuse_exc self ⟨[44, 31], rfl⟩
theorem x_NumberFault {P : Par} (hK : P.K = K0 P.w.params) : ExcK P.K 44 28 where
  cls := by rw [hK]; refine' excCls_mk ?a ?b; case a => k_is
            case b => constructor <;> decide +kernel
  init := by rw [hK]; k_is
  fn := by rw [hK]; k_is
  set := set_NumberFault hK
theorem set_MatrixFault {P : Par} (hK : P.K = K0 P.w.params) : SetK P.K 56 (Str.ofString "message") := by
  rw [hK]
  refine' setK_mk ?a ?b ?c ?d ?e ?f
  case a => k_is
  case b => k_is
  case c => k_is
  case d => k_is
  case e => rfl
  case f => exact fun self => refuse_exc self ⟨[56, 31], rfl⟩
theorem x_MatrixFault {P : Par} (hK : P.K = K0 P.w.params) : ExcK P.K 56 28 where
  cls := by rw [hK]; refine' excCls_mk ?a ?b; case a => k_is
            case b => constructor <;> decide +kernel
  init := by rw [hK]; k_is
  fn := by rw [hK]; k_is
  set := set_MatrixFault hK
theorem set_SheetFault {P : Par} (hK : P.K = K0 P.w.params) : SetK P.K 68 (Str.ofString "message") := by
  rw [hK]
  refine' setK_mk ?a ?b ?c ?d ?e ?f
  case a => k_is
  case b => k_is
  case c => k_is
  case d => k_is
  case e => rfl
  case f => exact fun self => refuse_exc self ⟨[68, 31], rfl⟩
theorem x_SheetFault {P : Par} (hK : P.K = K0 P.w.params) : ExcK P.K 68 28 where
  cls := by rw [hK]; refine' excCls_mk ?a ?b; case a => k_is
            case b => constructor <;> decide +kernel
  init := by rw [hK]; k_is
  fn := by rw [hK]; k_is
  set := set_SheetFault hK
theorem initK28 {P : Par} (hK : P.K = K0 P.w.params) : InitK P.K 28 := by
    rw [hK]
    refine' initK_mk (defK_mk ?a ?b ?c) ?d ?e ?f ?g ?h
    case a => k_is
    case b => k_is
    case c =>
      intro s vs hX hl
      obtain ⟨v0, v1, rfl⟩ := len2 hl
      exact BindsTo.of_eq rfl
    all_goals rfl
theorem mk_NumberFault {P : Par} (hK : P.K = K0 P.w.params) : Mkr P 2 44 := mkr_of (x_NumberFault hK) (initK28 hK)
theorem mk_MatrixFault {P : Par} (hK : P.K = K0 P.w.params) : Mkr P 2 56 := mkr_of (x_MatrixFault hK) (initK28 hK)
theorem mk_SheetFault {P : Par} (hK : P.K = K0 P.w.params) : Mkr P 2 68 := mkr_of (x_SheetFault hK) (initK28 hK)
theorem setNum {P : Par} (hK : P.K = K0 P.w.params) (n : Str) (hn : n = Str.ofString "text" ∨ n = Str.ofString "at") : SetK P.K 188 n := by
  rw [hK]
  refine' setK_mk ?a ?b ?c ?d ?e ?f
  case a => k_is
  case b => k_is
  case c => k_is
  case d => rcases hn with rfl | rfl <;> k_is
  case e => rfl
  case f => exact fun self => refuse_obj self 188
theorem setAt {P : Par} (hK : P.K = K0 P.w.params) : SetK P.K 188 (Str.ofString "at") := setNum hK _ (.inr rfl)
theorem setMat {P : Par} (hK : P.K = K0 P.w.params) (n : Str) (hn : n ∈ matNames) : SetK P.K 333 n := by
  rw [hK]
  refine' setK_mk ?a ?b ?c ?d ?e ?f
  case a => k_is
  case b => k_is
  case c => k_is
  case d => 
    unfold matNames at hn
    simp only [List.mem_cons, List.not_mem_nil, or_false] at hn
    rcases hn with rfl | rfl | rfl | rfl | rfl | rfl <;> k_is
  case e => rfl
  case f => exact fun self => refuse_obj self 333
theorem clsNum {P : Par} (hK : P.K = K0 P.w.params) : ClassK P.K 188 [Str.ofString "text"] [(Str.ofString "text", .inl (Str.ofString "text")), (Str.ofString "at", .inr 0)] where
  makes := by rw [hK]; k_is
  there := by
    rw [hK]
    refine' clsK_mk ?i ?t (defK_mk ?a ?b ?c) ?d ?e ?f ?g ?h ?j
    case i => k_is
    case t => k_is
    case a => k_is
    case b => k_is
    case c =>
      intro s vs hX hl
      obtain ⟨v0, v1, rfl⟩ := len2 hl
      exact BindsTo.of_eq rfl
    case d => exact .par rfl rfl (.int .nil)
    case e => rfl
    case f => intro p hp; rcases List.mem_singleton.mp hp with rfl; rfl
    all_goals rfl
  set := by
    intro a ha
    refine setNum hK a ?_
    simpa using ha
  nodup := by decide
  pnodup := by decide
  par := by
    intro a p h
    simp only [List.mem_cons, List.not_mem_nil, or_false, Prod.mk.injEq] at h
    rcases h with ⟨_, h⟩ | ⟨_, h⟩
    · cases h; exact .head _
    · cases h
  few := by decide
theorem clsMat {P : Par} (hK : P.K = K0 P.w.params) : ClassK P.K 333 matNames (matNames.map fun n => (n, .inl n)) where
  makes := by rw [hK]; k_is
  there := by
    rw [hK]
    refine' clsK_mk ?i ?t (defK_mk ?a ?b ?c) ?d ?e ?f ?g ?h ?j
    case i => k_is
    case t => k_is
    case a => k_is
    case b => k_is
    case c =>
      intro s vs hX hl
      obtain ⟨v0, v1, v2, v3, v4, v5, v6, rfl⟩ := len7 hl
      exact BindsTo.of_eq rfl
    case d => exact .par rfl rfl (.par rfl rfl (.par rfl rfl (.par rfl rfl (.par rfl rfl (.par rfl rfl .nil)))))
    case e => rfl
    case f =>
      intro p hp
      unfold matNames at hp
      simp only [List.mem_cons, List.not_mem_nil, or_false] at hp
      rcases hp with rfl | rfl | rfl | rfl | rfl | rfl <;> rfl
    all_goals rfl
  set := by
    intro a ha
    refine setMat hK a ?_
    simpa using ha
  nodup := by decide
  pnodup := by decide
  par := by
    intro a p h
    obtain ⟨n, hn, e⟩ := List.mem_map.mp h
    cases e; exact hn
  few := by decide
theorem ok_Matrix {P : Par} (hK : P.K = K0 P.w.params) : Ok P 2 (.ref 333) sMat := ok_mat (clsMat hK)
theorem getsM_find3 {P : Par} : GetsM P (Str.ofString "find") (.builtin "str.find") isText := getsM_str fun _ _ _ _ _ _ _ h => GM.find h
theorem getsM_lower {P : Par} : GetsM P (Str.ofString "lower") (.builtin "str.lower") isText := getsM_str fun _ _ _ _ _ _ _ h => GM.lower h
theorem getsM_strip {P : Par} : GetsM P (Str.ofString "strip") (.builtin "str.strip") isText := getsM_str fun _ _ _ _ _ _ _ h => GM.strip h
theorem getsM_index {P : Par} : GetsM P (Str.ofString "index") (.builtin "str.index") isText := getsM_str fun _ _ _ _ _ _ _ h => GM.index h
theorem getsM_join {P : Par} : GetsM P (Str.ofString "join") (.builtin "str.join") isText := getsM_str fun _ _ _ _ _ _ _ h => GM.join h
theorem sound_globE {P : Par} {sc : Scope} {ns : List Str} {d : Nat} {hn : Bool} {n : Str} {pos : Pos} {y : D} (he : ∃ val, nsIn P.K mainGlobals n = some (some val) ∧ ∀ X h, P.base.StaysIn h → (∀ b ∈ X, P.base.get? b = none) → Rel X h y val) (hk : sc.names.lookup n = some .globalImplicit)
    (hd : (n == Str.ofString "__debug__") = false) : SoundE P hn d sc ns (.Name n pos) (pLit y) := by
  obtain ⟨val, h1, h2⟩ := he
  exact sound_glob h1 hk h2 hd
theorem c_MOST_EXPONENT_at {P : Par} (hK : P.K = K0 P.w.params) : ∃ val, nsIn P.K mainGlobals (Str.ofString "MOST_EXPONENT") = some (some val) ∧ ∀ X h, P.base.StaysIn h → (∀ b ∈ X, P.base.get? b = none) → Rel X h c_MOST_EXPONENT val := by
  refine' globE_mk ?a ?b
  case a => rw [hK]; k_is
  case b => intro X h _ _; exact rv_int (x := none) (X := X) (h := h) _ _
theorem c_MOST_PLACES_at {P : Par} (hK : P.K = K0 P.w.params) : ∃ val, nsIn P.K mainGlobals (Str.ofString "MOST_PLACES") = some (some val) ∧ ∀ X h, P.base.StaysIn h → (∀ b ∈ X, P.base.get? b = none) → Rel X h c_MOST_PLACES val := by
  refine' globE_mk ?a ?b
  case a => rw [hK]; k_is
  case b => intro X h _ _; exact rv_int (x := none) (X := X) (h := h) _ _
theorem c_PLACES_ELSE_at {P : Par} (hK : P.K = K0 P.w.params) : ∃ val, nsIn P.K mainGlobals (Str.ofString "PLACES_ELSE") = some (some val) ∧ ∀ X h, P.base.StaysIn h → (∀ b ∈ X, P.base.get? b = none) → Rel X h c_PLACES_ELSE val := by
  refine' globE_mk ?a ?b
  case a => rw [hK]; k_is
  case b => intro X h _ _; exact rv_int (x := none) (X := X) (h := h) _ _
theorem c_DIGITS_at {P : Par} (hK : P.K = K0 P.w.params) : ∃ val, nsIn P.K mainGlobals (Str.ofString "DIGITS") = some (some val) ∧ ∀ X h, P.base.StaysIn h → (∀ b ∈ X, P.base.get? b = none) → Rel X h c_DIGITS val := by
  refine' globE_mk ?a ?b
  case a => rw [hK]; k_is
  case b =>
    intro X h _ _
    have e : c_DIGITS = .str (Str.ofString "0123456789") := by exact congrArg D.str (show tx _ = Str.ofString "0123456789" by decide +kernel)
    rw [e]; exact rv_str (x := none) (X := X) (h := h) _ _
theorem c_SPACES_at {P : Par} (hK : P.K = K0 P.w.params) : ∃ val, nsIn P.K mainGlobals (Str.ofString "SPACES") = some (some val) ∧ ∀ X h, P.base.StaysIn h → (∀ b ∈ X, P.base.get? b = none) → Rel X h c_SPACES val := by
  refine' globE_mk ?a ?b
  case a => rw [hK]; k_is
  case b =>
    intro X h _ _
    have e : c_SPACES = .str (Str.ofString " \t\n\r") := by exact congrArg D.str (show tx _ = Str.ofString " \t\n\r" by decide +kernel)
    rw [e]; exact rv_str (x := none) (X := X) (h := h) _ _
theorem rel_pair {P : Par} {a : Addr} {o : Obj} {vs : Array Value} {n : Nat} {i j : Int} {t u : Tok} (hl : P.K.lookup a = some o) (hc : o.cls = .type "tuple") (hd : o.data = .seq vs n) (hv : vs.toList = [.int i t, .int j u]) :
    ∀ X h, P.base.StaysIn h → (∀ b ∈ X, P.base.get? b = none) → Rel X h (.tup [.int i, .int j]) (.ref a) := by
  intro X h hst hx
  have hb := P.X _ _ hl
  unfold Rel
  refine ⟨a, o, vs, n, rfl, fun m => ?_, hst _ _ hb, hc, hd, ?_⟩
  · rw [hx _ m] at hb; cases hb
  · rw [hv]; exact ⟨_, _, rfl, rv_int (x := none) (X := X) (h := h) _ _, _, _, rfl, rv_int (x := none) (X := X) (h := h) _ _, rfl⟩
theorem c_ZERO_at {P : Par} (hK : P.K = K0 P.w.params) : ∃ val, nsIn P.K mainGlobals (Str.ofString "ZERO") = some (some val) ∧ ∀ X h, P.base.StaysIn h → (∀ b ∈ X, P.base.get? b = none) → Rel X h c_ZERO val := by
  refine' globE_mk (val := .ref 71) ?a (rel_pair ?b ?c ?d ?e)
  case a => rw [hK]; k_is
  case b => rw [hK]; k_is
  case c => rfl
  case d => rfl
  case e => rfl
theorem c_ONE_at {P : Par} (hK : P.K = K0 P.w.params) : ∃ val, nsIn P.K mainGlobals (Str.ofString "ONE") = some (some val) ∧ ∀ X h, P.base.StaysIn h → (∀ b ∈ X, P.base.get? b = none) → Rel X h c_ONE val := by
  refine' globE_mk (val := .ref 72) ?a (rel_pair ?b ?c ?d ?e)
  case a => rw [hK]; k_is
  case b => rw [hK]; k_is
  case c => rfl
  case d => rfl
  case e => rfl
end
section
-- part O2
open PySem PySem.W PyProof.Rows PySem.Calls PySem.Builtin PySem.Builtin.Str PySem.Builtin.ObjectAttr
set_option maxHeartbeats 8000000
theorem closure_loop (env : Env) : ∀ (names : List (Str × NameKind)) (cs : List (Str × Addr)), (∀ y ∈ names, y.2 = .free → ∃ a, env.cells.lookup y.1 = some a) →
    ∃ cl, (forIn names cs (fun (x : Str × NameKind) (c : List (Str × Addr)) => (if (x.2 == NameKind.free) = true then do { let a ← cellOf env x.1; pure (ForInStep.yield ((x.1, a) :: c)) } else pure (ForInStep.yield c) : Sem _)) = (pure cl : Sem _)) ∧
      ∀ n, (names.any (fun y => y.2 == .free && y.1 == n) = true ∨ cs.lookup n = env.cells.lookup n) → cl.lookup n = env.cells.lookup n
  | [], cs, _ => ⟨cs, rfl, fun n h => h.elim (fun q => nomatch q) id⟩
  | (m, k) :: names, cs, h => by
    cases hk : (k == NameKind.free) with
    | false =>
      obtain ⟨cl, h1, h2⟩ := closure_loop env names cs fun y hy => h y (.tail _ hy)
      refine ⟨cl, ?_, fun n hn => h2 n ?_⟩
      · rw [List.forIn_cons]
        simp only [hk, Bool.false_eq_true, if_false, pure_bind]
        exact h1
      · rcases hn with hn | hn
        · rw [List.any_cons] at hn
          simp only [hk, Bool.false_and, Bool.false_or] at hn
          exact .inl hn
        · exact .inr hn
    | true =>
      have hkf : k = .free := by simpa using hk
      obtain ⟨a, ha⟩ := h (m, k) (.head _) hkf
      obtain ⟨cl, h1, h2⟩ := closure_loop env names ((m, a) :: cs) fun y hy => h y (.tail _ hy)
      refine ⟨cl, ?_, fun n hn => h2 n ?_⟩
      · rw [List.forIn_cons]
        have : cellOf env m = pure a := by unfold cellOf; rw [ha]
        simp only [hk, if_true, this, pure_bind]
        exact h1
      · by_cases e : n = m
        · subst e
          right
          rw [ha, List.lookup_cons_self]
        · have e' : (n == m) = false := beq_eq_false_iff_ne.mpr e
          have e2 : (m == n) = false := beq_eq_false_iff_ne.mpr (Ne.symm e)
          rcases hn with hn | hn
          · rw [List.any_cons] at hn
            simp only [e2, Bool.and_false, Bool.false_or] at hn
            exact .inl hn
          · right; rw [List.lookup_cons, e']; exact hn
theorem closure_ok {scope : Scope} {env : Env} (h : ∀ y ∈ scope.names, y.2 = .free → ∃ a, env.cells.lookup y.1 = some a) :
    ∃ cl, closureFor scope env = pure cl ∧ ∀ n, scope.names.any (fun y => y.2 == .free && y.1 == n) = true → cl.lookup n = env.cells.lookup n := by
  obtain ⟨cl, h1, h2⟩ := closure_loop env scope.names [] h
  refine ⟨cl, ?_, fun n hn => h2 n (.inl hn)⟩
  unfold closureFor
  refine Eq.trans ?_ h1
  exact bind_pure _
noncomputable def compOk (sc scope : Scope) (xn : Str) (frees : List (Str × Nat)) (ns : List Str) : Bool :=
  scope.kind == .function && scope.names.all (fun y => !(y.2 == .local) || scope.names.lookup y.1 == some .local) && scope.names.all (fun y => !(y.2 == .cell)) &&
  (relab scope sc).names.lookup xn == some .local && scope.names.all (fun y => !(y.2 == .free) || frees.any (fun q => q.1 == y.1)) &&
  frees.all (fun q => ns[q.2]? == some q.1 && !(sc.names.lookup q.1 == some .local) && ((relab scope sc).names.lookup q.1 == some .cell || (relab scope sc).names.lookup q.1 == some .free) && scope.names.any (fun y => y.2 == .free && y.1 == q.1))
theorem compK {sc scope : Scope} {xn : Str} {frees : List (Str × Nat)} {ns : List Str} (h : compOk sc scope xn frees ns = true) (hk : sc.kind = .function) : CompK sc scope (relab scope sc) xn frees ns := by
  unfold compOk at h
  simp only [Bool.and_eq_true] at h
  obtain ⟨⟨⟨⟨⟨h1, h2⟩, h3⟩, h4⟩, h5⟩, h6⟩ := h
  have h1 : scope.kind = .function := by simpa using h1
  rw [List.all_eq_true] at h2 h3 h5 h6
  refine ⟨fun env hc => ?_, h1, h1, fun y hy e => ?_, fun y hy e => ?_, fun env e => ?_, by simpa using h4, fun q hq => ?_⟩
  · obtain ⟨cl, e1, e2⟩ := closure_ok (scope := scope) (env := env) fun y hy e => by
      have := h5 y hy
      rw [e] at this
      simp at this
      obtain ⟨a, hq⟩ := this
      obtain ⟨ad, e4⟩ := hc _ hq
      exact ⟨ad, e4⟩
    refine ⟨cl, e1, fun q hq => e2 _ ?_⟩
    have := h6 q hq
    simp only [Bool.and_eq_true] at this
    exact this.2
  · have := h2 y hy
    rw [e] at this
    simpa using this
  · have := h3 y hy
    rw [e] at this
    simp at this
  · subst e
    rfl
  · have := h6 q hq
    simp only [Bool.and_eq_true, Bool.or_eq_true] at this
    obtain ⟨⟨⟨e1, e2⟩, e3⟩, _⟩ := this
    refine ⟨by simpa using e1, fun z => ?_, ?_⟩
    · rw [z] at e2; simp at e2
    · rcases e3 with e3 | e3
      · exact .inl (by simpa using e3)
      · exact .inr (by simpa using e3)
theorem swap_folded {ts vs : List Expr} {k l : Nat} {tp vp : Pos} {env : Env} (hf : vs.all (foldedForSure 8) = true) : swappedStores [.Tuple ts k tp] (.Tuple vs l vp) env = pure none := by
  unfold swappedStores
  simp only [hf, if_true]
  repeat' split
  all_goals rfl
section
variable {es r : List Expr} {k : Nat} {p q : Pos} {env : Env}
theorem star_Tuple : starEach (.Tuple es k p :: r) env = (false, eval (.Tuple es k p) env) :: starEach r env := rfl
theorem star_List : starEach (.List es p :: r) env = (false, eval (.List es p) env) :: starEach r env := rfl
theorem star_Constant {c : Const} : starEach (.Constant c k p :: r) env = (false, eval (.Constant c k p) env) :: starEach r env := rfl
theorem star_Name {n : Str} : starEach (.Name n p :: r) env = (false, eval (.Name n p) env) :: starEach r env := rfl
theorem star_UnaryOp {o : UnaryOp} {e : Expr} : starEach (.UnaryOp o e p :: r) env = (false, eval (.UnaryOp o e p) env) :: starEach r env := rfl
theorem pl_nil : (backTo p (starEach [] env)).any (·.1) = false := rfl
theorem pl_cons {e : Expr} (hs : ∀ env, starEach (e :: r) env = (false, eval e env) :: starEach r env) (h : ∀ env, (backTo p (starEach r env)).any (·.1) = false) : ∀ env, (backTo p (starEach (e :: r) env)).any (·.1) = false := fun env => by
  rw [hs]; exact h env
end
end
section
-- part O3
open PySem PySem.W PyProof.Rows PySem.Calls PySem.Builtin PySem.Builtin.Str PySem.Builtin.ObjectAttr
set_option maxHeartbeats 8000000
theorem fill_O3 (w : World) : K0 w.params = K0 w.params ∧ PySem.Challenge.rw_nu0033_01.row.prog = PySem.Challenge.rw_nu0033_01.row.prog := by
  k_fill
  exact ⟨rfl, rfl⟩
theorem ok_fraction {P : Par} (hK : P.K = K0 P.w.params) : Ok P 4 (.ref 87) S_fraction := by
  refine' Ok.mono (Ok.pure (ok_def (d := 3) (ns := [Str.ofString "top", Str.ofString "bottom", Str.ofString "common"]) (ps := [Str.ofString "top", Str.ofString "bottom"]) (p := p_fraction) ?D ?hb ?h1 ?h2 ?h3 ?h4 ?h5 ?h6 ?h7)) vc_fraction
  case D =>
    rw [hK]
    refine' defK_mk ?a ?b ?c
    case a => k_is
    case b => k_is
    case c =>
      intro s vs hX hl
      match vs, hl with
      | [v0, v1], _ => exact binds_K hX rfl (by k_is) rfl rfl rfl
  case hb => exact (ss_cons (s_if (sound_cmpT eq_sound (sound_loc (i := 1) rfl rfl rfl) sound_int rfl) (ss_cons (s_raise (x_NumberFault hK) (mk_NumberFault hK) (by decide) (g_NumberFault hK) (k_NumberFault hK) rfl rfl sound_str (fun _ => rfl)) ss_nil) ss_nil) (ss_cons (s_if (sound_cmpT lt_sound (sound_loc (i := 1) rfl rfl rfl) sound_int rfl) (ss_cons (s_swp (is := [0, 1]) (names := [Str.ofString "top", Str.ofString "bottom"]) (sound_tup (sound_args_cons (sound_neg (sound_loc (i := 0) rfl rfl rfl)) (sound_args_cons (sound_neg (sound_loc (i := 1) rfl rfl rfl)) sound_args_nil (fun _ => star_UnaryOp)) (fun _ => star_UnaryOp))) (by decide) (fun _ _ => (Stores.cons (n := Str.ofString "bottom") (fun _ _ _ _ _ _ h => wpAny_bindName h) rfl rfl (Stores.cons (n := Str.ofString "top") (fun _ _ _ _ _ _ h => wpAny_bindName h) rfl rfl Stores.nil))) (fun _ => rfl) (fun env he => by cases env; cases he; rfl)) ss_nil) ss_nil) (ss_cons (s_asg (i := 2) (sound_call (g_common_divisor hK) rfl (k_common_divisor hK) (ok_common_divisor hK) (by decide) (sound_args_cons (sound_loc (i := 0) rfl rfl rfl) (sound_args_cons (sound_loc (i := 1) rfl rfl rfl) sound_args_nil (fun _ => star_Name)) (fun _ => star_Name)) (fun _ => star_Name) (pl_cons (fun _ => star_Name) (fun _ => pl_nil)) rfl) rfl rfl (by decide) (fun _ => rfl)) (ss_cons (s_ret (sound_tup (sound_args_cons (sound_bin div_sound (sound_loc (i := 0) rfl rfl rfl) (sound_loc (i := 2) rfl rfl rfl)) (sound_args_cons (sound_bin div_sound (sound_loc (i := 1) rfl rfl rfl) (sound_loc (i := 2) rfl rfl rfl)) sound_args_nil (fun _ => rfl)) (fun _ => rfl)))) ss_nil))))
  case h1 => exact kinds_of rfl
  case h2 => exact prefix_of rfl
  case h3 => decide
  case h4 => decide
  case h5 => rfl
  case h6 => rfl
  case h7 => rfl
theorem ok_plus {P : Par} (hK : P.K = K0 P.w.params) : Ok P 5 (.ref 94) S_plus := by
  refine' Ok.mono (Ok.pure (ok_def (d := 4) (ns := [Str.ofString "a", Str.ofString "b"]) (ps := [Str.ofString "a", Str.ofString "b"]) (p := p_plus) ?D ?hb ?h1 ?h2 ?h3 ?h4 ?h5 ?h6 ?h7)) vc_plus
  case D =>
    rw [hK]
    refine' defK_mk ?a ?b ?c
    case a => k_is
    case b => k_is
    case c =>
      intro s vs hX hl
      obtain ⟨v0, v1, rfl⟩ := len2 hl
      exact BindsTo.of_eq rfl
  case hb => exact (ss_cons (s_ret (sound_call (g_fraction hK) rfl (k_fraction hK) (ok_fraction hK) (by decide) (sound_args_cons (sound_bin add_sound (sound_bin mul_sound (sound_idx (sound_loc (i := 0) rfl rfl rfl) sound_int (fun _ _ => rfl)) (sound_idx (sound_loc (i := 1) rfl rfl rfl) sound_int (fun _ _ => rfl))) (sound_bin mul_sound (sound_idx (sound_loc (i := 1) rfl rfl rfl) sound_int (fun _ _ => rfl)) (sound_idx (sound_loc (i := 0) rfl rfl rfl) sound_int (fun _ _ => rfl)))) (sound_args_cons (sound_bin mul_sound (sound_idx (sound_loc (i := 0) rfl rfl rfl) sound_int (fun _ _ => rfl)) (sound_idx (sound_loc (i := 1) rfl rfl rfl) sound_int (fun _ _ => rfl))) sound_args_nil (fun _ => rfl)) (fun _ => rfl)) (fun _ => rfl) (pl_cons (fun _ => rfl) (fun _ => pl_nil)) rfl)) ss_nil)
  case h1 => exact kinds_of rfl
  case h2 => exact prefix_of rfl
  case h3 => decide
  case h4 => decide
  case h5 => rfl
  case h6 => rfl
  case h7 => rfl
theorem ok_minus {P : Par} (hK : P.K = K0 P.w.params) : Ok P 5 (.ref 101) S_minus := by
  refine' Ok.mono (Ok.pure (ok_def (d := 4) (ns := [Str.ofString "a", Str.ofString "b"]) (ps := [Str.ofString "a", Str.ofString "b"]) (p := p_minus) ?D ?hb ?h1 ?h2 ?h3 ?h4 ?h5 ?h6 ?h7)) vc_minus
  case D =>
    rw [hK]
    refine' defK_mk ?a ?b ?c
    case a => k_is
    case b => k_is
    case c =>
      intro s vs hX hl
      obtain ⟨v0, v1, rfl⟩ := len2 hl
      exact BindsTo.of_eq rfl
  case hb => exact (ss_cons (s_ret (sound_call (g_fraction hK) rfl (k_fraction hK) (ok_fraction hK) (by decide) (sound_args_cons (sound_bin sub_sound (sound_bin mul_sound (sound_idx (sound_loc (i := 0) rfl rfl rfl) sound_int (fun _ _ => rfl)) (sound_idx (sound_loc (i := 1) rfl rfl rfl) sound_int (fun _ _ => rfl))) (sound_bin mul_sound (sound_idx (sound_loc (i := 1) rfl rfl rfl) sound_int (fun _ _ => rfl)) (sound_idx (sound_loc (i := 0) rfl rfl rfl) sound_int (fun _ _ => rfl)))) (sound_args_cons (sound_bin mul_sound (sound_idx (sound_loc (i := 0) rfl rfl rfl) sound_int (fun _ _ => rfl)) (sound_idx (sound_loc (i := 1) rfl rfl rfl) sound_int (fun _ _ => rfl))) sound_args_nil (fun _ => rfl)) (fun _ => rfl)) (fun _ => rfl) (pl_cons (fun _ => rfl) (fun _ => pl_nil)) rfl)) ss_nil)
  case h1 => exact kinds_of rfl
  case h2 => exact prefix_of rfl
  case h3 => decide
  case h4 => decide
  case h5 => rfl
  case h6 => rfl
  case h7 => rfl
theorem ok_times {P : Par} (hK : P.K = K0 P.w.params) : Ok P 5 (.ref 108) S_times := by
  refine' Ok.mono (Ok.pure (ok_def (d := 4) (ns := [Str.ofString "a", Str.ofString "b"]) (ps := [Str.ofString "a", Str.ofString "b"]) (p := p_times) ?D ?hb ?h1 ?h2 ?h3 ?h4 ?h5 ?h6 ?h7)) vc_times
  case D =>
    rw [hK]
    refine' defK_mk ?a ?b ?c
    case a => k_is
    case b => k_is
    case c =>
      intro s vs hX hl
      obtain ⟨v0, v1, rfl⟩ := len2 hl
      exact BindsTo.of_eq rfl
  case hb => exact (ss_cons (s_ret (sound_call (g_fraction hK) rfl (k_fraction hK) (ok_fraction hK) (by decide) (sound_args_cons (sound_bin mul_sound (sound_idx (sound_loc (i := 0) rfl rfl rfl) sound_int (fun _ _ => rfl)) (sound_idx (sound_loc (i := 1) rfl rfl rfl) sound_int (fun _ _ => rfl))) (sound_args_cons (sound_bin mul_sound (sound_idx (sound_loc (i := 0) rfl rfl rfl) sound_int (fun _ _ => rfl)) (sound_idx (sound_loc (i := 1) rfl rfl rfl) sound_int (fun _ _ => rfl))) sound_args_nil (fun _ => rfl)) (fun _ => rfl)) (fun _ => rfl) (pl_cons (fun _ => rfl) (fun _ => pl_nil)) rfl)) ss_nil)
  case h1 => exact kinds_of rfl
  case h2 => exact prefix_of rfl
  case h3 => decide
  case h4 => decide
  case h5 => rfl
  case h6 => rfl
  case h7 => rfl
theorem ok_divided {P : Par} (hK : P.K = K0 P.w.params) : Ok P 5 (.ref 115) S_divided := by
  refine' Ok.mono (Ok.pure (ok_def (d := 4) (ns := [Str.ofString "a", Str.ofString "b"]) (ps := [Str.ofString "a", Str.ofString "b"]) (p := p_divided) ?D ?hb ?h1 ?h2 ?h3 ?h4 ?h5 ?h6 ?h7)) vc_divided
  case D =>
    rw [hK]
    refine' defK_mk ?a ?b ?c
    case a => k_is
    case b => k_is
    case c =>
      intro s vs hX hl
      obtain ⟨v0, v1, rfl⟩ := len2 hl
      exact BindsTo.of_eq rfl
  case hb => exact (ss_cons (s_if (sound_cmpT eq_sound (sound_idx (sound_loc (i := 1) rfl rfl rfl) sound_int (fun _ _ => rfl)) sound_int rfl) (ss_cons (s_raise (x_NumberFault hK) (mk_NumberFault hK) (by decide) (g_NumberFault hK) (k_NumberFault hK) rfl rfl sound_str (fun _ => rfl)) ss_nil) ss_nil) (ss_cons (s_ret (sound_call (g_fraction hK) rfl (k_fraction hK) (ok_fraction hK) (by decide) (sound_args_cons (sound_bin mul_sound (sound_idx (sound_loc (i := 0) rfl rfl rfl) sound_int (fun _ _ => rfl)) (sound_idx (sound_loc (i := 1) rfl rfl rfl) sound_int (fun _ _ => rfl))) (sound_args_cons (sound_bin mul_sound (sound_idx (sound_loc (i := 0) rfl rfl rfl) sound_int (fun _ _ => rfl)) (sound_idx (sound_loc (i := 1) rfl rfl rfl) sound_int (fun _ _ => rfl))) sound_args_nil (fun _ => rfl)) (fun _ => rfl)) (fun _ => rfl) (pl_cons (fun _ => rfl) (fun _ => pl_nil)) rfl)) ss_nil))
  case h1 => exact kinds_of rfl
  case h2 => exact prefix_of rfl
  case h3 => decide
  case h4 => decide
  case h5 => rfl
  case h6 => rfl
  case h7 => rfl
theorem ok_negated {P : Par} (hK : P.K = K0 P.w.params) : Ok P 3 (.ref 122) S_negated := by
  refine' Ok.mono (Ok.pure (ok_def (d := 2) (ns := [Str.ofString "a"]) (ps := [Str.ofString "a"]) (p := p_negated) ?D ?hb ?h1 ?h2 ?h3 ?h4 ?h5 ?h6 ?h7)) vc_negated
  case D =>
    rw [hK]
    refine' defK_mk ?a ?b ?c
    case a => k_is
    case b => k_is
    case c =>
      intro s vs hX hl
      obtain ⟨v0, rfl⟩ := len1 hl
      exact BindsTo.of_eq rfl
  case hb => exact (ss_cons (s_ret (sound_tup (sound_args_cons (sound_neg (sound_idx (sound_loc (i := 0) rfl rfl rfl) sound_int (fun _ _ => rfl))) (sound_args_cons (sound_idx (sound_loc (i := 0) rfl rfl rfl) sound_int (fun _ _ => rfl)) sound_args_nil (fun _ => rfl)) (fun _ => star_UnaryOp)))) ss_nil)
  case h1 => exact kinds_of rfl
  case h2 => exact prefix_of rfl
  case h3 => decide
  case h4 => decide
  case h5 => rfl
  case h6 => rfl
  case h7 => rfl
theorem ok_rounded {P : Par} (hK : P.K = K0 P.w.params) : Ok P 3 (.ref 150) S_rounded := by
  refine' Ok.mono (Ok.pure (ok_def (d := 2) (ns := [Str.ofString "a"]) (ps := [Str.ofString "a"]) (p := p_rounded) ?D ?hb ?h1 ?h2 ?h3 ?h4 ?h5 ?h6 ?h7)) vc_rounded
  case D =>
    rw [hK]
    refine' defK_mk ?a ?b ?c
    case a => k_is
    case b => k_is
    case c =>
      intro s vs hX hl
      obtain ⟨v0, rfl⟩ := len1 hl
      exact BindsTo.of_eq rfl
  case hb => exact (ss_cons (s_ret (sound_bin div_sound (sound_bin add_sound (sound_bin mul_sound sound_int (sound_idx (sound_loc (i := 0) rfl rfl rfl) sound_int (fun _ _ => rfl))) (sound_idx (sound_loc (i := 0) rfl rfl rfl) sound_int (fun _ _ => rfl))) (sound_bin mul_sound sound_int (sound_idx (sound_loc (i := 0) rfl rfl rfl) sound_int (fun _ _ => rfl))))) ss_nil)
  case h1 => exact kinds_of rfl
  case h2 => exact prefix_of rfl
  case h3 => decide
  case h4 => decide
  case h5 => rfl
  case h6 => rfl
  case h7 => rfl
theorem ok_identity {P : Par} (hK : P.K = K0 P.w.params) : Ok P 3 (.ref 344) S_identity := by
  refine' Ok.mono (Ok.pure (ok_def (d := 2) (ns := []) (ps := []) (p := p_identity) ?D ?hb ?h1 ?h2 ?h3 ?h4 ?h5 ?h6 ?h7)) vc_identity
  case D =>
    rw [hK]
    refine' defK_mk ?a ?b ?c
    case a => k_is
    case b => k_is
    case c =>
      intro s vs hX hl
      cases len0 hl
      exact BindsTo.of_eq rfl
  case hb => exact (ss_cons (s_ret (sound_call (g_Matrix hK) rfl (k_Matrix hK) (ok_Matrix hK) (by decide) (sound_args_cons (sound_globE (c_ONE_at hK) rfl rfl) (sound_args_cons (sound_globE (c_ZERO_at hK) rfl rfl) (sound_args_cons (sound_globE (c_ZERO_at hK) rfl rfl) (sound_args_cons (sound_globE (c_ONE_at hK) rfl rfl) (sound_args_cons (sound_globE (c_ZERO_at hK) rfl rfl) (sound_args_cons (sound_globE (c_ZERO_at hK) rfl rfl) sound_args_nil (fun _ => star_Name)) (fun _ => star_Name)) (fun _ => star_Name)) (fun _ => star_Name)) (fun _ => star_Name)) (fun _ => star_Name)) (fun _ => star_Name) (pl_cons (fun _ => star_Name) (pl_cons (fun _ => star_Name) (pl_cons (fun _ => star_Name) (pl_cons (fun _ => star_Name) (pl_cons (fun _ => star_Name) (fun _ => pl_nil)))))) rfl)) ss_nil)
  case h1 => exact kinds_of rfl
  case h2 => exact prefix_of rfl
  case h3 => decide
  case h4 => decide
  case h5 => rfl
  case h6 => rfl
  case h7 => rfl
theorem ok_translation {P : Par} (hK : P.K = K0 P.w.params) : Ok P 3 (.ref 351) S_translation := by
  refine' Ok.mono (Ok.pure (ok_def (d := 2) (ns := [Str.ofString "x", Str.ofString "y"]) (ps := [Str.ofString "x", Str.ofString "y"]) (p := p_translation) ?D ?hb ?h1 ?h2 ?h3 ?h4 ?h5 ?h6 ?h7)) vc_translation
  case D =>
    rw [hK]
    refine' defK_mk ?a ?b ?c
    case a => k_is
    case b => k_is
    case c =>
      intro s vs hX hl
      obtain ⟨v0, v1, rfl⟩ := len2 hl
      exact BindsTo.of_eq rfl
  case hb => exact (ss_cons (s_ret (sound_call (g_Matrix hK) rfl (k_Matrix hK) (ok_Matrix hK) (by decide) (sound_args_cons (sound_globE (c_ONE_at hK) rfl rfl) (sound_args_cons (sound_globE (c_ZERO_at hK) rfl rfl) (sound_args_cons (sound_globE (c_ZERO_at hK) rfl rfl) (sound_args_cons (sound_globE (c_ONE_at hK) rfl rfl) (sound_args_cons (sound_loc (i := 0) rfl rfl rfl) (sound_args_cons (sound_loc (i := 1) rfl rfl rfl) sound_args_nil (fun _ => star_Name)) (fun _ => star_Name)) (fun _ => star_Name)) (fun _ => star_Name)) (fun _ => star_Name)) (fun _ => star_Name)) (fun _ => star_Name) (pl_cons (fun _ => star_Name) (pl_cons (fun _ => star_Name) (pl_cons (fun _ => star_Name) (pl_cons (fun _ => star_Name) (pl_cons (fun _ => star_Name) (fun _ => pl_nil)))))) rfl)) ss_nil)
  case h1 => exact kinds_of rfl
  case h2 => exact prefix_of rfl
  case h3 => decide
  case h4 => decide
  case h5 => rfl
  case h6 => rfl
  case h7 => rfl
theorem ok_scaling {P : Par} (hK : P.K = K0 P.w.params) : Ok P 3 (.ref 358) S_scaling := by
  refine' Ok.mono (Ok.pure (ok_def (d := 2) (ns := [Str.ofString "x", Str.ofString "y"]) (ps := [Str.ofString "x", Str.ofString "y"]) (p := p_scaling) ?D ?hb ?h1 ?h2 ?h3 ?h4 ?h5 ?h6 ?h7)) vc_scaling
  case D =>
    rw [hK]
    refine' defK_mk ?a ?b ?c
    case a => k_is
    case b => k_is
    case c =>
      intro s vs hX hl
      obtain ⟨v0, v1, rfl⟩ := len2 hl
      exact BindsTo.of_eq rfl
  case hb => exact (ss_cons (s_ret (sound_call (g_Matrix hK) rfl (k_Matrix hK) (ok_Matrix hK) (by decide) (sound_args_cons (sound_loc (i := 0) rfl rfl rfl) (sound_args_cons (sound_globE (c_ZERO_at hK) rfl rfl) (sound_args_cons (sound_globE (c_ZERO_at hK) rfl rfl) (sound_args_cons (sound_loc (i := 1) rfl rfl rfl) (sound_args_cons (sound_globE (c_ZERO_at hK) rfl rfl) (sound_args_cons (sound_globE (c_ZERO_at hK) rfl rfl) sound_args_nil (fun _ => star_Name)) (fun _ => star_Name)) (fun _ => star_Name)) (fun _ => star_Name)) (fun _ => star_Name)) (fun _ => star_Name)) (fun _ => star_Name) (pl_cons (fun _ => star_Name) (pl_cons (fun _ => star_Name) (pl_cons (fun _ => star_Name) (pl_cons (fun _ => star_Name) (pl_cons (fun _ => star_Name) (fun _ => pl_nil)))))) rfl)) ss_nil)
  case h1 => exact kinds_of rfl
  case h2 => exact prefix_of rfl
  case h3 => decide
  case h4 => decide
  case h5 => rfl
  case h6 => rfl
  case h7 => rfl
theorem ok_Matrix_row {P : Par} (hK : P.K = K0 P.w.params) : Ok P 3 (.ref 295) S_Matrix_row := by
  refine' Ok.mono (Ok.pure (ok_def (d := 2) (ns := [Str.ofString "self"]) (ps := [Str.ofString "self"]) (p := p_Matrix_row) ?D ?hb ?h1 ?h2 ?h3 ?h4 ?h5 ?h6 ?h7)) vc_Matrix_row
  case D =>
    rw [hK]
    refine' defK_mk ?a ?b ?c
    case a => k_is
    case b => k_is
    case c =>
      intro s vs hX hl
      obtain ⟨v0, rfl⟩ := len1 hl
      exact BindsTo.of_eq rfl
  case hb => exact (ss_cons (s_ret (sound_tup (sound_args_cons (sound_fld (fMat_sound (kMat hK) (i := 0) rfl) (sound_loc (i := 0) rfl rfl rfl)) (sound_args_cons (sound_fld (fMat_sound (kMat hK) (i := 1) rfl) (sound_loc (i := 0) rfl rfl rfl)) (sound_args_cons (sound_fld (fMat_sound (kMat hK) (i := 2) rfl) (sound_loc (i := 0) rfl rfl rfl)) (sound_args_cons (sound_fld (fMat_sound (kMat hK) (i := 3) rfl) (sound_loc (i := 0) rfl rfl rfl)) (sound_args_cons (sound_fld (fMat_sound (kMat hK) (i := 4) rfl) (sound_loc (i := 0) rfl rfl rfl)) (sound_args_cons (sound_fld (fMat_sound (kMat hK) (i := 5) rfl) (sound_loc (i := 0) rfl rfl rfl)) sound_args_nil (fun _ => rfl)) (fun _ => rfl)) (fun _ => rfl)) (fun _ => rfl)) (fun _ => rfl)) (fun _ => rfl)))) ss_nil)
  case h1 => exact kinds_of rfl
  case h2 => exact prefix_of rfl
  case h3 => decide
  case h4 => decide
  case h5 => rfl
  case h6 => rfl
  case h7 => rfl
theorem ok_Matrix_vector {P : Par} (hK : P.K = K0 P.w.params) : Ok P 6 (.ref 302) S_Matrix_vector := by
  refine' Ok.mono (Ok.pure (ok_def (d := 5) (ns := [Str.ofString "self", Str.ofString "p", Str.ofString "x", Str.ofString "y"]) (ps := [Str.ofString "self", Str.ofString "p"]) (p := p_Matrix_vector) ?D ?hb ?h1 ?h2 ?h3 ?h4 ?h5 ?h6 ?h7)) vc_Matrix_vector
  case D =>
    rw [hK]
    refine' defK_mk ?a ?b ?c
    case a => k_is
    case b => k_is
    case c =>
      intro s vs hX hl
      obtain ⟨v0, v1, rfl⟩ := len2 hl
      exact BindsTo.of_eq rfl
  case hb => exact (ss_cons (s_unp (is := [2, 3]) (sound_loc (i := 1) rfl rfl rfl) (by decide) (fun _ _ => (Stores.cons (n := Str.ofString "x") (fun _ _ _ _ _ _ h => wpAny_assign_Name h) rfl rfl (Stores.cons (n := Str.ofString "y") (fun _ _ _ _ _ _ h => wpAny_assign_Name h) rfl rfl Stores.nil))) (fun _ => rfl) (fun _ => rfl) (fun _ => rfl)) (ss_cons (s_ret (sound_tup (sound_args_cons (sound_call (g_plus hK) rfl (k_plus hK) (ok_plus hK) (by decide) (sound_args_cons (sound_call (g_times hK) rfl (k_times hK) (ok_times hK) (by decide) (sound_args_cons (sound_fld (fMat_sound (kMat hK) (i := 0) rfl) (sound_loc (i := 0) rfl rfl rfl)) (sound_args_cons (sound_loc (i := 2) rfl rfl rfl) sound_args_nil (fun _ => star_Name)) (fun _ => rfl)) (fun _ => rfl) (pl_cons (fun _ => star_Name) (fun _ => pl_nil)) rfl) (sound_args_cons (sound_call (g_times hK) rfl (k_times hK) (ok_times hK) (by decide) (sound_args_cons (sound_fld (fMat_sound (kMat hK) (i := 2) rfl) (sound_loc (i := 0) rfl rfl rfl)) (sound_args_cons (sound_loc (i := 3) rfl rfl rfl) sound_args_nil (fun _ => star_Name)) (fun _ => rfl)) (fun _ => rfl) (pl_cons (fun _ => star_Name) (fun _ => pl_nil)) rfl) sound_args_nil (fun _ => rfl)) (fun _ => rfl)) (fun _ => rfl) (pl_cons (fun _ => rfl) (fun _ => pl_nil)) rfl) (sound_args_cons (sound_call (g_plus hK) rfl (k_plus hK) (ok_plus hK) (by decide) (sound_args_cons (sound_call (g_times hK) rfl (k_times hK) (ok_times hK) (by decide) (sound_args_cons (sound_fld (fMat_sound (kMat hK) (i := 1) rfl) (sound_loc (i := 0) rfl rfl rfl)) (sound_args_cons (sound_loc (i := 2) rfl rfl rfl) sound_args_nil (fun _ => star_Name)) (fun _ => rfl)) (fun _ => rfl) (pl_cons (fun _ => star_Name) (fun _ => pl_nil)) rfl) (sound_args_cons (sound_call (g_times hK) rfl (k_times hK) (ok_times hK) (by decide) (sound_args_cons (sound_fld (fMat_sound (kMat hK) (i := 3) rfl) (sound_loc (i := 0) rfl rfl rfl)) (sound_args_cons (sound_loc (i := 3) rfl rfl rfl) sound_args_nil (fun _ => star_Name)) (fun _ => rfl)) (fun _ => rfl) (pl_cons (fun _ => star_Name) (fun _ => pl_nil)) rfl) sound_args_nil (fun _ => rfl)) (fun _ => rfl)) (fun _ => rfl) (pl_cons (fun _ => rfl) (fun _ => pl_nil)) rfl) sound_args_nil (fun _ => rfl)) (fun _ => rfl)))) ss_nil))
  case h1 => exact kinds_of rfl
  case h2 => exact prefix_of rfl
  case h3 => decide
  case h4 => decide
  case h5 => rfl
  case h6 => rfl
  case h7 => rfl
theorem ok_Matrix_point {P : Par} (hK : P.K = K0 P.w.params) : Ok P 7 (.ref 309) S_Matrix_point := by
  refine' Ok.mono (Ok.pure (ok_def (d := 6) (ns := [Str.ofString "self", Str.ofString "p", Str.ofString "x", Str.ofString "y"]) (ps := [Str.ofString "self", Str.ofString "p"]) (p := p_Matrix_point) ?D ?hb ?h1 ?h2 ?h3 ?h4 ?h5 ?h6 ?h7)) vc_Matrix_point
  case D =>
    rw [hK]
    refine' defK_mk ?a ?b ?c
    case a => k_is
    case b => k_is
    case c =>
      intro s vs hX hl
      obtain ⟨v0, v1, rfl⟩ := len2 hl
      exact BindsTo.of_eq rfl
  case hb => exact (ss_cons (s_unp (is := [2, 3]) (sound_meth (m_Matrix_vector hK) (k_Matrix_vector hK) (ok_Matrix_vector hK) (by decide) (sound_loc (i := 0) rfl rfl rfl) (sound_args_cons (sound_loc (i := 1) rfl rfl rfl) sound_args_nil (fun _ => star_Name)) (fun _ => star_Name) (fun _ => pl_nil) (fun _ => rfl)) (by decide) (fun _ _ => (Stores.cons (n := Str.ofString "x") (fun _ _ _ _ _ _ h => wpAny_assign_Name h) rfl rfl (Stores.cons (n := Str.ofString "y") (fun _ _ _ _ _ _ h => wpAny_assign_Name h) rfl rfl Stores.nil))) (fun _ => rfl) (fun _ => rfl) (fun _ => rfl)) (ss_cons (s_ret (sound_tup (sound_args_cons (sound_call (g_plus hK) rfl (k_plus hK) (ok_plus hK) (by decide) (sound_args_cons (sound_loc (i := 2) rfl rfl rfl) (sound_args_cons (sound_fld (fMat_sound (kMat hK) (i := 4) rfl) (sound_loc (i := 0) rfl rfl rfl)) sound_args_nil (fun _ => rfl)) (fun _ => star_Name)) (fun _ => star_Name) (pl_cons (fun _ => rfl) (fun _ => pl_nil)) rfl) (sound_args_cons (sound_call (g_plus hK) rfl (k_plus hK) (ok_plus hK) (by decide) (sound_args_cons (sound_loc (i := 3) rfl rfl rfl) (sound_args_cons (sound_fld (fMat_sound (kMat hK) (i := 5) rfl) (sound_loc (i := 0) rfl rfl rfl)) sound_args_nil (fun _ => rfl)) (fun _ => star_Name)) (fun _ => star_Name) (pl_cons (fun _ => rfl) (fun _ => pl_nil)) rfl) sound_args_nil (fun _ => rfl)) (fun _ => rfl)))) ss_nil))
  case h1 => exact kinds_of rfl
  case h2 => exact prefix_of rfl
  case h3 => decide
  case h4 => decide
  case h5 => rfl
  case h6 => rfl
  case h7 => rfl
theorem ok_Matrix_then {P : Par} (hK : P.K = K0 P.w.params) : Ok P 8 (.ref 316) S_Matrix_then := by
  refine' Ok.mono (Ok.pure (ok_def (d := 7) (ns := [Str.ofString "self", Str.ofString "other", Str.ofString "a", Str.ofString "b", Str.ofString "c", Str.ofString "d", Str.ofString "e", Str.ofString "f"]) (ps := [Str.ofString "self", Str.ofString "other"]) (p := p_Matrix_then) ?D ?hb ?h1 ?h2 ?h3 ?h4 ?h5 ?h6 ?h7)) vc_Matrix_then
  case D =>
    rw [hK]
    refine' defK_mk ?a ?b ?c
    case a => k_is
    case b => k_is
    case c =>
      intro s vs hX hl
      obtain ⟨v0, v1, rfl⟩ := len2 hl
      exact BindsTo.of_eq rfl
  case hb => exact (ss_cons (s_unp (is := [2, 3]) (sound_meth (m_Matrix_vector hK) (k_Matrix_vector hK) (ok_Matrix_vector hK) (by decide) (sound_loc (i := 1) rfl rfl rfl) (sound_args_cons (sound_tup (sound_args_cons (sound_fld (fMat_sound (kMat hK) (i := 0) rfl) (sound_loc (i := 0) rfl rfl rfl)) (sound_args_cons (sound_fld (fMat_sound (kMat hK) (i := 1) rfl) (sound_loc (i := 0) rfl rfl rfl)) sound_args_nil (fun _ => rfl)) (fun _ => rfl))) sound_args_nil (fun _ => star_Tuple)) (fun _ => star_Tuple) (fun _ => pl_nil) (fun _ => rfl)) (by decide) (fun _ _ => (Stores.cons (n := Str.ofString "a") (fun _ _ _ _ _ _ h => wpAny_assign_Name h) rfl rfl (Stores.cons (n := Str.ofString "b") (fun _ _ _ _ _ _ h => wpAny_assign_Name h) rfl rfl Stores.nil))) (fun _ => rfl) (fun _ => rfl) (fun _ => rfl)) (ss_cons (s_unp (is := [4, 5]) (sound_meth (m_Matrix_vector hK) (k_Matrix_vector hK) (ok_Matrix_vector hK) (by decide) (sound_loc (i := 1) rfl rfl rfl) (sound_args_cons (sound_tup (sound_args_cons (sound_fld (fMat_sound (kMat hK) (i := 2) rfl) (sound_loc (i := 0) rfl rfl rfl)) (sound_args_cons (sound_fld (fMat_sound (kMat hK) (i := 3) rfl) (sound_loc (i := 0) rfl rfl rfl)) sound_args_nil (fun _ => rfl)) (fun _ => rfl))) sound_args_nil (fun _ => star_Tuple)) (fun _ => star_Tuple) (fun _ => pl_nil) (fun _ => rfl)) (by decide) (fun _ _ => (Stores.cons (n := Str.ofString "c") (fun _ _ _ _ _ _ h => wpAny_assign_Name h) rfl rfl (Stores.cons (n := Str.ofString "d") (fun _ _ _ _ _ _ h => wpAny_assign_Name h) rfl rfl Stores.nil))) (fun _ => rfl) (fun _ => rfl) (fun _ => rfl)) (ss_cons (s_unp (is := [6, 7]) (sound_meth (m_Matrix_point hK) (k_Matrix_point hK) (ok_Matrix_point hK) (by decide) (sound_loc (i := 1) rfl rfl rfl) (sound_args_cons (sound_tup (sound_args_cons (sound_fld (fMat_sound (kMat hK) (i := 4) rfl) (sound_loc (i := 0) rfl rfl rfl)) (sound_args_cons (sound_fld (fMat_sound (kMat hK) (i := 5) rfl) (sound_loc (i := 0) rfl rfl rfl)) sound_args_nil (fun _ => rfl)) (fun _ => rfl))) sound_args_nil (fun _ => star_Tuple)) (fun _ => star_Tuple) (fun _ => pl_nil) (fun _ => rfl)) (by decide) (fun _ _ => (Stores.cons (n := Str.ofString "e") (fun _ _ _ _ _ _ h => wpAny_assign_Name h) rfl rfl (Stores.cons (n := Str.ofString "f") (fun _ _ _ _ _ _ h => wpAny_assign_Name h) rfl rfl Stores.nil))) (fun _ => rfl) (fun _ => rfl) (fun _ => rfl)) (ss_cons (s_ret (sound_call (g_Matrix hK) rfl (k_Matrix hK) (ok_Matrix hK) (by decide) (sound_args_cons (sound_loc (i := 2) rfl rfl rfl) (sound_args_cons (sound_loc (i := 3) rfl rfl rfl) (sound_args_cons (sound_loc (i := 4) rfl rfl rfl) (sound_args_cons (sound_loc (i := 5) rfl rfl rfl) (sound_args_cons (sound_loc (i := 6) rfl rfl rfl) (sound_args_cons (sound_loc (i := 7) rfl rfl rfl) sound_args_nil (fun _ => star_Name)) (fun _ => star_Name)) (fun _ => star_Name)) (fun _ => star_Name)) (fun _ => star_Name)) (fun _ => star_Name)) (fun _ => star_Name) (pl_cons (fun _ => star_Name) (pl_cons (fun _ => star_Name) (pl_cons (fun _ => star_Name) (pl_cons (fun _ => star_Name) (pl_cons (fun _ => star_Name) (fun _ => pl_nil)))))) rfl)) ss_nil))))
  case h1 => exact kinds_of rfl
  case h2 => exact prefix_of rfl
  case h3 => decide
  case h4 => decide
  case h5 => rfl
  case h6 => rfl
  case h7 => rfl
theorem ok_Matrix_determinant {P : Par} (hK : P.K = K0 P.w.params) : Ok P 6 (.ref 323) S_Matrix_determinant := by
  refine' Ok.mono (Ok.pure (ok_def (d := 5) (ns := [Str.ofString "self"]) (ps := [Str.ofString "self"]) (p := p_Matrix_determinant) ?D ?hb ?h1 ?h2 ?h3 ?h4 ?h5 ?h6 ?h7)) vc_Matrix_determinant
  case D =>
    rw [hK]
    refine' defK_mk ?a ?b ?c
    case a => k_is
    case b => k_is
    case c =>
      intro s vs hX hl
      obtain ⟨v0, rfl⟩ := len1 hl
      exact BindsTo.of_eq rfl
  case hb => exact (ss_cons (s_ret (sound_call (g_minus hK) rfl (k_minus hK) (ok_minus hK) (by decide) (sound_args_cons (sound_call (g_times hK) rfl (k_times hK) (ok_times hK) (by decide) (sound_args_cons (sound_fld (fMat_sound (kMat hK) (i := 0) rfl) (sound_loc (i := 0) rfl rfl rfl)) (sound_args_cons (sound_fld (fMat_sound (kMat hK) (i := 3) rfl) (sound_loc (i := 0) rfl rfl rfl)) sound_args_nil (fun _ => rfl)) (fun _ => rfl)) (fun _ => rfl) (pl_cons (fun _ => rfl) (fun _ => pl_nil)) rfl) (sound_args_cons (sound_call (g_times hK) rfl (k_times hK) (ok_times hK) (by decide) (sound_args_cons (sound_fld (fMat_sound (kMat hK) (i := 1) rfl) (sound_loc (i := 0) rfl rfl rfl)) (sound_args_cons (sound_fld (fMat_sound (kMat hK) (i := 2) rfl) (sound_loc (i := 0) rfl rfl rfl)) sound_args_nil (fun _ => rfl)) (fun _ => rfl)) (fun _ => rfl) (pl_cons (fun _ => rfl) (fun _ => pl_nil)) rfl) sound_args_nil (fun _ => rfl)) (fun _ => rfl)) (fun _ => rfl) (pl_cons (fun _ => rfl) (fun _ => pl_nil)) rfl)) ss_nil)
  case h1 => exact kinds_of rfl
  case h2 => exact prefix_of rfl
  case h3 => decide
  case h4 => decide
  case h5 => rfl
  case h6 => rfl
  case h7 => rfl
theorem ok_Matrix_inverse {P : Par} (hK : P.K = K0 P.w.params) : Ok P 7 (.ref 330) S_Matrix_inverse := by
  refine' Ok.mono (Ok.pure (ok_def (d := 6) (ns := [Str.ofString "self", Str.ofString "whole", Str.ofString "turned", Str.ofString "e", Str.ofString "f"]) (ps := [Str.ofString "self"]) (p := p_Matrix_inverse) ?D ?hb ?h1 ?h2 ?h3 ?h4 ?h5 ?h6 ?h7)) vc_Matrix_inverse
  case D =>
    rw [hK]
    refine' defK_mk ?a ?b ?c
    case a => k_is
    case b => k_is
    case c =>
      intro s vs hX hl
      obtain ⟨v0, rfl⟩ := len1 hl
      exact BindsTo.of_eq rfl
  case hb => exact (ss_cons (s_asg (i := 1) (sound_meth0 (m_Matrix_determinant hK) (k_Matrix_determinant hK) (ok_Matrix_determinant hK) (by decide) (sound_loc (i := 0) rfl rfl rfl) (fun _ => rfl)) rfl rfl (by decide) (fun _ => rfl)) (ss_cons (s_if (sound_cmpT eq_sound (sound_idx (sound_loc (i := 1) rfl rfl rfl) sound_int (fun _ _ => rfl)) sound_int rfl) (ss_cons (s_raise (x_MatrixFault hK) (mk_MatrixFault hK) (by decide) (g_MatrixFault hK) (k_MatrixFault hK) rfl rfl sound_str (fun _ => rfl)) ss_nil) ss_nil) (ss_cons (s_asg (i := 2) (sound_call (g_Matrix hK) rfl (k_Matrix hK) (ok_Matrix hK) (by decide) (sound_args_cons (sound_call (g_divided hK) rfl (k_divided hK) (ok_divided hK) (by decide) (sound_args_cons (sound_fld (fMat_sound (kMat hK) (i := 3) rfl) (sound_loc (i := 0) rfl rfl rfl)) (sound_args_cons (sound_loc (i := 1) rfl rfl rfl) sound_args_nil (fun _ => star_Name)) (fun _ => rfl)) (fun _ => rfl) (pl_cons (fun _ => star_Name) (fun _ => pl_nil)) rfl) (sound_args_cons (sound_call (g_negated hK) rfl (k_negated hK) (ok_negated hK) (by decide) (sound_args_cons (sound_call (g_divided hK) rfl (k_divided hK) (ok_divided hK) (by decide) (sound_args_cons (sound_fld (fMat_sound (kMat hK) (i := 1) rfl) (sound_loc (i := 0) rfl rfl rfl)) (sound_args_cons (sound_loc (i := 1) rfl rfl rfl) sound_args_nil (fun _ => star_Name)) (fun _ => rfl)) (fun _ => rfl) (pl_cons (fun _ => star_Name) (fun _ => pl_nil)) rfl) sound_args_nil (fun _ => rfl)) (fun _ => rfl) (fun _ => pl_nil) rfl) (sound_args_cons (sound_call (g_negated hK) rfl (k_negated hK) (ok_negated hK) (by decide) (sound_args_cons (sound_call (g_divided hK) rfl (k_divided hK) (ok_divided hK) (by decide) (sound_args_cons (sound_fld (fMat_sound (kMat hK) (i := 2) rfl) (sound_loc (i := 0) rfl rfl rfl)) (sound_args_cons (sound_loc (i := 1) rfl rfl rfl) sound_args_nil (fun _ => star_Name)) (fun _ => rfl)) (fun _ => rfl) (pl_cons (fun _ => star_Name) (fun _ => pl_nil)) rfl) sound_args_nil (fun _ => rfl)) (fun _ => rfl) (fun _ => pl_nil) rfl) (sound_args_cons (sound_call (g_divided hK) rfl (k_divided hK) (ok_divided hK) (by decide) (sound_args_cons (sound_fld (fMat_sound (kMat hK) (i := 0) rfl) (sound_loc (i := 0) rfl rfl rfl)) (sound_args_cons (sound_loc (i := 1) rfl rfl rfl) sound_args_nil (fun _ => star_Name)) (fun _ => rfl)) (fun _ => rfl) (pl_cons (fun _ => star_Name) (fun _ => pl_nil)) rfl) (sound_args_cons (sound_globE (c_ZERO_at hK) rfl rfl) (sound_args_cons (sound_globE (c_ZERO_at hK) rfl rfl) sound_args_nil (fun _ => star_Name)) (fun _ => star_Name)) (fun _ => rfl)) (fun _ => rfl)) (fun _ => rfl)) (fun _ => rfl)) (fun _ => rfl) (pl_cons (fun _ => rfl) (pl_cons (fun _ => rfl) (pl_cons (fun _ => rfl) (pl_cons (fun _ => star_Name) (pl_cons (fun _ => star_Name) (fun _ => pl_nil)))))) rfl) rfl rfl (by decide) (fun _ => rfl)) (ss_cons (s_unp (is := [3, 4]) (sound_meth (m_Matrix_vector hK) (k_Matrix_vector hK) (ok_Matrix_vector hK) (by decide) (sound_loc (i := 2) rfl rfl rfl) (sound_args_cons (sound_tup (sound_args_cons (sound_fld (fMat_sound (kMat hK) (i := 4) rfl) (sound_loc (i := 0) rfl rfl rfl)) (sound_args_cons (sound_fld (fMat_sound (kMat hK) (i := 5) rfl) (sound_loc (i := 0) rfl rfl rfl)) sound_args_nil (fun _ => rfl)) (fun _ => rfl))) sound_args_nil (fun _ => star_Tuple)) (fun _ => star_Tuple) (fun _ => pl_nil) (fun _ => rfl)) (by decide) (fun _ _ => (Stores.cons (n := Str.ofString "e") (fun _ _ _ _ _ _ h => wpAny_assign_Name h) rfl rfl (Stores.cons (n := Str.ofString "f") (fun _ _ _ _ _ _ h => wpAny_assign_Name h) rfl rfl Stores.nil))) (fun _ => rfl) (fun _ => rfl) (fun _ => rfl)) (ss_cons (s_ret (sound_call (g_Matrix hK) rfl (k_Matrix hK) (ok_Matrix hK) (by decide) (sound_args_cons (sound_fld (fMat_sound (kMat hK) (i := 0) rfl) (sound_loc (i := 2) rfl rfl rfl)) (sound_args_cons (sound_fld (fMat_sound (kMat hK) (i := 1) rfl) (sound_loc (i := 2) rfl rfl rfl)) (sound_args_cons (sound_fld (fMat_sound (kMat hK) (i := 2) rfl) (sound_loc (i := 2) rfl rfl rfl)) (sound_args_cons (sound_fld (fMat_sound (kMat hK) (i := 3) rfl) (sound_loc (i := 2) rfl rfl rfl)) (sound_args_cons (sound_call (g_negated hK) rfl (k_negated hK) (ok_negated hK) (by decide) (sound_args_cons (sound_loc (i := 3) rfl rfl rfl) sound_args_nil (fun _ => star_Name)) (fun _ => star_Name) (fun _ => pl_nil) rfl) (sound_args_cons (sound_call (g_negated hK) rfl (k_negated hK) (ok_negated hK) (by decide) (sound_args_cons (sound_loc (i := 4) rfl rfl rfl) sound_args_nil (fun _ => star_Name)) (fun _ => star_Name) (fun _ => pl_nil) rfl) sound_args_nil (fun _ => rfl)) (fun _ => rfl)) (fun _ => rfl)) (fun _ => rfl)) (fun _ => rfl)) (fun _ => rfl)) (fun _ => rfl) (pl_cons (fun _ => rfl) (pl_cons (fun _ => rfl) (pl_cons (fun _ => rfl) (pl_cons (fun _ => rfl) (pl_cons (fun _ => rfl) (fun _ => pl_nil)))))) rfl)) ss_nil)))))
  case h1 => exact kinds_of rfl
  case h2 => exact prefix_of rfl
  case h3 => decide
  case h4 => decide
  case h5 => rfl
  case h6 => rfl
  case h7 => rfl
theorem ok_spot_of {P : Par} (hK : P.K = K0 P.w.params) : Ok P 8 (.ref 461) S_spot_of := by
  refine' Ok.mono (Ok.pure (ok_def (d := 7) (ns := [Str.ofString "matrix", Str.ofString "p", Str.ofString "grain", Str.ofString "x", Str.ofString "y"]) (ps := [Str.ofString "matrix", Str.ofString "p", Str.ofString "grain"]) (p := p_spot_of) ?D ?hb ?h1 ?h2 ?h3 ?h4 ?h5 ?h6 ?h7)) vc_spot_of
  case D =>
    rw [hK]
    refine' defK_mk ?a ?b ?c
    case a => k_is
    case b => k_is
    case c =>
      intro s vs hX hl
      obtain ⟨v0, v1, v2, rfl⟩ := len3 hl
      exact BindsTo.of_eq rfl
  case hb => exact (ss_cons (s_unp (is := [3, 4]) (sound_meth (m_Matrix_point hK) (k_Matrix_point hK) (ok_Matrix_point hK) (by decide) (sound_loc (i := 0) rfl rfl rfl) (sound_args_cons (sound_loc (i := 1) rfl rfl rfl) sound_args_nil (fun _ => star_Name)) (fun _ => star_Name) (fun _ => pl_nil) (fun _ => rfl)) (by decide) (fun _ _ => (Stores.cons (n := Str.ofString "x") (fun _ _ _ _ _ _ h => wpAny_assign_Name h) rfl rfl (Stores.cons (n := Str.ofString "y") (fun _ _ _ _ _ _ h => wpAny_assign_Name h) rfl rfl Stores.nil))) (fun _ => rfl) (fun _ => rfl) (fun _ => rfl)) (ss_cons (s_ret (sound_tup (sound_args_cons (sound_call (g_rounded hK) rfl (k_rounded hK) (ok_rounded hK) (by decide) (sound_args_cons (sound_call (g_times hK) rfl (k_times hK) (ok_times hK) (by decide) (sound_args_cons (sound_loc (i := 3) rfl rfl rfl) (sound_args_cons (sound_tup (sound_args_cons (sound_loc (i := 2) rfl rfl rfl) (sound_args_cons sound_int sound_args_nil (fun _ => star_Constant)) (fun _ => star_Name))) sound_args_nil (fun _ => star_Tuple)) (fun _ => star_Name)) (fun _ => star_Name) (pl_cons (fun _ => star_Tuple) (fun _ => pl_nil)) rfl) sound_args_nil (fun _ => rfl)) (fun _ => rfl) (fun _ => pl_nil) rfl) (sound_args_cons (sound_call (g_rounded hK) rfl (k_rounded hK) (ok_rounded hK) (by decide) (sound_args_cons (sound_call (g_times hK) rfl (k_times hK) (ok_times hK) (by decide) (sound_args_cons (sound_loc (i := 4) rfl rfl rfl) (sound_args_cons (sound_tup (sound_args_cons (sound_loc (i := 2) rfl rfl rfl) (sound_args_cons sound_int sound_args_nil (fun _ => star_Constant)) (fun _ => star_Name))) sound_args_nil (fun _ => star_Tuple)) (fun _ => star_Name)) (fun _ => star_Name) (pl_cons (fun _ => star_Tuple) (fun _ => pl_nil)) rfl) sound_args_nil (fun _ => rfl)) (fun _ => rfl) (fun _ => pl_nil) rfl) sound_args_nil (fun _ => rfl)) (fun _ => rfl)))) ss_nil))
  case h1 => exact kinds_of rfl
  case h2 => exact prefix_of rfl
  case h3 => decide
  case h4 => decide
  case h5 => rfl
  case h6 => rfl
  case h7 => rfl
end
section
-- part O4
open PySem PySem.W PyProof.Rows PySem.Calls PySem.Builtin PySem.Builtin.Str PySem.Builtin.ObjectAttr
set_option maxHeartbeats 8000000
theorem fill_O4 (w : World) : K0 w.params = K0 w.params ∧ PySem.Challenge.rw_nu0033_01.row.prog = PySem.Challenge.rw_nu0033_01.row.prog := by
  k_fill
  exact ⟨rfl, rfl⟩
theorem ok_NumberText_is_one_of {P : Par} (hK : P.K = K0 P.w.params) : Ok P 3 (.ref 171) S_NumberText_is_one_of := by
  refine' Ok.mono (Ok.id (ok_def (d := 2) (ns := [Str.ofString "self", Str.ofString "signs"]) (ps := [Str.ofString "self", Str.ofString "signs"]) (p := p_NumberText_is_one_of) ?D ?hb ?h1 ?h2 ?h3 ?h4 ?h5 ?h6 ?h7)) vc_NumberText_is_one_of
  case D =>
    rw [hK]
    refine' defK_mk ?a ?b ?c
    case a => k_is
    case b => k_is
    case c =>
      intro s vs hX hl
      obtain ⟨v0, v1, rfl⟩ := len2 hl
      exact BindsTo.of_eq rfl
  case hb => exact (ss_cons (s_ret (sound_andV (sound_cmp lt_sound (sound_fld (fAt_sound (kNum hK)) (sound_loc (i := 0) rfl rfl rfl)) (sound_callB (g_len hK) b_len (by decide) rfl len_ok (by decide) (sound_args_cons (sound_fld (fText_sound (kNum hK)) (sound_loc (i := 0) rfl rfl rfl)) sound_args_nil (fun _ => rfl)) (fun _ => rfl) (fun _ => pl_nil) rfl) rfl) (sound_cmp in_sound (sound_idx (sound_fld (fText_sound (kNum hK)) (sound_loc (i := 0) rfl rfl rfl)) (sound_fld (fAt_sound (kNum hK)) (sound_loc (i := 0) rfl rfl rfl)) (fun _ _ => rfl)) (sound_loc (i := 1) rfl rfl rfl) rfl))) ss_nil)
  case h1 => exact kinds_of rfl
  case h2 => exact prefix_of rfl
  case h3 => decide
  case h4 => decide
  case h5 => rfl
  case h6 => rfl
  case h7 => rfl
theorem ok_NumberText_skip {P : Par} (hK : P.K = K0 P.w.params) : Ok P 4 (.ref 178) S_NumberText_skip := by
  refine' Ok.mono (Ok.id (ok_def (d := 3) (ns := [Str.ofString "self", Str.ofString "signs"]) (ps := [Str.ofString "self", Str.ofString "signs"]) (p := p_NumberText_skip) ?D ?hb ?h1 ?h2 ?h3 ?h4 ?h5 ?h6 ?h7)) vc_NumberText_skip
  case D =>
    rw [hK]
    refine' defK_mk ?a ?b ?c
    case a => k_is
    case b => k_is
    case c =>
      intro s vs hX hl
      obtain ⟨v0, v1, rfl⟩ := len2 hl
      exact BindsTo.of_eq rfl
  case hb => exact (ss_cons (s_if (sound_not (sound_test (sound_meth (m_NumberText_is_one_of hK) (k_NumberText_is_one_of hK) (ok_NumberText_is_one_of hK) (by decide) (sound_loc (i := 0) rfl rfl rfl) (sound_args_cons (sound_loc (i := 1) rfl rfl rfl) sound_args_nil (fun _ => star_Name)) (fun _ => star_Name) (fun _ => pl_nil) (fun _ => rfl)) (fun _ _ => rfl))) (ss_cons (s_ret sound_str) ss_nil) ss_nil) (ss_cons (s_incAt (i := 0) (kNum hK) (setAt hK) (sound_loc (i := 0) rfl rfl rfl)) (ss_cons (s_ret (sound_idx (sound_fld (fText_sound (kNum hK)) (sound_loc (i := 0) rfl rfl rfl)) (sound_bin sub_sound (sound_fld (fAt_sound (kNum hK)) (sound_loc (i := 0) rfl rfl rfl)) sound_int) (fun _ _ => rfl))) ss_nil)))
  case h1 => exact kinds_of rfl
  case h2 => exact prefix_of rfl
  case h3 => decide
  case h4 => decide
  case h5 => rfl
  case h6 => rfl
  case h7 => rfl
theorem ok_NumberText_digits {P : Par} (hK : P.K = K0 P.w.params) : Ok P 4 (.ref 185) S_NumberText_digits := by
  refine' Ok.mono (Ok.id (ok_def (d := 3) (ns := [Str.ofString "self", Str.ofString "begin"]) (ps := [Str.ofString "self"]) (p := p_NumberText_digits) ?D ?hb ?h1 ?h2 ?h3 ?h4 ?h5 ?h6 ?h7)) vc_NumberText_digits
  case D =>
    rw [hK]
    refine' defK_mk ?a ?b ?c
    case a => k_is
    case b => k_is
    case c =>
      intro s vs hX hl
      obtain ⟨v0, rfl⟩ := len1 hl
      exact BindsTo.of_eq rfl
  case hb => exact (ss_cons (s_asg (i := 1) (sound_fld (fAt_sound (kNum hK)) (sound_loc (i := 0) rfl rfl rfl)) rfl rfl (by decide) (fun _ => rfl)) (ss_cons (s_while (sound_test (sound_meth (m_NumberText_is_one_of hK) (k_NumberText_is_one_of hK) (ok_NumberText_is_one_of hK) (by decide) (sound_loc (i := 0) rfl rfl rfl) (sound_args_cons (sound_globE (c_DIGITS_at hK) rfl rfl) sound_args_nil (fun _ => star_Name)) (fun _ => star_Name) (fun _ => pl_nil) (fun _ => rfl)) (fun _ _ => rfl)) (ss_cons (s_incAt (i := 0) (kNum hK) (setAt hK) (sound_loc (i := 0) rfl rfl rfl)) ss_nil)) (ss_cons (s_ret (sound_cut (sound_fld (fText_sound (kNum hK)) (sound_loc (i := 0) rfl rfl rfl)) (sound_o_some (sound_loc (i := 1) rfl rfl rfl)) (sound_o_some (sound_fld (fAt_sound (kNum hK)) (sound_loc (i := 0) rfl rfl rfl))))) ss_nil)))
  case h1 => exact kinds_of rfl
  case h2 => exact prefix_of rfl
  case h3 => decide
  case h4 => decide
  case h5 => rfl
  case h6 => rfl
  case h7 => rfl
theorem ok_whole_of {P : Par} (hK : P.K = K0 P.w.params) : Ok P 3 (.ref 199) S_whole_of := by
  refine' Ok.mono (Ok.pure (ok_def (d := 2) (ns := [Str.ofString "digits", Str.ofString "number", Str.ofString "digit"]) (ps := [Str.ofString "digits"]) (p := p_whole_of) ?D ?hb ?h1 ?h2 ?h3 ?h4 ?h5 ?h6 ?h7)) vc_whole_of
  case D =>
    rw [hK]
    refine' defK_mk ?a ?b ?c
    case a => k_is
    case b => k_is
    case c =>
      intro s vs hX hl
      obtain ⟨v0, rfl⟩ := len1 hl
      exact BindsTo.of_eq rfl
  case hb => exact (ss_cons (s_asg (i := 1) sound_int rfl rfl (by decide) (fun _ => rfl)) (ss_cons (s_for (sa_name (i := 2) rfl rfl (by decide)) (si_data (sound_loc (i := 0) rfl rfl rfl)) (ss_cons (s_asg (i := 1) (sound_bin add_sound (sound_bin mul_sound (sound_loc (i := 1) rfl rfl rfl) sound_int) (sound_methB getsM_index index_ok (by decide) (sound_globE (c_DIGITS_at hK) rfl rfl) (sound_args_cons (sound_loc (i := 2) rfl rfl rfl) sound_args_nil (fun _ => star_Name)) (fun _ => star_Name) (fun _ => pl_nil) (fun _ => rfl))) rfl rfl (by decide) (fun _ => rfl)) ss_nil) (fun _ _ => rfl)) (ss_cons (s_ret (sound_loc (i := 1) rfl rfl rfl)) ss_nil)))
  case h1 => exact kinds_of rfl
  case h2 => exact prefix_of rfl
  case h3 => decide
  case h4 => decide
  case h5 => rfl
  case h6 => rfl
  case h7 => rfl
theorem ok_read_exponent {P : Par} (hK : P.K = K0 P.w.params) : Ok P 5 (.ref 206) S_read_exponent := by
  refine' Ok.mono (Ok.id (ok_def (d := 4) (ns := [Str.ofString "reader", Str.ofString "sign", Str.ofString "digits"]) (ps := [Str.ofString "reader"]) (p := p_read_exponent) ?D ?hb ?h1 ?h2 ?h3 ?h4 ?h5 ?h6 ?h7)) vc_read_exponent
  case D =>
    rw [hK]
    refine' defK_mk ?a ?b ?c
    case a => k_is
    case b => k_is
    case c =>
      intro s vs hX hl
      obtain ⟨v0, rfl⟩ := len1 hl
      exact BindsTo.of_eq rfl
  case hb => exact (ss_cons (s_if (sound_cmpT eq_sound (sound_meth (m_NumberText_skip hK) (k_NumberText_skip hK) (ok_NumberText_skip hK) (by decide) (sound_loc (i := 0) rfl rfl rfl) (sound_args_cons sound_str sound_args_nil (fun _ => star_Constant)) (fun _ => star_Constant) (fun _ => pl_nil) (fun _ => rfl)) sound_str rfl) (ss_cons (s_ret sound_int) ss_nil) ss_nil) (ss_cons (s_swp (is := [1, 2]) (names := [Str.ofString "sign", Str.ofString "digits"]) (sound_tup (sound_args_cons (sound_meth (m_NumberText_skip hK) (k_NumberText_skip hK) (ok_NumberText_skip hK) (by decide) (sound_loc (i := 0) rfl rfl rfl) (sound_args_cons sound_str sound_args_nil (fun _ => star_Constant)) (fun _ => star_Constant) (fun _ => pl_nil) (fun _ => rfl)) (sound_args_cons (sound_meth0 (m_NumberText_digits hK) (k_NumberText_digits hK) (ok_NumberText_digits hK) (by decide) (sound_loc (i := 0) rfl rfl rfl) (fun _ => rfl)) sound_args_nil (fun _ => rfl)) (fun _ => rfl))) (by decide) (fun _ _ => (Stores.cons (n := Str.ofString "digits") (fun _ _ _ _ _ _ h => wpAny_bindName h) rfl rfl (Stores.cons (n := Str.ofString "sign") (fun _ _ _ _ _ _ h => wpAny_bindName h) rfl rfl Stores.nil))) (fun _ => rfl) (fun env he => by cases env; cases he; rfl)) (ss_cons (s_if (sound_orT3 (sound_cmpT eq_sound (sound_loc (i := 2) rfl rfl rfl) sound_str rfl) (sound_cmpT gt_sound (sound_callB (g_len hK) b_len (by decide) rfl len_ok (by decide) (sound_args_cons (sound_loc (i := 2) rfl rfl rfl) sound_args_nil (fun _ => star_Name)) (fun _ => star_Name) (fun _ => pl_nil) rfl) sound_int rfl) (sound_cmpT gt_sound (sound_call (g_whole_of hK) rfl (k_whole_of hK) (ok_whole_of hK) (by decide) (sound_args_cons (sound_loc (i := 2) rfl rfl rfl) sound_args_nil (fun _ => star_Name)) (fun _ => star_Name) (fun _ => pl_nil) rfl) (sound_globE (c_MOST_EXPONENT_at hK) rfl rfl) rfl)) (ss_cons (s_raise (x_NumberFault hK) (mk_NumberFault hK) (by decide) (g_NumberFault hK) (k_NumberFault hK) rfl rfl sound_str (fun _ => rfl)) ss_nil) ss_nil) (ss_cons (s_ret (sound_if (sound_cmpT eq_sound (sound_loc (i := 1) rfl rfl rfl) sound_str rfl) (sound_neg (sound_call (g_whole_of hK) rfl (k_whole_of hK) (ok_whole_of hK) (by decide) (sound_args_cons (sound_loc (i := 2) rfl rfl rfl) sound_args_nil (fun _ => star_Name)) (fun _ => star_Name) (fun _ => pl_nil) rfl)) (sound_call (g_whole_of hK) rfl (k_whole_of hK) (ok_whole_of hK) (by decide) (sound_args_cons (sound_loc (i := 2) rfl rfl rfl) sound_args_nil (fun _ => star_Name)) (fun _ => star_Name) (fun _ => pl_nil) rfl))) ss_nil))))
  case h1 => exact kinds_of rfl
  case h2 => exact prefix_of rfl
  case h3 => decide
  case h4 => decide
  case h5 => rfl
  case h6 => rfl
  case h7 => rfl
theorem ok_read_decimal {P : Par} (hK : P.K = K0 P.w.params) : Ok P 6 (.ref 213) S_read_decimal := by
  refine' Ok.mono (Ok.pure (ok_def (d := 5) (ns := [Str.ofString "text", Str.ofString "reader", Str.ofString "sign", Str.ofString "whole", Str.ofString "parts", Str.ofString "exponent", Str.ofString "number"]) (ps := [Str.ofString "text"]) (p := p_read_decimal) ?D ?hb ?h1 ?h2 ?h3 ?h4 ?h5 ?h6 ?h7)) vc_read_decimal
  case D =>
    rw [hK]
    refine' defK_mk ?a ?b ?c
    case a => k_is
    case b => k_is
    case c =>
      intro s vs hX hl
      obtain ⟨v0, rfl⟩ := len1 hl
      exact BindsTo.of_eq rfl
  case hb => exact (ss_cons (s_newRd (i := 1) (clsNum hK) (g_NumberText hK) (k_NumberText hK) rfl rfl (by decide) (sound_loc (i := 0) rfl rfl rfl) (fun _ => rfl) rfl rfl (by decide) (fun _ => rfl)) (ss_cons (s_swp (is := [2, 3, 4]) (names := [Str.ofString "sign", Str.ofString "whole", Str.ofString "parts"]) (sound_tup (sound_args_cons (sound_meth (m_NumberText_skip hK) (k_NumberText_skip hK) (ok_NumberText_skip hK) (by decide) (sound_loc (i := 1) rfl rfl rfl) (sound_args_cons sound_str sound_args_nil (fun _ => star_Constant)) (fun _ => star_Constant) (fun _ => pl_nil) (fun _ => rfl)) (sound_args_cons (sound_meth0 (m_NumberText_digits hK) (k_NumberText_digits hK) (ok_NumberText_digits hK) (by decide) (sound_loc (i := 1) rfl rfl rfl) (fun _ => rfl)) (sound_args_cons sound_str sound_args_nil (fun _ => star_Constant)) (fun _ => rfl)) (fun _ => rfl))) (by decide) (fun _ _ => (Stores.cons (n := Str.ofString "parts") (fun _ _ _ _ _ _ h => wpAny_bindName h) rfl rfl (Stores.cons (n := Str.ofString "whole") (fun _ _ _ _ _ _ h => wpAny_bindName h) rfl rfl (Stores.cons (n := Str.ofString "sign") (fun _ _ _ _ _ _ h => wpAny_bindName h) rfl rfl Stores.nil)))) (fun _ => rfl) (fun env he => by cases env; cases he; rfl)) (ss_cons (s_if (sound_cmpT ne_sound (sound_meth (m_NumberText_skip hK) (k_NumberText_skip hK) (ok_NumberText_skip hK) (by decide) (sound_loc (i := 1) rfl rfl rfl) (sound_args_cons sound_str sound_args_nil (fun _ => star_Constant)) (fun _ => star_Constant) (fun _ => pl_nil) (fun _ => rfl)) sound_str rfl) (ss_cons (s_asg (i := 4) (sound_meth0 (m_NumberText_digits hK) (k_NumberText_digits hK) (ok_NumberText_digits hK) (by decide) (sound_loc (i := 1) rfl rfl rfl) (fun _ => rfl)) rfl rfl (by decide) (fun _ => rfl)) ss_nil) ss_nil) (ss_cons (s_if (sound_cmpT eq_sound (sound_bin add_sound (sound_loc (i := 3) rfl rfl rfl) (sound_loc (i := 4) rfl rfl rfl)) sound_str rfl) (ss_cons (s_raise (x_NumberFault hK) (mk_NumberFault hK) (by decide) (g_NumberFault hK) (k_NumberFault hK) rfl rfl (sound_bin add_sound sound_str (sound_loc (i := 0) rfl rfl rfl)) (fun _ => rfl)) ss_nil) ss_nil) (ss_cons (s_asg (i := 5) (sound_bin sub_sound (sound_call (g_read_exponent hK) rfl (k_read_exponent hK) (ok_read_exponent hK) (by decide) (sound_args_cons (sound_loc (i := 1) rfl rfl rfl) sound_args_nil (fun _ => star_Name)) (fun _ => star_Name) (fun _ => pl_nil) rfl) (sound_callB (g_len hK) b_len (by decide) rfl len_ok (by decide) (sound_args_cons (sound_loc (i := 4) rfl rfl rfl) sound_args_nil (fun _ => star_Name)) (fun _ => star_Name) (fun _ => pl_nil) rfl)) rfl rfl (by decide) (fun _ => rfl)) (ss_cons (s_if (sound_cmpT lt_sound (sound_fld (fAt_sound (kNum hK)) (sound_loc (i := 1) rfl rfl rfl)) (sound_callB (g_len hK) b_len (by decide) rfl len_ok (by decide) (sound_args_cons (sound_loc (i := 0) rfl rfl rfl) sound_args_nil (fun _ => star_Name)) (fun _ => star_Name) (fun _ => pl_nil) rfl) rfl) (ss_cons (s_raise (x_NumberFault hK) (mk_NumberFault hK) (by decide) (g_NumberFault hK) (k_NumberFault hK) rfl rfl (sound_bin add_sound sound_str (sound_loc (i := 0) rfl rfl rfl)) (fun _ => rfl)) ss_nil) ss_nil) (ss_cons (s_asg (i := 6) (sound_call (g_whole_of hK) rfl (k_whole_of hK) (ok_whole_of hK) (by decide) (sound_args_cons (sound_bin add_sound (sound_loc (i := 3) rfl rfl rfl) (sound_loc (i := 4) rfl rfl rfl)) sound_args_nil (fun _ => rfl)) (fun _ => rfl) (fun _ => pl_nil) rfl) rfl rfl (by decide) (fun _ => rfl)) (ss_cons (s_if (sound_cmpT eq_sound (sound_loc (i := 2) rfl rfl rfl) sound_str rfl) (ss_cons (s_asg (i := 6) (sound_neg (sound_loc (i := 6) rfl rfl rfl)) rfl rfl (by decide) (fun _ => rfl)) ss_nil) ss_nil) (ss_cons (s_if (sound_cmpT lt_sound (sound_loc (i := 5) rfl rfl rfl) sound_int rfl) (ss_cons (s_ret (sound_call (g_fraction hK) rfl (k_fraction hK) (ok_fraction hK) (by decide) (sound_args_cons (sound_loc (i := 6) rfl rfl rfl) (sound_args_cons (sound_bin pow_sound sound_int (sound_neg (sound_loc (i := 5) rfl rfl rfl))) sound_args_nil (fun _ => rfl)) (fun _ => star_Name)) (fun _ => star_Name) (pl_cons (fun _ => rfl) (fun _ => pl_nil)) rfl)) ss_nil) ss_nil) (ss_cons (s_ret (sound_tup (sound_args_cons (sound_bin mul_sound (sound_loc (i := 6) rfl rfl rfl) (sound_bin pow_sound sound_int (sound_loc (i := 5) rfl rfl rfl))) (sound_args_cons sound_int sound_args_nil (fun _ => star_Constant)) (fun _ => rfl)))) ss_nil))))))))))
  case h1 => exact kinds_of rfl
  case h2 => exact prefix_of rfl
  case h3 => decide
  case h4 => decide
  case h5 => rfl
  case h6 => rfl
  case h7 => rfl
theorem ok_write_decimal {P : Par} (hK : P.K = K0 P.w.params) : Ok P 3 (.ref 221) S_write_decimal := by
  refine' Ok.mono (Ok.pure (ok_def (d := 2) (ns := [Str.ofString "a", Str.ofString "places", Str.ofString "scale", Str.ofString "scaled", Str.ofString "told", Str.ofString "rest", Str.ofString "parts"]) (ps := [Str.ofString "a", Str.ofString "places"]) (p := p_write_decimal) ?D ?hb ?h1 ?h2 ?h3 ?h4 ?h5 ?h6 ?h7)) vc_write_decimal
  case D =>
    rw [hK]
    refine' defK_mk ?a ?b ?c
    case a => k_is
    case b => k_is
    case c =>
      intro s vs hX hl
      match vs, hl with
      | [v0, v1], _ => exact binds_K hX rfl (by k_is) rfl rfl rfl
  case hb => exact (ss_cons (s_asg (i := 2) (sound_bin pow_sound sound_int (sound_loc (i := 1) rfl rfl rfl)) rfl rfl (by decide) (fun _ => rfl)) (ss_cons (s_asg (i := 3) (sound_bin div_sound (sound_bin add_sound (sound_bin mul_sound (sound_bin mul_sound sound_int (sound_callB (g_abs hK) b_abs (by decide) rfl abs_ok (by decide) (sound_args_cons (sound_idx (sound_loc (i := 0) rfl rfl rfl) sound_int (fun _ _ => rfl)) sound_args_nil (fun _ => rfl)) (fun _ => rfl) (fun _ => pl_nil) rfl)) (sound_loc (i := 2) rfl rfl rfl)) (sound_idx (sound_loc (i := 0) rfl rfl rfl) sound_int (fun _ _ => rfl))) (sound_bin mul_sound sound_int (sound_idx (sound_loc (i := 0) rfl rfl rfl) sound_int (fun _ _ => rfl)))) rfl rfl (by decide) (fun _ => rfl)) (ss_cons (s_swp (is := [4, 5]) (names := [Str.ofString "told", Str.ofString "rest"]) (sound_tup (sound_args_cons (sound_callT (g_str hK) b_str (by decide) rfl text_ok (by decide) (sound_args_cons (sound_bin div_sound (sound_loc (i := 3) rfl rfl rfl) (sound_loc (i := 2) rfl rfl rfl)) sound_args_nil (fun _ => rfl)) (fun _ => rfl) (fun _ => pl_nil) rfl) (sound_args_cons (sound_bin mod_sound (sound_loc (i := 3) rfl rfl rfl) (sound_loc (i := 2) rfl rfl rfl)) sound_args_nil (fun _ => rfl)) (fun _ => rfl))) (by decide) (fun _ _ => (Stores.cons (n := Str.ofString "rest") (fun _ _ _ _ _ _ h => wpAny_bindName h) rfl rfl (Stores.cons (n := Str.ofString "told") (fun _ _ _ _ _ _ h => wpAny_bindName h) rfl rfl Stores.nil))) (fun _ => rfl) (fun env he => by cases env; cases he; rfl)) (ss_cons (s_if (sound_cmpT gt_sound (sound_loc (i := 5) rfl rfl rfl) sound_int rfl) (ss_cons (s_asg (i := 6) (sound_cut (sound_callT (g_str hK) b_str (by decide) rfl text_ok (by decide) (sound_args_cons (sound_bin add_sound (sound_loc (i := 2) rfl rfl rfl) (sound_loc (i := 5) rfl rfl rfl)) sound_args_nil (fun _ => rfl)) (fun _ => rfl) (fun _ => pl_nil) rfl) (sound_o_some sound_int) sound_o_none) rfl rfl (by decide) (fun _ => rfl)) (ss_cons (s_while (sound_cmpT eq_sound (sound_idx (sound_loc (i := 6) rfl rfl rfl) (sound_neg sound_int) (fun _ _ => rfl)) sound_str rfl) (ss_cons (s_asg (i := 6) (sound_cut (sound_loc (i := 6) rfl rfl rfl) sound_o_none (sound_o_some (sound_neg sound_int))) rfl rfl (by decide) (fun _ => rfl)) ss_nil)) (ss_cons (s_asg (i := 4) (sound_bin add_sound (sound_bin add_sound (sound_loc (i := 4) rfl rfl rfl) sound_str) (sound_loc (i := 6) rfl rfl rfl)) rfl rfl (by decide) (fun _ => rfl)) ss_nil))) ss_nil) (ss_cons (s_ret (sound_if (sound_andT (sound_cmpT lt_sound (sound_idx (sound_loc (i := 0) rfl rfl rfl) sound_int (fun _ _ => rfl)) sound_int rfl) (sound_cmpT gt_sound (sound_loc (i := 3) rfl rfl rfl) sound_int rfl)) (sound_bin add_sound sound_str (sound_loc (i := 4) rfl rfl rfl)) (sound_loc (i := 4) rfl rfl rfl))) ss_nil)))))
  case h1 => exact kinds_of rfl
  case h2 => exact prefix_of rfl
  case h3 => decide
  case h4 => decide
  case h5 => rfl
  case h6 => rfl
  case h7 => rfl
theorem ok_spaces_end {P : Par} (hK : P.K = K0 P.w.params) : Ok P 3 (.ref 407) S_spaces_end := by
  refine' Ok.mono (Ok.pure (ok_def (d := 2) (ns := [Str.ofString "text", Str.ofString "at"]) (ps := [Str.ofString "text", Str.ofString "at"]) (p := p_spaces_end) ?D ?hb ?h1 ?h2 ?h3 ?h4 ?h5 ?h6 ?h7)) vc_spaces_end
  case D =>
    rw [hK]
    refine' defK_mk ?a ?b ?c
    case a => k_is
    case b => k_is
    case c =>
      intro s vs hX hl
      obtain ⟨v0, v1, rfl⟩ := len2 hl
      exact BindsTo.of_eq rfl
  case hb => exact (ss_cons (s_while (sound_andT (sound_cmpT lt_sound (sound_loc (i := 1) rfl rfl rfl) (sound_callB (g_len hK) b_len (by decide) rfl len_ok (by decide) (sound_args_cons (sound_loc (i := 0) rfl rfl rfl) sound_args_nil (fun _ => star_Name)) (fun _ => star_Name) (fun _ => pl_nil) rfl) rfl) (sound_cmpT in_sound (sound_idx (sound_loc (i := 0) rfl rfl rfl) (sound_loc (i := 1) rfl rfl rfl) (fun _ _ => rfl)) (sound_globE (c_SPACES_at hK) rfl rfl) rfl)) (ss_cons (s_inc (i := 1) sound_int rfl rfl (by decide)) ss_nil)) (ss_cons (s_ret (sound_loc (i := 1) rfl rfl rfl)) ss_nil))
  case h1 => exact kinds_of rfl
  case h2 => exact prefix_of rfl
  case h3 => decide
  case h4 => decide
  case h5 => rfl
  case h6 => rfl
  case h7 => rfl
theorem ok_name_end {P : Par} (hK : P.K = K0 P.w.params) : Ok P 3 (.ref 435) S_name_end := by
  refine' Ok.mono (Ok.pure (ok_def (d := 2) (ns := [Str.ofString "text", Str.ofString "at"]) (ps := [Str.ofString "text", Str.ofString "at"]) (p := p_name_end) ?D ?hb ?h1 ?h2 ?h3 ?h4 ?h5 ?h6 ?h7)) vc_name_end
  case D =>
    rw [hK]
    refine' defK_mk ?a ?b ?c
    case a => k_is
    case b => k_is
    case c =>
      intro s vs hX hl
      obtain ⟨v0, v1, rfl⟩ := len2 hl
      exact BindsTo.of_eq rfl
  case hb => exact (ss_cons (s_while (sound_andT (sound_cmpT lt_sound (sound_loc (i := 1) rfl rfl rfl) (sound_callB (g_len hK) b_len (by decide) rfl len_ok (by decide) (sound_args_cons (sound_loc (i := 0) rfl rfl rfl) sound_args_nil (fun _ => star_Name)) (fun _ => star_Name) (fun _ => pl_nil) rfl) rfl) (sound_orT (sound_chainT le_sound le_sound sound_str (sound_idx (sound_loc (i := 0) rfl rfl rfl) (sound_loc (i := 1) rfl rfl rfl) (fun _ _ => rfl)) sound_str (fun _ => rfl)) (sound_chainT le_sound le_sound sound_str (sound_idx (sound_loc (i := 0) rfl rfl rfl) (sound_loc (i := 1) rfl rfl rfl) (fun _ _ => rfl)) sound_str (fun _ => rfl)))) (ss_cons (s_inc (i := 1) sound_int rfl rfl (by decide)) ss_nil)) (ss_cons (s_ret (sound_loc (i := 1) rfl rfl rfl)) ss_nil))
  case h1 => exact kinds_of rfl
  case h2 => exact prefix_of rfl
  case h3 => decide
  case h4 => decide
  case h5 => rfl
  case h6 => rfl
  case h7 => rfl
theorem ok_number_end {P : Par} (hK : P.K = K0 P.w.params) : Ok P 3 (.ref 393) S_number_end := by
  refine' Ok.mono (Ok.pure (ok_def (d := 2) (ns := [Str.ofString "text", Str.ofString "at", Str.ofString "begin", Str.ofString "points", Str.ofString "sign", Str.ofString "is_first"]) (ps := [Str.ofString "text", Str.ofString "at"]) (p := p_number_end) ?D ?hb ?h1 ?h2 ?h3 ?h4 ?h5 ?h6 ?h7)) vc_number_end
  case D =>
    rw [hK]
    refine' defK_mk ?a ?b ?c
    case a => k_is
    case b => k_is
    case c =>
      intro s vs hX hl
      obtain ⟨v0, v1, rfl⟩ := len2 hl
      exact BindsTo.of_eq rfl
  case hb => exact (ss_cons (s_swp (is := [2, 3]) (names := [Str.ofString "begin", Str.ofString "points"]) (sound_tup (sound_args_cons (sound_loc (i := 1) rfl rfl rfl) (sound_args_cons sound_int sound_args_nil (fun _ => star_Constant)) (fun _ => star_Name))) (by decide) (fun _ _ => (Stores.cons (n := Str.ofString "points") (fun _ _ _ _ _ _ h => wpAny_bindName h) rfl rfl (Stores.cons (n := Str.ofString "begin") (fun _ _ _ _ _ _ h => wpAny_bindName h) rfl rfl Stores.nil))) (fun _ => rfl) (fun env he => by cases env; cases he; rfl)) (ss_cons (s_while (sound_cmpT lt_sound (sound_loc (i := 1) rfl rfl rfl) (sound_callB (g_len hK) b_len (by decide) rfl len_ok (by decide) (sound_args_cons (sound_loc (i := 0) rfl rfl rfl) sound_args_nil (fun _ => star_Name)) (fun _ => star_Name) (fun _ => pl_nil) rfl) rfl) (ss_cons (s_asg (i := 4) (sound_idx (sound_loc (i := 0) rfl rfl rfl) (sound_loc (i := 1) rfl rfl rfl) (fun _ _ => rfl)) rfl rfl (by decide) (fun _ => rfl)) (ss_cons (s_asg (i := 5) (sound_orV (sound_cmp eq_sound (sound_loc (i := 1) rfl rfl rfl) (sound_loc (i := 2) rfl rfl rfl) rfl) (sound_cmp in_sound (sound_idx (sound_loc (i := 0) rfl rfl rfl) (sound_bin sub_sound (sound_loc (i := 1) rfl rfl rfl) sound_int) (fun _ _ => rfl)) sound_str rfl)) rfl rfl (by decide) (fun _ => rfl)) (ss_cons (s_if (sound_cmpT eq_sound (sound_loc (i := 4) rfl rfl rfl) sound_str rfl) (ss_cons (s_inc (i := 3) sound_int rfl rfl (by decide)) (ss_cons (s_if (sound_orT (sound_cmpT gt_sound (sound_loc (i := 3) rfl rfl rfl) sound_int rfl) (sound_cmpT in_sound sound_str (sound_methB0 getsM_lower lower_ok (by decide) (sound_cut (sound_loc (i := 0) rfl rfl rfl) (sound_o_some (sound_loc (i := 2) rfl rfl rfl)) (sound_o_some (sound_loc (i := 1) rfl rfl rfl))) (fun _ => rfl)) rfl)) (ss_cons (s_ret (sound_loc (i := 1) rfl rfl rfl)) ss_nil) ss_nil) ss_nil)) (ss_cons (s_if (sound_cmpT in_sound (sound_loc (i := 4) rfl rfl rfl) sound_str rfl) (ss_cons (s_if (sound_not (sound_test (sound_loc (i := 5) rfl rfl rfl) (fun _ _ => rfl))) (ss_cons (s_ret (sound_loc (i := 1) rfl rfl rfl)) ss_nil) ss_nil) ss_nil) (ss_cons (s_if (sound_cmpT in_sound (sound_loc (i := 4) rfl rfl rfl) sound_str rfl) (ss_cons (s_if (sound_test (sound_loc (i := 5) rfl rfl rfl) (fun _ _ => rfl)) (ss_cons (s_ret (sound_loc (i := 1) rfl rfl rfl)) ss_nil) ss_nil) ss_nil) (ss_cons (s_if (sound_not (sound_chainT le_sound le_sound sound_str (sound_loc (i := 4) rfl rfl rfl) sound_str (fun _ => rfl))) (ss_cons (s_ret (sound_loc (i := 1) rfl rfl rfl)) ss_nil) ss_nil) ss_nil)) ss_nil)) ss_nil)) (ss_cons (s_inc (i := 1) sound_int rfl rfl (by decide)) ss_nil))))) (ss_cons (s_ret (sound_loc (i := 1) rfl rfl rfl)) ss_nil)))
  case h1 => exact kinds_of rfl
  case h2 => exact prefix_of rfl
  case h3 => decide
  case h4 => decide
  case h5 => rfl
  case h6 => rfl
  case h7 => rfl
theorem ok_gap_end {P : Par} (hK : P.K = K0 P.w.params) : Ok P 4 (.ref 400) S_gap_end := by
  refine' Ok.mono (Ok.pure (ok_def (d := 3) (ns := [Str.ofString "text", Str.ofString "at"]) (ps := [Str.ofString "text", Str.ofString "at"]) (p := p_gap_end) ?D ?hb ?h1 ?h2 ?h3 ?h4 ?h5 ?h6 ?h7)) vc_gap_end
  case D =>
    rw [hK]
    refine' defK_mk ?a ?b ?c
    case a => k_is
    case b => k_is
    case c =>
      intro s vs hX hl
      obtain ⟨v0, v1, rfl⟩ := len2 hl
      exact BindsTo.of_eq rfl
  case hb => exact (ss_cons (s_asg (i := 1) (sound_call (g_spaces_end hK) rfl (k_spaces_end hK) (ok_spaces_end hK) (by decide) (sound_args_cons (sound_loc (i := 0) rfl rfl rfl) (sound_args_cons (sound_loc (i := 1) rfl rfl rfl) sound_args_nil (fun _ => star_Name)) (fun _ => star_Name)) (fun _ => star_Name) (pl_cons (fun _ => star_Name) (fun _ => pl_nil)) rfl) rfl rfl (by decide) (fun _ => rfl)) (ss_cons (s_if (sound_andT (sound_cmpT lt_sound (sound_loc (i := 1) rfl rfl rfl) (sound_callB (g_len hK) b_len (by decide) rfl len_ok (by decide) (sound_args_cons (sound_loc (i := 0) rfl rfl rfl) sound_args_nil (fun _ => star_Name)) (fun _ => star_Name) (fun _ => pl_nil) rfl) rfl) (sound_cmpT eq_sound (sound_idx (sound_loc (i := 0) rfl rfl rfl) (sound_loc (i := 1) rfl rfl rfl) (fun _ _ => rfl)) sound_str rfl)) (ss_cons (s_asg (i := 1) (sound_call (g_spaces_end hK) rfl (k_spaces_end hK) (ok_spaces_end hK) (by decide) (sound_args_cons (sound_loc (i := 0) rfl rfl rfl) (sound_args_cons (sound_bin add_sound (sound_loc (i := 1) rfl rfl rfl) sound_int) sound_args_nil (fun _ => rfl)) (fun _ => star_Name)) (fun _ => star_Name) (pl_cons (fun _ => rfl) (fun _ => pl_nil)) rfl) rfl rfl (by decide) (fun _ => rfl)) (ss_cons (s_if (sound_cmpT eq_sound (sound_loc (i := 1) rfl rfl rfl) (sound_callB (g_len hK) b_len (by decide) rfl len_ok (by decide) (sound_args_cons (sound_loc (i := 0) rfl rfl rfl) sound_args_nil (fun _ => star_Name)) (fun _ => star_Name) (fun _ => pl_nil) rfl) rfl) (ss_cons (s_raise (x_SheetFault hK) (mk_SheetFault hK) (by decide) (g_SheetFault hK) (k_SheetFault hK) rfl rfl sound_str (fun _ => rfl)) ss_nil) ss_nil) ss_nil)) ss_nil) (ss_cons (s_ret (sound_loc (i := 1) rfl rfl rfl)) ss_nil)))
  case h1 => exact kinds_of rfl
  case h2 => exact prefix_of rfl
  case h3 => decide
  case h4 => decide
  case h5 => rfl
  case h6 => rfl
  case h7 => rfl
theorem ok_cut_numbers {P : Par} (hK : P.K = K0 P.w.params) : Ok P 5 (.ref 386) S_cut_numbers := by
  refine' Ok.mono (Ok.pure (ok_def (d := 4) (ns := [Str.ofString "text", Str.ofString "found", Str.ofString "at", Str.ofString "begin"]) (ps := [Str.ofString "text"]) (p := p_cut_numbers) ?D ?hb ?h1 ?h2 ?h3 ?h4 ?h5 ?h6 ?h7)) vc_cut_numbers
  case D =>
    rw [hK]
    refine' defK_mk ?a ?b ?c
    case a => k_is
    case b => k_is
    case c =>
      intro s vs hX hl
      obtain ⟨v0, rfl⟩ := len1 hl
      exact BindsTo.of_eq rfl
  case hb => exact (ss_cons (s_newLst2 (i := 1) (j := 2) rfl rfl rfl rfl (by decide) (fun _ => rfl) (fun env he => by cases env; cases he; rfl)) (ss_cons (s_while (sound_cmpT lt_sound (sound_loc (i := 2) rfl rfl rfl) (sound_callB (g_len hK) b_len (by decide) rfl len_ok (by decide) (sound_args_cons (sound_loc (i := 0) rfl rfl rfl) sound_args_nil (fun _ => star_Name)) (fun _ => star_Name) (fun _ => pl_nil) rfl) rfl) (ss_cons (s_asg (i := 3) (sound_loc (i := 2) rfl rfl rfl) rfl rfl (by decide) (fun _ => rfl)) (ss_cons (s_asg (i := 2) (sound_call (g_number_end hK) rfl (k_number_end hK) (ok_number_end hK) (by decide) (sound_args_cons (sound_loc (i := 0) rfl rfl rfl) (sound_args_cons (sound_loc (i := 2) rfl rfl rfl) sound_args_nil (fun _ => star_Name)) (fun _ => star_Name)) (fun _ => star_Name) (pl_cons (fun _ => star_Name) (fun _ => pl_nil)) rfl) rfl rfl (by decide) (fun _ => rfl)) (ss_cons (s_if (sound_cmpT eq_sound (sound_loc (i := 2) rfl rfl rfl) (sound_loc (i := 3) rfl rfl rfl) rfl) (ss_cons (s_raise (x_SheetFault hK) (mk_SheetFault hK) (by decide) (g_SheetFault hK) (k_SheetFault hK) rfl rfl sound_str (fun _ => rfl)) ss_nil) ss_nil) (ss_cons (s_exp (sound_methB getsM_append append_ok (by decide) (sound_loc (i := 1) rfl rfl rfl) (sound_args_cons (sound_cut (sound_loc (i := 0) rfl rfl rfl) (sound_o_some (sound_loc (i := 3) rfl rfl rfl)) (sound_o_some (sound_loc (i := 2) rfl rfl rfl))) sound_args_nil (fun _ => rfl)) (fun _ => rfl) (fun _ => pl_nil) (fun _ => rfl)) (fun _ => rfl)) (ss_cons (s_asg (i := 2) (sound_call (g_gap_end hK) rfl (k_gap_end hK) (ok_gap_end hK) (by decide) (sound_args_cons (sound_loc (i := 0) rfl rfl rfl) (sound_args_cons (sound_loc (i := 2) rfl rfl rfl) sound_args_nil (fun _ => star_Name)) (fun _ => star_Name)) (fun _ => star_Name) (pl_cons (fun _ => star_Name) (fun _ => pl_nil)) rfl) rfl rfl (by decide) (fun _ => rfl)) ss_nil)))))) (ss_cons (s_ret (sound_loc (i := 1) rfl rfl rfl)) ss_nil)))
  case h1 => exact kinds_of rfl
  case h2 => exact prefix_of rfl
  case h3 => decide
  case h4 => decide
  case h5 => rfl
  case h6 => rfl
  case h7 => rfl
theorem ok_read_numbers {P : Par} (hK : P.K = K0 P.w.params) : Ok P 7 (.ref 414) S_read_numbers := by
  refine' Ok.mono (Ok.pure (ok_def (d := 6) (ns := [Str.ofString "text", Str.ofString "found", Str.ofString "told", Str.ofString "e"]) (ps := [Str.ofString "text"]) (p := p_read_numbers) ?D ?hb ?h1 ?h2 ?h3 ?h4 ?h5 ?h6 ?h7)) vc_read_numbers
  case D =>
    rw [hK]
    refine' defK_mk ?a ?b ?c
    case a => k_is
    case b => k_is
    case c =>
      intro s vs hX hl
      obtain ⟨v0, rfl⟩ := len1 hl
      exact BindsTo.of_eq rfl
  case hb => exact (ss_cons (s_newLst (i := 1) rfl rfl (by decide) (fun _ => rfl)) (ss_cons (s_for (sa_name (i := 2) rfl rfl (by decide)) (si_data (sound_call (g_cut_numbers hK) rfl (k_cut_numbers hK) (ok_cut_numbers hK) (by decide) (sound_args_cons (sound_cut (sound_loc (i := 0) rfl rfl rfl) (sound_o_some (sound_call (g_spaces_end hK) rfl (k_spaces_end hK) (ok_spaces_end hK) (by decide) (sound_args_cons (sound_loc (i := 0) rfl rfl rfl) (sound_args_cons sound_int sound_args_nil (fun _ => star_Constant)) (fun _ => star_Name)) (fun _ => star_Name) (pl_cons (fun _ => star_Constant) (fun _ => pl_nil)) rfl)) sound_o_none) sound_args_nil (fun _ => rfl)) (fun _ => rfl) (fun _ => pl_nil) rfl)) (ss_cons (s_tryQ (ss_cons (s_exp (sound_methB getsM_append append_ok (by decide) (sound_loc (i := 1) rfl rfl rfl) (sound_args_cons (sound_call (g_read_decimal hK) rfl (k_read_decimal hK) (ok_read_decimal hK) (by decide) (sound_args_cons (sound_loc (i := 2) rfl rfl rfl) sound_args_nil (fun _ => star_Name)) (fun _ => star_Name) (fun _ => pl_nil) rfl) sound_args_nil (fun _ => rfl)) (fun _ => rfl) (fun _ => pl_nil) (fun _ => rfl)) (fun _ => rfl)) ss_nil)) ss_nil) (fun _ _ => rfl)) (ss_cons (s_ret (sound_loc (i := 1) rfl rfl rfl)) ss_nil)))
  case h1 => exact kinds_of rfl
  case h2 => exact prefix_of rfl
  case h3 => decide
  case h4 => decide
  case h5 => rfl
  case h6 => rfl
  case h7 => rfl
theorem ok_matrix_of {P : Par} (hK : P.K = K0 P.w.params) : Ok P 4 (.ref 421) S_matrix_of := by
  refine' Ok.mono (Ok.pure (ok_def (d := 3) (ns := [Str.ofString "name", Str.ofString "numbers", Str.ofString "many"]) (ps := [Str.ofString "name", Str.ofString "numbers"]) (p := p_matrix_of) ?D ?hb ?h1 ?h2 ?h3 ?h4 ?h5 ?h6 ?h7)) vc_matrix_of
  case D =>
    rw [hK]
    refine' defK_mk ?a ?b ?c
    case a => k_is
    case b => k_is
    case c =>
      intro s vs hX hl
      obtain ⟨v0, v1, rfl⟩ := len2 hl
      exact BindsTo.of_eq rfl
  case hb => exact (ss_cons (s_asg (i := 2) (sound_callB (g_len hK) b_len (by decide) rfl len_ok (by decide) (sound_args_cons (sound_loc (i := 1) rfl rfl rfl) sound_args_nil (fun _ => star_Name)) (fun _ => star_Name) (fun _ => pl_nil) rfl) rfl rfl (by decide) (fun _ => rfl)) (ss_cons (s_if (sound_andT (sound_cmpT eq_sound (sound_loc (i := 0) rfl rfl rfl) sound_str rfl) (sound_cmpT eq_sound (sound_loc (i := 2) rfl rfl rfl) sound_int rfl)) (ss_cons (s_ret (sound_call (g_Matrix hK) rfl (k_Matrix hK) (ok_Matrix hK) (by decide) (sound_args_cons (sound_idx (sound_loc (i := 1) rfl rfl rfl) sound_int (fun _ _ => rfl)) (sound_args_cons (sound_idx (sound_loc (i := 1) rfl rfl rfl) sound_int (fun _ _ => rfl)) (sound_args_cons (sound_idx (sound_loc (i := 1) rfl rfl rfl) sound_int (fun _ _ => rfl)) (sound_args_cons (sound_idx (sound_loc (i := 1) rfl rfl rfl) sound_int (fun _ _ => rfl)) (sound_args_cons (sound_idx (sound_loc (i := 1) rfl rfl rfl) sound_int (fun _ _ => rfl)) (sound_args_cons (sound_idx (sound_loc (i := 1) rfl rfl rfl) sound_int (fun _ _ => rfl)) sound_args_nil (fun _ => rfl)) (fun _ => rfl)) (fun _ => rfl)) (fun _ => rfl)) (fun _ => rfl)) (fun _ => rfl)) (fun _ => rfl) (pl_cons (fun _ => rfl) (pl_cons (fun _ => rfl) (pl_cons (fun _ => rfl) (pl_cons (fun _ => rfl) (pl_cons (fun _ => rfl) (fun _ => pl_nil)))))) rfl)) ss_nil) ss_nil) (ss_cons (s_if (sound_andT (sound_cmpT eq_sound (sound_loc (i := 0) rfl rfl rfl) sound_str rfl) (sound_cmpT in_sound (sound_loc (i := 2) rfl rfl rfl) (sound_tup (sound_args_cons sound_int (sound_args_cons sound_int sound_args_nil (fun _ => star_Constant)) (fun _ => star_Constant))) rfl)) (ss_cons (s_ret (sound_call (g_translation hK) rfl (k_translation hK) (ok_translation hK) (by decide) (sound_args_cons (sound_idx (sound_loc (i := 1) rfl rfl rfl) sound_int (fun _ _ => rfl)) (sound_args_cons (sound_if (sound_cmpT eq_sound (sound_loc (i := 2) rfl rfl rfl) sound_int rfl) (sound_idx (sound_loc (i := 1) rfl rfl rfl) sound_int (fun _ _ => rfl)) (sound_globE (c_ZERO_at hK) rfl rfl)) sound_args_nil (fun _ => rfl)) (fun _ => rfl)) (fun _ => rfl) (pl_cons (fun _ => rfl) (fun _ => pl_nil)) rfl)) ss_nil) ss_nil) (ss_cons (s_if (sound_andT (sound_cmpT eq_sound (sound_loc (i := 0) rfl rfl rfl) sound_str rfl) (sound_cmpT in_sound (sound_loc (i := 2) rfl rfl rfl) (sound_tup (sound_args_cons sound_int (sound_args_cons sound_int sound_args_nil (fun _ => star_Constant)) (fun _ => star_Constant))) rfl)) (ss_cons (s_ret (sound_call (g_scaling hK) rfl (k_scaling hK) (ok_scaling hK) (by decide) (sound_args_cons (sound_idx (sound_loc (i := 1) rfl rfl rfl) sound_int (fun _ _ => rfl)) (sound_args_cons (sound_idx (sound_loc (i := 1) rfl rfl rfl) (sound_neg sound_int) (fun _ _ => rfl)) sound_args_nil (fun _ => rfl)) (fun _ => rfl)) (fun _ => rfl) (pl_cons (fun _ => rfl) (fun _ => pl_nil)) rfl)) ss_nil) ss_nil) (ss_cons (s_if (sound_andT (sound_cmpT eq_sound (sound_loc (i := 0) rfl rfl rfl) sound_str rfl) (sound_cmpT eq_sound (sound_loc (i := 2) rfl rfl rfl) sound_int rfl)) (ss_cons (s_ret (sound_call (g_rotation hK) rfl (k_rotation hK) (ok_never (d := 0)) (by decide) (sound_args_cons (sound_idx (sound_loc (i := 1) rfl rfl rfl) sound_int (fun _ _ => rfl)) sound_args_nil (fun _ => rfl)) (fun _ => rfl) (fun _ => pl_nil) rfl)) ss_nil) ss_nil) (ss_cons (s_if (sound_andT (sound_cmpT eq_sound (sound_loc (i := 0) rfl rfl rfl) sound_str rfl) (sound_cmpT eq_sound (sound_loc (i := 2) rfl rfl rfl) sound_int rfl)) (ss_cons (s_ret (sound_call (g_rotation_about hK) rfl (k_rotation_about hK) (ok_never (d := 0)) (by decide) (sound_args_cons (sound_idx (sound_loc (i := 1) rfl rfl rfl) sound_int (fun _ _ => rfl)) (sound_args_cons (sound_idx (sound_loc (i := 1) rfl rfl rfl) sound_int (fun _ _ => rfl)) (sound_args_cons (sound_idx (sound_loc (i := 1) rfl rfl rfl) sound_int (fun _ _ => rfl)) sound_args_nil (fun _ => rfl)) (fun _ => rfl)) (fun _ => rfl)) (fun _ => rfl) (pl_cons (fun _ => rfl) (pl_cons (fun _ => rfl) (fun _ => pl_nil))) rfl)) ss_nil) ss_nil) (ss_cons (s_if (sound_andT (sound_cmpT in_sound (sound_loc (i := 0) rfl rfl rfl) (sound_tup (sound_args_cons sound_str (sound_args_cons sound_str sound_args_nil (fun _ => star_Constant)) (fun _ => star_Constant))) rfl) (sound_cmpT eq_sound (sound_loc (i := 2) rfl rfl rfl) sound_int rfl)) (ss_cons (s_ret (sound_call (g_skew_of hK) rfl (k_skew_of hK) (ok_never (d := 0)) (by decide) (sound_args_cons (sound_loc (i := 0) rfl rfl rfl) (sound_args_cons (sound_idx (sound_loc (i := 1) rfl rfl rfl) sound_int (fun _ _ => rfl)) sound_args_nil (fun _ => rfl)) (fun _ => star_Name)) (fun _ => star_Name) (pl_cons (fun _ => rfl) (fun _ => pl_nil)) rfl)) ss_nil) ss_nil) (ss_cons (s_raise (x_SheetFault hK) (mk_SheetFault hK) (by decide) (g_SheetFault hK) (k_SheetFault hK) rfl rfl (sound_bin add_sound sound_str (sound_loc (i := 0) rfl rfl rfl)) (fun _ => rfl)) ss_nil))))))))
  case h1 => exact kinds_of rfl
  case h2 => exact prefix_of rfl
  case h3 => decide
  case h4 => decide
  case h5 => rfl
  case h6 => rfl
  case h7 => rfl
theorem ok_read_transforms {P : Par} (hK : P.K = K0 P.w.params) : Ok P 9 (.ref 442) S_read_transforms := by
  refine' Ok.mono (Ok.pure (ok_def (d := 8) (ns := [Str.ofString "text", Str.ofString "found", Str.ofString "at", Str.ofString "end", Str.ofString "begin", Str.ofString "last"]) (ps := [Str.ofString "text"]) (p := p_read_transforms) ?D ?hb ?h1 ?h2 ?h3 ?h4 ?h5 ?h6 ?h7)) vc_read_transforms
  case D =>
    rw [hK]
    refine' defK_mk ?a ?b ?c
    case a => k_is
    case b => k_is
    case c =>
      intro s vs hX hl
      obtain ⟨v0, rfl⟩ := len1 hl
      exact BindsTo.of_eq rfl
  case hb => exact (ss_cons (s_swp (is := [1, 2]) (names := [Str.ofString "found", Str.ofString "at"]) (sound_tup (sound_args_cons (sound_call0 (g_identity hK) rfl (k_identity hK) (ok_identity hK) (by decide) rfl) (sound_args_cons (sound_call (g_spaces_end hK) rfl (k_spaces_end hK) (ok_spaces_end hK) (by decide) (sound_args_cons (sound_loc (i := 0) rfl rfl rfl) (sound_args_cons sound_int sound_args_nil (fun _ => star_Constant)) (fun _ => star_Name)) (fun _ => star_Name) (pl_cons (fun _ => star_Constant) (fun _ => pl_nil)) rfl) sound_args_nil (fun _ => rfl)) (fun _ => rfl))) (by decide) (fun _ _ => (Stores.cons (n := Str.ofString "at") (fun _ _ _ _ _ _ h => wpAny_bindName h) rfl rfl (Stores.cons (n := Str.ofString "found") (fun _ _ _ _ _ _ h => wpAny_bindName h) rfl rfl Stores.nil))) (fun _ => rfl) (fun env he => by cases env; cases he; rfl)) (ss_cons (s_while (sound_cmpT lt_sound (sound_loc (i := 2) rfl rfl rfl) (sound_callB (g_len hK) b_len (by decide) rfl len_ok (by decide) (sound_args_cons (sound_loc (i := 0) rfl rfl rfl) sound_args_nil (fun _ => star_Name)) (fun _ => star_Name) (fun _ => pl_nil) rfl) rfl) (ss_cons (s_asg (i := 3) (sound_call (g_name_end hK) rfl (k_name_end hK) (ok_name_end hK) (by decide) (sound_args_cons (sound_loc (i := 0) rfl rfl rfl) (sound_args_cons (sound_loc (i := 2) rfl rfl rfl) sound_args_nil (fun _ => star_Name)) (fun _ => star_Name)) (fun _ => star_Name) (pl_cons (fun _ => star_Name) (fun _ => pl_nil)) rfl) rfl rfl (by decide) (fun _ => rfl)) (ss_cons (s_asg (i := 4) (sound_call (g_spaces_end hK) rfl (k_spaces_end hK) (ok_spaces_end hK) (by decide) (sound_args_cons (sound_loc (i := 0) rfl rfl rfl) (sound_args_cons (sound_loc (i := 3) rfl rfl rfl) sound_args_nil (fun _ => star_Name)) (fun _ => star_Name)) (fun _ => star_Name) (pl_cons (fun _ => star_Name) (fun _ => pl_nil)) rfl) rfl rfl (by decide) (fun _ => rfl)) (ss_cons (s_asg (i := 5) (sound_methB getsM_find3 find3_ok (by decide) (sound_loc (i := 0) rfl rfl rfl) (sound_args_cons sound_str (sound_args_cons (sound_loc (i := 4) rfl rfl rfl) sound_args_nil (fun _ => star_Name)) (fun _ => star_Constant)) (fun _ => star_Constant) (pl_cons (fun _ => star_Name) (fun _ => pl_nil)) (fun _ => rfl)) rfl rfl (by decide) (fun _ => rfl)) (ss_cons (s_if (sound_orT (sound_cmpT ne_sound (sound_cut (sound_loc (i := 0) rfl rfl rfl) (sound_o_some (sound_loc (i := 4) rfl rfl rfl)) (sound_o_some (sound_bin add_sound (sound_loc (i := 4) rfl rfl rfl) sound_int))) sound_str rfl) (sound_cmpT lt_sound (sound_loc (i := 5) rfl rfl rfl) sound_int rfl)) (ss_cons (s_raise (x_SheetFault hK) (mk_SheetFault hK) (by decide) (g_SheetFault hK) (k_SheetFault hK) rfl rfl sound_str (fun _ => rfl)) ss_nil) ss_nil) (ss_cons (s_asg (i := 1) (sound_meth (m_Matrix_then hK) (k_Matrix_then hK) (ok_Matrix_then hK) (by decide) (sound_call (g_matrix_of hK) rfl (k_matrix_of hK) (ok_matrix_of hK) (by decide) (sound_args_cons (sound_cut (sound_loc (i := 0) rfl rfl rfl) (sound_o_some (sound_loc (i := 2) rfl rfl rfl)) (sound_o_some (sound_loc (i := 3) rfl rfl rfl))) (sound_args_cons (sound_call (g_read_numbers hK) rfl (k_read_numbers hK) (ok_read_numbers hK) (by decide) (sound_args_cons (sound_cut (sound_loc (i := 0) rfl rfl rfl) (sound_o_some (sound_bin add_sound (sound_loc (i := 4) rfl rfl rfl) sound_int)) (sound_o_some (sound_loc (i := 5) rfl rfl rfl))) sound_args_nil (fun _ => rfl)) (fun _ => rfl) (fun _ => pl_nil) rfl) sound_args_nil (fun _ => rfl)) (fun _ => rfl)) (fun _ => rfl) (pl_cons (fun _ => rfl) (fun _ => pl_nil)) rfl) (sound_args_cons (sound_loc (i := 1) rfl rfl rfl) sound_args_nil (fun _ => star_Name)) (fun _ => star_Name) (fun _ => pl_nil) (fun _ => rfl)) rfl rfl (by decide) (fun _ => rfl)) (ss_cons (s_asg (i := 2) (sound_call (g_gap_end hK) rfl (k_gap_end hK) (ok_gap_end hK) (by decide) (sound_args_cons (sound_loc (i := 0) rfl rfl rfl) (sound_args_cons (sound_bin add_sound (sound_loc (i := 5) rfl rfl rfl) sound_int) sound_args_nil (fun _ => rfl)) (fun _ => star_Name)) (fun _ => star_Name) (pl_cons (fun _ => rfl) (fun _ => pl_nil)) rfl) rfl rfl (by decide) (fun _ => rfl)) ss_nil))))))) (ss_cons (s_ret (sound_loc (i := 1) rfl rfl rfl)) ss_nil)))
  case h1 => exact kinds_of rfl
  case h2 => exact prefix_of rfl
  case h3 => decide
  case h4 => decide
  case h5 => rfl
  case h6 => rfl
  case h7 => rfl
theorem ok_exact_places {P : Par} (hK : P.K = K0 P.w.params) : Ok P 3 (.ref 449) S_exact_places := by
  refine' Ok.mono (Ok.pure (ok_def (d := 2) (ns := [Str.ofString "a", Str.ofString "places"]) (ps := [Str.ofString "a"]) (p := p_exact_places) ?D ?hb ?h1 ?h2 ?h3 ?h4 ?h5 ?h6 ?h7)) vc_exact_places
  case D =>
    rw [hK]
    refine' defK_mk ?a ?b ?c
    case a => k_is
    case b => k_is
    case c =>
      intro s vs hX hl
      obtain ⟨v0, rfl⟩ := len1 hl
      exact BindsTo.of_eq rfl
  case hb => exact (ss_cons (s_for (sa_name (i := 1) rfl rfl (by decide)) (si_rng1 (g_range hK) b_range (by decide) rfl (sound_globE (c_MOST_PLACES_at hK) rfl rfl) (fun _ => rfl) rfl) (ss_cons (s_if (sound_cmpT eq_sound (sound_bin mod_sound (sound_bin pow_sound sound_int (sound_loc (i := 1) rfl rfl rfl)) (sound_idx (sound_loc (i := 0) rfl rfl rfl) sound_int (fun _ _ => rfl))) sound_int rfl) (ss_cons (s_ret (sound_loc (i := 1) rfl rfl rfl)) ss_nil) ss_nil) ss_nil) (fun _ _ => rfl)) (ss_cons (s_ret (sound_globE (c_PLACES_ELSE_at hK) rfl rfl)) ss_nil))
  case h1 => exact kinds_of rfl
  case h2 => exact prefix_of rfl
  case h3 => decide
  case h4 => decide
  case h5 => rfl
  case h6 => rfl
  case h7 => rfl
theorem ok_write_matrix {P : Par} (hK : P.K = K0 P.w.params) : Ok P 4 (.ref 454) S_write_matrix := by
  refine' Ok.mono (Ok.pure (ok_def (d := 3) (ns := [Str.ofString "matrix", Str.ofString "told"]) (ps := [Str.ofString "matrix"]) (p := p_write_matrix) ?D ?hb ?h1 ?h2 ?h3 ?h4 ?h5 ?h6 ?h7)) vc_write_matrix
  case D =>
    rw [hK]
    refine' defK_mk ?a ?b ?c
    case a => k_is
    case b => k_is
    case c =>
      intro s vs hX hl
      obtain ⟨v0, rfl⟩ := len1 hl
      exact BindsTo.of_eq rfl
  case hb => exact (ss_cons (s_asgComp (frees := []) (compK rfl rfl) (si_data (sound_meth0 (m_Matrix_row hK) (k_Matrix_row hK) (ok_Matrix_row hK) (by decide) (sound_loc (i := 0) rfl rfl rfl) (fun _ => rfl))) (sound_call (g_write_decimal hK) rfl (k_write_decimal hK) (ok_write_decimal hK) (by decide) (sound_args_cons (sound_loc (i := 0) rfl rfl rfl) (sound_args_cons (sound_call (g_exact_places hK) rfl (k_exact_places hK) (ok_exact_places hK) (by decide) (sound_args_cons (sound_loc (i := 0) rfl rfl rfl) sound_args_nil (fun _ => star_Name)) (fun _ => star_Name) (fun _ => pl_nil) rfl) sound_args_nil (fun _ => rfl)) (fun _ => star_Name)) (fun _ => star_Name) (pl_cons (fun _ => rfl) (fun _ => pl_nil)) rfl) (fun _ _ => rfl) (i := 1) rfl rfl (by decide) (fun env he => by cases env; cases he; rfl)) (ss_cons (s_ret (sound_bin add_sound (sound_bin add_sound sound_str (sound_methB getsM_join join_ok (by decide) sound_str (sound_args_cons (sound_loc (i := 1) rfl rfl rfl) sound_args_nil (fun _ => star_Name)) (fun _ => star_Name) (fun _ => pl_nil) (fun _ => rfl))) sound_str)) ss_nil))
  case h1 => exact kinds_of rfl
  case h2 => exact prefix_of rfl
  case h3 => decide
  case h4 => decide
  case h5 => rfl
  case h6 => rfl
  case h7 => rfl
end
section
-- part O5
open PySem PySem.W PyProof.Rows PySem.Calls PySem.Builtin PySem.Builtin.Str PySem.Builtin.ObjectAttr
set_option maxHeartbeats 8000000
theorem fill_O5 (w : World) : K0 w.params = K0 w.params ∧ PySem.Challenge.rw_nu0033_01.row.prog = PySem.Challenge.rw_nu0033_01.row.prog := by
  k_fill
  exact ⟨rfl, rfl⟩
theorem ok__law_take {P : Par} (hK : P.K = K0 P.w.params) : Ok P 3 (.ref 475) S__law_take := by
  refine' Ok.mono (Ok.id (ok_def (d := 2) (ns := [Str.ofString "source", Str.ofString "top", Str.ofString "drawn"]) (ps := [Str.ofString "source", Str.ofString "top"]) (p := p__law_take) ?D ?hb ?h1 ?h2 ?h3 ?h4 ?h5 ?h6 ?h7)) vc__law_take
  case D =>
    rw [hK]
    refine' defK_mk ?a ?b ?c
    case a => k_is
    case b => k_is
    case c =>
      intro s vs hX hl
      obtain ⟨v0, v1, rfl⟩ := len2 hl
      exact BindsTo.of_eq rfl
  case hb => exact (ss_cons (s_if (sound_cmpT gt_sound (sound_idx (sound_loc (i := 0) rfl rfl rfl) sound_int (fun _ _ => rfl)) sound_int rfl) (ss_cons (s_asg (i := 2) (sound_bin mod_sound (sound_idx (sound_loc (i := 0) rfl rfl rfl) sound_int (fun _ _ => rfl)) (sound_loc (i := 1) rfl rfl rfl)) rfl rfl (by decide) (fun _ => rfl)) (ss_cons (s_setSrc (sound_bin div_sound (sound_idx (sound_loc (i := 0) rfl rfl rfl) sound_int (fun _ _ => rfl)) (sound_loc (i := 1) rfl rfl rfl)) (sound_loc (i := 0) rfl rfl rfl) (fun _ => rfl)) (ss_cons (s_ret (sound_loc (i := 2) rfl rfl rfl)) ss_nil))) ss_nil) (ss_cons (s_setSrc (sound_bin mod_sound (sound_bin add_sound (sound_bin mul_sound (sound_idx (sound_loc (i := 0) rfl rfl rfl) sound_int (fun _ _ => rfl)) sound_int) sound_int) sound_int) (sound_loc (i := 0) rfl rfl rfl) (fun _ => rfl)) (ss_cons (s_ret (sound_bin mod_sound (sound_bin div_sound (sound_bin mod_sound (sound_bin mul_sound (sound_idx (sound_loc (i := 0) rfl rfl rfl) sound_int (fun _ _ => rfl)) (sound_idx (sound_loc (i := 0) rfl rfl rfl) sound_int (fun _ _ => rfl))) sound_int) sound_int) (sound_loc (i := 1) rfl rfl rfl))) ss_nil)))
  case h1 => exact kinds_of rfl
  case h2 => exact prefix_of rfl
  case h3 => decide
  case h4 => decide
  case h5 => rfl
  case h6 => rfl
  case h7 => rfl
theorem ok__law_one {P : Par} (hK : P.K = K0 P.w.params) : Ok P 4 (.ref 482) S__law_one := by
  refine' Ok.mono (Ok.id (ok_def (d := 3) (ns := [Str.ofString "source", Str.ofString "things"]) (ps := [Str.ofString "source", Str.ofString "things"]) (p := p__law_one) ?D ?hb ?h1 ?h2 ?h3 ?h4 ?h5 ?h6 ?h7)) vc__law_one
  case D =>
    rw [hK]
    refine' defK_mk ?a ?b ?c
    case a => k_is
    case b => k_is
    case c =>
      intro s vs hX hl
      obtain ⟨v0, v1, rfl⟩ := len2 hl
      exact BindsTo.of_eq rfl
  case hb => exact (ss_cons (s_ret (sound_idx (sound_loc (i := 1) rfl rfl rfl) (sound_call (g__law_take hK) rfl (k__law_take hK) (ok__law_take hK) (by decide) (sound_args_cons (sound_loc (i := 0) rfl rfl rfl) (sound_args_cons (sound_callB (g_len hK) b_len (by decide) rfl len_ok (by decide) (sound_args_cons (sound_loc (i := 1) rfl rfl rfl) sound_args_nil (fun _ => star_Name)) (fun _ => star_Name) (fun _ => pl_nil) rfl) sound_args_nil (fun _ => rfl)) (fun _ => star_Name)) (fun _ => star_Name) (pl_cons (fun _ => rfl) (fun _ => pl_nil)) rfl) (fun _ _ => rfl))) ss_nil)
  case h1 => exact kinds_of rfl
  case h2 => exact prefix_of rfl
  case h3 => decide
  case h4 => decide
  case h5 => rfl
  case h6 => rfl
  case h7 => rfl
theorem ok__law_half {P : Par} (hK : P.K = K0 P.w.params) : Ok P 5 (.ref 489) S__law_half := by
  refine' Ok.mono (Ok.id (ok_def (d := 4) (ns := [Str.ofString "source"]) (ps := [Str.ofString "source"]) (p := p__law_half) ?D ?hb ?h1 ?h2 ?h3 ?h4 ?h5 ?h6 ?h7)) vc__law_half
  case D =>
    rw [hK]
    refine' defK_mk ?a ?b ?c
    case a => k_is
    case b => k_is
    case c =>
      intro s vs hX hl
      obtain ⟨v0, rfl⟩ := len1 hl
      exact BindsTo.of_eq rfl
  case hb => exact (ss_cons (s_ret (sound_call (g__law_one hK) rfl (k__law_one hK) (ok__law_one hK) (by decide) (sound_args_cons (sound_loc (i := 0) rfl rfl rfl) (sound_args_cons (sound_lst (sound_args_cons (sound_tup (sound_args_cons sound_int (sound_args_cons sound_int sound_args_nil (fun _ => star_Constant)) (fun _ => star_Constant))) (sound_args_cons (sound_tup (sound_args_cons sound_int (sound_args_cons sound_int sound_args_nil (fun _ => star_Constant)) (fun _ => star_Constant))) (sound_args_cons (sound_tup (sound_args_cons (sound_neg sound_int) (sound_args_cons sound_int sound_args_nil (fun _ => star_Constant)) (fun _ => star_UnaryOp))) (sound_args_cons (sound_tup (sound_args_cons sound_int (sound_args_cons sound_int sound_args_nil (fun _ => star_Constant)) (fun _ => star_Constant))) (sound_args_cons (sound_tup (sound_args_cons (sound_neg sound_int) (sound_args_cons sound_int sound_args_nil (fun _ => star_Constant)) (fun _ => star_UnaryOp))) (sound_args_cons (sound_tup (sound_args_cons sound_int (sound_args_cons sound_int sound_args_nil (fun _ => star_Constant)) (fun _ => star_Constant))) (sound_args_cons (sound_tup (sound_args_cons sound_int (sound_args_cons sound_int sound_args_nil (fun _ => star_Constant)) (fun _ => star_Constant))) (sound_args_cons (sound_tup (sound_args_cons sound_int (sound_args_cons sound_int sound_args_nil (fun _ => star_Constant)) (fun _ => star_Constant))) sound_args_nil (fun _ => star_Tuple)) (fun _ => star_Tuple)) (fun _ => star_Tuple)) (fun _ => star_Tuple)) (fun _ => star_Tuple)) (fun _ => star_Tuple)) (fun _ => star_Tuple)) (fun _ => star_Tuple))) sound_args_nil (fun _ => star_List)) (fun _ => star_Name)) (fun _ => star_Name) (pl_cons (fun _ => star_List) (fun _ => pl_nil)) rfl)) ss_nil)
  case h1 => exact kinds_of rfl
  case h2 => exact prefix_of rfl
  case h3 => decide
  case h4 => decide
  case h5 => rfl
  case h6 => rfl
  case h7 => rfl
theorem ok__law_sum {P : Par} (hK : P.K = K0 P.w.params) : Ok P 5 (.ref 496) S__law_sum := by
  refine' Ok.mono (Ok.pure (ok_def (d := 4) (ns := [Str.ofString "rows", Str.ofString "top", Str.ofString "bottom", Str.ofString "a", Str.ofString "b"]) (ps := [Str.ofString "rows"]) (p := p__law_sum) ?D ?hb ?h1 ?h2 ?h3 ?h4 ?h5 ?h6 ?h7)) vc__law_sum
  case D =>
    rw [hK]
    refine' defK_mk ?a ?b ?c
    case a => k_is
    case b => k_is
    case c =>
      intro s vs hX hl
      obtain ⟨v0, rfl⟩ := len1 hl
      exact BindsTo.of_eq rfl
  case hb => exact (ss_cons (s_unp (is := [1, 2]) (sound_tup (sound_args_cons sound_int (sound_args_cons sound_int sound_args_nil (fun _ => star_Constant)) (fun _ => star_Constant))) (by decide) (fun _ _ => (Stores.cons (n := Str.ofString "top") (fun _ _ _ _ _ _ h => wpAny_assign_Name h) rfl rfl (Stores.cons (n := Str.ofString "bottom") (fun _ _ _ _ _ _ h => wpAny_assign_Name h) rfl rfl Stores.nil))) (fun _ => rfl) (fun _ => rfl) (fun _ => swap_folded rfl)) (ss_cons (s_for (sa_tup (is := [3, 4]) (by decide) (fun _ _ => (Stores.cons (n := Str.ofString "a") (fun _ _ _ _ _ _ h => wpAny_assign_Name h) rfl rfl (Stores.cons (n := Str.ofString "b") (fun _ _ _ _ _ _ h => wpAny_assign_Name h) rfl rfl Stores.nil))) (fun _ => rfl)) (si_data (sound_loc (i := 0) rfl rfl rfl)) (ss_cons (s_swp (is := [1, 2]) (names := [Str.ofString "top", Str.ofString "bottom"]) (sound_tup (sound_args_cons (sound_bin add_sound (sound_bin mul_sound (sound_bin mul_sound (sound_loc (i := 1) rfl rfl rfl) (sound_idx (sound_loc (i := 3) rfl rfl rfl) sound_int (fun _ _ => rfl))) (sound_idx (sound_loc (i := 4) rfl rfl rfl) sound_int (fun _ _ => rfl))) (sound_bin mul_sound (sound_bin mul_sound (sound_idx (sound_loc (i := 3) rfl rfl rfl) sound_int (fun _ _ => rfl)) (sound_idx (sound_loc (i := 4) rfl rfl rfl) sound_int (fun _ _ => rfl))) (sound_loc (i := 2) rfl rfl rfl))) (sound_args_cons (sound_bin mul_sound (sound_bin mul_sound (sound_loc (i := 2) rfl rfl rfl) (sound_idx (sound_loc (i := 3) rfl rfl rfl) sound_int (fun _ _ => rfl))) (sound_idx (sound_loc (i := 4) rfl rfl rfl) sound_int (fun _ _ => rfl))) sound_args_nil (fun _ => rfl)) (fun _ => rfl))) (by decide) (fun _ _ => (Stores.cons (n := Str.ofString "bottom") (fun _ _ _ _ _ _ h => wpAny_bindName h) rfl rfl (Stores.cons (n := Str.ofString "top") (fun _ _ _ _ _ _ h => wpAny_bindName h) rfl rfl Stores.nil))) (fun _ => rfl) (fun env he => by cases env; cases he; rfl)) ss_nil) (fun _ _ => rfl)) (ss_cons (s_ret (sound_call (g_fraction hK) rfl (k_fraction hK) (ok_fraction hK) (by decide) (sound_args_cons (sound_loc (i := 1) rfl rfl rfl) (sound_args_cons (sound_loc (i := 2) rfl rfl rfl) sound_args_nil (fun _ => star_Name)) (fun _ => star_Name)) (fun _ => star_Name) (pl_cons (fun _ => star_Name) (fun _ => pl_nil)) rfl)) ss_nil)))
  case h1 => exact kinds_of rfl
  case h2 => exact prefix_of rfl
  case h3 => decide
  case h4 => decide
  case h5 => rfl
  case h6 => rfl
  case h7 => rfl
theorem ok__law_led {P : Par} (hK : P.K = K0 P.w.params) : Ok P 6 (.ref 503) S__law_led := by
  refine' Ok.mono (Ok.pure (ok_def (d := 5) (ns := [Str.ofString "row", Str.ofString "p", Str.ofString "move", Str.ofString "a", Str.ofString "b", Str.ofString "c", Str.ofString "d", Str.ofString "e", Str.ofString "f", Str.ofString "one"]) (ps := [Str.ofString "row", Str.ofString "p", Str.ofString "move"]) (p := p__law_led) ?D ?hb ?h1 ?h2 ?h3 ?h4 ?h5 ?h6 ?h7)) vc__law_led
  case D =>
    rw [hK]
    refine' defK_mk ?a ?b ?c
    case a => k_is
    case b => k_is
    case c =>
      intro s vs hX hl
      obtain ⟨v0, v1, v2, rfl⟩ := len3 hl
      exact BindsTo.of_eq rfl
  case hb => exact (ss_cons (s_unp (is := [3, 4, 5, 6, 7, 8]) (sound_loc (i := 0) rfl rfl rfl) (by decide) (fun _ _ => (Stores.cons (n := Str.ofString "a") (fun _ _ _ _ _ _ h => wpAny_assign_Name h) rfl rfl (Stores.cons (n := Str.ofString "b") (fun _ _ _ _ _ _ h => wpAny_assign_Name h) rfl rfl (Stores.cons (n := Str.ofString "c") (fun _ _ _ _ _ _ h => wpAny_assign_Name h) rfl rfl (Stores.cons (n := Str.ofString "d") (fun _ _ _ _ _ _ h => wpAny_assign_Name h) rfl rfl (Stores.cons (n := Str.ofString "e") (fun _ _ _ _ _ _ h => wpAny_assign_Name h) rfl rfl (Stores.cons (n := Str.ofString "f") (fun _ _ _ _ _ _ h => wpAny_assign_Name h) rfl rfl Stores.nil))))))) (fun _ => rfl) (fun _ => rfl) (fun _ => rfl)) (ss_cons (s_asg (i := 9) (sound_tup (sound_args_cons (sound_loc (i := 2) rfl rfl rfl) (sound_args_cons sound_int sound_args_nil (fun _ => star_Constant)) (fun _ => star_Name))) rfl rfl (by decide) (fun _ => rfl)) (ss_cons (s_ret (sound_tup (sound_args_cons (sound_call (g__law_sum hK) rfl (k__law_sum hK) (ok__law_sum hK) (by decide) (sound_args_cons (sound_lst (sound_args_cons (sound_tup (sound_args_cons (sound_loc (i := 3) rfl rfl rfl) (sound_args_cons (sound_idx (sound_loc (i := 1) rfl rfl rfl) sound_int (fun _ _ => rfl)) sound_args_nil (fun _ => rfl)) (fun _ => star_Name))) (sound_args_cons (sound_tup (sound_args_cons (sound_loc (i := 5) rfl rfl rfl) (sound_args_cons (sound_idx (sound_loc (i := 1) rfl rfl rfl) sound_int (fun _ _ => rfl)) sound_args_nil (fun _ => rfl)) (fun _ => star_Name))) (sound_args_cons (sound_tup (sound_args_cons (sound_loc (i := 7) rfl rfl rfl) (sound_args_cons (sound_loc (i := 9) rfl rfl rfl) sound_args_nil (fun _ => star_Name)) (fun _ => star_Name))) sound_args_nil (fun _ => star_Tuple)) (fun _ => star_Tuple)) (fun _ => star_Tuple))) sound_args_nil (fun _ => star_List)) (fun _ => star_List) (fun _ => pl_nil) rfl) (sound_args_cons (sound_call (g__law_sum hK) rfl (k__law_sum hK) (ok__law_sum hK) (by decide) (sound_args_cons (sound_lst (sound_args_cons (sound_tup (sound_args_cons (sound_loc (i := 4) rfl rfl rfl) (sound_args_cons (sound_idx (sound_loc (i := 1) rfl rfl rfl) sound_int (fun _ _ => rfl)) sound_args_nil (fun _ => rfl)) (fun _ => star_Name))) (sound_args_cons (sound_tup (sound_args_cons (sound_loc (i := 6) rfl rfl rfl) (sound_args_cons (sound_idx (sound_loc (i := 1) rfl rfl rfl) sound_int (fun _ _ => rfl)) sound_args_nil (fun _ => rfl)) (fun _ => star_Name))) (sound_args_cons (sound_tup (sound_args_cons (sound_loc (i := 8) rfl rfl rfl) (sound_args_cons (sound_loc (i := 9) rfl rfl rfl) sound_args_nil (fun _ => star_Name)) (fun _ => star_Name))) sound_args_nil (fun _ => star_Tuple)) (fun _ => star_Tuple)) (fun _ => star_Tuple))) sound_args_nil (fun _ => star_List)) (fun _ => star_List) (fun _ => pl_nil) rfl) sound_args_nil (fun _ => rfl)) (fun _ => rfl)))) ss_nil)))
  case h1 => exact kinds_of rfl
  case h2 => exact prefix_of rfl
  case h3 => decide
  case h4 => decide
  case h5 => rfl
  case h6 => rfl
  case h7 => rfl
end
section
-- part O6
open PySem PySem.W PyProof.Rows PySem.Calls PySem.Builtin PySem.Builtin.Str PySem.Builtin.ObjectAttr
set_option maxHeartbeats 8000000
theorem fill_O6 (w : World) : K0 w.params = K0 w.params ∧ PySem.Challenge.rw_nu0033_01.row.prog = PySem.Challenge.rw_nu0033_01.row.prog := by
  k_fill
  exact ⟨rfl, rfl⟩
theorem ok__law_product_right {P : Par} (hK : P.K = K0 P.w.params) : Ok P 9 (.ref 510) S__law_product_right := by
  refine' Ok.mono (Ok.pure (ok_def (d := 8) (ns := [Str.ofString "one", Str.ofString "other", Str.ofString "p", Str.ofString "both"]) (ps := [Str.ofString "one", Str.ofString "other", Str.ofString "p"]) (p := p__law_product_right) ?D ?hb ?h1 ?h2 ?h3 ?h4 ?h5 ?h6 ?h7)) vc__law_product_right
  case D =>
    rw [hK]
    refine' defK_mk ?a ?b ?c
    case a => k_is
    case b => k_is
    case c =>
      intro s vs hX hl
      obtain ⟨v0, v1, v2, rfl⟩ := len3 hl
      exact BindsTo.of_eq rfl
  case hb => exact (ss_cons (s_asg (i := 3) (sound_meth (m_Matrix_then hK) (k_Matrix_then hK) (ok_Matrix_then hK) (by decide) (sound_loc (i := 0) rfl rfl rfl) (sound_args_cons (sound_loc (i := 1) rfl rfl rfl) sound_args_nil (fun _ => star_Name)) (fun _ => star_Name) (fun _ => pl_nil) (fun _ => rfl)) rfl rfl (by decide) (fun _ => rfl)) (ss_cons (s_if (sound_cmpT ne_sound (sound_meth (m_Matrix_point hK) (k_Matrix_point hK) (ok_Matrix_point hK) (by decide) (sound_loc (i := 3) rfl rfl rfl) (sound_args_cons (sound_loc (i := 2) rfl rfl rfl) sound_args_nil (fun _ => star_Name)) (fun _ => star_Name) (fun _ => pl_nil) (fun _ => rfl)) (sound_call (g__law_led hK) rfl (k__law_led hK) (ok__law_led hK) (by decide) (sound_args_cons (sound_meth0 (m_Matrix_row hK) (k_Matrix_row hK) (ok_Matrix_row hK) (by decide) (sound_loc (i := 1) rfl rfl rfl) (fun _ => rfl)) (sound_args_cons (sound_call (g__law_led hK) rfl (k__law_led hK) (ok__law_led hK) (by decide) (sound_args_cons (sound_meth0 (m_Matrix_row hK) (k_Matrix_row hK) (ok_Matrix_row hK) (by decide) (sound_loc (i := 0) rfl rfl rfl) (fun _ => rfl)) (sound_args_cons (sound_loc (i := 2) rfl rfl rfl) (sound_args_cons sound_int sound_args_nil (fun _ => star_Constant)) (fun _ => star_Name)) (fun _ => rfl)) (fun _ => rfl) (pl_cons (fun _ => star_Name) (pl_cons (fun _ => star_Constant) (fun _ => pl_nil))) rfl) (sound_args_cons sound_int sound_args_nil (fun _ => star_Constant)) (fun _ => rfl)) (fun _ => rfl)) (fun _ => rfl) (pl_cons (fun _ => rfl) (pl_cons (fun _ => star_Constant) (fun _ => pl_nil))) rfl) rfl) (ss_cons (s_ret sound_true) ss_nil) ss_nil) (ss_cons (s_if (sound_cmpT ne_sound (sound_meth (m_Matrix_vector hK) (k_Matrix_vector hK) (ok_Matrix_vector hK) (by decide) (sound_loc (i := 3) rfl rfl rfl) (sound_args_cons (sound_loc (i := 2) rfl rfl rfl) sound_args_nil (fun _ => star_Name)) (fun _ => star_Name) (fun _ => pl_nil) (fun _ => rfl)) (sound_call (g__law_led hK) rfl (k__law_led hK) (ok__law_led hK) (by decide) (sound_args_cons (sound_meth0 (m_Matrix_row hK) (k_Matrix_row hK) (ok_Matrix_row hK) (by decide) (sound_loc (i := 1) rfl rfl rfl) (fun _ => rfl)) (sound_args_cons (sound_call (g__law_led hK) rfl (k__law_led hK) (ok__law_led hK) (by decide) (sound_args_cons (sound_meth0 (m_Matrix_row hK) (k_Matrix_row hK) (ok_Matrix_row hK) (by decide) (sound_loc (i := 0) rfl rfl rfl) (fun _ => rfl)) (sound_args_cons (sound_loc (i := 2) rfl rfl rfl) (sound_args_cons sound_int sound_args_nil (fun _ => star_Constant)) (fun _ => star_Name)) (fun _ => rfl)) (fun _ => rfl) (pl_cons (fun _ => star_Name) (pl_cons (fun _ => star_Constant) (fun _ => pl_nil))) rfl) (sound_args_cons sound_int sound_args_nil (fun _ => star_Constant)) (fun _ => rfl)) (fun _ => rfl)) (fun _ => rfl) (pl_cons (fun _ => rfl) (pl_cons (fun _ => star_Constant) (fun _ => pl_nil))) rfl) rfl) (ss_cons (s_ret sound_true) ss_nil) ss_nil) (ss_cons (s_ret (sound_cmp eq_sound (sound_meth0 (m_Matrix_determinant hK) (k_Matrix_determinant hK) (ok_Matrix_determinant hK) (by decide) (sound_loc (i := 3) rfl rfl rfl) (fun _ => rfl)) (sound_call (g__law_sum hK) rfl (k__law_sum hK) (ok__law_sum hK) (by decide) (sound_args_cons (sound_lst (sound_args_cons (sound_tup (sound_args_cons (sound_meth0 (m_Matrix_determinant hK) (k_Matrix_determinant hK) (ok_Matrix_determinant hK) (by decide) (sound_loc (i := 0) rfl rfl rfl) (fun _ => rfl)) (sound_args_cons (sound_meth0 (m_Matrix_determinant hK) (k_Matrix_determinant hK) (ok_Matrix_determinant hK) (by decide) (sound_loc (i := 1) rfl rfl rfl) (fun _ => rfl)) sound_args_nil (fun _ => rfl)) (fun _ => rfl))) sound_args_nil (fun _ => star_Tuple))) sound_args_nil (fun _ => star_List)) (fun _ => star_List) (fun _ => pl_nil) rfl) rfl)) ss_nil))))
  case h1 => exact kinds_of rfl
  case h2 => exact prefix_of rfl
  case h3 => decide
  case h4 => decide
  case h5 => rfl
  case h6 => rfl
  case h7 => rfl
theorem ok__law_inverse_right {P : Par} (hK : P.K = K0 P.w.params) : Ok P 8 (.ref 517) S__law_inverse_right := by
  refine' Ok.mono (Ok.pure (ok_def (d := 7) (ns := [Str.ofString "matrix", Str.ofString "p", Str.ofString "a", Str.ofString "b", Str.ofString "c", Str.ofString "d", Str.ofString "e", Str.ofString "f", Str.ofString "due", Str.ofString "back"]) (ps := [Str.ofString "matrix", Str.ofString "p"]) (p := p__law_inverse_right) ?D ?hb ?h1 ?h2 ?h3 ?h4 ?h5 ?h6 ?h7)) vc__law_inverse_right
  case D =>
    rw [hK]
    refine' defK_mk ?a ?b ?c
    case a => k_is
    case b => k_is
    case c =>
      intro s vs hX hl
      obtain ⟨v0, v1, rfl⟩ := len2 hl
      exact BindsTo.of_eq rfl
  case hb => exact (ss_cons (s_unp (is := [2, 3, 4, 5, 6, 7]) (sound_meth0 (m_Matrix_row hK) (k_Matrix_row hK) (ok_Matrix_row hK) (by decide) (sound_loc (i := 0) rfl rfl rfl) (fun _ => rfl)) (by decide) (fun _ _ => (Stores.cons (n := Str.ofString "a") (fun _ _ _ _ _ _ h => wpAny_assign_Name h) rfl rfl (Stores.cons (n := Str.ofString "b") (fun _ _ _ _ _ _ h => wpAny_assign_Name h) rfl rfl (Stores.cons (n := Str.ofString "c") (fun _ _ _ _ _ _ h => wpAny_assign_Name h) rfl rfl (Stores.cons (n := Str.ofString "d") (fun _ _ _ _ _ _ h => wpAny_assign_Name h) rfl rfl (Stores.cons (n := Str.ofString "e") (fun _ _ _ _ _ _ h => wpAny_assign_Name h) rfl rfl (Stores.cons (n := Str.ofString "f") (fun _ _ _ _ _ _ h => wpAny_assign_Name h) rfl rfl Stores.nil))))))) (fun _ => rfl) (fun _ => rfl) (fun _ => rfl)) (ss_cons (s_asg (i := 8) (sound_call (g__law_sum hK) rfl (k__law_sum hK) (ok__law_sum hK) (by decide) (sound_args_cons (sound_lst (sound_args_cons (sound_tup (sound_args_cons (sound_loc (i := 2) rfl rfl rfl) (sound_args_cons (sound_loc (i := 5) rfl rfl rfl) sound_args_nil (fun _ => star_Name)) (fun _ => star_Name))) (sound_args_cons (sound_tup (sound_args_cons (sound_loc (i := 3) rfl rfl rfl) (sound_args_cons (sound_tup (sound_args_cons (sound_neg (sound_idx (sound_loc (i := 4) rfl rfl rfl) sound_int (fun _ _ => rfl))) (sound_args_cons (sound_idx (sound_loc (i := 4) rfl rfl rfl) sound_int (fun _ _ => rfl)) sound_args_nil (fun _ => rfl)) (fun _ => star_UnaryOp))) sound_args_nil (fun _ => star_Tuple)) (fun _ => star_Name))) sound_args_nil (fun _ => star_Tuple)) (fun _ => star_Tuple))) sound_args_nil (fun _ => star_List)) (fun _ => star_List) (fun _ => pl_nil) rfl) rfl rfl (by decide) (fun _ => rfl)) (ss_cons (s_if (sound_cmpT ne_sound (sound_meth0 (m_Matrix_determinant hK) (k_Matrix_determinant hK) (ok_Matrix_determinant hK) (by decide) (sound_loc (i := 0) rfl rfl rfl) (fun _ => rfl)) (sound_loc (i := 8) rfl rfl rfl) rfl) (ss_cons (s_ret sound_true) ss_nil) ss_nil) (ss_cons (s_try (x_MatrixFault hK) (g_MatrixFault hK) rfl rfl (ss_cons (s_asg (i := 9) (sound_meth0 (m_Matrix_inverse hK) (k_Matrix_inverse hK) (ok_Matrix_inverse hK) (by decide) (sound_loc (i := 0) rfl rfl rfl) (fun _ => rfl)) rfl rfl (by decide) (fun _ => rfl)) ss_nil) (ss_cons (s_ret (sound_cmp eq_sound (sound_idx (sound_loc (i := 8) rfl rfl rfl) sound_int (fun _ _ => rfl)) sound_int rfl)) ss_nil)) (ss_cons (s_if (sound_orT3 (sound_cmpT eq_sound (sound_idx (sound_loc (i := 8) rfl rfl rfl) sound_int (fun _ _ => rfl)) sound_int rfl) (sound_cmpT ne_sound (sound_meth (m_Matrix_point hK) (k_Matrix_point hK) (ok_Matrix_point hK) (by decide) (sound_loc (i := 9) rfl rfl rfl) (sound_args_cons (sound_meth (m_Matrix_point hK) (k_Matrix_point hK) (ok_Matrix_point hK) (by decide) (sound_loc (i := 0) rfl rfl rfl) (sound_args_cons (sound_loc (i := 1) rfl rfl rfl) sound_args_nil (fun _ => star_Name)) (fun _ => star_Name) (fun _ => pl_nil) (fun _ => rfl)) sound_args_nil (fun _ => rfl)) (fun _ => rfl) (fun _ => pl_nil) (fun _ => rfl)) (sound_loc (i := 1) rfl rfl rfl) rfl) (sound_cmpT ne_sound (sound_meth (m_Matrix_point hK) (k_Matrix_point hK) (ok_Matrix_point hK) (by decide) (sound_loc (i := 0) rfl rfl rfl) (sound_args_cons (sound_meth (m_Matrix_point hK) (k_Matrix_point hK) (ok_Matrix_point hK) (by decide) (sound_loc (i := 9) rfl rfl rfl) (sound_args_cons (sound_loc (i := 1) rfl rfl rfl) sound_args_nil (fun _ => star_Name)) (fun _ => star_Name) (fun _ => pl_nil) (fun _ => rfl)) sound_args_nil (fun _ => rfl)) (fun _ => rfl) (fun _ => pl_nil) (fun _ => rfl)) (sound_loc (i := 1) rfl rfl rfl) rfl)) (ss_cons (s_ret sound_true) ss_nil) ss_nil) (ss_cons (s_ret (sound_cmp eq_sound (sound_meth0 (m_Matrix_row hK) (k_Matrix_row hK) (ok_Matrix_row hK) (by decide) (sound_meth0 (m_Matrix_inverse hK) (k_Matrix_inverse hK) (ok_Matrix_inverse hK) (by decide) (sound_loc (i := 9) rfl rfl rfl) (fun _ => rfl)) (fun _ => rfl)) (sound_meth0 (m_Matrix_row hK) (k_Matrix_row hK) (ok_Matrix_row hK) (by decide) (sound_loc (i := 0) rfl rfl rfl) (fun _ => rfl)) rfl)) ss_nil))))))
  case h1 => exact kinds_of rfl
  case h2 => exact prefix_of rfl
  case h3 => decide
  case h4 => decide
  case h5 => rfl
  case h6 => rfl
  case h7 => rfl
theorem ok__law_number {P : Par} (hK : P.K = K0 P.w.params) : Ok P 5 (.ref 524) S__law_number := by
  refine' Ok.mono (Ok.id (ok_def (d := 4) (ns := [Str.ofString "source"]) (ps := [Str.ofString "source"]) (p := p__law_number) ?D ?hb ?h1 ?h2 ?h3 ?h4 ?h5 ?h6 ?h7)) vc__law_number
  case D =>
    rw [hK]
    refine' defK_mk ?a ?b ?c
    case a => k_is
    case b => k_is
    case c =>
      intro s vs hX hl
      obtain ⟨v0, rfl⟩ := len1 hl
      exact BindsTo.of_eq rfl
  case hb => exact (ss_cons (s_ret (sound_call (g__law_one hK) rfl (k__law_one hK) (ok__law_one hK) (by decide) (sound_args_cons (sound_loc (i := 0) rfl rfl rfl) (sound_args_cons (sound_lst (sound_args_cons (sound_tup (sound_args_cons sound_str (sound_args_cons (sound_tup (sound_args_cons sound_int (sound_args_cons sound_int sound_args_nil (fun _ => star_Constant)) (fun _ => star_Constant))) sound_args_nil (fun _ => star_Tuple)) (fun _ => star_Constant))) (sound_args_cons (sound_tup (sound_args_cons sound_str (sound_args_cons (sound_tup (sound_args_cons (sound_neg sound_int) (sound_args_cons sound_int sound_args_nil (fun _ => star_Constant)) (fun _ => star_UnaryOp))) sound_args_nil (fun _ => star_Tuple)) (fun _ => star_Constant))) (sound_args_cons (sound_tup (sound_args_cons sound_str (sound_args_cons (sound_tup (sound_args_cons sound_int (sound_args_cons sound_int sound_args_nil (fun _ => star_Constant)) (fun _ => star_Constant))) sound_args_nil (fun _ => star_Tuple)) (fun _ => star_Constant))) (sound_args_cons (sound_tup (sound_args_cons sound_str (sound_args_cons (sound_tup (sound_args_cons sound_int (sound_args_cons sound_int sound_args_nil (fun _ => star_Constant)) (fun _ => star_Constant))) sound_args_nil (fun _ => star_Tuple)) (fun _ => star_Constant))) (sound_args_cons (sound_tup (sound_args_cons sound_str (sound_args_cons (sound_tup (sound_args_cons sound_int (sound_args_cons sound_int sound_args_nil (fun _ => star_Constant)) (fun _ => star_Constant))) sound_args_nil (fun _ => star_Tuple)) (fun _ => star_Constant))) (sound_args_cons (sound_tup (sound_args_cons sound_str (sound_args_cons (sound_tup (sound_args_cons (sound_neg sound_int) (sound_args_cons sound_int sound_args_nil (fun _ => star_Constant)) (fun _ => star_UnaryOp))) sound_args_nil (fun _ => star_Tuple)) (fun _ => star_Constant))) sound_args_nil (fun _ => star_Tuple)) (fun _ => star_Tuple)) (fun _ => star_Tuple)) (fun _ => star_Tuple)) (fun _ => star_Tuple)) (fun _ => star_Tuple))) sound_args_nil (fun _ => star_List)) (fun _ => star_Name)) (fun _ => star_Name) (pl_cons (fun _ => star_List) (fun _ => pl_nil)) rfl)) ss_nil)
  case h1 => exact kinds_of rfl
  case h2 => exact prefix_of rfl
  case h3 => decide
  case h4 => decide
  case h5 => rfl
  case h6 => rfl
  case h7 => rfl
theorem ok__law_parted {P : Par} (hK : P.K = K0 P.w.params) : Ok P 3 (.ref 531) S__law_parted := by
  refine' Ok.mono (Ok.pure (ok_def (d := 2) (ns := [Str.ofString "texts", Str.ofString "gap", Str.ofString "found", Str.ofString "at", Str.ofString "is_parted"]) (ps := [Str.ofString "texts", Str.ofString "gap"]) (p := p__law_parted) ?D ?hb ?h1 ?h2 ?h3 ?h4 ?h5 ?h6 ?h7)) vc__law_parted
  case D =>
    rw [hK]
    refine' defK_mk ?a ?b ?c
    case a => k_is
    case b => k_is
    case c =>
      intro s vs hX hl
      obtain ⟨v0, v1, rfl⟩ := len2 hl
      exact BindsTo.of_eq rfl
  case hb => exact (ss_cons (s_asg (i := 2) (sound_idx (sound_loc (i := 0) rfl rfl rfl) sound_int (fun _ _ => rfl)) rfl rfl (by decide) (fun _ => rfl)) (ss_cons (s_for (sa_name (i := 3) rfl rfl (by decide)) (si_rng2 (g_range hK) b_range (by decide) rfl sound_int (sound_callB (g_len hK) b_len (by decide) rfl len_ok (by decide) (sound_args_cons (sound_loc (i := 0) rfl rfl rfl) sound_args_nil (fun _ => star_Name)) (fun _ => star_Name) (fun _ => pl_nil) rfl) (fun _ => rfl) (fun _ => rfl) rfl) (ss_cons (s_asg (i := 4) (sound_orV (sound_cmp eq_sound (sound_idx (sound_idx (sound_loc (i := 0) rfl rfl rfl) (sound_loc (i := 3) rfl rfl rfl) (fun _ _ => rfl)) sound_int (fun _ _ => rfl)) sound_str rfl) (sound_andV (sound_cmp eq_sound (sound_idx (sound_idx (sound_loc (i := 0) rfl rfl rfl) (sound_loc (i := 3) rfl rfl rfl) (fun _ _ => rfl)) sound_int (fun _ _ => rfl)) sound_str rfl) (sound_cmp in_sound sound_str (sound_idx (sound_loc (i := 0) rfl rfl rfl) (sound_bin sub_sound (sound_loc (i := 3) rfl rfl rfl) sound_int) (fun _ _ => rfl)) rfl))) rfl rfl (by decide) (fun _ => rfl)) (ss_cons (s_asg (i := 2) (sound_bin add_sound (sound_bin add_sound (sound_loc (i := 2) rfl rfl rfl) (sound_if (sound_andT (sound_cmpT eq_sound (sound_loc (i := 1) rfl rfl rfl) sound_str rfl) (sound_not (sound_test (sound_loc (i := 4) rfl rfl rfl) (fun _ _ => rfl)))) sound_str (sound_loc (i := 1) rfl rfl rfl))) (sound_idx (sound_loc (i := 0) rfl rfl rfl) (sound_loc (i := 3) rfl rfl rfl) (fun _ _ => rfl))) rfl rfl (by decide) (fun _ => rfl)) ss_nil)) (fun _ _ => rfl)) (ss_cons (s_ret (sound_loc (i := 2) rfl rfl rfl)) ss_nil)))
  case h1 => exact kinds_of rfl
  case h2 => exact prefix_of rfl
  case h3 => decide
  case h4 => decide
  case h5 => rfl
  case h6 => rfl
  case h7 => rfl
theorem ok__law_spot_right {P : Par} (hK : P.K = K0 P.w.params) : Ok P 9 (.ref 548) S__law_spot_right := by
  refine' Ok.mono (Ok.id (ok_def (d := 8) (ns := [Str.ofString "source", Str.ofString "matrix", Str.ofString "p", Str.ofString "grain", Str.ofString "x", Str.ofString "y", Str.ofString "told", Str.ofString "due", Str.ofString "apart"]) (ps := [Str.ofString "source", Str.ofString "matrix", Str.ofString "p"]) (p := p__law_spot_right) ?D ?hb ?h1 ?h2 ?h3 ?h4 ?h5 ?h6 ?h7)) vc__law_spot_right
  case D =>
    rw [hK]
    refine' defK_mk ?a ?b ?c
    case a => k_is
    case b => k_is
    case c =>
      intro s vs hX hl
      obtain ⟨v0, v1, v2, rfl⟩ := len3 hl
      exact BindsTo.of_eq rfl
  case hb => exact (ss_cons (s_asg (i := 3) (sound_call (g__law_one hK) rfl (k__law_one hK) (ok__law_one hK) (by decide) (sound_args_cons (sound_loc (i := 0) rfl rfl rfl) (sound_args_cons (sound_lst (sound_args_cons sound_int (sound_args_cons sound_int (sound_args_cons sound_int sound_args_nil (fun _ => star_Constant)) (fun _ => star_Constant)) (fun _ => star_Constant))) sound_args_nil (fun _ => star_List)) (fun _ => star_Name)) (fun _ => star_Name) (pl_cons (fun _ => star_List) (fun _ => pl_nil)) rfl) rfl rfl (by decide) (fun _ => rfl)) (ss_cons (s_unp (is := [4, 5]) (sound_call (g_spot_of hK) rfl (k_spot_of hK) (ok_spot_of hK) (by decide) (sound_args_cons (sound_loc (i := 1) rfl rfl rfl) (sound_args_cons (sound_loc (i := 2) rfl rfl rfl) (sound_args_cons (sound_loc (i := 3) rfl rfl rfl) sound_args_nil (fun _ => star_Name)) (fun _ => star_Name)) (fun _ => star_Name)) (fun _ => star_Name) (pl_cons (fun _ => star_Name) (pl_cons (fun _ => star_Name) (fun _ => pl_nil))) rfl) (by decide) (fun _ _ => (Stores.cons (n := Str.ofString "x") (fun _ _ _ _ _ _ h => wpAny_assign_Name h) rfl rfl (Stores.cons (n := Str.ofString "y") (fun _ _ _ _ _ _ h => wpAny_assign_Name h) rfl rfl Stores.nil))) (fun _ => rfl) (fun _ => rfl) (fun _ => rfl)) (ss_cons (s_for (sa_tup (is := [6, 7]) (by decide) (fun _ _ => (Stores.cons (n := Str.ofString "told") (fun _ _ _ _ _ _ h => wpAny_assign_Name h) rfl rfl (Stores.cons (n := Str.ofString "due") (fun _ _ _ _ _ _ h => wpAny_assign_Name h) rfl rfl Stores.nil))) (fun _ => rfl)) (si_data (sound_lst (sound_args_cons (sound_tup (sound_args_cons (sound_loc (i := 4) rfl rfl rfl) (sound_args_cons (sound_idx (sound_meth (m_Matrix_point hK) (k_Matrix_point hK) (ok_Matrix_point hK) (by decide) (sound_loc (i := 1) rfl rfl rfl) (sound_args_cons (sound_loc (i := 2) rfl rfl rfl) sound_args_nil (fun _ => star_Name)) (fun _ => star_Name) (fun _ => pl_nil) (fun _ => rfl)) sound_int (fun _ _ => rfl)) sound_args_nil (fun _ => rfl)) (fun _ => star_Name))) (sound_args_cons (sound_tup (sound_args_cons (sound_loc (i := 5) rfl rfl rfl) (sound_args_cons (sound_idx (sound_meth (m_Matrix_point hK) (k_Matrix_point hK) (ok_Matrix_point hK) (by decide) (sound_loc (i := 1) rfl rfl rfl) (sound_args_cons (sound_loc (i := 2) rfl rfl rfl) sound_args_nil (fun _ => star_Name)) (fun _ => star_Name) (fun _ => pl_nil) (fun _ => rfl)) sound_int (fun _ _ => rfl)) sound_args_nil (fun _ => rfl)) (fun _ => star_Name))) sound_args_nil (fun _ => star_Tuple)) (fun _ => star_Tuple)))) (ss_cons (s_asg (i := 8) (sound_bin sub_sound (sound_bin mul_sound (sound_bin mul_sound sound_int (sound_loc (i := 6) rfl rfl rfl)) (sound_idx (sound_loc (i := 7) rfl rfl rfl) sound_int (fun _ _ => rfl))) (sound_bin mul_sound (sound_bin mul_sound sound_int (sound_idx (sound_loc (i := 7) rfl rfl rfl) sound_int (fun _ _ => rfl))) (sound_loc (i := 3) rfl rfl rfl))) rfl rfl (by decide) (fun _ => rfl)) (ss_cons (s_if (sound_not (sound_chainT lt_sound le_sound (sound_neg (sound_idx (sound_loc (i := 7) rfl rfl rfl) sound_int (fun _ _ => rfl))) (sound_loc (i := 8) rfl rfl rfl) (sound_idx (sound_loc (i := 7) rfl rfl rfl) sound_int (fun _ _ => rfl)) (fun _ => rfl))) (ss_cons (s_ret sound_true) ss_nil) ss_nil) ss_nil)) (fun _ _ => rfl)) (ss_cons (s_ret sound_true) ss_nil))))
  case h1 => exact kinds_of rfl
  case h2 => exact prefix_of rfl
  case h3 => decide
  case h4 => decide
  case h5 => rfl
  case h6 => rfl
  case h7 => rfl
end
section
-- part O7
open PySem PySem.W PyProof.Rows PySem.Calls PySem.Builtin PySem.Builtin.Str PySem.Builtin.ObjectAttr
set_option maxHeartbeats 8000000
theorem fill_O7 (w : World) : K0 w.params = K0 w.params ∧ PySem.Challenge.rw_nu0033_01.row.prog = PySem.Challenge.rw_nu0033_01.row.prog := by
  k_fill
  exact ⟨rfl, rfl⟩
theorem ok__law_part {P : Par} (hK : P.K = K0 P.w.params) : Ok P 6 (.ref 536) S__law_part := by
  refine' Ok.mono (Ok.id (ok_def (d := 5) (ns := [Str.ofString "source", Str.ofString "told", Str.ofString "texts", Str.ofString "values", Str.ofString "gap", Str.ofString "way", Str.ofString "move", Str.ofString "many"]) (ps := [Str.ofString "source"]) (p := p__law_part) ?D ?hb ?h1 ?h2 ?h3 ?h4 ?h5 ?h6 ?h7)) vc__law_part
  case D =>
    rw [hK]
    refine' defK_mk ?a ?b ?c
    case a => k_is
    case b => k_is
    case c =>
      intro s vs hX hl
      obtain ⟨v0, rfl⟩ := len1 hl
      exact BindsTo.of_eq rfl
  case hb => exact (ss_cons (s_asgComp (frees := [(Str.ofString "source", 0)]) (compK rfl rfl) (si_rng1 (g_range hK) b_range (by decide) rfl sound_int (fun _ => rfl) rfl) (sound_call (g__law_number hK) rfl (k__law_number hK) (ok__law_number hK) (by decide) (sound_args_cons (sound_loc (i := 1) rfl rfl rfl) sound_args_nil (fun _ => star_Name)) (fun _ => star_Name) (fun _ => pl_nil) rfl) (fun _ _ => rfl) (i := 1) rfl rfl (by decide) (fun env he => by cases env; cases he; rfl)) (ss_cons (s_swp (is := [2, 3]) (names := [Str.ofString "texts", Str.ofString "values"]) (sound_tup (sound_args_cons (sound_comp (frees := []) (compK rfl rfl) (si_data (sound_loc (i := 1) rfl rfl rfl)) (sound_idx (sound_loc (i := 0) rfl rfl rfl) sound_int (fun _ _ => rfl)) (fun _ _ => rfl)) (sound_args_cons (sound_comp (frees := []) (compK rfl rfl) (si_data (sound_loc (i := 1) rfl rfl rfl)) (sound_idx (sound_loc (i := 0) rfl rfl rfl) sound_int (fun _ _ => rfl)) (fun _ _ => rfl)) sound_args_nil (fun _ => rfl)) (fun _ => rfl))) (by decide) (fun _ _ => (Stores.cons (n := Str.ofString "values") (fun _ _ _ _ _ _ h => wpAny_bindName h) rfl rfl (Stores.cons (n := Str.ofString "texts") (fun _ _ _ _ _ _ h => wpAny_bindName h) rfl rfl Stores.nil))) (fun _ => rfl) (fun env he => by cases env; cases he; rfl)) (ss_cons (s_swp (is := [4, 5]) (names := [Str.ofString "gap", Str.ofString "way"]) (sound_tup (sound_args_cons (sound_call (g__law_one hK) rfl (k__law_one hK) (ok__law_one hK) (by decide) (sound_args_cons (sound_loc (i := 0) rfl rfl rfl) (sound_args_cons (sound_lst (sound_args_cons sound_str (sound_args_cons sound_str (sound_args_cons sound_str (sound_args_cons sound_str sound_args_nil (fun _ => star_Constant)) (fun _ => star_Constant)) (fun _ => star_Constant)) (fun _ => star_Constant))) sound_args_nil (fun _ => star_List)) (fun _ => star_Name)) (fun _ => star_Name) (pl_cons (fun _ => star_List) (fun _ => pl_nil)) rfl) (sound_args_cons (sound_call (g__law_take hK) rfl (k__law_take hK) (ok__law_take hK) (by decide) (sound_args_cons (sound_loc (i := 0) rfl rfl rfl) (sound_args_cons sound_int sound_args_nil (fun _ => star_Constant)) (fun _ => star_Name)) (fun _ => star_Name) (pl_cons (fun _ => star_Constant) (fun _ => pl_nil)) rfl) sound_args_nil (fun _ => rfl)) (fun _ => rfl))) (by decide) (fun _ _ => (Stores.cons (n := Str.ofString "way") (fun _ _ _ _ _ _ h => wpAny_bindName h) rfl rfl (Stores.cons (n := Str.ofString "gap") (fun _ _ _ _ _ _ h => wpAny_bindName h) rfl rfl Stores.nil))) (fun _ => rfl) (fun env he => by cases env; cases he; rfl)) (ss_cons (s_if (sound_cmpT eq_sound (sound_loc (i := 5) rfl rfl rfl) sound_int rfl) (ss_cons (s_ret (sound_tup (sound_args_cons (sound_bin add_sound (sound_bin add_sound sound_str (sound_call (g__law_parted hK) rfl (k__law_parted hK) (ok__law_parted hK) (by decide) (sound_args_cons (sound_loc (i := 2) rfl rfl rfl) (sound_args_cons (sound_loc (i := 4) rfl rfl rfl) sound_args_nil (fun _ => star_Name)) (fun _ => star_Name)) (fun _ => star_Name) (pl_cons (fun _ => star_Name) (fun _ => pl_nil)) rfl)) sound_str) (sound_args_cons (sound_loc (i := 3) rfl rfl rfl) sound_args_nil (fun _ => star_Name)) (fun _ => rfl)))) ss_nil) ss_nil) (ss_cons (s_if (sound_cmpT lt_sound (sound_loc (i := 5) rfl rfl rfl) sound_int rfl) (ss_cons (s_asg (i := 6) (sound_lst (sound_args_cons (sound_idx (sound_loc (i := 3) rfl rfl rfl) sound_int (fun _ _ => rfl)) (sound_args_cons (sound_if (sound_cmpT eq_sound (sound_loc (i := 5) rfl rfl rfl) sound_int rfl) (sound_idx (sound_loc (i := 3) rfl rfl rfl) sound_int (fun _ _ => rfl)) (sound_tup (sound_args_cons sound_int (sound_args_cons sound_int sound_args_nil (fun _ => star_Constant)) (fun _ => star_Constant)))) sound_args_nil (fun _ => rfl)) (fun _ => rfl))) rfl rfl (by decide) (fun _ => rfl)) (ss_cons (s_ret (sound_tup (sound_args_cons (sound_bin add_sound (sound_bin add_sound sound_str (sound_call (g__law_parted hK) rfl (k__law_parted hK) (ok__law_parted hK) (by decide) (sound_args_cons (sound_cut (sound_loc (i := 2) rfl rfl rfl) sound_o_none (sound_o_some (sound_loc (i := 5) rfl rfl rfl))) (sound_args_cons (sound_loc (i := 4) rfl rfl rfl) sound_args_nil (fun _ => star_Name)) (fun _ => rfl)) (fun _ => rfl) (pl_cons (fun _ => star_Name) (fun _ => pl_nil)) rfl)) sound_str) (sound_args_cons (sound_bin add_sound (sound_lst (sound_args_cons (sound_tup (sound_args_cons sound_int (sound_args_cons sound_int sound_args_nil (fun _ => star_Constant)) (fun _ => star_Constant))) (sound_args_cons (sound_tup (sound_args_cons sound_int (sound_args_cons sound_int sound_args_nil (fun _ => star_Constant)) (fun _ => star_Constant))) (sound_args_cons (sound_tup (sound_args_cons sound_int (sound_args_cons sound_int sound_args_nil (fun _ => star_Constant)) (fun _ => star_Constant))) (sound_args_cons (sound_tup (sound_args_cons sound_int (sound_args_cons sound_int sound_args_nil (fun _ => star_Constant)) (fun _ => star_Constant))) sound_args_nil (fun _ => star_Tuple)) (fun _ => star_Tuple)) (fun _ => star_Tuple)) (fun _ => star_Tuple))) (sound_loc (i := 6) rfl rfl rfl)) sound_args_nil (fun _ => rfl)) (fun _ => rfl)))) ss_nil)) ss_nil) (ss_cons (s_asg (i := 7) (sound_bin sub_sound (sound_loc (i := 5) rfl rfl rfl) sound_int) rfl rfl (by decide) (fun _ => rfl)) (ss_cons (s_ret (sound_tup (sound_args_cons (sound_bin add_sound (sound_bin add_sound sound_str (sound_call (g__law_parted hK) rfl (k__law_parted hK) (ok__law_parted hK) (by decide) (sound_args_cons (sound_cut (sound_loc (i := 2) rfl rfl rfl) sound_o_none (sound_o_some (sound_loc (i := 7) rfl rfl rfl))) (sound_args_cons (sound_loc (i := 4) rfl rfl rfl) sound_args_nil (fun _ => star_Name)) (fun _ => rfl)) (fun _ => rfl) (pl_cons (fun _ => star_Name) (fun _ => pl_nil)) rfl)) sound_str) (sound_args_cons (sound_lst (sound_args_cons (sound_idx (sound_loc (i := 3) rfl rfl rfl) sound_int (fun _ _ => rfl)) (sound_args_cons (sound_tup (sound_args_cons sound_int (sound_args_cons sound_int sound_args_nil (fun _ => star_Constant)) (fun _ => star_Constant))) (sound_args_cons (sound_tup (sound_args_cons sound_int (sound_args_cons sound_int sound_args_nil (fun _ => star_Constant)) (fun _ => star_Constant))) (sound_args_cons (sound_idx (sound_loc (i := 3) rfl rfl rfl) (sound_bin sub_sound (sound_loc (i := 7) rfl rfl rfl) sound_int) (fun _ _ => rfl)) (sound_args_cons (sound_tup (sound_args_cons sound_int (sound_args_cons sound_int sound_args_nil (fun _ => star_Constant)) (fun _ => star_Constant))) (sound_args_cons (sound_tup (sound_args_cons sound_int (sound_args_cons sound_int sound_args_nil (fun _ => star_Constant)) (fun _ => star_Constant))) sound_args_nil (fun _ => star_Tuple)) (fun _ => star_Tuple)) (fun _ => rfl)) (fun _ => star_Tuple)) (fun _ => star_Tuple)) (fun _ => rfl))) sound_args_nil (fun _ => star_List)) (fun _ => rfl)))) ss_nil)))))))
  case h1 => exact kinds_of rfl
  case h2 => exact prefix_of rfl
  case h3 => decide
  case h4 => decide
  case h5 => rfl
  case h6 => rfl
  case h7 => rfl
end
section
-- part O8
open PySem PySem.W PyProof.Rows PySem.Calls PySem.Builtin PySem.Builtin.Str PySem.Builtin.ObjectAttr
set_option maxHeartbeats 8000000
theorem fill_O8 (w : World) : K0 w.params = K0 w.params ∧ PySem.Challenge.rw_nu0033_01.row.prog = PySem.Challenge.rw_nu0033_01.row.prog := by
  k_fill
  exact ⟨rfl, rfl⟩
theorem ok__law_list_right {P : Par} (hK : P.K = K0 P.w.params) : Ok P 10 (.ref 541) S__law_list_right := by
  refine' Ok.mono (Ok.id (ok_def (d := 9) (ns := [Str.ofString "source", Str.ofString "p", Str.ofString "parts", Str.ofString "text", Str.ofString "due", Str.ofString "told", Str.ofString "row", Str.ofString "matrix", Str.ofString "wrong"]) (ps := [Str.ofString "source", Str.ofString "p"]) (p := p__law_list_right) ?D ?hb ?h1 ?h2 ?h3 ?h4 ?h5 ?h6 ?h7)) vc__law_list_right
  case D =>
    rw [hK]
    refine' defK_mk ?a ?b ?c
    case a => k_is
    case b => k_is
    case c =>
      intro s vs hX hl
      obtain ⟨v0, v1, rfl⟩ := len2 hl
      exact BindsTo.of_eq rfl
  case hb => exact (ss_cons (s_asgComp (frees := [(Str.ofString "source", 0)]) (compK rfl rfl) (si_rng1 (g_range hK) b_range (by decide) rfl (sound_call (g__law_take hK) rfl (k__law_take hK) (ok__law_take hK) (by decide) (sound_args_cons (sound_loc (i := 0) rfl rfl rfl) (sound_args_cons sound_int sound_args_nil (fun _ => star_Constant)) (fun _ => star_Name)) (fun _ => star_Name) (pl_cons (fun _ => star_Constant) (fun _ => pl_nil)) rfl) (fun _ => rfl) rfl) (sound_call (g__law_part hK) rfl (k__law_part hK) (ok__law_part hK) (by decide) (sound_args_cons (sound_loc (i := 1) rfl rfl rfl) sound_args_nil (fun _ => star_Name)) (fun _ => star_Name) (fun _ => pl_nil) rfl) (fun _ _ => rfl) (i := 2) rfl rfl (by decide) (fun env he => by cases env; cases he; rfl)) (ss_cons (s_asg (i := 3) (sound_bin add_sound (sound_call (g__law_one hK) rfl (k__law_one hK) (ok__law_one hK) (by decide) (sound_args_cons (sound_loc (i := 0) rfl rfl rfl) (sound_args_cons (sound_lst (sound_args_cons sound_str (sound_args_cons sound_str sound_args_nil (fun _ => star_Constant)) (fun _ => star_Constant))) sound_args_nil (fun _ => star_List)) (fun _ => star_Name)) (fun _ => star_Name) (pl_cons (fun _ => star_List) (fun _ => pl_nil)) rfl) (sound_methB getsM_join join_ok (by decide) (sound_call (g__law_one hK) rfl (k__law_one hK) (ok__law_one hK) (by decide) (sound_args_cons (sound_loc (i := 0) rfl rfl rfl) (sound_args_cons (sound_lst (sound_args_cons sound_str (sound_args_cons sound_str (sound_args_cons sound_str sound_args_nil (fun _ => star_Constant)) (fun _ => star_Constant)) (fun _ => star_Constant))) sound_args_nil (fun _ => star_List)) (fun _ => star_Name)) (fun _ => star_Name) (pl_cons (fun _ => star_List) (fun _ => pl_nil)) rfl) (sound_args_cons (sound_comp (frees := []) (compK rfl rfl) (si_data (sound_loc (i := 2) rfl rfl rfl)) (sound_idx (sound_loc (i := 0) rfl rfl rfl) sound_int (fun _ _ => rfl)) (fun _ _ => rfl)) sound_args_nil (fun _ => rfl)) (fun _ => rfl) (fun _ => pl_nil) (fun _ => rfl))) rfl rfl (by decide) (fun _ => rfl)) (ss_cons (s_asg (i := 4) (sound_loc (i := 1) rfl rfl rfl) rfl rfl (by decide) (fun _ => rfl)) (ss_cons (s_for (sa_tup (is := [5, 6]) (by decide) (fun _ _ => (Stores.cons (n := Str.ofString "told") (fun _ _ _ _ _ _ h => wpAny_assign_Name h) rfl rfl (Stores.cons (n := Str.ofString "row") (fun _ _ _ _ _ _ h => wpAny_assign_Name h) rfl rfl Stores.nil))) (fun _ => rfl)) (si_data (sound_back (sound_loc (i := 2) rfl rfl rfl))) (ss_cons (s_asg (i := 4) (sound_call (g__law_led hK) rfl (k__law_led hK) (ok__law_led hK) (by decide) (sound_args_cons (sound_loc (i := 6) rfl rfl rfl) (sound_args_cons (sound_loc (i := 4) rfl rfl rfl) (sound_args_cons sound_int sound_args_nil (fun _ => star_Constant)) (fun _ => star_Name)) (fun _ => star_Name)) (fun _ => star_Name) (pl_cons (fun _ => star_Name) (pl_cons (fun _ => star_Constant) (fun _ => pl_nil))) rfl) rfl rfl (by decide) (fun _ => rfl)) ss_nil) (fun _ _ => rfl)) (ss_cons (s_asg (i := 7) (sound_call (g_read_transforms hK) rfl (k_read_transforms hK) (ok_read_transforms hK) (by decide) (sound_args_cons (sound_loc (i := 3) rfl rfl rfl) sound_args_nil (fun _ => star_Name)) (fun _ => star_Name) (fun _ => pl_nil) rfl) rfl rfl (by decide) (fun _ => rfl)) (ss_cons (s_if (sound_orT (sound_cmpT ne_sound (sound_meth (m_Matrix_point hK) (k_Matrix_point hK) (ok_Matrix_point hK) (by decide) (sound_loc (i := 7) rfl rfl rfl) (sound_args_cons (sound_loc (i := 1) rfl rfl rfl) sound_args_nil (fun _ => star_Name)) (fun _ => star_Name) (fun _ => pl_nil) (fun _ => rfl)) (sound_loc (i := 4) rfl rfl rfl) rfl) (sound_cmpT ne_sound (sound_meth0 (m_Matrix_row hK) (k_Matrix_row hK) (ok_Matrix_row hK) (by decide) (sound_call (g_read_transforms hK) rfl (k_read_transforms hK) (ok_read_transforms hK) (by decide) (sound_args_cons (sound_call (g_write_matrix hK) rfl (k_write_matrix hK) (ok_write_matrix hK) (by decide) (sound_args_cons (sound_loc (i := 7) rfl rfl rfl) sound_args_nil (fun _ => star_Name)) (fun _ => star_Name) (fun _ => pl_nil) rfl) sound_args_nil (fun _ => rfl)) (fun _ => rfl) (fun _ => pl_nil) rfl) (fun _ => rfl)) (sound_meth0 (m_Matrix_row hK) (k_Matrix_row hK) (ok_Matrix_row hK) (by decide) (sound_loc (i := 7) rfl rfl rfl) (fun _ => rfl)) rfl)) (ss_cons (s_ret sound_true) ss_nil) ss_nil) (ss_cons (s_asg (i := 8) (sound_lst (sound_args_cons sound_str (sound_args_cons sound_str (sound_args_cons sound_str (sound_args_cons sound_str (sound_args_cons sound_str (sound_args_cons sound_str (sound_args_cons sound_str (sound_args_cons sound_str (sound_args_cons sound_str (sound_args_cons sound_str sound_args_nil (fun _ => star_Constant)) (fun _ => star_Constant)) (fun _ => star_Constant)) (fun _ => star_Constant)) (fun _ => star_Constant)) (fun _ => star_Constant)) (fun _ => star_Constant)) (fun _ => star_Constant)) (fun _ => star_Constant)) (fun _ => star_Constant))) rfl rfl (by decide) (fun _ => rfl)) (ss_cons (s_try (x_SheetFault hK) (g_SheetFault hK) rfl rfl (ss_cons (s_exp (sound_call (g_read_transforms hK) rfl (k_read_transforms hK) (ok_read_transforms hK) (by decide) (sound_args_cons (sound_bin add_sound (sound_bin add_sound (sound_methB0 getsM_strip strip_ok (by decide) (sound_loc (i := 3) rfl rfl rfl) (fun _ => rfl)) sound_str) (sound_call (g__law_one hK) rfl (k__law_one hK) (ok__law_one hK) (by decide) (sound_args_cons (sound_loc (i := 0) rfl rfl rfl) (sound_args_cons (sound_loc (i := 8) rfl rfl rfl) sound_args_nil (fun _ => star_Name)) (fun _ => star_Name)) (fun _ => star_Name) (pl_cons (fun _ => star_Name) (fun _ => pl_nil)) rfl)) sound_args_nil (fun _ => rfl)) (fun _ => rfl) (fun _ => pl_nil) rfl) (fun _ => rfl)) ss_nil) (ss_cons (s_ret sound_true) ss_nil)) (ss_cons (s_ret sound_true) ss_nil)))))))))
  case h1 => exact kinds_of rfl
  case h2 => exact prefix_of rfl
  case h3 => decide
  case h4 => decide
  case h5 => rfl
  case h6 => rfl
  case h7 => rfl
end
section
-- part O10
open PySem PySem.W PyProof.Rows PySem.Calls PySem.Builtin PySem.Builtin.Str PySem.Builtin.ObjectAttr
set_option maxHeartbeats 8000000
theorem fill_O10 (w : World) : K0 w.params = K0 w.params ∧ PySem.Challenge.rw_nu0033_01.row.prog = PySem.Challenge.rw_nu0033_01.row.prog := by
  k_fill
  exact ⟨rfl, rfl⟩
theorem pool_go {P : Par} (hK : P.K = K0 P.w.params) {A : Around} {fs : List Env} {s : Shared} {vs : List Value} {X : List Addr} {Q E : Value → Shared → Prop} {l : List Int} {k : Nat} (hl : l.length < 2 ^ 20) (hk : k < 2)
    (hfr : A.frames = some fs) (hne : fs ≠ []) (hh : A.handled = none) (hdep : A.depth + 3 < recursionLimit) (hun : A.units + 16 * 3 + 64 < cLine) (am : Amb P fs .none none X s.heap) (rel : RelVs none X s.heap [.d (.lst (l.map .int)), .d (.int (k : Nat))] vs)
    (hQ : ∀ y a s', AmbAft P fs none X s .none s' → s.heap.get? a = none → Rel X s'.heap y (.ref a) → Kpool y → Q (.ref a) s') :
    wpAny (model P.prog P.w) A (call (.ref 468) vs) Q E s := by
  refine' ok_defF (d := 2) (ns := [Str.ofString "script", Str.ofString "k", Str.ofString "cell", Str.ofString "big", Str.ofString "mixed"]) (ps := [Str.ofString "script", Str.ofString "k"]) (p := p_pool_F) ?D ?hb ?h1 ?h2 ?h3 ?h4 ?h5 ?h6 ?h7 hfr hne hh hdep hun am rel rfl (vc_pool_F hl hk) hQ
  case D =>
    rw [hK]
    refine' defK_mk ?a ?b ?c
    case a => k_is
    case b => k_is
    case c =>
      intro s vs hX hl
      obtain ⟨v0, v1, rfl⟩ := len2 hl
      exact BindsTo.of_eq rfl
  case hb => exact (ssF_cons (s_asg (i := 2) (sound_if (sound_cmpT lt_sound (sound_loc (i := 1) rfl rfl rfl) (sound_callB (g_len hK) b_len (by decide) rfl len_ok (by decide) (sound_args_cons (sound_loc (i := 0) rfl rfl rfl) sound_args_nil (fun _ => star_Name)) (fun _ => star_Name) (fun _ => pl_nil) rfl) rfl) (sound_idx (sound_loc (i := 0) rfl rfl rfl) (sound_loc (i := 1) rfl rfl rfl) (fun _ _ => rfl)) sound_int) rfl rfl (by decide) (fun _ => rfl)) (ssF_cons (s_asg (i := 3) (sound_callB (g_max hK) b_max (by decide) rfl max_ok (by decide) (sound_args_cons (sound_loc (i := 2) rfl rfl rfl) (sound_args_cons (sound_bin sub_sound (sound_neg sound_int) (sound_loc (i := 2) rfl rfl rfl)) sound_args_nil (fun _ => rfl)) (fun _ => star_Name)) (fun _ => star_Name) (pl_cons (fun _ => rfl) (fun _ => pl_nil)) rfl) rfl rfl (by decide) (fun _ => rfl)) (ssF_cons (s_asg (i := 4) (sound_bin mod_sound (sound_bin mul_sound (sound_bin add_sound (sound_bin add_sound (sound_bin add_sound (sound_bin mod_sound (sound_loc (i := 3) rfl rfl rfl) sound_int) (sound_bin mul_sound (sound_bin mul_sound sound_int (sound_loc (i := 1) rfl rfl rfl)) (sound_loc (i := 1) rfl rfl rfl))) (sound_bin mul_sound sound_int (sound_loc (i := 1) rfl rfl rfl))) sound_int) sound_int) sound_int) rfl rfl (by decide) (fun _ => rfl)) (ssF_ret (sound_args_cons (sound_if (sound_cmpT ge_sound (sound_loc (i := 3) rfl rfl rfl) (sound_bin pow_sound sound_int sound_int) rfl) (sound_loc (i := 3) rfl rfl rfl) sound_int) (sound_args_cons (sound_loc (i := 4) rfl rfl rfl) sound_args_nil (fun _ => star_Name)) (fun _ => rfl))))))
  case h1 =>
    intro n hn
    simp only [List.mem_cons, List.not_mem_nil, or_false] at hn
    rcases hn with rfl | rfl <;> rfl
  case h2 => exact prefix_of rfl
  case h3 => decide
  case h4 => decide
  case h5 => rfl
  case h6 => rfl
  case h7 => rfl
theorem eval_pool {P : Par} (hK : P.K = K0 P.w.params) {sc : Scope} {ns : List Str} {d : Nat} {v : FV} {X : List Addr} {m : Names} {s : Shared} {A : Around} {ρ : Env1} {l : List Int} {k : Nat} {e0 e1 : Expr} {fp pos : Pos} (hd : 3 ≤ d)
    (hk : sc.names.lookup (Str.ofString "_law_pool") = some .globalImplicit) (hl : SoundL P true d sc ns [e0, e1] (pCons (pLoc 0) (pCons (pLoc 1) pNil))) (hs : ∀ env, starEach [e0, e1] env = (false, eval e0 env) :: starEach [e1] env) (hpl : ∀ env, (backTo pos (starEach [e1] env)).any (·.1) = false)
    (hρ0 : ρ[0]? = some (some (.d (.lst (l.map .int))))) (hρ1 : ρ[1]? = some (some (.d (.int (k : Nat))))) (hl20 : l.length < 2 ^ 20) (hk2 : k < 2) (G : Good A v sc true d) (S : St P sc v ns ρ .none none X m s.heap) (Q E : Value → Shared → Prop)
    (hQ : ∀ a s' i j, Aft P sc v ns ρ none X m s .none s' → s.heap.get? a = none → Rel X s'.heap (.lst [.int i, .int j]) (.ref a) → 0 ≤ j → j < 2 ^ 31 → Q (.ref a) s') :
    wpAny (model P.prog P.w) A (eval (.Call (.Name (Str.ofString "_law_pool") fp) [e0, e1] [] pos) (v.env sc)) Q E s := by
  refine wpAny_Call_Name_kw (name_K S G (g__law_pool hK) hk (by decide) ?_)
  refine callWith_K P.X (k__law_pool hK) (hl pos A v s m ρ .none none X _ _ (fun r c1 => r = [.d (.lst (l.map .int)), .d (.int (k : Nat))] ∧ c1 = .none) (fun _ _ => False) G S ?_ (fun r c1 vl s1 a1 r1 hp1 => ⟨P.X.keeps a1.st.fr.keep, ?_⟩) (fun C c1 e s1 a1 ex q => q.elim)) (hs _) (hpl _)
  · simp only [e_pCons, e_pLoc, e_pNil, hρ0, hρ1, q_oSome]
    exact ⟨trivial, trivial⟩
  · obtain ⟨rfl, rfl⟩ := hp1
    refine pool_go hK hl20 hk2 G.frames G.some (G.handled rfl) (by have := G.room; omega) (by have := G.units; omega) a1.st.amb r1 fun y a s' am f r q => ?_
    obtain ⟨i, j, rfl, h0, h1⟩ := q
    exact hQ a s' i j (a1.trans (Aft.of_amb a1.st am)) (a1.absent _ f) r h0 h1
end
section
-- part L1
open PySem PySem.W PyProof.Rows PySem.Calls PySem.Builtin PySem.Builtin.Str PySem.Builtin.ObjectAttr
noncomputable def lawNs : List Str := [Str.ofString "script", Str.ofString "k", Str.ofString "source", Str.ofString "rows", Str.ofString "one", Str.ofString "other", Str.ofString "p", Str.ofString "x", Str.ofString "y"]
noncomputable def p_lawIter : PI := (pRng1 (pCall sMax (pCons (pLit (.int 1)) (pCons (pCall sMin (pCons (pCall sLen (pCons (pLoc 0) pNil)) (pCons (pLit (.int 2)) pNil))) pNil))))
noncomputable abbrev lawR (l : List Int) : Env1 := some (.d (.lst (l.map .int))) :: List.replicate 8 none
theorem vc_lawIter (l : List Int) (h : l.length < 2 ^ 20) : p_lawIter (lawR l) .none (fun l' c1 => c1 = .none ∧ ∀ (k : Nat) y, l'[k]? = some y → ∃ j : Nat, j < 2 ∧ y = .int j) (fun _ _ => False) := by
  unfold p_lawIter
  walk_at "vs"
  rw [List.length_map]
  refine ⟨by walk_at "om", ?_⟩
  generalize hn : (if (if (2 : Int) < (l.length : Nat) then 2 else ((l.length : Nat) : Int)) > 1 then (if (2 : Int) < (l.length : Nat) then 2 else ((l.length : Nat) : Int)) else 1) = n
  have hn2 : 0 ≤ n ∧ n ≤ 2 := by rw [← hn]; repeat' split
                                 all_goals walk_at "om"
  refine ⟨hn2.1, by walk_at "om", rfl, fun k y hy => ?_⟩
  rw [List.getElem?_map] at hy
  obtain ⟨i, hi, rfl⟩ := Option.map_eq_some_iff.mp hy
  obtain ⟨h1, h2⟩ := List.getElem?_eq_some_iff.mp hi
  rw [List.getElem_range] at h2
  subst h2
  rw [List.length_range] at h1
  exact ⟨k, by walk_at "om", rfl⟩
theorem law_main {P : Par} (hK : P.K = K0 P.w.params) {sc : Scope} {v : FV} {A : Around} {m : Names} {s : Shared} {X : List Addr} {Q : Flow → Shared → Prop} {E : Value → Shared → Prop} {l : List Int} {cs : Addr} {iter e0 e1 : Expr} {rest : List Stmt} {kp np fp cpos apos fpos bp rp : Pos} {kk : Nat}
    (hit : SoundI P 11 sc lawNs iter p_lawIter) (hrest : SoundSs P true 11 sc lawNs rest p_turn) (hl2 : SoundL P true 11 sc lawNs [e0, e1] (pCons (pLoc 0) (pCons (pLoc 1) pNil))) (hs : ∀ env, starEach [e0, e1] env = (false, eval e0 env) :: starEach [e1] env) (hpl : ∀ env, (backTo cpos (starEach [e1] env)).any (·.1) = false)
    (hsw : ∀ env, swapsWith (.Call (.Name (Str.ofString "_law_pool") fp) [e0, e1] [] cpos) (some (.Name (Str.ofString "source") np)) apos.line env = pure false) (hfold : ∀ env x, foldedSetIterable iter env x = pure x)
    (ksrc : sc.names.lookup (Str.ofString "source") = some .cell) (kscr : sc.names.lookup (Str.ofString "script") = some .local) (kk1 : sc.names.lookup (Str.ofString "k") = some .local) (kpool : sc.names.lookup (Str.ofString "_law_pool") = some .globalImplicit)
    (hcl : v.cl.lookup (Str.ofString "source") = some cs) (G : Good A v sc true 11) (O : v.Own sc) (S : St P sc v lawNs (lawR l) .none none (cs :: X) m s.heap) (hcs : cs ∉ X) (hcell : ∃ ov, s.heap.IsCell cs ov) (hlen : l.length < 2 ^ 20)
    (hQ : ∀ s', Rest s s' → P.base.StaysIn s'.heap → Q (.ret (.bool true)) s') :
    wpAny (model P.prog P.w) A (execs [.For (.Name (Str.ofString "k") kp) iter (.Assign [.Name (Str.ofString "source") np] (.Call (.Name (Str.ofString "_law_pool") fp) [e0, e1] [] cpos) apos :: rest) [] fpos, .Return (some (.Constant (.bool true) kk bp)) rp] (v.env sc)) Q E s := by
  have hA : SoundA P sc lawNs (.Name (Str.ofString "k") kp) (gName 1) := sa_name (i := 1) rfl kk1 (by walk_at "vd")
  refine wpAny_execs_cons (law_loop (i := 1) hA hit hfold G S hcs hcell (vc_lawIter l hlen) (fun j s4 m4 X2 Q2 E2 hj S4 hc4 hcell4 hq => ?_) fun m' X' s' a => ?_)
  · refine law_turn (nsrc := Str.ofString "source") (n0 := Str.ofString "script") (n1 := Str.ofString "k") (k := j) (p := p_turn) rfl rfl rfl ksrc kscr kk1 hcl hsw rfl (fun Q E h => ?_) hrest G O vc_turn S4 hc4 hcell4 hq
    exact eval_pool hK (by walk_at "vd") kpool hl2 hs hpl rfl rfl hlen hj G S4 Q E h
  · refine wpAny_execs_cons (wpAny_Return_some ?_)
    exact sound_true A v s' m' (lawR l) .none none (cs :: X') _ _ (fun r c => r = .d (.bool true) ∧ c = .none) (fun _ _ => False) G a.st ⟨rfl, rfl⟩ (fun r c1 val s1 a1 rel q => by
      obtain ⟨rfl, rfl⟩ := q
      have : val = .bool true := by
        have rel : Rel _ _ _ _ := rel
        unfold Rel at rel
        exact rel
      subst this
      exact hQ s1 (a.rest.trans a1.rest) a1.st.fr.keep) (fun C c1 e s1 a1 ex q => q.elim)
theorem ints_rel {X : List Addr} {h : Heap} : ∀ {vs : List Value} {l : List Int}, IntsAre vs l → RelL X h (l.map .int) vs
  | _, _, .nil => by unfold List.map RelL; rfl
  | _, _, .cons n t r => by
    rw [List.map_cons]
    unfold RelL
    exact ⟨_, _, rfl, by unfold Rel; exact ⟨_, rfl⟩, ints_rel r⟩
theorem law_top {P : Par} (hK : P.K = K0 P.w.params) {sc : Scope} {fa : Addr} {cd : Value} {h1 : Heap} {mm : Names} {D : Addr} {vals : List Value} {l : List Int} {gens : Array GenState} {drawn : Drawn} {tk : Nat} {os : OsState} {Q : Flow → Shared → Prop} {E : Value → Shared → Prop} {ow : Obj} {iter e0 e1 : Expr} {rest : List Stmt} {kp np fp cpos apos fpos bp rp : Pos} {kk : Nat}
    (hit : SoundI P 11 sc lawNs iter p_lawIter) (hrest : SoundSs P true 11 sc lawNs rest p_turn) (hl2 : SoundL P true 11 sc lawNs [e0, e1] (pCons (pLoc 0) (pCons (pLoc 1) pNil))) (hs : ∀ env, starEach [e0, e1] env = (false, eval e0 env) :: starEach [e1] env) (hpl : ∀ env, (backTo cpos (starEach [e1] env)).any (·.1) = false)
    (hsw : ∀ env, swapsWith (.Call (.Name (Str.ofString "_law_pool") fp) [e0, e1] [] cpos) (some (.Name (Str.ofString "source") np)) apos.line env = pure false) (hfold : ∀ env x, foldedSetIterable iter env x = pure x)
    (ksrc : sc.names.lookup (Str.ofString "source") = some .cell) (kscr : sc.names.lookup (Str.ofString "script") = some .local) (kk1 : sc.names.lookup (Str.ofString "k") = some .local) (kpool : sc.names.lookup (Str.ofString "_law_pool") = some .globalImplicit)
    (hkind : sc.kind = .function) (hcl : (cellsFrom (P.base.objs.size + 1) sc.names []).lookup (Str.ofString "source") = some (P.base.objs.size + 1))
    (hL : P.base.IsList D vals.toArray) (hI : IntsAre vals l) (hlen : l.length < 2 ^ 20) (F : Fr P.base P.base.objs.size h1 mm) (hmm : mm (Str.ofString "script") = some (.ref D)) (hcell : h1.get? (P.base.objs.size + 1) = some ow) (hcell0 : P.base.get? (P.base.objs.size + 1) = none) (hod : ∃ ov, ow.data = .cell ov)
    (hQ : ∀ s', Rest ⟨h1, gens, drawn, tk, os⟩ s' → P.base.StaysIn s'.heap → Q (.ret (.bool true)) s') :
    wpAny (model P.prog P.w) (callerA.deeper (envOfC (Str.ofString "law") sc P.base.objs.size fa cd)) (execs [.For (.Name (Str.ofString "k") kp) iter (.Assign [.Name (Str.ofString "source") np] (.Call (.Name (Str.ofString "_law_pool") fp) [e0, e1] [] cpos) apos :: rest) [] fpos, .Return (some (.Constant (.bool true) kk bp)) rp] (envOfC (Str.ofString "law") sc P.base.objs.size fa cd)) Q E ⟨h1, gens, drawn, tk, os⟩ := by
  let v : FV := { qn := Str.ofString "law" ++ ".<locals>.", fn := some fa, cd := cd, cl := cellsFrom (P.base.objs.size + 1) sc.names [], fm := some P.base.objs.size, L := P.base.objs.size, fs := [envOfC (Str.ofString "law") sc P.base.objs.size fa cd] }
  have hLb : P.base.get? P.base.objs.size = none := Heap.get?_none_of_le (Nat.le_refl _)
  have hne : P.base.objs.size + 1 ≠ P.base.objs.size := by walk_at "om"
  obtain ⟨oD, hoD, hcD, nD, hdD⟩ := hL
  have hDL : D ≠ P.base.objs.size := neG hLb hoD
  have hDc : D ≠ P.base.objs.size + 1 := neG hcell0 hoD
  have S : St P sc v lawNs (lawR l) .none none ((P.base.objs.size + 1) :: [P.base.objs.size]) mm h1 := {
    fr := ⟨F.ns, F.keep⟩
    ff := Heap.FunFrames.cons (by show sc.kind ≠ _; rw [hkind]; decide) rfl F.ns hLb trivial
    cell := rfl
    lX := .tail _ (.head _)
    xL := fun q hq => nomatch hq
    xs := fun b hb => by
      simp only [List.mem_cons, List.not_mem_nil, or_false] at hb
      rcases hb with rfl | rfl
      · exact ⟨_, hcell⟩
      · obtain ⟨o, _, _, e, _⟩ := F.ns
        exact ⟨o, e⟩
    xb := fun b hb => by
      simp only [List.mem_cons, List.not_mem_nil, or_false] at hb
      rcases hb with rfl | rfl
      · exact hcell0
      · exact hLb
    loc := fun i n sv hn hρ => by
      match i, hn, hρ with
      | 0, hn, hρ =>
        cases hn
        cases hρ
        refine ⟨.ref D, .inl ⟨kscr, hmm⟩, ?_⟩
        show Rel _ _ _ _
        unfold Rel
        refine ⟨D, oD, vals.toArray, nD, rfl, fun q => ?_, F.keep _ _ hoD, hcD, hdD, ints_rel hI⟩
        simp only [List.mem_cons, List.not_mem_nil, or_false] at q
        rcases q with q | q
        · exact hDc q
        · exact hDL q
      | i + 1, hn, hρ =>
        exfalso
        have : (List.replicate 8 (none : Option SV))[i]? = some (some sv) := hρ
        rw [List.getElem?_replicate] at this
        split at this <;> cases this }
  have G : Good (callerA.deeper (envOfC (Str.ofString "law") sc P.base.objs.size fa cd)) v sc true 11 := ⟨Around.frames_deeper rfl, List.cons_ne_nil _ _, fun _ => rfl, by show callerA.depth + 1 + 11 < _; decide, by show callerA.units + 3 + 16 * 11 + 64 < _; decide, hkind⟩
  exact law_main hK (v := v) (X := [P.base.objs.size]) (cs := P.base.objs.size + 1) (s := ⟨h1, gens, drawn, tk, os⟩) hit hrest hl2 hs hpl hsw hfold ksrc kscr kk1 kpool hcl G ⟨[], rfl, rfl⟩ S (by simp) (by obtain ⟨ov, h⟩ := hod; exact ⟨ov, ow, hcell, h⟩) hlen hQ
end
end
section
open PySem.Builtin PySem.Builtin.Str PySem.Builtin.ObjectAttr
section
-- part L4
open PySem PySem.W PyProof.Rows PySem.Calls PySem.Builtin PySem.Builtin.Str PySem.Builtin.ObjectAttr
set_option maxHeartbeats 8000000
namespace all
theorem tw13605348255359146093 : True := trivial
theorem tw17376094388457217937 : True := trivial
theorem tw200202858802481044 : True := trivial
theorem tw360700930370325752 : True := trivial
theorem tw12456504936545965621 : True := trivial
theorem tw14182124309207785167 : True := trivial
theorem tw8013882960148741844 : True := trivial
theorem tw6572014698818158034 : True := trivial
theorem tw15653365453296581007 : True := trivial
theorem tw8288818549500659071 : True := trivial
theorem tw16155135534915893939 : True := trivial
theorem tw10410964818681591666 : True := trivial
theorem tw12600035717280484489 : True := trivial
theorem tw17177958615607347355 : True := trivial
theorem tw6271033356711949733 : True := trivial
theorem tw4049413732980777947 : True := trivial
theorem tw16353339288196904424 : True := trivial
theorem tw11931918283646908614 : True := trivial
theorem tw15906678047913336000 : True := trivial
theorem tw7588656048609238211 : True := trivial
theorem tw10912467617979834864 : True := trivial
theorem tw15054863418237798948 : True := trivial
theorem tw2020152571437148077 : True := trivial
theorem tw9090173269774583996 : True := trivial
theorem tw2013830700403712203 : True := trivial
theorem tw5463181917568680212 : True := trivial
theorem tw4716985721665009587 : True := trivial
theorem tw6686757251022233349 : True := trivial
theorem tw932795767893229186 : True := trivial
theorem tw9642480246203547912 : True := trivial
theorem tw11904431243951574334 : True := trivial
theorem tw16548104211655598883 : True := trivial
theorem tw18291108133853008933 : True := trivial
theorem tw1298631472846954095 : True := trivial
theorem tw12071712058454129317 : True := trivial
theorem tw4561188658046838414 : True := trivial
theorem tw11180027781704252744 : True := trivial
theorem tw4645612490112672357 : True := trivial
theorem tw14229981574245695772 : True := trivial
theorem tw11120492362615346026 : True := trivial
theorem tw10915074446201010522 : True := trivial
theorem tw497388943360791162 : True := trivial
theorem tw10156424416328317940 : True := trivial
theorem tw13135058765949404771 : True := trivial
theorem tw16949009020806574942 : True := trivial
theorem tw17933553581876595578 : True := trivial
theorem tw29985565223642888 : True := trivial
theorem tw7238125184777875665 : True := trivial
theorem tw10168888151487559394 : True := trivial
theorem tw7400686549319467544 : True := trivial
theorem tw2199258339994215634 : True := trivial
theorem tw13132907815185506690 : True := trivial
theorem tw11784725038316003381 : True := trivial
theorem tw1055662489953759920 : True := trivial
theorem tw3298683737301795645 : True := trivial
theorem tw201708328148552895 : True := trivial
theorem tw3185962312253278316 : True := trivial
theorem tw12926333453430215753 : True := trivial
theorem tw7778630667622746703 : True := trivial
theorem tw17106608494224303150 : True := trivial
theorem tw898707613593260451 : True := trivial
theorem tw11298796024306172991 : True := trivial
theorem tw2000609977361463965 : True := trivial
theorem tw12221947951091446842 : True := trivial
theorem tw8401958774316805891 : True := trivial
theorem tw16665526110328478529 : True := trivial
theorem tw16592893570014863828 : True := trivial
theorem tw18433669859833586122 : True := trivial
theorem tw16084742875079473383 : True := trivial
theorem tw7918374967389245632 : True := trivial
theorem tw16136937179128050694 : True := trivial
theorem tw15158558636265767147 : True := trivial
theorem tw17772726858579744284 : True := trivial
theorem tw10773934983489079739 : True := trivial
theorem tw11925040711228000680 : True := trivial
theorem tw9241353231930656577 : True := trivial
theorem tw17447734377096445370 : True := trivial
theorem tw15651733941924773997 : True := trivial
theorem tw11489409643829403841 : True := trivial
theorem tw3468823194966119755 : True := trivial
theorem tw2792250951161479536 : True := trivial
theorem tw11038128598146805730 : True := trivial
theorem tw17393663094203119047 : True := trivial
theorem tw3318330705443729038 : True := trivial
theorem tw3318677167507295741 : True := trivial
theorem tw12180536567876656950 : True := trivial
theorem tw10636018739910865072 : True := trivial
theorem tw14549113301119539810 : True := trivial
theorem tw10576110018494610262 : True := trivial
theorem tw18118164260907729349 : True := trivial
theorem tw11951307492845570281 : True := trivial
theorem tw5781126440621211168 : True := trivial
theorem tw10971250334911043752 : True := trivial
theorem tw4215066571649420964 : True := trivial
theorem tw16447172759540358135 : True := trivial
theorem tw6968176368945700982 : True := trivial
theorem tw15968848678202421516 : True := trivial
theorem tw15389465554420088467 : True := trivial
theorem tw13057232943065969744 : True := trivial
theorem tw18124843273605240230 : True := trivial
theorem tw16296590348105434372 : True := trivial
theorem tw13960862262899742394 : True := trivial
theorem tw1758426702102747128 : True := trivial
theorem tw5870148494974776200 : True := trivial
theorem tw17740860788197283744 : True := trivial
theorem tw4154878040674242839 : True := trivial
theorem tw11639333894188339638 : True := trivial
theorem tw5044639097624668846 : True := trivial
theorem tw16739083755425606968 : True := trivial
theorem tw2627396739876165418 : True := trivial
theorem tw18343157571677020557 : True := trivial
theorem tw8968355716326206664 : True := trivial
theorem tw16876236935048986776 : True := trivial
theorem tw6178583632892115015 : True := trivial
theorem tw766856551031688912 : True := trivial
theorem tw12580110897883145167 : True := trivial
theorem tw5002070824922625533 : True := trivial
theorem tw5888963250497168203 : True := trivial
theorem tw2316775634158704177 : True := trivial
theorem tw6176105912117767087 : True := trivial
theorem tw9385597778382524922 : True := trivial
theorem tw10389294372677164839 : True := trivial
theorem tw3477183460249832127 : True := trivial
theorem tw13900070722340429276 : True := trivial
theorem tw16740921855470316824 : True := trivial
theorem tw3855190133869164905 : True := trivial
theorem tw14701963045326077753 : True := trivial
theorem tw17558465517493045558 : True := trivial
theorem tw15151187641303801864 : True := trivial
theorem tw13358604424828501309 : True := trivial
theorem tw13663018214320142090 : True := trivial
theorem tw14899674885815798178 : True := trivial
theorem tw6223034424235540279 : True := trivial
theorem tw11139934685464864865 : True := trivial
theorem tw11116879363250112325 : True := trivial
theorem tw16644902639655322133 : True := trivial
theorem tw7657994479303150727 : True := trivial
theorem tw9952970006915852218 : True := trivial
theorem tw17314943208353570444 : True := trivial
theorem tw12512054102949984058 : True := trivial
theorem tw785864177541677141 : True := trivial
theorem tw5641124861440336686 : True := trivial
theorem tw11093295523969242068 : True := trivial
theorem tw12028550053918628185 : True := trivial
theorem tw18433079168191953831 : True := trivial
theorem tw14310873030558110092 : True := trivial
theorem tw3390864358609898268 : True := trivial
theorem tw1088589479996732829 : True := trivial
theorem tw12447178028490564450 : True := trivial
theorem tw5936211784296988740 : True := trivial
theorem tw4258606087713283508 : True := trivial
theorem tw7234240908195146063 : True := trivial
theorem tw9069304868558884969 : True := trivial
theorem tw7193976414177721783 : True := trivial
theorem tw14648097213134440425 : True := trivial
theorem tw10407399669362838719 : True := trivial
theorem tw10081088541268293599 : True := trivial
theorem tw3630066180865283129 : True := trivial
theorem tw8901488873923373992 : True := trivial
theorem tw12267468486907949403 : True := trivial
theorem tw10175558820241607032 : True := trivial
theorem tw407466490171300439 : True := trivial
theorem tw13338274903956020161 : True := trivial
theorem tw3282140407130366615 : True := trivial
theorem tw5213130599944360801 : True := trivial
theorem tw1323426155142419162 : True := trivial
theorem tw15414233836422861205 : True := trivial
theorem tw9397017562490477109 : True := trivial
theorem tw9163178095015654352 : True := trivial
theorem tw8909644736058714228 : True := trivial
theorem tw12405882331826627501 : True := trivial
theorem tw9743695723290020096 : True := trivial
theorem tw11273133048781285286 : True := trivial
theorem tw3440317332850252569 : True := trivial
theorem tw9526568234960664165 : True := trivial
theorem tw8486705261324164726 : True := trivial
theorem tw7916160540357663616 : True := trivial
theorem tw1352723322627576488 : True := trivial
theorem tw10277526245819850656 : True := trivial
theorem tw1075291646940621582 : True := trivial
theorem tw7957553974722075628 : True := trivial
theorem tw10942295900298899174 : True := trivial
theorem tw9833964599435250050 : True := trivial
theorem tw8111057081096800836 : True := trivial
theorem tw17468886310826310451 : True := trivial
theorem tw3020832510069240704 : True := trivial
theorem tw18440353960458814819 : True := trivial
theorem tw15097909243742831393 : True := trivial
theorem tw11158953913317867288 : True := trivial
theorem tw15926794790568321017 : True := trivial
theorem tw11961059351148515626 : True := trivial
theorem tw3357559941945735724 : True := trivial
theorem tw4965207536615798822 : True := trivial
theorem tw1604050991321148793 : True := trivial
theorem tw1717485560449817402 : True := trivial
theorem tw3140866203998610647 : True := trivial
theorem tw4515135292898193881 : True := trivial
theorem tw4613487602407358717 : True := trivial
theorem tw9514876090768664877 : True := trivial
theorem tw10034031380863371641 : True := trivial
theorem tw6635522753158126860 : True := trivial
theorem tw15541118713287057729 : True := trivial
theorem tw10130366669087276332 : True := trivial
theorem tw5884965284304258897 : True := trivial
theorem tw7272270352196073673 : True := trivial
theorem tw12819504698909858696 : True := trivial
theorem tw15393178847056368160 : True := trivial
theorem tw13215351417096909983 : True := trivial
theorem tw17899929404969355535 : True := trivial
theorem tw1585303152785439333 : True := trivial
theorem tw7946034326556018432 : True := trivial
theorem tw12899656968702213925 : True := trivial
theorem tw1291087626157917732 : True := trivial
theorem tw17485024515217194642 : True := trivial
theorem tw14721843458392949018 : True := trivial
theorem tw7159026401054745538 : True := trivial
theorem tw15906484144062456574 : True := trivial
theorem tw15519761934197397234 : True := trivial
theorem tw16400751074865733910 : True := trivial
theorem tw14421808642430287336 : True := trivial
theorem tw6900727353157573822 : True := trivial
theorem tw6849123771955923804 : True := trivial
theorem tw1216898108829112853 : True := trivial
theorem tw4430775014708722610 : True := trivial
theorem tw2412950195513398651 : True := trivial
theorem tw4835796080096327916 : True := trivial
theorem tw3339628229899013760 : True := trivial
theorem tw16424727738075169484 : True := trivial
theorem tw10316705163991428254 : True := trivial
theorem tw4198835854440487071 : True := trivial
theorem tw9099960808112739735 : True := trivial
theorem tw397829171339713761 : True := trivial
theorem tw2638793534194840904 : True := trivial
theorem tw13492775673106092688 : True := trivial
theorem tw4874642235004048027 : True := trivial
theorem tw884644925536651315 : True := trivial
theorem tw1694654335647164047 : True := trivial
theorem tw8076105961534405009 : True := trivial
theorem tw3832104259330054055 : True := trivial
theorem tw5761313309558253367 : True := trivial
theorem tw7091565871241343341 : True := trivial
theorem tw15902913901339227234 : True := trivial
theorem tw10640303290150162726 : True := trivial
theorem tw10073190252686323273 : True := trivial
theorem tw14106571916235994328 : True := trivial
theorem tw9900696922168193843 : True := trivial
theorem tw6836359950869179439 : True := trivial
theorem tw14539000326390715668 : True := trivial
theorem tw5931688323066260514 : True := trivial
theorem tw9301309066579124778 : True := trivial
theorem tw6873541528101158377 : True := trivial
theorem tw1734884918528286522 : True := trivial
theorem tw10658958392246782621 : True := trivial
theorem tw7347661181068853997 : True := trivial
theorem tw4214497047443048748 : True := trivial
theorem tw5646740079091317433 : True := trivial
theorem tw1832691508475867565 : True := trivial
theorem tw7779866328928976063 : True := trivial
theorem tw16727532447511142511 : True := trivial
theorem tw5007245332940595331 : True := trivial
theorem tw6717767316833874322 : True := trivial
theorem tw14647661154017913664 : True := trivial
theorem tw549974085012918235 : True := trivial
theorem tw3239841934065285509 : True := trivial
theorem tw6495733333828780514 : True := trivial
theorem tw13027540482245733427 : True := trivial
theorem tw14242173848286271349 : True := trivial
theorem tw9133701021851612117 : True := trivial
theorem tw7062720368445256129 : True := trivial
theorem tw15671812041987572844 : True := trivial
theorem tw13283931332471535325 : True := trivial
theorem tw7686242042924871683 : True := trivial
theorem tw16838893715234930207 : True := trivial
theorem tw8857914048673524507 : True := trivial
theorem tw16739844878667351699 : True := trivial
theorem tw6189357195160471388 : True := trivial
theorem tw12784588452913835247 : True := trivial
theorem tw10331167273965929257 : True := trivial
theorem tw9600454056292803967 : True := trivial
theorem tw6946980451890315270 : True := trivial
theorem tw2613816272192447989 : True := trivial
theorem tw12847938454781286588 : True := trivial
theorem tw17292822351017121783 : True := trivial
theorem tw5103548895888603802 : True := trivial
theorem tw4801688742562958406 : True := trivial
theorem tw1326175403826912198 : True := trivial
theorem tw11375281295658956675 : True := trivial
theorem tw14929683446248860828 : True := trivial
theorem tw14848961488311411958 : True := trivial
theorem tw17103938086974590038 : True := trivial
theorem tw13912068318134460016 : True := trivial
theorem tw200952908838891698 : True := trivial
theorem tw5657931515703916248 : True := trivial
theorem tw16987476370533704557 : True := trivial
theorem tw11798761498685784450 : True := trivial
theorem tw9764797518255496921 : True := trivial
theorem tw16183010546200382306 : True := trivial
theorem tw14955511245280216411 : True := trivial
theorem tw3788544764152331944 : True := trivial
theorem tw948912236611943856 : True := trivial
theorem tw5221675337516389627 : True := trivial
theorem tw525001674005675781 : True := trivial
theorem tw11045270430615452010 : True := trivial
theorem tw17394647144938102915 : True := trivial
theorem tw14822214895437561417 : True := trivial
theorem tw3153289441736887298 : True := trivial
theorem tw7654578318931278690 : True := trivial
theorem tw14099800850047386279 : True := trivial
theorem tw1639981616727947583 : True := trivial
theorem tw16788233547135642414 : True := trivial
theorem tw4722931859811370693 : True := trivial
theorem tw8108845850537571710 : True := trivial
theorem tw11736780227944870738 : True := trivial
theorem tw68815829978753266 : True := trivial
theorem tw4942582282674782268 : True := trivial
theorem tw13370487131934946175 : True := trivial
theorem tw7899379758991183832 : True := trivial
theorem tw16444899576201249432 : True := trivial
theorem tw8838840417862019655 : True := trivial
theorem tw14274756557212989909 : True := trivial
theorem tw14832718209330476552 : True := trivial
theorem tw6853843781069519680 : True := trivial
theorem tw16857469709051444266 : True := trivial
theorem tw10600613889749566790 : True := trivial
theorem tw2286941943676669977 : True := trivial
theorem tw14648276583578725374 : True := trivial
theorem tw18068929663759586442 : True := trivial
theorem tw14970210157437980911 : True := trivial
theorem tw5362506446432344171 : True := trivial
theorem tw18003279642469066050 : True := trivial
theorem tw18074533905802821072 : True := trivial
theorem tw16573077582942348641 : True := trivial
theorem tw17717444079117462278 : True := trivial
theorem tw12248520049373816357 : True := trivial
theorem tw561872325786274548 : True := trivial
theorem tw11446199593928302625 : True := trivial
theorem tw7855422573467142813 : True := trivial
theorem tw4241227540667249002 : True := trivial
theorem tw5854907428364158380 : True := trivial
theorem tw7205895575636617080 : True := trivial
theorem tw17523770736405063376 : True := trivial
theorem tw9305783451064888827 : True := trivial
theorem tw11084693905056812178 : True := trivial
theorem tw17053130121481772103 : True := trivial
theorem tw14444207656584330654 : True := trivial
theorem tw1081408078033650336 : True := trivial
theorem tw13042374122123996364 : True := trivial
theorem tw4631590275013254457 : True := trivial
theorem tw17260577670642009320 : True := trivial
end all
theorem inK0 {K K' : Frag} {h : Heap} (e : K = K') (x : K.In h) : K'.In h := e ▸ x
set_option Elab.async true
theorem all : PySem.Challenge.rw_nu0033_01.Holds := by
  (w_on; o_law; k_head; (case hw => w_witness2))
  k_go0
  rename_i w s0 s1 mg mb G Y fa o pm doc ho hg KX Xm V GL T B TE TW w10 w9 M w8 w7 hcd l hs hlay hL1 hr1 hl2 w5 w4 D vals w1 hL ra w1' r0 hI hr hcond hcond2 K00 hD h1 tk1 F w_ right N0 X0
  clear hcd hD
  have KX2 := inK0 (K' := K0 w.params) (by kernel_rfl) KX
  clear KX
  dsimp only
  let P : Par := { prog := PySem.Challenge.rw_nu0033_01.row.prog, w := w, K := K0 w.params, p := _, loose := _, mean := _, mg := mg, mb := mb, base := s1.heap, X := KX2, T := T }
  have hK : P.K = K0 P.w.params := rfl
  refine' law_top (P := P) hK (l := l) ?hit ?hrest ?hl2 ?hs ?hpl ?hsw ?hfold ?ksrc ?kscr ?kk1 ?kpool ?hkind ?hcl hL hI ?hlen F ?hmm (N0.get (.head _)) (N0.fresh (.head _)) ⟨_, right⟩ ?hQ
  case hit =>
    clear_value P
    exact (si_rng1 (g_range hK) b_range (by decide) rfl (sound_callB (g_max hK) b_max (by decide) rfl max_ok (by decide) (sound_args_cons sound_int (sound_args_cons (sound_callB (g_min hK) b_min (by decide) rfl min_ok (by decide) (sound_args_cons (sound_callB (g_len hK) b_len (by decide) rfl len_ok (by decide) (sound_args_cons (sound_loc (i := 0) rfl rfl rfl) sound_args_nil (fun _ => star_Name)) (fun _ => star_Name) (fun _ => pl_nil) rfl) (sound_args_cons sound_int sound_args_nil (fun _ => star_Constant)) (fun _ => rfl)) (fun _ => rfl) (pl_cons (fun _ => star_Constant) (fun _ => pl_nil)) rfl) sound_args_nil (fun _ => rfl)) (fun _ => star_Constant)) (fun _ => star_Constant) (pl_cons (fun _ => rfl) (fun _ => pl_nil)) rfl) (fun _ => rfl) rfl)
  case hrest =>
    clear_value P
    exact (ss_cons (s_asgComp (frees := [(Str.ofString "source", 2)]) (compK rfl rfl) (si_rng1 (g_range hK) b_range (by decide) rfl sound_int (fun _ => rfl) rfl) (sound_comp (frees := [(Str.ofString "source", 1)]) (compK rfl rfl) (si_rng1 (g_range hK) b_range (by decide) rfl sound_int (fun _ => rfl) rfl) (sound_call (g__law_half hK) rfl (k__law_half hK) (ok__law_half hK) (by decide) (sound_args_cons (sound_loc (i := 1) rfl rfl rfl) sound_args_nil (fun _ => star_Name)) (fun _ => star_Name) (fun _ => pl_nil) rfl) (fun _ _ => rfl)) (fun _ _ => rfl) (i := 3) rfl rfl (by decide) (fun env he => by cases env; cases he; rfl)) (ss_cons (s_unp (is := [4, 5]) (sound_comp (frees := []) (compK rfl rfl) (si_data (sound_loc (i := 3) rfl rfl rfl)) (sound_call (g_Matrix hK) rfl (k_Matrix hK) (ok_Matrix hK) (by decide) (sound_args_cons (sound_idx (sound_loc (i := 0) rfl rfl rfl) sound_int (fun _ _ => rfl)) (sound_args_cons (sound_idx (sound_loc (i := 0) rfl rfl rfl) sound_int (fun _ _ => rfl)) (sound_args_cons (sound_idx (sound_loc (i := 0) rfl rfl rfl) sound_int (fun _ _ => rfl)) (sound_args_cons (sound_idx (sound_loc (i := 0) rfl rfl rfl) sound_int (fun _ _ => rfl)) (sound_args_cons (sound_idx (sound_loc (i := 0) rfl rfl rfl) sound_int (fun _ _ => rfl)) (sound_args_cons (sound_idx (sound_loc (i := 0) rfl rfl rfl) sound_int (fun _ _ => rfl)) sound_args_nil (fun _ => rfl)) (fun _ => rfl)) (fun _ => rfl)) (fun _ => rfl)) (fun _ => rfl)) (fun _ => rfl)) (fun _ => rfl) (pl_cons (fun _ => rfl) (pl_cons (fun _ => rfl) (pl_cons (fun _ => rfl) (pl_cons (fun _ => rfl) (pl_cons (fun _ => rfl) (fun _ => pl_nil)))))) rfl) (fun _ _ => rfl)) (by decide) (fun _ _ => (Stores.cons (n := Str.ofString "one") (fun _ _ _ _ _ _ h => wpAny_assign_Name h) rfl rfl (Stores.cons (n := Str.ofString "other") (fun _ _ _ _ _ _ h => wpAny_assign_Name h) rfl rfl Stores.nil))) (fun _ => rfl) (fun _ => rfl) (fun _ => rfl)) (ss_cons (s_asg (i := 6) (sound_tup (sound_args_cons (sound_call (g__law_half hK) rfl (k__law_half hK) (ok__law_half hK) (by decide) (sound_args_cons (sound_loc (i := 2) rfl rfl rfl) sound_args_nil (fun _ => star_Name)) (fun _ => star_Name) (fun _ => pl_nil) rfl) (sound_args_cons (sound_call (g__law_half hK) rfl (k__law_half hK) (ok__law_half hK) (by decide) (sound_args_cons (sound_loc (i := 2) rfl rfl rfl) sound_args_nil (fun _ => star_Name)) (fun _ => star_Name) (fun _ => pl_nil) rfl) sound_args_nil (fun _ => rfl)) (fun _ => rfl))) rfl rfl (by decide) (fun _ => rfl)) (ss_cons (s_if (sound_orT3 (sound_cmpT ne_sound (sound_meth0 (m_Matrix_row hK) (k_Matrix_row hK) (ok_Matrix_row hK) (by decide) (sound_loc (i := 4) rfl rfl rfl) (fun _ => rfl)) (sound_callT (g_tuple hK) b_tuple (by decide) rfl tuple_ok (by decide) (sound_args_cons (sound_idx (sound_loc (i := 3) rfl rfl rfl) sound_int (fun _ _ => rfl)) sound_args_nil (fun _ => rfl)) (fun _ => rfl) (fun _ => pl_nil) rfl) rfl) (sound_cmpT ne_sound (sound_meth (m_Matrix_point hK) (k_Matrix_point hK) (ok_Matrix_point hK) (by decide) (sound_loc (i := 4) rfl rfl rfl) (sound_args_cons (sound_loc (i := 6) rfl rfl rfl) sound_args_nil (fun _ => star_Name)) (fun _ => star_Name) (fun _ => pl_nil) (fun _ => rfl)) (sound_call (g__law_led hK) rfl (k__law_led hK) (ok__law_led hK) (by decide) (sound_args_cons (sound_idx (sound_loc (i := 3) rfl rfl rfl) sound_int (fun _ _ => rfl)) (sound_args_cons (sound_loc (i := 6) rfl rfl rfl) (sound_args_cons sound_int sound_args_nil (fun _ => star_Constant)) (fun _ => star_Name)) (fun _ => rfl)) (fun _ => rfl) (pl_cons (fun _ => star_Name) (pl_cons (fun _ => star_Constant) (fun _ => pl_nil))) rfl) rfl) (sound_cmpT ne_sound (sound_meth (m_Matrix_vector hK) (k_Matrix_vector hK) (ok_Matrix_vector hK) (by decide) (sound_loc (i := 4) rfl rfl rfl) (sound_args_cons (sound_loc (i := 6) rfl rfl rfl) sound_args_nil (fun _ => star_Name)) (fun _ => star_Name) (fun _ => pl_nil) (fun _ => rfl)) (sound_call (g__law_led hK) rfl (k__law_led hK) (ok__law_led hK) (by decide) (sound_args_cons (sound_idx (sound_loc (i := 3) rfl rfl rfl) sound_int (fun _ _ => rfl)) (sound_args_cons (sound_loc (i := 6) rfl rfl rfl) (sound_args_cons sound_int sound_args_nil (fun _ => star_Constant)) (fun _ => star_Name)) (fun _ => rfl)) (fun _ => rfl) (pl_cons (fun _ => star_Name) (pl_cons (fun _ => star_Constant) (fun _ => pl_nil))) rfl) rfl)) (ss_cons (s_ret sound_true) ss_nil) ss_nil) (ss_cons (s_if (sound_orT3 (sound_not (sound_test (sound_call (g__law_product_right hK) rfl (k__law_product_right hK) (ok__law_product_right hK) (by decide) (sound_args_cons (sound_loc (i := 4) rfl rfl rfl) (sound_args_cons (sound_loc (i := 5) rfl rfl rfl) (sound_args_cons (sound_loc (i := 6) rfl rfl rfl) sound_args_nil (fun _ => star_Name)) (fun _ => star_Name)) (fun _ => star_Name)) (fun _ => star_Name) (pl_cons (fun _ => star_Name) (pl_cons (fun _ => star_Name) (fun _ => pl_nil))) rfl) (fun _ _ => rfl))) (sound_not (sound_test (sound_call (g__law_inverse_right hK) rfl (k__law_inverse_right hK) (ok__law_inverse_right hK) (by decide) (sound_args_cons (sound_loc (i := 4) rfl rfl rfl) (sound_args_cons (sound_loc (i := 6) rfl rfl rfl) sound_args_nil (fun _ => star_Name)) (fun _ => star_Name)) (fun _ => star_Name) (pl_cons (fun _ => star_Name) (fun _ => pl_nil)) rfl) (fun _ _ => rfl))) (sound_not (sound_test (sound_call (g__law_list_right hK) rfl (k__law_list_right hK) (ok__law_list_right hK) (by decide) (sound_args_cons (sound_loc (i := 2) rfl rfl rfl) (sound_args_cons (sound_loc (i := 6) rfl rfl rfl) sound_args_nil (fun _ => star_Name)) (fun _ => star_Name)) (fun _ => star_Name) (pl_cons (fun _ => star_Name) (fun _ => pl_nil)) rfl) (fun _ _ => rfl)))) (ss_cons (s_ret sound_true) ss_nil) ss_nil) (ss_cons (s_swp (is := [7, 8]) (names := [Str.ofString "x", Str.ofString "y"]) (sound_tup (sound_args_cons (sound_call (g__law_half hK) rfl (k__law_half hK) (ok__law_half hK) (by decide) (sound_args_cons (sound_loc (i := 2) rfl rfl rfl) sound_args_nil (fun _ => star_Name)) (fun _ => star_Name) (fun _ => pl_nil) rfl) (sound_args_cons (sound_call (g__law_half hK) rfl (k__law_half hK) (ok__law_half hK) (by decide) (sound_args_cons (sound_loc (i := 2) rfl rfl rfl) sound_args_nil (fun _ => star_Name)) (fun _ => star_Name) (fun _ => pl_nil) rfl) sound_args_nil (fun _ => rfl)) (fun _ => rfl))) (by decide) (fun _ _ => (Stores.cons (n := Str.ofString "y") (fun _ _ _ _ _ _ h => wpAny_bindName h) rfl rfl (Stores.cons (n := Str.ofString "x") (fun _ _ _ _ _ _ h => wpAny_bindName h) rfl rfl Stores.nil))) (fun _ => rfl) (fun env he => by cases env; cases he; rfl)) (ss_cons (s_if (sound_cmpT ne_sound (sound_meth (m_Matrix_point hK) (k_Matrix_point hK) (ok_Matrix_point hK) (by decide) (sound_call (g_translation hK) rfl (k_translation hK) (ok_translation hK) (by decide) (sound_args_cons (sound_loc (i := 7) rfl rfl rfl) (sound_args_cons (sound_loc (i := 8) rfl rfl rfl) sound_args_nil (fun _ => star_Name)) (fun _ => star_Name)) (fun _ => star_Name) (pl_cons (fun _ => star_Name) (fun _ => pl_nil)) rfl) (sound_args_cons (sound_loc (i := 6) rfl rfl rfl) sound_args_nil (fun _ => star_Name)) (fun _ => star_Name) (fun _ => pl_nil) (fun _ => rfl)) (sound_tup (sound_args_cons (sound_call (g__law_sum hK) rfl (k__law_sum hK) (ok__law_sum hK) (by decide) (sound_args_cons (sound_lst (sound_args_cons (sound_tup (sound_args_cons (sound_idx (sound_loc (i := 6) rfl rfl rfl) sound_int (fun _ _ => rfl)) (sound_args_cons (sound_tup (sound_args_cons sound_int (sound_args_cons sound_int sound_args_nil (fun _ => star_Constant)) (fun _ => star_Constant))) sound_args_nil (fun _ => star_Tuple)) (fun _ => rfl))) (sound_args_cons (sound_tup (sound_args_cons (sound_loc (i := 7) rfl rfl rfl) (sound_args_cons (sound_tup (sound_args_cons sound_int (sound_args_cons sound_int sound_args_nil (fun _ => star_Constant)) (fun _ => star_Constant))) sound_args_nil (fun _ => star_Tuple)) (fun _ => star_Name))) sound_args_nil (fun _ => star_Tuple)) (fun _ => star_Tuple))) sound_args_nil (fun _ => star_List)) (fun _ => star_List) (fun _ => pl_nil) rfl) (sound_args_cons (sound_call (g__law_sum hK) rfl (k__law_sum hK) (ok__law_sum hK) (by decide) (sound_args_cons (sound_lst (sound_args_cons (sound_tup (sound_args_cons (sound_idx (sound_loc (i := 6) rfl rfl rfl) sound_int (fun _ _ => rfl)) (sound_args_cons (sound_tup (sound_args_cons sound_int (sound_args_cons sound_int sound_args_nil (fun _ => star_Constant)) (fun _ => star_Constant))) sound_args_nil (fun _ => star_Tuple)) (fun _ => rfl))) (sound_args_cons (sound_tup (sound_args_cons (sound_loc (i := 8) rfl rfl rfl) (sound_args_cons (sound_tup (sound_args_cons sound_int (sound_args_cons sound_int sound_args_nil (fun _ => star_Constant)) (fun _ => star_Constant))) sound_args_nil (fun _ => star_Tuple)) (fun _ => star_Name))) sound_args_nil (fun _ => star_Tuple)) (fun _ => star_Tuple))) sound_args_nil (fun _ => star_List)) (fun _ => star_List) (fun _ => pl_nil) rfl) sound_args_nil (fun _ => rfl)) (fun _ => rfl))) rfl) (ss_cons (s_ret sound_true) ss_nil) ss_nil) (ss_cons (s_if (sound_orT (sound_cmpT ne_sound (sound_meth (m_Matrix_point hK) (k_Matrix_point hK) (ok_Matrix_point hK) (by decide) (sound_call (g_scaling hK) rfl (k_scaling hK) (ok_scaling hK) (by decide) (sound_args_cons (sound_loc (i := 7) rfl rfl rfl) (sound_args_cons (sound_loc (i := 8) rfl rfl rfl) sound_args_nil (fun _ => star_Name)) (fun _ => star_Name)) (fun _ => star_Name) (pl_cons (fun _ => star_Name) (fun _ => pl_nil)) rfl) (sound_args_cons (sound_loc (i := 6) rfl rfl rfl) sound_args_nil (fun _ => star_Name)) (fun _ => star_Name) (fun _ => pl_nil) (fun _ => rfl)) (sound_tup (sound_args_cons (sound_call (g__law_sum hK) rfl (k__law_sum hK) (ok__law_sum hK) (by decide) (sound_args_cons (sound_lst (sound_args_cons (sound_tup (sound_args_cons (sound_idx (sound_loc (i := 6) rfl rfl rfl) sound_int (fun _ _ => rfl)) (sound_args_cons (sound_loc (i := 7) rfl rfl rfl) sound_args_nil (fun _ => star_Name)) (fun _ => rfl))) sound_args_nil (fun _ => star_Tuple))) sound_args_nil (fun _ => star_List)) (fun _ => star_List) (fun _ => pl_nil) rfl) (sound_args_cons (sound_call (g__law_sum hK) rfl (k__law_sum hK) (ok__law_sum hK) (by decide) (sound_args_cons (sound_lst (sound_args_cons (sound_tup (sound_args_cons (sound_idx (sound_loc (i := 6) rfl rfl rfl) sound_int (fun _ _ => rfl)) (sound_args_cons (sound_loc (i := 8) rfl rfl rfl) sound_args_nil (fun _ => star_Name)) (fun _ => rfl))) sound_args_nil (fun _ => star_Tuple))) sound_args_nil (fun _ => star_List)) (fun _ => star_List) (fun _ => pl_nil) rfl) sound_args_nil (fun _ => rfl)) (fun _ => rfl))) rfl) (sound_not (sound_test (sound_call (g__law_spot_right hK) rfl (k__law_spot_right hK) (ok__law_spot_right hK) (by decide) (sound_args_cons (sound_loc (i := 2) rfl rfl rfl) (sound_args_cons (sound_loc (i := 4) rfl rfl rfl) (sound_args_cons (sound_loc (i := 6) rfl rfl rfl) sound_args_nil (fun _ => star_Name)) (fun _ => star_Name)) (fun _ => star_Name)) (fun _ => star_Name) (pl_cons (fun _ => star_Name) (pl_cons (fun _ => star_Name) (fun _ => pl_nil))) rfl) (fun _ _ => rfl)))) (ss_cons (s_ret sound_true) ss_nil) ss_nil) ss_nil))))))))
  case hl2 => exact (sound_args_cons (sound_loc (i := 0) rfl rfl rfl) (sound_args_cons (sound_loc (i := 1) rfl rfl rfl) sound_args_nil (fun _ => star_Name)) (fun _ => star_Name))
  case hs => exact fun _ => star_Name
  case hpl => exact pl_cons (fun _ => star_Name) (fun _ => pl_nil)
  case hsw => exact fun _ => rfl
  case hfold => exact fun _ _ => rfl
  case ksrc => rfl
  case kscr => rfl
  case kk1 => rfl
  case kpool => rfl
  case hkind => rfl
  case hcl => rfl
  case hlen => omega
  case hmm => rfl
  case hQ =>
    intro s' hr' hst
    refine ⟨.inl ⟨.bool true, .bool true, [], rfl, fun _ => rfl, ReadsW.bool _, ?_, fun _ => ⟨.nil, fun _ h => nomatch h⟩⟩, hst, hr'.2.2, hr'.1.trans hg⟩
    wrow_post
end
end
end Mine
theorem PySem.Challenge.cw_nu0033_01_holds : PySem.Challenge.rw_nu0033_01.Holds := by
  exact Mine.all
