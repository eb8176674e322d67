import PyProof.Rows.All
import Wide.All
import OpenK.AllK
import Wide.FinOn
import PySem.Challenge.RW_roundflatwild_k45_texts_of_signatures
import HandS.ForMost
import HandS.Exc
import HandS.ExcOwn
import HandS.ExcInit
import HandS.Defaults
import HandS.CallSlots
import HandS.Wide
import HandS.WideBits
import HandS.Gcd
import HandS.IsInst
import HandS.TupAny
import HandS.Flow
import HandS.Lambda
import HandS.Style
import HandS.ExcField
import KE.KExcIs
import HandS.HeadHook2
import HandS.EndTab
import HandS.HeadEnd
import HandS.Head3
import KE.KStateDown
import HandS.OwnEq
import HandS.StrMore
import HandS.RaiseMore
import KE.SortData
import KE.DataMinMax
import HandS.Star
import PyProof.Rows.ReprOcc
import PyProof.Rows.RegStrFacts
import PyProof.ReprLen
set_option Elab.async false
set_option linter.all false
set_option maxRecDepth 100000
set_option maxHeartbeats 4000000
noncomputable section
/-! The layer AV: values without a heap, each def a plain function of them. -/
namespace AVL
open PySem PySem.Spec L2

inductive AV where
  | non | bl (b : Bool) | int (i : Int) | str (x : Str) | ty (n : String) | cls (c : Str)
  | tup (l : List AV) | lst (l : List AV) | klst (l : List AV) | dct (ks : List Key) (l : List AV)
  | obj (c : Str) (ks : List Str) (l : List AV) | exc (c : Str) (ks : List Str) (l : List AV)
  | ref (n : Nat)
inductive Cell where
  | lst (l : List AV) | dct (ks : List Key) (l : List AV) | ins (c : Str) (ks : List Str) (l : List AV) | dead
/-! the names in a value are below n -/
mutual
def bnd (n : Nat) : AV → Bool
  | .ref k => decide (k < n)
  | .tup l => bnds n l
  | .lst l => bnds n l
  | .klst l => bnds n l
  | .dct _ l => bnds n l
  | .obj _ _ l => bnds n l
  | .exc _ _ l => bnds n l
  | _ => true
def bnds (n : Nat) : List AV → Bool
  | [] => true
  | x :: xs => bnd n x && bnds n xs
end
def bndC (n : Nat) : Cell → Bool
  | .lst l => bnds n l
  | .dct _ l => bnds n l
  | .ins _ _ l => bnds n l
  | .dead => true
def Cell.live : Cell → Bool
  | .dead => false
  | _ => true
abbrev AH := List Cell
abbrev SL := List (Option AV)

/-! the same value -/
mutual
def beqV : AV → AV → Bool
  | .non, .non => true
  | .bl a, .bl b => a == b
  | .int a, .int b => a == b
  | .str a, .str b => decide (a = b)
  | .ty a, .ty b => a == b
  | .cls a, .cls b => decide (a = b)
  | .tup a, .tup b => beqVs a b
  | .lst a, .lst b => beqVs a b
  | .klst a, .klst b => beqVs a b
  | .dct k a, .dct k' b => decide (k = k') && beqVs a b
  | .obj c k a, .obj c' k' b => decide (c = c') && (decide (k = k') && beqVs a b)
  | .exc c k a, .exc c' k' b => decide (c = c') && (decide (k = k') && beqVs a b)
  | .ref a, .ref b => a == b
  | _, _ => false
def beqVs : List AV → List AV → Bool
  | [], [] => true
  | x :: xs, y :: ys => beqV x y && beqVs xs ys
  | _, _ => false
end
mutual
theorem beqV_refl : ∀ x : AV, beqV x x = true
  | .non => rfl
  | .bl a => by simp [beqV]
  | .int a => by simp [beqV]
  | .str a => by simp [beqV]
  | .ty a => by simp [beqV]
  | .cls a => by simp [beqV]
  | .tup a => by simp only [beqV]; exact beqVs_refl a
  | .lst a => by simp only [beqV]; exact beqVs_refl a
  | .klst a => by simp only [beqV]; exact beqVs_refl a
  | .dct k a => by simp [beqV, beqVs_refl a]
  | .obj c k a => by simp [beqV, beqVs_refl a]
  | .exc c k a => by simp [beqV, beqVs_refl a]
  | .ref a => by simp [beqV]
theorem beqVs_refl : ∀ x : List AV, beqVs x x = true
  | [] => rfl
  | x :: xs => by simp [beqVs, beqV_refl x, beqVs_refl xs]
end
mutual
theorem beqV_eq : ∀ x y : AV, beqV x y = true → x = y
  | .non, y, h => by cases y <;> simp [beqV] at h ⊢
  | .bl a, y, h => by cases y <;> simp [beqV] at h ⊢; exact h
  | .int a, y, h => by cases y <;> simp [beqV] at h ⊢; exact h
  | .str a, y, h => by cases y <;> simp [beqV] at h ⊢; exact h
  | .ty a, y, h => by cases y <;> simp [beqV] at h ⊢; exact h
  | .cls a, y, h => by cases y <;> simp [beqV] at h ⊢; exact h
  | .tup a, y, h => by cases y <;> simp [beqV] at h ⊢; exact beqVs_eq _ _ h
  | .lst a, y, h => by cases y <;> simp [beqV] at h ⊢; exact beqVs_eq _ _ h
  | .klst a, y, h => by cases y <;> simp [beqV] at h ⊢; exact beqVs_eq _ _ h
  | .dct k a, y, h => by cases y <;> simp [beqV] at h ⊢; exact ⟨h.1, beqVs_eq _ _ h.2⟩
  | .obj c k a, y, h => by cases y <;> simp [beqV] at h ⊢; exact ⟨h.1, h.2.1, beqVs_eq _ _ h.2.2⟩
  | .exc c k a, y, h => by cases y <;> simp [beqV] at h ⊢; exact ⟨h.1, h.2.1, beqVs_eq _ _ h.2.2⟩
  | .ref a, y, h => by cases y <;> simp [beqV] at h ⊢; exact h
theorem beqVs_eq : ∀ x y : List AV, beqVs x y = true → x = y
  | [], y, h => by cases y <;> simp [beqVs] at h ⊢
  | x :: xs, y, h => by cases y <;> simp [beqVs] at h ⊢; exact ⟨beqV_eq _ _ h.1, beqVs_eq _ _ h.2⟩
end
/-- at a: an exception's object, of the class cls, its dict at d -/
def EXV (a : Addr) (cls : Value) (d : Option Addr) : HO := .ext fun h => ∃ oe vs, h.get? a = some oe ∧ oe.cls = cls ∧ oe.dict = d ∧ oe.data = .fields vs

/-- the tables of code objects that are told of: written behind the part of the heap -/
def tabsOf (K : PySem.W.Frag) : List (Addr × Str) := match K.getLast? with
  | some (_, ⟨.none, none, .seq vs _, _⟩) => vs.toList.filterMap fun v => match v with
    | .str q a => some (a, q)
    | _ => none
  | _ => []
/-- no table, no code object -/
def Soft (H : Hp) (a : Addr) : Prop := ∀ o, H a = some o → (∀ ps, o ≠ .tbl ps) ∧ ∀ f, o ≠ .ext f
theorem soft_none {H : Hp} {a : Addr} (h : H a = none) : Soft H a := fun o e => by rw [h] at e; cases e
theorem soft_lst {H : Hp} {a : Addr} {l : List V} (h : H a = some (.lst l)) : Soft H a := fun o e => by
  rw [h] at e; cases e
  exact ⟨fun _ z => (nomatch z), fun _ z => (nomatch z)⟩
theorem tabs_upd {T : List (Addr × Str)} {H : Hp} {a : Addr} {o : HO} (t : LamX.Tabs T H) (s : Soft H a) : LamX.Tabs T (upd H a o) := fun p hp => by
  obtain ⟨ps, h1, h2, h3⟩ := t p hp
  refine ⟨ps, ?_, h2, fun pos cv hc => ?_⟩
  · rw [upd_ne (fun z => by rw [z] at h1; exact (s _ h1).1 _ rfl)]; exact h1
  · obtain ⟨c, e1, e2⟩ := h3 pos cv hc
    exact ⟨c, e1, by rw [upd_ne (fun z => by rw [z] at e2; exact (s _ e2).2 _ rfl)]; exact e2⟩
section
variable (K : PySem.W.Frag) (mg : Str → Option Value) (ρ : List Addr) (F : Hp)
mutual
def RV : AV → V → Prop
  | .non, v => v = .non
  | .bl b, v => v = .bl b
  | .int i, v => v = .int i
  | .str x, v => v = .str x
  | .ty n, v => v = .ty n
  | .cls c, v => ∃ C, v = .ref C ∧ mg c = some (.ref C)
  | .tup l, v => ∃ a vs, v = .ref a ∧ SqT K F a vs ∧ RVs l vs
  | .lst l, v => ∃ a vs, v = .ref a ∧ F a = some (.lst vs) ∧ RVs l vs
  | .klst l, v => ∃ a vs, v = .ref a ∧ SqL K F a vs ∧ RVs l vs
  | .dct ks l, v => ∃ a kvs, v = .ref a ∧ F a = some (.dK kvs) ∧ kvs.map (·.1) = ks ∧ RVs l (kvs.map (·.2))
  | .obj c ks l, v => ∃ a C dx fs, v = .ref a ∧ mg c = some (.ref C) ∧ F a = some (.ins C dx fs) ∧ fs.map (·.1) = ks ∧ RVs l (fs.map (·.2))
  | .exc c ks l, v => ∃ a C d fs, v = .ref a ∧ mg c = some (.ref C) ∧ F a = some (EXV a (.ref C) (some d)) ∧ F d = some (.xd fs) ∧ fs.map (·.1) = ks ∧ RVs l (fs.map (·.2))
  | .ref n, v => ∃ a, v = .ref a ∧ ρ[n]? = some a
def RVs : List AV → List V → Prop
  | [], vs => vs = []
  | x :: xs, vs => ∃ v r, vs = v :: r ∧ RV x v ∧ RVs xs r
end
def RC : Cell → HO → Prop
  | .lst l, o => ∃ vs, o = .lst vs ∧ RVs K mg ρ F l vs
  | .dct ks l, o => ∃ kvs : List (Key × V), o = .dK kvs ∧ kvs.map (·.1) = ks ∧ RVs K mg ρ F l (kvs.map (·.2))
  | .ins c ks l, o => ∃ C dx fs, o = .ins C dx fs ∧ mg c = some (.ref C) ∧ fs.map (·.1) = ks ∧ RVs K mg ρ F l (fs.map (·.2))
  | .dead, o => ∀ ps, o ≠ .tbl ps
structure RH (h : AH) (H : Hp) : Prop where
  len : ρ.length = h.length
  tab : LamX.Tabs (tabsOf K) H
  ntb : ∀ a ps, F a ≠ some (.tbl ps)
  nd : ρ.Nodup
  sub : ∀ a o, F a = some o → H a = some o
  sep : ∀ (n : Nat) (c : Cell), h[n]? = some c → c.live = true → ∀ a, ρ[n]? = some a → F a = none
  old : ∀ (n : Nat) (c : Cell), h[n]? = some c → bndC (n + 1) c = true
  cell : ∀ (n : Nat) (c : Cell), h[n]? = some c → ∀ a, ρ[n]? = some a → ∃ o, H a = some o ∧ RC K mg ρ F c o
def RSl (sl : SL) (σ : St) : Prop := sl.length = σ.length ∧ ∀ (i : Nat) (x : AV), sl[i]? = some (some x) → ∃ v, σ[i]? = some (some v) ∧ RV K mg ρ F x v
/-- an exception's own dict -/
def RX (ks : List Str) (l : List AV) (d : Option Addr) : Prop := ∃ dd fs, d = some dd ∧ F dd = some (.xd fs) ∧ fs.map (·.1) = ks ∧ RVs K mg ρ F l (fs.map (·.2))
end

/-- nothing told, or a table -/
def Gone (H : Hp) (a : Addr) : Prop := ∀ o, H a = some o → ∃ ps, o = .tbl ps
theorem gone_of {H : Hp} {a : Addr} (h : H a = none) : Gone H a := fun o e => by rw [h] at e; cases e
structure Ext (ρ : List Addr) (F H : Hp) (ρ' : List Addr) (F' H' : Hp) : Prop where
  pre : ∃ t, ρ' = ρ ++ t
  fz : ∀ a o, F a = some o → F' a = some o
  keep : ∀ a o, H a = some o → a ∉ ρ → (∀ ps, o ≠ .tbl ps) → H' a = some o
  new : ∀ a ∈ ρ', a ∈ ρ ∨ Gone H a
  fnew : ∀ a o, F' a = some o → F a = some o ∨ Gone H a ∨ a ∈ ρ

inductive Res (α : Type) where
  | ok (a : α) (h : AH) | exc (c : Str) (ks : List Str) (l : List AV) (h : AH) | stuck
def Res.bind {α β : Type} (r : Res α) (k : α → AH → Res β) : Res β := match r with
  | .ok a h => k a h
  | .exc c ks l h => .exc c ks l h
  | .stuck => .stuck
def Res.map {α β : Type} (r : Res α) (f : α → β) : Res β := match r with
  | .ok a h => .ok (f a) h
  | .exc c ks l h => .exc c ks l h
  | .stuck => .stuck

section
variable {K : PySem.W.Frag} {mg : Str → Option Value} {ρ ρ' ρ1 ρ2 : List Addr} {F H F' H' F1 H1 F2 H2 : Hp}
theorem Ext.refl (ρ : List Addr) (F H : Hp) : Ext ρ F H ρ F H :=
  ⟨⟨[], by simp⟩, fun _ _ h => h, fun _ _ h _ _ => h, fun _ h => .inl h, fun _ _ h => .inl h⟩
theorem Ext.gone (e : Ext ρ F H ρ1 F1 H1) {a : Addr} (h : Gone H1 a) : Gone H a ∨ a ∈ ρ := by
  by_cases ha : a ∈ ρ
  · exact .inr ha
  · refine .inl fun o q => ?_
    by_cases ht : ∃ ps, o = .tbl ps
    · exact ht
    · exact h o (e.keep a o q ha fun ps z => ht ⟨ps, z⟩)
theorem Ext.trans (e : Ext ρ F H ρ1 F1 H1) (e' : Ext ρ1 F1 H1 ρ2 F2 H2) : Ext ρ F H ρ2 F2 H2 where
  pre := by
    obtain ⟨t, rfl⟩ := e.pre
    obtain ⟨t', rfl⟩ := e'.pre
    exact ⟨t ++ t', by rw [List.append_assoc]⟩
  fz := fun a o h => e'.fz a o (e.fz a o h)
  keep := fun a o h hn ht => e'.keep a o (e.keep a o h hn ht) (fun hm => by
    rcases e.new a hm with z | z
    · exact hn z
    · obtain ⟨ps, r⟩ := z _ h
      exact ht ps r) ht
  new := fun a hm => by
    rcases e'.new a hm with z | z
    · exact e.new a z
    · rcases e.gone z with q | q
      · exact .inr q
      · exact .inl q
  fnew := fun a o h => by
    rcases e'.fnew a o h with z | z | z
    · exact e.fnew a o z
    · rcases e.gone z with q | q
      · exact .inr (.inl q)
      · exact .inr (.inr q)
    · rcases e.new a z with q | q
      · exact .inr (.inr q)
      · exact .inr (.inl q)
theorem SqL.mono {a : Addr} {vs : List V} (f : ∀ a o, F a = some o → F1 a = some o) (h : SqL K F a vs) : SqL K F1 a vs := by
  rcases h with (h | ⟨o, h⟩) | h
  · exact .inl (.inl (f _ _ h))
  · exact .inl (.inr ⟨o, f _ _ h⟩)
  · exact .inr h
theorem SqT.mono {a : Addr} {vs : List V} (f : ∀ a o, F a = some o → F1 a = some o) (h : SqT K F a vs) : SqT K F1 a vs := by
  rcases h with (h | ⟨o, h⟩) | h
  · exact .inl (.inl (f _ _ h))
  · exact .inl (.inr ⟨o, f _ _ h⟩)
  · exact .inr h
mutual
theorem RV.mono (f : ∀ a o, F a = some o → F1 a = some o) (p : ∀ (n : Nat) (a : Addr), ρ[n]? = some a → ρ1[n]? = some a) : ∀ (x : AV) (v : V), RV K mg ρ F x v → RV K mg ρ1 F1 x v
  | .non, v, h => by simpa [RV] using h
  | .bl b, v, h => by simpa [RV] using h
  | .int i, v, h => by simpa [RV] using h
  | .str x, v, h => by simpa [RV] using h
  | .ty n, v, h => by simpa [RV] using h
  | .cls c, v, h => by simpa [RV] using h
  | .tup l, v, h => by
    simp only [RV] at h ⊢
    obtain ⟨a, vs, e, q, r⟩ := h
    exact ⟨a, vs, e, SqT.mono f q, RVs.mono f p l vs r⟩
  | .lst l, v, h => by
    simp only [RV] at h ⊢
    obtain ⟨a, vs, e, q, r⟩ := h
    exact ⟨a, vs, e, f _ _ q, RVs.mono f p l vs r⟩
  | .klst l, v, h => by
    simp only [RV] at h ⊢
    obtain ⟨a, vs, e, q, r⟩ := h
    exact ⟨a, vs, e, SqL.mono f q, RVs.mono f p l vs r⟩
  | .dct ks l, v, h => by
    simp only [RV] at h ⊢
    obtain ⟨a, kvs, e, q, k, r⟩ := h
    exact ⟨a, kvs, e, f _ _ q, k, RVs.mono f p l _ r⟩
  | .obj c ks l, v, h => by
    simp only [RV] at h ⊢
    obtain ⟨a, C, dx, fs, e, m, q, k, r⟩ := h
    exact ⟨a, C, dx, fs, e, m, f _ _ q, k, RVs.mono f p l _ r⟩
  | .exc c ks l, v, h => by
    simp only [RV] at h ⊢
    obtain ⟨a, C, d, fs, e, m, q, q', k, r⟩ := h
    exact ⟨a, C, d, fs, e, m, f _ _ q, f _ _ q', k, RVs.mono f p l _ r⟩
  | .ref n, v, h => by
    simp only [RV] at h ⊢
    obtain ⟨a, e, q⟩ := h
    exact ⟨a, e, p _ _ q⟩
theorem RVs.mono (f : ∀ a o, F a = some o → F1 a = some o) (p : ∀ (n : Nat) (a : Addr), ρ[n]? = some a → ρ1[n]? = some a) : ∀ (x : List AV) (v : List V), RVs K mg ρ F x v → RVs K mg ρ1 F1 x v
  | [], v, h => by simpa [RVs] using h
  | x :: xs, v, h => by
    simp only [RVs] at h ⊢
    obtain ⟨w, r, e, q, t⟩ := h
    exact ⟨w, r, e, RV.mono f p x w q, RVs.mono f p xs r t⟩
end
theorem Ext.at (e : Ext ρ F H ρ1 F1 H1) (n : Nat) (a : Addr) (h : ρ[n]? = some a) : ρ1[n]? = some a := by
  obtain ⟨t, rfl⟩ := e.pre
  have := (List.getElem?_eq_some_iff.mp h).1
  rw [List.getElem?_append_left this]
  exact h
theorem RV.ext {x : AV} {v : V} (e : Ext ρ F H ρ1 F1 H1) (h : RV K mg ρ F x v) : RV K mg ρ1 F1 x v := RV.mono e.fz e.at x v h
theorem RVs.ext {x : List AV} {v : List V} (e : Ext ρ F H ρ1 F1 H1) (h : RVs K mg ρ F x v) : RVs K mg ρ1 F1 x v := RVs.mono e.fz e.at x v h
theorem RSl.ext {sl : SL} {σ : St} (e : Ext ρ F H ρ1 F1 H1) (h : RSl K mg ρ F sl σ) : RSl K mg ρ1 F1 sl σ := ⟨h.1, fun i x q => by
  obtain ⟨v, a, b⟩ := h.2 i x q
  exact ⟨v, a, b.ext e⟩⟩
theorem RC.ext {c : Cell} {o : HO} (e : Ext ρ F H ρ1 F1 H1) (h : RC K mg ρ F c o) : RC K mg ρ1 F1 c o := by
  cases c with
  | lst l => obtain ⟨vs, a, b⟩ := h; exact ⟨vs, a, b.ext e⟩
  | dct ks l => obtain ⟨vs, a, k, b⟩ := h; exact ⟨vs, a, k, b.ext e⟩
  | ins c ks l => obtain ⟨C, dx, fs, a, m, k, b⟩ := h; exact ⟨C, dx, fs, a, m, k, b.ext e⟩
  | dead => exact h
theorem RVs.length : ∀ {l : List AV} {vs : List V}, RVs K mg ρ F l vs → l.length = vs.length
  | [], vs, h => by simp only [RVs] at h; subst h; rfl
  | x :: xs, vs, h => by
    simp only [RVs] at h
    obtain ⟨v, r, e, _, t⟩ := h
    subst e
    simp [RVs.length t]
theorem RVs.get : ∀ {l : List AV} {vs : List V} {i : Nat} {x : AV}, RVs K mg ρ F l vs → l[i]? = some x → ∃ v, vs[i]? = some v ∧ RV K mg ρ F x v
  | [], vs, i, x, h, e => by simp at e
  | y :: ys, vs, 0, x, h, e => by
    simp only [RVs] at h
    obtain ⟨v, r, q, a, t⟩ := h
    subst q
    simp at e
    subst e
    exact ⟨v, by simp, a⟩
  | y :: ys, vs, i + 1, x, h, e => by
    simp only [RVs] at h
    obtain ⟨v, r, q, a, t⟩ := h
    subst q
    simp only [List.getElem?_cons_succ] at e ⊢
    exact RVs.get t e
theorem RVs.append : ∀ {l l2 : List AV} {vs vs2 : List V}, RVs K mg ρ F l vs → RVs K mg ρ F l2 vs2 → RVs K mg ρ F (l ++ l2) (vs ++ vs2)
  | [], l2, vs, vs2, h, h2 => by simp only [RVs] at h; subst h; simpa using h2
  | x :: xs, l2, vs, vs2, h, h2 => by
    simp only [RVs] at h
    obtain ⟨v, r, e, a, t⟩ := h
    subst e
    simp only [List.cons_append, RVs]
    exact ⟨v, r ++ vs2, rfl, a, RVs.append t h2⟩
theorem RVs.nil : RVs K mg ρ F [] [] := by simp [RVs]
theorem RVs.cons {x : AV} {v : V} {l : List AV} {vs : List V} (h : RV K mg ρ F x v) (t : RVs K mg ρ F l vs) : RVs K mg ρ F (x :: l) (v :: vs) := by
  simp only [RVs]; exact ⟨v, vs, rfl, h, t⟩
theorem RVs.set : ∀ {l : List AV} {vs : List V} (i : Nat) {x : AV} {v : V}, RVs K mg ρ F l vs → RV K mg ρ F x v → RVs K mg ρ F (l.set i x) (vs.set i v)
  | [], vs, i, x, v, h, q => by simp only [RVs] at h; subst h; simp [RVs]
  | y :: ys, vs, 0, x, v, h, q => by
    simp only [RVs] at h
    obtain ⟨w, r, e, a, t⟩ := h
    subst e
    simp only [List.set_cons_zero]
    exact .cons q t
  | y :: ys, vs, i + 1, x, v, h, q => by
    simp only [RVs] at h
    obtain ⟨w, r, e, a, t⟩ := h
    subst e
    simp only [List.set_cons_succ]
    exact .cons a (RVs.set i t q)
theorem RVs.take : ∀ {l : List AV} {vs : List V} (i : Nat), RVs K mg ρ F l vs → RVs K mg ρ F (l.take i) (vs.take i)
  | [], vs, i, h => by simp only [RVs] at h; subst h; simp [RVs]
  | y :: ys, vs, 0, h => by simp [RVs]
  | y :: ys, vs, i + 1, h => by
    simp only [RVs] at h
    obtain ⟨w, r, e, a, t⟩ := h
    subst e
    simp only [List.take_succ_cons]
    exact .cons a (RVs.take i t)
theorem RVs.drop : ∀ {l : List AV} {vs : List V} (i : Nat), RVs K mg ρ F l vs → RVs K mg ρ F (l.drop i) (vs.drop i)
  | [], vs, i, h => by simp only [RVs] at h; subst h; simp [RVs]
  | y :: ys, vs, 0, h => by simpa using h
  | y :: ys, vs, i + 1, h => by
    simp only [RVs] at h
    obtain ⟨w, r, e, a, t⟩ := h
    subst e
    simp only [List.drop_succ_cons]
    exact RVs.drop i t
mutual
theorem RV.bnd : ∀ (x : AV) (v : V), RV K mg ρ F x v → bnd ρ.length x = true
  | .ref k, v, h => by
    simp only [RV] at h
    obtain ⟨a, _, e⟩ := h
    simp only [AVL.bnd, decide_eq_true_eq]
    exact (List.getElem?_eq_some_iff.mp e).1
  | .tup l, v, h => by simp only [RV] at h; obtain ⟨_, _, _, _, r⟩ := h; simp only [AVL.bnd]; exact RVs.bnd l _ r
  | .lst l, v, h => by simp only [RV] at h; obtain ⟨_, _, _, _, r⟩ := h; simp only [AVL.bnd]; exact RVs.bnd l _ r
  | .klst l, v, h => by simp only [RV] at h; obtain ⟨_, _, _, _, r⟩ := h; simp only [AVL.bnd]; exact RVs.bnd l _ r
  | .dct ks l, v, h => by simp only [RV] at h; obtain ⟨_, _, _, _, _, r⟩ := h; simp only [AVL.bnd]; exact RVs.bnd l _ r
  | .obj c ks l, v, h => by simp only [RV] at h; obtain ⟨_, _, _, _, _, _, _, _, r⟩ := h; simp only [AVL.bnd]; exact RVs.bnd l _ r
  | .exc c ks l, v, h => by simp only [RV] at h; obtain ⟨_, _, _, _, _, _, _, _, _, r⟩ := h; simp only [AVL.bnd]; exact RVs.bnd l _ r
  | .non, _, _ => rfl
  | .bl _, _, _ => rfl
  | .int _, _, _ => rfl
  | .str _, _, _ => rfl
  | .ty _, _, _ => rfl
  | .cls _, _, _ => rfl
theorem RVs.bnd : ∀ (x : List AV) (v : List V), RVs K mg ρ F x v → bnds ρ.length x = true
  | [], _, _ => rfl
  | x :: xs, v, h => by
    simp only [RVs] at h
    obtain ⟨w, r, _, a, t⟩ := h
    simp only [AVL.bnds, Bool.and_eq_true]
    exact ⟨RV.bnd x w a, RVs.bnd xs r t⟩
end
mutual
theorem bnd_mono {n m : Nat} (hnm : n ≤ m) : ∀ (x : AV), bnd n x = true → bnd m x = true
  | .ref k, h => by simp only [AVL.bnd, decide_eq_true_eq] at h ⊢; omega
  | .tup l, h => by simp only [AVL.bnd] at h ⊢; exact bnds_mono hnm l h
  | .lst l, h => by simp only [AVL.bnd] at h ⊢; exact bnds_mono hnm l h
  | .klst l, h => by simp only [AVL.bnd] at h ⊢; exact bnds_mono hnm l h
  | .dct ks l, h => by simp only [AVL.bnd] at h ⊢; exact bnds_mono hnm l h
  | .obj c ks l, h => by simp only [AVL.bnd] at h ⊢; exact bnds_mono hnm l h
  | .exc c ks l, h => by simp only [AVL.bnd] at h ⊢; exact bnds_mono hnm l h
  | .non, _ => rfl
  | .bl _, _ => rfl
  | .int _, _ => rfl
  | .str _, _ => rfl
  | .ty _, _ => rfl
  | .cls _, _ => rfl
theorem bnds_mono {n m : Nat} (hnm : n ≤ m) : ∀ (x : List AV), bnds n x = true → bnds m x = true
  | [], _ => rfl
  | x :: xs, h => by
    simp only [AVL.bnds, Bool.and_eq_true] at h ⊢
    exact ⟨bnd_mono hnm x h.1, bnds_mono hnm xs h.2⟩
end
theorem bnds_get {n : Nat} : ∀ {l : List AV} {i : Nat} {x : AV}, bnds n l = true → l[i]? = some x → bnd n x = true
  | [], i, x, h, e => by simp at e
  | y :: ys, 0, x, h, e => by
    simp only [AVL.bnds, Bool.and_eq_true] at h
    simp at e; subst e; exact h.1
  | y :: ys, i + 1, x, h, e => by
    simp only [AVL.bnds, Bool.and_eq_true] at h
    simp only [List.getElem?_cons_succ] at e
    exact bnds_get h.2 e
theorem bnds_append {n : Nat} : ∀ {l l' : List AV}, bnds n l = true → bnds n l' = true → bnds n (l ++ l') = true
  | [], l', _, h => h
  | y :: ys, l', h, h' => by
    simp only [AVL.bnds, Bool.and_eq_true, List.cons_append] at h ⊢
    exact ⟨h.1, bnds_append h.2 h'⟩
theorem bnds_set {n : Nat} {x : AV} : ∀ {l : List AV} (i : Nat), bnds n l = true → bnd n x = true → bnds n (l.set i x) = true
  | [], i, h, q => by simpa using h
  | y :: ys, 0, h, q => by
    simp only [AVL.bnds, Bool.and_eq_true, List.set_cons_zero] at h ⊢
    exact ⟨q, h.2⟩
  | y :: ys, i + 1, h, q => by
    simp only [AVL.bnds, Bool.and_eq_true, List.set_cons_succ] at h ⊢
    exact ⟨h.1, bnds_set i h.2 q⟩
theorem RC.bnd {c : Cell} {o : HO} (r : RC K mg ρ F c o) : bndC ρ.length c = true := by
  cases c with
  | lst l => obtain ⟨vs, _, b⟩ := r; exact b.bnd _ _
  | dct ks l => obtain ⟨vs, _, _, b⟩ := r; exact b.bnd _ _
  | ins c ks l => obtain ⟨C, dx, fs, _, _, _, b⟩ := r; exact b.bnd _ _
  | dead => rfl
theorem bndC_mono {n m : Nat} (hnm : n ≤ m) : ∀ (c : Cell), bndC n c = true → bndC m c = true
  | .lst l, h => bnds_mono hnm l h
  | .dct _ l, h => bnds_mono hnm l h
  | .ins _ _ l, h => bnds_mono hnm l h
  | .dead, _ => rfl
/-- Vals of ints -/
theorem RVs.ints : ∀ (ns : List Int), RVs K mg ρ F (ns.map AV.int) (ns.map V.int)
  | [] => .nil
  | n :: ns => .cons (by simp [RV]) (RVs.ints ns)
end

/-! ### ends -/
section
variable (K : PySem.W.Frag) (mg : Str → Option Value)
/-- what comes of an evaluation: R relates a result to what the machine holds -/
def Out {α β : Type} (R : List Addr → Hp → α → β → Prop) (ρ : List Addr) (F H : Hp) (r : Res α) (Q : β → Hp → Prop) (E : XK) : Prop := match r with
  | .ok x h' => ∀ ρ' F' H' v, Ext ρ F H ρ' F' H' → RH K mg ρ' F' h' H' → R ρ' F' x v → Q v H'
  | .exc c ks l h' => ∀ ρ' F' H' C d, Ext ρ F H ρ' F' H' → RH K mg ρ' F' h' H' → mg c = some (.ref C) → RX K mg ρ' F' ks l d → E (.ref C) d H'
  | .stuck => False
def RT : List Addr → Hp → Bool → Bool → Prop := fun _ _ a b => a = b
inductive SRes where
  | next (sl : SL) (h : AH) | ret (x : AV) (h : AH) | brk (sl : SL) (h : AH) | cont (sl : SL) (h : AH) | exc (c : Str) (ks : List Str) (l : List AV) (sl : SL) (h : AH) | stuck
def OutS (ρ : List Addr) (F H : Hp) (r : SRes) (D : Ends) (W : WX) : Prop := match r with
  | .next sl h' => ∀ ρ' F' H' σ', Ext ρ F H ρ' F' H' → RH K mg ρ' F' h' H' → RSl K mg ρ' F' sl σ' → D.nx σ' H'
  | .ret x h' => ∀ ρ' F' H' v, Ext ρ F H ρ' F' H' → RH K mg ρ' F' h' H' → RV K mg ρ' F' x v → D.rt v H'
  | .brk sl h' => ∀ ρ' F' H' σ', Ext ρ F H ρ' F' H' → RH K mg ρ' F' h' H' → RSl K mg ρ' F' sl σ' → D.bk σ' H'
  | .cont sl h' => ∀ ρ' F' H' σ', Ext ρ F H ρ' F' H' → RH K mg ρ' F' h' H' → RSl K mg ρ' F' sl σ' → D.ct σ' H'
  | .exc c ks l sl h' => ∀ ρ' F' H' σ' C d, Ext ρ F H ρ' F' H' → RH K mg ρ' F' h' H' → RSl K mg ρ' F' sl σ' → mg c = some (.ref C) → RX K mg ρ' F' ks l d → W (.ref C) d σ' H'
  | .stuck => False
end
def Res.toS {α : Type} (r : Res α) (sl : SL) (k : α → AH → SRes) : SRes := match r with
  | .ok a h => k a h
  | .exc c ks l h => .exc c ks l sl h
  | .stuck => .stuck
def SRes.seq (r : SRes) (k : SL → AH → SRes) : SRes := match r with
  | .next sl h => k sl h
  | r => r
section
variable {K : PySem.W.Frag} {mg : Str → Option Value} {ρ ρ' ρ1 ρ2 : List Addr} {F H F' H' F1 H1 F2 H2 : Hp} {E : XK} {W : WX}
theorem Out.ext {α β : Type} {R : List Addr → Hp → α → β → Prop} {Q : β → Hp → Prop} {r : Res α} (h : Out K mg R ρ F H r Q E) (e : Ext ρ F H ρ1 F1 H1) : Out K mg R ρ1 F1 H1 r Q E := by
  cases r with
  | ok x h' => exact fun ρ' F' H' v e' => h ρ' F' H' v (e.trans e')
  | exc c ks l h' => exact fun ρ' F' H' C d e' => h ρ' F' H' C d (e.trans e')
  | stuck => exact h
theorem OutS.ext {r : SRes} {D : Ends} (h : OutS K mg ρ F H r D W) (e : Ext ρ F H ρ1 F1 H1) : OutS K mg ρ1 F1 H1 r D W := by
  cases r with
  | next sl h' => exact fun ρ' F' H' v e' => h ρ' F' H' v (e.trans e')
  | ret sl h' => exact fun ρ' F' H' v e' => h ρ' F' H' v (e.trans e')
  | brk sl h' => exact fun ρ' F' H' v e' => h ρ' F' H' v (e.trans e')
  | cont sl h' => exact fun ρ' F' H' v e' => h ρ' F' H' v (e.trans e')
  | exc c ks l sl h' => exact fun ρ' F' H' σ' C d e' => h ρ' F' H' σ' C d (e.trans e')
  | stuck => exact h
/-- one after another -/
theorem Out.bind {α β γ δ : Type} {R : List Addr → Hp → α → β → Prop} {R' : List Addr → Hp → γ → δ → Prop} {Q : δ → Hp → Prop} {Q1 : β → Hp → Prop} {r : Res α} {k : α → AH → Res γ} (o : Out K mg R' ρ F H (r.bind k) Q E)
    (hk : ∀ x h1 ρ1 F1 H1 v, Ext ρ F H ρ1 F1 H1 → RH K mg ρ1 F1 h1 H1 → R ρ1 F1 x v → Out K mg R' ρ1 F1 H1 (k x h1) Q E → Q1 v H1) : Out K mg R ρ F H r Q1 E := by
  cases r with
  | ok x h' => exact fun ρ' F' H' v e rh rv => hk x h' ρ' F' H' v e rh rv (Out.ext (show Out K mg R' ρ F H (k x h') Q E from o) e)
  | exc c ks l h' => exact o
  | stuck => exact o
theorem Out.bindS {α β : Type} {R : List Addr → Hp → α → β → Prop} {D : Ends} {Q1 : β → Hp → Prop} {r : Res α} {k : α → AH → SRes} {sl : SL} {σ : L2.St} (o : OutS K mg ρ F H (r.toS sl k) D W) (hs : RSl K mg ρ F sl σ)
    (hk : ∀ x h1 ρ1 F1 H1 v, Ext ρ F H ρ1 F1 H1 → RH K mg ρ1 F1 h1 H1 → R ρ1 F1 x v → OutS K mg ρ1 F1 H1 (k x h1) D W → Q1 v H1) : Out K mg R ρ F H r Q1 (fun c d H' => W c d σ H') := by
  cases r with
  | ok x h' => exact fun ρ' F' H' v e rh rv => hk x h' ρ' F' H' v e rh rv (OutS.ext (show OutS K mg ρ F H (k x h') D W from o) e)
  | exc c ks l h' => exact fun ρ' F' H' C d e rh m rx => o ρ' F' H' σ C d e rh (hs.ext e) m rx
  | stuck => exact o
theorem Out.imp {α β : Type} {R : List Addr → Hp → α → β → Prop} {Q Q1 : β → Hp → Prop} {E E1 : XK} {r : Res α} (o : Out K mg R ρ F H r Q E) (h : ∀ v H, Q v H → Q1 v H) (he : ∀ c d H, E c d H → E1 c d H) : Out K mg R ρ F H r Q1 E1 := by
  cases r with
  | ok x h' => exact fun ρ' F' H' v e rh rv => h _ _ (o ρ' F' H' v e rh rv)
  | exc c ks l h' => exact fun ρ' F' H' C d e rh m rx => he _ _ _ (o ρ' F' H' C d e rh m rx)
  | stuck => exact o
/-- a value that is there -/
theorem Out.now {α β : Type} {R : List Addr → Hp → α → β → Prop} {Q : β → Hp → Prop} {x : α} {v : β} {h : AH} (o : Out K mg R ρ F H (.ok x h) Q E) (rh : RH K mg ρ F h H) (rv : R ρ F x v) : Q v H := o ρ F H v (Ext.refl _ _ _) rh rv
end

/-! ### new objects, written ones -/
section
variable {K : PySem.W.Frag} {mg : Str → Option Value} {ρ : List Addr} {F H : Hp} {h : AH}
theorem RH.notin (rh : RH K mg ρ F h H) {a : Addr} (hn : H a = none) : a ∉ ρ := fun hm => by
  obtain ⟨n, hn'⟩ := List.getElem?_of_mem hm
  have hl : n < h.length := by rw [← rh.len]; exact (List.getElem?_eq_some_iff.mp hn').1
  obtain ⟨o, e, _⟩ := rh.cell n h[n] (by simp [hl]) a hn'
  rw [hn] at e; cases e
theorem RH.Fnone (rh : RH K mg ρ F h H) {a : Addr} (hn : H a = none) : F a = none := by
  cases q : F a with
  | none => rfl
  | some o => rw [rh.sub a o q] at hn; cases hn
/-- a new frozen object -/
theorem ext_frz {a : Addr} {o : HO} (rh : RH K mg ρ F h H) (hn : H a = none) : Ext ρ F H ρ (upd F a o) (upd H a o) where
  pre := ⟨[], by simp⟩
  fz := fun b u e => by rw [upd_ne (fun z => by rw [z, rh.Fnone hn] at e; cases e)]; exact e
  keep := fun b u e _ _ => by rw [upd_ne (ne_of_none e hn)]; exact e
  new := fun b hb => .inl hb
  fnew := fun b u e => by
    by_cases hb : b = a
    · exact .inr (.inl (by rw [hb]; exact gone_of hn))
    · rw [upd_ne hb] at e; exact .inl e
theorem rh_frz {a : Addr} {o : HO} (rh : RH K mg ρ F h H) (hn : H a = none) (nt : ∀ ps, o ≠ .tbl ps := by intro _ z; nomatch z) : RH K mg ρ (upd F a o) h (upd H a o) where
  len := rh.len
  tab := tabs_upd rh.tab (soft_none hn)
  ntb := fun b ps e => by
    by_cases hb : b = a
    · rw [hb, upd_same] at e; exact nt ps (Option.some.inj e)
    · rw [upd_ne hb] at e; exact rh.ntb b ps e
  nd := rh.nd
  sub := fun b u e => by
    by_cases hb : b = a
    · rw [hb, upd_same] at e ⊢; exact e
    · rw [upd_ne hb] at e ⊢; exact rh.sub b u e
  sep := fun n c hc hl b hb => by
    have ne : b ≠ a := fun z => by subst z; exact rh.notin hn (List.mem_of_getElem? hb)
    rw [upd_ne ne]; exact rh.sep n c hc hl b hb
  old := rh.old
  cell := fun n c e b hb => by
    obtain ⟨u, e1, r⟩ := rh.cell n c e b hb
    exact ⟨u, by rw [upd_ne (ne_of_none e1 hn)]; exact e1, r.ext (ext_frz rh hn)⟩
/-- a new named object -/
theorem ext_nam {a : Addr} {o : HO} (rh : RH K mg ρ F h H) (hn : H a = none) : Ext ρ F H (ρ ++ [a]) F (upd H a o) where
  pre := ⟨[a], rfl⟩
  fz := fun _ _ e => e
  keep := fun b u e _ _ => by rw [upd_ne (ne_of_none e hn)]; exact e
  new := fun b hb => by
    rcases List.mem_append.mp hb with z | z
    · exact .inl z
    · have e : b = a := by simpa using z
      exact .inr (by rw [e]; exact gone_of hn)
  fnew := fun _ _ e => .inl e
theorem rh_nam {a : Addr} {o : HO} {c : Cell} (rh : RH K mg ρ F h H) (hn : H a = none) (rc : RC K mg ρ F c o) : RH K mg (ρ ++ [a]) F (h ++ [c]) (upd H a o) where
  len := by simp [rh.len]
  ntb := rh.ntb
  tab := tabs_upd rh.tab (soft_none hn)
  nd := by
    rw [List.nodup_append]
    exact ⟨rh.nd, by simp, fun x hx y hy z => by
      have e : y = a := by simpa using hy
      subst e; subst z
      exact rh.notin hn hx⟩
  sub := fun b u e => by rw [upd_ne (fun z => by rw [z, rh.Fnone hn] at e; cases e)]; exact rh.sub b u e
  sep := fun n d e hl b hb => by
    by_cases hl' : n < h.length
    · rw [List.getElem?_append_left hl'] at e
      rw [List.getElem?_append_left (by rw [rh.len]; exact hl')] at hb
      exact rh.sep n d e hl b hb
    · have hn2 : n = h.length := by
        have := (List.getElem?_eq_some_iff.mp e).1
        simp at this; omega
      subst hn2
      have e2 : b = a := by
        rw [← rh.len] at hb; simpa using hb.symm
      rw [e2]; exact rh.Fnone hn
  old := fun n d e => by
    by_cases hl : n < h.length
    · rw [List.getElem?_append_left hl] at e
      exact rh.old n d e
    · have hn2 : n = h.length := by
        have := (List.getElem?_eq_some_iff.mp e).1
        simp at this; omega
      subst hn2
      have e1 : d = c := by simpa using e.symm
      subst e1
      have := rc.bnd
      rw [rh.len] at this
      exact bndC_mono (Nat.le_succ _) _ this
  cell := fun n d e b hb => by
    have ex := ext_nam (o := o) rh hn
    by_cases hl : n < h.length
    · rw [List.getElem?_append_left hl] at e
      rw [List.getElem?_append_left (by rw [rh.len]; exact hl)] at hb
      obtain ⟨u, e1, r⟩ := rh.cell n d e b hb
      exact ⟨u, by rw [upd_ne (ne_of_none e1 hn)]; exact e1, r.ext ex⟩
    · have hn2 : n = h.length := by
        have := (List.getElem?_eq_some_iff.mp e).1
        simp at this; omega
      subst hn2
      have e1 : d = c := by simpa using e.symm
      have e2 : b = a := by
        rw [← rh.len] at hb; simpa using hb.symm
      subst e1; subst e2
      exact ⟨o, upd_same, rc.ext ex⟩
theorem RC.ntb {c : Cell} {o : HO} (r : RC K mg ρ F c o) : ∀ ps, o ≠ .tbl ps := fun ps z => by
  subst z
  cases c with
  | lst l => obtain ⟨_, z, _⟩ := r; cases z
  | dct ks l => obtain ⟨_, z, _⟩ := r; cases z
  | ins c ks l => obtain ⟨_, _, _, z, _⟩ := r; cases z
  | dead => exact r ps rfl
theorem RH.at (rh : RH K mg ρ F h H) {n : Nat} {c : Cell} (e : h[n]? = some c) : ∃ a o, ρ[n]? = some a ∧ H a = some o ∧ RC K mg ρ F c o := by
  have hl : n < ρ.length := by rw [rh.len]; exact (List.getElem?_eq_some_iff.mp e).1
  obtain ⟨o, e1, r⟩ := rh.cell n c e ρ[n] (by simp [hl])
  exact ⟨ρ[n], o, by simp [hl], e1, r⟩
/-- a named object is written -/
theorem ext_set {a : Addr} {o : HO} (rh : RH K mg ρ F h H) (hm : a ∈ ρ) {o0 : HO} (h0 : H a = some o0) (nt : ∀ ps, o0 ≠ .tbl ps) : Ext ρ F H ρ F (upd H a o) where
  pre := ⟨[], by simp⟩
  fz := fun _ _ e => e
  keep := fun b u e hb _ => by
    have ne : b ≠ a := fun z => by subst z; exact hb hm
    rw [upd_ne ne]; exact e
  new := fun b hb => .inl hb
  fnew := fun _ _ e => .inl e
theorem nodup_get {l : List Addr} (hN : l.Nodup) {i j : Nat} {x : Addr} (a : l[i]? = some x) (b : l[j]? = some x) : i = j := by
  obtain ⟨h1, e1⟩ := List.getElem?_eq_some_iff.mp a
  obtain ⟨h2, e2⟩ := List.getElem?_eq_some_iff.mp b
  exact (List.getElem_inj hN).mp (e1.trans e2.symm)
theorem rh_set {a : Addr} {o : HO} {c c0 : Cell} {n : Nat} (rh : RH K mg ρ F h H) (hn : ρ[n]? = some a) (h0 : h[n]? = some c0) (hl0 : c0.live = true) (hb0 : bndC (n + 1) c = true) (rc : RC K mg ρ F c o) : RH K mg ρ F (h.set n c) (upd H a o) where
  len := by simp [rh.len]
  ntb := rh.ntb
  tab := tabs_upd rh.tab fun u e => by
    obtain ⟨u', e1, r⟩ := rh.cell n c0 h0 a hn
    rw [e] at e1; cases e1
    cases c0 with
    | lst l => obtain ⟨_, rfl, _⟩ := r; exact ⟨fun _ z => (nomatch z), fun _ z => (nomatch z)⟩
    | dct ks l => obtain ⟨_, rfl, _⟩ := r; exact ⟨fun _ z => (nomatch z), fun _ z => (nomatch z)⟩
    | ins c ks l => obtain ⟨_, _, _, rfl, _⟩ := r; exact ⟨fun _ z => (nomatch z), fun _ z => (nomatch z)⟩
    | dead => simp [Cell.live] at hl0
  nd := rh.nd
  sub := fun b u e => by rw [upd_ne (fun z => by rw [z, rh.sep n c0 h0 hl0 a hn] at e; cases e)]; exact rh.sub b u e
  sep := fun m d e hl b hb => by
    by_cases hmn : m = n
    · subst hmn
      rw [hn] at hb; cases hb
      exact rh.sep m c0 h0 hl0 a hn
    · rw [List.getElem?_set_ne (Ne.symm hmn)] at e
      exact rh.sep m d e hl b hb
  old := fun m d e => by
    by_cases hmn : m = n
    · subst hmn
      have hl : m < h.length := by rw [← rh.len]; exact (List.getElem?_eq_some_iff.mp hn).1
      rw [List.getElem?_set_self hl] at e
      cases e
      exact hb0
    · rw [List.getElem?_set_ne (Ne.symm hmn)] at e
      exact rh.old m d e
  cell := fun m d e b hb => by
    by_cases hmn : m = n
    · subst hmn
      rw [hn] at hb; cases hb
      have hl : m < h.length := by rw [← rh.len]; exact (List.getElem?_eq_some_iff.mp hn).1
      rw [List.getElem?_set_self hl] at e
      cases e
      exact ⟨o, upd_same, rc⟩
    · rw [List.getElem?_set_ne (Ne.symm hmn)] at e
      obtain ⟨u, e1, r⟩ := rh.cell m d e b hb
      have hne : b ≠ a := fun z => by
        subst z
        exact hmn (nodup_get rh.nd hb hn)
      exact ⟨u, by rw [upd_ne hne]; exact e1, r⟩
/-- a new list: frozen, or named -/
def mkL (nm : Bool) (l : List AV) (h : AH) : Res AV := if nm then .ok (.ref h.length) (h ++ [.lst l]) else .ok (.lst l) h
theorem out_mkL {nm : Bool} {l : List AV} {vs : List V} {Q : VK} {E : XK} (rh : RH K mg ρ F h H) (rv : RVs K mg ρ F l vs) (o : Out K mg (RV K mg) ρ F H (mkL nm l h) Q E) {p : Addr} (hp : H p = none) : Q (.ref p) (upd H p (.lst vs)) := by
  cases nm with
  | false =>
    refine o ρ (upd F p (.lst vs)) _ _ (ext_frz rh hp) (rh_frz rh hp) ?_
    simp only [RV]
    exact ⟨p, vs, rfl, upd_same, rv.ext (ext_frz (o := .lst vs) rh hp)⟩
  | true =>
    refine o (ρ ++ [p]) F _ _ (ext_nam rh hp) (rh_nam rh hp ⟨vs, rfl, rv⟩) ?_
    simp only [RV]
    exact ⟨p, rfl, by rw [← rh.len]; simp⟩
theorem out_tup {l : List AV} {vs : List V} {Q : VK} {E : XK} (rh : RH K mg ρ F h H) (rv : RVs K mg ρ F l vs) (o : Out K mg (RV K mg) ρ F H (.ok (.tup l) h) Q E) {p : Addr} (hp : H p = none) : Q (.ref p) (upd H p (.tup vs)) := by
  refine o ρ (upd F p (.tup vs)) _ _ (ext_frz rh hp) (rh_frz rh hp) ?_
  simp only [RV]
  exact ⟨p, vs, rfl, .inl (.inl upd_same), rv.ext (ext_frz (o := .tup vs) rh hp)⟩
end

/-! ### lists, tuples that are read -/
/-- a list that may be written, or is frozen -/
def itemsM (h : AH) : AV → Option (List AV)
  | .lst l => some l
  | .ref n => match h[n]? with
    | some (.lst l) => some l
    | _ => none
  | _ => none
def itemsL (h : AH) : AV → Option (List AV)
  | .klst l => some l
  | x => itemsM h x
def itemsT : AV → Option (List AV)
  | .tup l => some l
  | _ => none
def items (h : AH) : AV → Option (List AV)
  | .tup l => some l
  | x => itemsL h x
section
variable {K : PySem.W.Frag} {mg : Str → Option Value} {ρ : List Addr} {F H : Hp} {h : AH}
theorem items_M {x : AV} {v : V} {l : List AV} (rh : RH K mg ρ F h H) (rv : RV K mg ρ F x v) (e : itemsM h x = some l) : ∃ a vs, v = .ref a ∧ H a = some (.lst vs) ∧ RVs K mg ρ F l vs := by
  cases x with
  | lst l' =>
    simp only [itemsM, Option.some.injEq] at e
    subst e
    simp only [RV] at rv
    obtain ⟨a, vs, e, q, r⟩ := rv
    exact ⟨a, vs, e, rh.sub _ _ q, r⟩
  | ref n =>
    simp only [RV] at rv
    obtain ⟨a, ev, ea⟩ := rv
    simp only [itemsM] at e
    split at e
    · rename_i l' q
      cases e
      obtain ⟨o, e1, r⟩ := rh.cell n _ q a ea
      obtain ⟨vs, e2, r⟩ := r
      subst e2
      exact ⟨a, vs, ev, e1, r⟩
    · cases e
  | _ => simp [itemsM] at e
theorem items_L {x : AV} {v : V} {l : List AV} (rh : RH K mg ρ F h H) (rv : RV K mg ρ F x v) (e : itemsL h x = some l) : ∃ a vs, v = .ref a ∧ SqL K H a vs ∧ RVs K mg ρ F l vs := by
  have go : itemsM h x = some l → ∃ a vs, v = .ref a ∧ SqL K H a vs ∧ RVs K mg ρ F l vs := fun e => by
    obtain ⟨a, vs, e1, e2, r⟩ := items_M rh rv e
    exact ⟨a, vs, e1, SqL.of e2, r⟩
  cases x with
  | klst l' =>
    simp only [itemsL, Option.some.injEq] at e
    subst e
    simp only [RV] at rv
    obtain ⟨a, vs, e, q, r⟩ := rv
    exact ⟨a, vs, e, SqL.mono rh.sub q, r⟩
  | _ => exact go e
theorem items_T {x : AV} {v : V} {l : List AV} (rh : RH K mg ρ F h H) (rv : RV K mg ρ F x v) (e : itemsT x = some l) : ∃ a vs, v = .ref a ∧ SqT K H a vs ∧ RVs K mg ρ F l vs := by
  cases x with
  | tup l' =>
    simp only [itemsT, Option.some.injEq] at e
    subst e
    simp only [RV] at rv
    obtain ⟨a, vs, e, q, r⟩ := rv
    exact ⟨a, vs, e, SqT.mono rh.sub q, r⟩
  | _ => simp [itemsT] at e
theorem items_cases {x : AV} {l : List AV} (e : items h x = some l) : itemsT x = some l ∨ itemsL h x = some l := by
  cases x <;> simp_all [items, itemsT]
end
end AVL

namespace AVL
open PySem PySem.Spec L2

abbrev EM := SL → AH → Res AV
abbrev AM := SL → AH → Res (List AV)
abbrev TM := SL → AH → Res Bool
section
variable (X : Cx) (W : WX)
def lE (f : EM) : TE := fun σ H Q => ∃ ρ F sl h, RSl X.K X.mg ρ F sl σ ∧ RH X.K X.mg ρ F h H ∧ Out X.K X.mg (RV X.K X.mg) ρ F H (f sl h) Q (fun c d H' => W c d σ H')
def lA (f : AM) : TA := fun σ H Q => ∃ ρ F sl h, RSl X.K X.mg ρ F sl σ ∧ RH X.K X.mg ρ F h H ∧ Out X.K X.mg (RVs X.K X.mg) ρ F H (f sl h) Q (fun c d H' => W c d σ H')
def lT (f : TM) : TT := fun σ H Q => ∃ ρ F sl h, RSl X.K X.mg ρ F sl σ ∧ RH X.K X.mg ρ F h H ∧ Out X.K X.mg RT ρ F H (f sl h) Q (fun c d H' => W c d σ H')
end
theorem pe_imp {X : Cx} {e : Expr} {t t' : TE} (h : PE X e t) (i : ∀ σ H Q, t' σ H Q → t σ H Q) : PE X e t' := ⟨fun pins s σ H Q I q => h.run pins s σ H Q I (i σ H Q q)⟩
theorem pt_imp {X : Cx} {e : Expr} {t t' : TT} (h : PT X e t) (i : ∀ σ H Q, t' σ H Q → t σ H Q) : PT X e t' := ⟨fun pins s σ H Q I q => h.run pins s σ H Q I (i σ H Q q)⟩
theorem pw_imp {X : Cx} {e : Expr} {t t' : TT} (h : PW X e t) (i : ∀ σ H Q, t' σ H Q → t σ H Q) : PW X e t' := ⟨fun w pins s σ H Q I q => h.run w pins s σ H Q I (i σ H Q q)⟩
theorem pa_imp {X : Cx} {e : List Expr} {t t' : TA} (h : PA X e t) (i : ∀ σ H Q, t' σ H Q → t σ H Q) : PA X e t' := ⟨fun pos pins s σ H Q I q => h.run pos pins s σ H Q I (i σ H Q q)⟩

/-! ### names, constants -/
def eVar (i : Nat) : EM := fun sl h => match sl[i]? with
  | some (some x) => .ok x h
  | _ => .stuck
def eC (x : AV) : EM := fun _ h => .ok x h
section
variable {X : Cx} {W : WX}
theorem rVar (i : Nat) {x : Str} {pos : Pos} (hN : X.N[i]? = some x := by rfl) (hv : Vis X.env.scope x := by first | exact Or.inl rfl | exact Or.inr (Or.inl rfl) | exact Or.inr (Or.inr rfl)) (hd : (x == ("__debug__" : Str)) = false := by decide)
    (hcd : (x == ("__classdict__" : Str)) = false := by decide) : PE X (.Name x pos) (lE X W (eVar i)) := by
  refine pe_imp (pe_var hN hv hd hcd) fun σ H Q ⟨ρ, F, sl, h, rs, rh, o⟩ => ?_
  unfold eVar at o
  split at o
  · rename_i y e
    obtain ⟨v, e1, r⟩ := rs.2 i y e
    exact ⟨v, e1, o.now rh r⟩
  · exact o.elim
theorem rC {e : Expr} {v : V} {x : AV} (he : PE X e (tC v)) (hr : ∀ ρ F, RV X.K X.mg ρ F x v) : PE X e (lE X W (eC x)) :=
  pe_imp he fun σ H Q ⟨ρ, F, sl, h, rs, rh, o⟩ => o.now rh (hr _ _)
theorem rInt {i : Int} {j pos} : PE X (.Constant (.int i) j pos) (lE X W (eC (.int i))) := rC pe_int fun _ _ => by simp [RV]
theorem rBl {b : Bool} {j pos} : PE X (.Constant (.bool b) j pos) (lE X W (eC (.bl b))) := rC pe_bl fun _ _ => by simp [RV]
theorem rNon {j pos} : PE X (.Constant .none j pos) (lE X W (eC .non)) := rC pe_non fun _ _ => by simp [RV]
theorem rStr {x : Str} {j pos} : PE X (.Constant (.str x) j pos) (lE X W (eC (.str x))) := rC pe_str fun _ _ => by simp [RV]
/-- a name of the module: a number, a text, a class -/
theorem rGlob {x : Str} {pos : Pos} {v : V} {u : Value} {y : AV} (hm : X.mg x = some u) (r : RelV v u) (hr : ∀ ρ F, RV X.K X.mg ρ F y v) (hg : Gl X x := by rfl) (hd : (x == ("__debug__" : Str)) = false := by decide) :
    PE X (.Name x pos) (lE X W (eC y)) := rC (pe_glob hg hm r hd) hr

/-! ### operators -/
/-- a two-place operator on values -/
def OpOk (X : Cx) (f : Value → Value → Sem Value) (m : AV → AV → AH → Res AV) : Prop :=
  OpR X f fun v w H Q => ∃ ρ F x y h, RV X.K X.mg ρ F x v ∧ RV X.K X.mg ρ F y w ∧ RH X.K X.mg ρ F h H ∧ Out X.K X.mg (RV X.K X.mg) ρ F H (m x y h) Q fun _ _ _ => False
def UnOk (X : Cx) (f : Value → Sem Value) (m : AV → AH → Res AV) : Prop :=
  UnR X f fun v H Q => ∃ ρ F x h, RV X.K X.mg ρ F x v ∧ RH X.K X.mg ρ F h H ∧ Out X.K X.mg (RV X.K X.mg) ρ F H (m x h) Q fun _ _ _ => False
def eBin (m : AV → AV → AH → Res AV) (fa fb : EM) : EM := fun sl h => (fa sl h).bind fun x h1 => (fb sl h1).bind fun y h2 => m x y h2
def eUn (m : AV → AH → Res AV) (fa : EM) : EM := fun sl h => (fa sl h).bind fun x h1 => m x h1
/-- an operator's result raises nothing -/
def Res.calm {α : Type} : Res α → Prop
  | .exc _ _ _ _ => False
  | _ => True
def Calm (m : AV → AV → AH → Res AV) : Prop := ∀ x y h, (m x y h).calm
def Calm1 (m : AV → AH → Res AV) : Prop := ∀ x h, (m x h).calm
theorem Out.calm {K : PySem.W.Frag} {mg : Str → Option Value} {ρ : List Addr} {F H : Hp} {r : Res AV} {Q : VK} {E E1 : XK} (o : Out K mg (RV K mg) ρ F H r Q E) (c : r.calm) : Out K mg (RV K mg) ρ F H r Q E1 := by
  cases r with
  | ok x h => exact o
  | exc _ _ _ _ => exact c.elim
  | stuck => exact o
theorem two {fa fb : EM} {m : AV → AV → AH → Res AV} {σ : L2.St} {H : Hp} {Q : VK} (c : Calm m) (hh : lE X W (eBin m fa fb) σ H Q) :
    lE X W fa σ H fun v H1 => lE X W fb σ H1 fun w H2 => ∃ ρ F x y h, RV X.K X.mg ρ F x v ∧ RV X.K X.mg ρ F y w ∧ RH X.K X.mg ρ F h H2 ∧ Out X.K X.mg (RV X.K X.mg) ρ F H2 (m x y h) Q fun _ _ _ => False := by
  obtain ⟨ρ, F, sl, h, rs, rh, o⟩ := hh
  refine ⟨ρ, F, sl, h, rs, rh, Out.bind (R := RV X.K X.mg) o fun x h1 ρ1 F1 H1 v e1 rh1 rv1 o1 => ?_⟩
  refine ⟨ρ1, F1, sl, h1, rs.ext e1, rh1, Out.bind (R := RV X.K X.mg) o1 fun y h2 ρ2 F2 H2 w e2 rh2 rv2 o2 => ?_⟩
  exact ⟨ρ2, F2, x, y, h2, rv1.ext e2, rv2, rh2, Out.calm o2 (c x y h2)⟩
variable {a b : Expr} {fa fb fc : EM} {pos : Pos}
theorem rBin {op : Operator} {m : AV → AV → AH → Res AV} (ho : OpOk X (binaryOp op) m) (c : Calm m) (ha : PE X a (lE X W fa)) (hb : PE X b (lE X W fb)) : PE X (.BinOp a op b pos) (lE X W (eBin m fa fb)) :=
  pe_imp (pe_op ho ha hb) fun σ H Q h => two c h
theorem rUn {op : UnaryOp} {m : AV → AH → Res AV} (ho : UnOk X (unaryOp op) m) (c : Calm1 m) (ha : PE X a (lE X W fa)) : PE X (.UnaryOp op a pos) (lE X W (eUn m fa)) := by
  refine pe_imp (pe_un ho ha) fun σ H Q ⟨ρ, F, sl, h, rs, rh, o⟩ => ?_
  refine ⟨ρ, F, sl, h, rs, rh, Out.bind (R := RV X.K X.mg) o fun x h1 ρ1 F1 H1 v e1 rh1 rv1 o1 => ?_⟩
  exact ⟨ρ1, F1, x, h1, rv1, rh1, Out.calm o1 (c x h1)⟩
theorem rCmp {op : CmpOp} {m : AV → AV → AH → Res AV} (ho : OpOk X (compareOp op) m) (c : Calm m) (ha : PE X a (lE X W fa)) (hb : PE X b (lE X W fb)) (hm : behindInMarks op b = false) : PE X (.Compare a [op] [b] pos) (lE X W (eBin m fa fb)) :=
  pe_imp (pe_cmpR ho ha hb hm) fun σ H Q h => two c h
/-- a value known to be a bool, as a test -/
def tV (f : EM) : TM := fun sl h => (f sl h).bind fun x h1 => match x with
  | .bl b => .ok b h1
  | _ => .stuck
theorem RV.bl {K : PySem.W.Frag} {mg : Str → Option Value} {ρ : List Addr} {F : Hp} {b : Bool} {v : V} (r : RV K mg ρ F (.bl b) v) : v = .bl b := by simpa [RV] using r
theorem RV.int {K : PySem.W.Frag} {mg : Str → Option Value} {ρ : List Addr} {F : Hp} {b : Int} {v : V} (r : RV K mg ρ F (.int b) v) : v = .int b := by simpa [RV] using r
theorem RV.str {K : PySem.W.Frag} {mg : Str → Option Value} {ρ : List Addr} {F : Hp} {b : Str} {v : V} (r : RV K mg ρ F (.str b) v) : v = .str b := by simpa [RV] using r
theorem RV.non {K : PySem.W.Frag} {mg : Str → Option Value} {ρ : List Addr} {F : Hp} {v : V} (r : RV K mg ρ F .non v) : v = .non := by simpa [RV] using r
theorem tV_val {f : EM} {σ : L2.St} {H : Hp} {Q : Bool → Hp → Prop} (hh : lT X W (tV f) σ H Q) : lE X W f σ H fun x H1 => ∃ k, x = .bl k ∧ Q k H1 := by
  obtain ⟨ρ, F, sl, h, rs, rh, o⟩ := hh
  refine ⟨ρ, F, sl, h, rs, rh, Out.bind (R := RV X.K X.mg) o fun x h1 ρ1 F1 H1 v e1 rh1 rv1 o1 => ?_⟩
  cases x with
  | bl b => exact ⟨b, rv1.bl, Out.now (R := RT) o1 rh1 rfl⟩
  | _ => exact o1.elim
theorem rtCmp {op : CmpOp} {m : AV → AV → AH → Res AV} (ho : OpOk X (compareOp op) m) (c : Calm m) (ha : PE X a (lE X W fa)) (hb : PE X b (lE X W fb)) (hm : behindInMarks op b = false) : PT X (.Compare a [op] [b] pos) (lT X W (tV (eBin m fa fb))) :=
  pt_imp (pt_cmpR ho ha hb hm) fun σ H Q h => by
    obtain ⟨ρ, F, sl, h, rs, rh, o⟩ := tV_val h
    exact two c ⟨ρ, F, sl, h, rs, rh, o⟩
/-- any other expression that gives a bool, as a test -/
theorem rtV (ha : PE X a (lE X W fa)) (he : ∀ whole, isTrue a X.env whole = (do let v ← whole; standAt a.pos; holding [v] (truthy v)) := by intro _; rfl) : PT X a (lT X W (tV fa)) :=
  pt_imp (pt_val ha he) fun σ H Q h => tV_val h
/-! ### and, or, not, if -/
def tAnd (t u : TM) : TM := fun sl h => (t sl h).bind fun c h1 => if c then u sl h1 else .ok false h1
def tOr (t u : TM) : TM := fun sl h => (t sl h).bind fun c h1 => if c then .ok true h1 else u sl h1
def tNot (t : TM) : TM := fun sl h => (t sl h).bind fun c h1 => .ok (!c) h1
variable {ta tb : TM} {rest : List Expr}
theorem rtAnd (ha : PT X a (lT X W ta)) (hb : PW X (.BoolOp .And (b :: rest) pos) (lT X W tb)) : PW X (.BoolOp .And (a :: b :: rest) pos) (lT X W (tAnd ta tb)) := by
  refine pw_imp (pw_and ha hb) fun σ H Q ⟨ρ, F, sl, h, rs, rh, o⟩ => ?_
  refine ⟨ρ, F, sl, h, rs, rh, Out.bind (R := RT) o fun c h1 ρ1 F1 H1 v e1 rh1 rv1 o1 => ?_⟩
  cases rv1
  cases c with
  | true => exact iteT ⟨ρ1, F1, sl, h1, rs.ext e1, rh1, o1⟩
  | false => exact iteF (Out.now (R := RT) o1 rh1 rfl)
theorem rtOr (ha : PT X a (lT X W ta)) (hb : PW X (.BoolOp .Or (b :: rest) pos) (lT X W tb)) : PW X (.BoolOp .Or (a :: b :: rest) pos) (lT X W (tOr ta tb)) := by
  refine pw_imp (pw_or ha hb) fun σ H Q ⟨ρ, F, sl, h, rs, rh, o⟩ => ?_
  refine ⟨ρ, F, sl, h, rs, rh, Out.bind (R := RT) o fun c h1 ρ1 F1 H1 v e1 rh1 rv1 o1 => ?_⟩
  cases rv1
  cases c with
  | true => exact iteT (Out.now (R := RT) o1 rh1 rfl)
  | false => exact iteF ⟨ρ1, F1, sl, h1, rs.ext e1, rh1, o1⟩
theorem rtAnd1 (ha : PT X a (lT X W ta)) : PW X (.BoolOp .And [a] pos) (lT X W ta) := pw_and1 ha
theorem rtOr1 (ha : PT X a (lT X W ta)) : PW X (.BoolOp .Or [a] pos) (lT X W ta) := pw_or1 ha
theorem rtNot (ha : PT X a (lT X W ta)) : PT X (.UnaryOp .Not a pos) (lT X W (tNot ta)) := by
  refine pt_imp (pt_not ha) fun σ H Q ⟨ρ, F, sl, h, rs, rh, o⟩ => ?_
  refine ⟨ρ, F, sl, h, rs, rh, Out.bind (R := RT) o fun c h1 ρ1 F1 H1 v e1 rh1 rv1 o1 => ?_⟩
  cases rv1
  exact Out.now (R := RT) o1 rh1 rfl
/-- as values, of bools -/
def eAnd (fa fb : EM) : EM := fun sl h => (fa sl h).bind fun x h1 => match x with
  | .bl c => if c then fb sl h1 else .ok (.bl false) h1
  | _ => .stuck
def eOr (fa fb : EM) : EM := fun sl h => (fa sl h).bind fun x h1 => match x with
  | .bl c => if c then .ok (.bl true) h1 else fb sl h1
  | _ => .stuck
def eNot (fa : EM) : EM := fun sl h => (fa sl h).bind fun x h1 => match x with
  | .bl c => .ok (.bl (!c)) h1
  | _ => .stuck
theorem rAnd (ha : PE X a (lE X W fa)) (hb : PE X (.BoolOp .And (b :: rest) pos) (lE X W fb)) : PE X (.BoolOp .And (a :: b :: rest) pos) (lE X W (eAnd fa fb)) := by
  refine pe_imp (pe_and ha hb) fun σ H Q ⟨ρ, F, sl, h, rs, rh, o⟩ => ?_
  refine ⟨ρ, F, sl, h, rs, rh, Out.bind (R := RV X.K X.mg) o fun c h1 ρ1 F1 H1 v e1 rh1 rv1 o1 => ?_⟩
  cases c with
  | bl c =>
    refine ⟨c, rv1.bl, ?_⟩
    cases c with
    | true => exact iteT ⟨ρ1, F1, sl, h1, rs.ext e1, rh1, o1⟩
    | false => exact iteF (o1.now rh1 (by simp [RV]))
  | _ => exact o1.elim
theorem rOr (ha : PE X a (lE X W fa)) (hb : PE X (.BoolOp .Or (b :: rest) pos) (lE X W fb)) : PE X (.BoolOp .Or (a :: b :: rest) pos) (lE X W (eOr fa fb)) := by
  refine pe_imp (pe_or ha hb) fun σ H Q ⟨ρ, F, sl, h, rs, rh, o⟩ => ?_
  refine ⟨ρ, F, sl, h, rs, rh, Out.bind (R := RV X.K X.mg) o fun c h1 ρ1 F1 H1 v e1 rh1 rv1 o1 => ?_⟩
  cases c with
  | bl c =>
    refine ⟨c, rv1.bl, ?_⟩
    cases c with
    | true => exact iteT (o1.now rh1 (by simp [RV]))
    | false => exact iteF ⟨ρ1, F1, sl, h1, rs.ext e1, rh1, o1⟩
  | _ => exact o1.elim
theorem rOne {op} (ha : PE X a (lE X W fa)) : PE X (.BoolOp op [a] pos) (lE X W fa) := pe_one ha
theorem rNot (ha : PE X a (lE X W fa)) : PE X (.UnaryOp .Not a pos) (lE X W (eNot fa)) := by
  refine pe_imp (pe_not ha) fun σ H Q ⟨ρ, F, sl, h, rs, rh, o⟩ => ?_
  refine ⟨ρ, F, sl, h, rs, rh, Out.bind (R := RV X.K X.mg) o fun c h1 ρ1 F1 H1 v e1 rh1 rv1 o1 => ?_⟩
  cases c with
  | bl c => exact ⟨c, rv1.bl, o1.now rh1 (by simp [RV])⟩
  | _ => exact o1.elim
def eIf (t : TM) (fa fb : EM) : EM := fun sl h => (t sl h).bind fun c h1 => if c then fa sl h1 else fb sl h1
theorem rIf {c : Expr} (hc : PT X c (lT X W ta)) (ha : PE X a (lE X W fa)) (hb : PE X b (lE X W fb)) : PE X (.IfExp c a b pos) (lE X W (eIf ta fa fb)) := by
  refine pe_imp (pe_ifExp hc ha hb) fun σ H Q ⟨ρ, F, sl, h, rs, rh, o⟩ => ?_
  refine ⟨ρ, F, sl, h, rs, rh, Out.bind (R := RT) o fun c h1 ρ1 F1 H1 v e1 rh1 rv1 o1 => ?_⟩
  cases rv1
  cases c with
  | true => exact iteT ⟨ρ1, F1, sl, h1, rs.ext e1, rh1, o1⟩
  | false => exact iteF ⟨ρ1, F1, sl, h1, rs.ext e1, rh1, o1⟩
/-! ### argument lists, displays -/
def aNil : AM := fun _ h => .ok [] h
def aCons (f : EM) (r : AM) : AM := fun sl h => (f sl h).bind fun x h1 => (r sl h1).bind fun xs h2 => .ok (x :: xs) h2
variable {es : List Expr} {fr : AM}
theorem raNil : PA X [] (lA X W aNil) := pa_imp pa_nil fun σ H Q ⟨ρ, F, sl, h, rs, rh, o⟩ => Out.now (R := RVs X.K X.mg) o rh .nil
theorem raCons (ha : PE X a (lE X W fa)) (hr : PA X es (lA X W fr)) (hs : starEach (a :: es) X.env = (false, eval a X.env) :: starEach es X.env := by rfl) : PA X (a :: es) (lA X W (aCons fa fr)) := by
  refine pa_imp (pa_cons ha hr hs) fun σ H Q ⟨ρ, F, sl, h, rs, rh, o⟩ => ?_
  refine ⟨ρ, F, sl, h, rs, rh, Out.bind (R := RV X.K X.mg) o fun x h1 ρ1 F1 H1 v e1 rh1 rv1 o1 => ?_⟩
  refine ⟨ρ1, F1, sl, h1, rs.ext e1, rh1, Out.bind (R := RVs X.K X.mg) o1 fun xs h2 ρ2 F2 H2 vs e2 rh2 rv2 o2 => ?_⟩
  exact Out.now (R := RVs X.K X.mg) o2 rh2 (.cons (rv1.ext e2) rv2)
def lineOk (l : List AV) : Bool := decide (l.length ≤ sizeLine)
def eTup (f : AM) : EM := fun sl h => (f sl h).bind fun xs h1 => if lineOk xs then .ok (.tup xs) h1 else .stuck
def eLst (nm : Bool) (f : AM) : EM := fun sl h => (f sl h).bind fun xs h1 => if lineOk xs then mkL nm xs h1 else .stuck
theorem rTup {x1} (ha : PA X es (lA X W fr)) : PE X (.Tuple es x1 pos) (lE X W (eTup fr)) := by
  refine pe_imp (pe_tup ha) fun σ H Q ⟨ρ, F, sl, h, rs, rh, o⟩ => ?_
  refine ⟨ρ, F, sl, h, rs, rh, Out.bind (R := RVs X.K X.mg) o fun xs h1 ρ1 F1 H1 vs e1 rh1 rv1 o1 => ?_⟩
  split at o1
  · rename_i hl
    exact ⟨by rw [← rv1.length]; exact of_decide_eq_true hl, fun p hp => out_tup rh1 rv1 o1 hp⟩
  · exact o1.elim
theorem rLst {nm : Bool} (ha : PA X es (lA X W fr)) : PE X (.List es pos) (lE X W (eLst nm fr)) := by
  refine pe_imp (pe_lst ha) fun σ H Q ⟨ρ, F, sl, h, rs, rh, o⟩ => ?_
  refine ⟨ρ, F, sl, h, rs, rh, Out.bind (R := RVs X.K X.mg) o fun xs h1 ρ1 F1 H1 vs e1 rh1 rv1 o1 => ?_⟩
  split at o1
  · rename_i hl
    exact ⟨by rw [← rv1.length]; exact of_decide_eq_true hl, fun p hp => out_mkL rh1 rv1 o1 hp⟩
  · exact o1.elim
end
end AVL

namespace AVL
open PySem PySem.Spec L2
section
variable {X : Cx}
/-- a rule by a reading r, where the function's answer says what r asks -/
theorem OpOk.of {f : Value → Value → Sem Value} {r : R2} {m : AV → AV → AH → Res AV} (ho : OpR X f r)
    (h : ∀ ρ F x y h v w H Q, RV X.K X.mg ρ F x v → RV X.K X.mg ρ F y w → RH X.K X.mg ρ F h H → Out X.K X.mg (RV X.K X.mg) ρ F H (m x y h) Q (fun _ _ _ => False) → r v w H Q) : OpOk X f m :=
  fun pins s σ H v w u u' Q I r1 r2 ⟨ρ, F, x, y, hh, a, b, c, d⟩ => ho pins s σ H v w u u' Q I r1 r2 (h ρ F x y hh v w H Q a b c d)
theorem UnOk.of {f : Value → Sem Value} {r : V → Hp → VK → Prop} {m : AV → AH → Res AV} (ho : UnR X f r)
    (h : ∀ ρ F x h v H Q, RV X.K X.mg ρ F x v → RH X.K X.mg ρ F h H → Out X.K X.mg (RV X.K X.mg) ρ F H (m x h) Q (fun _ _ _ => False) → r v H Q) : UnOk X f m :=
  fun pins s σ H v u Q I r1 ⟨ρ, F, x, hh, a, c, d⟩ => ho pins s σ H v u Q I r1 (h ρ F x hh v H Q a c d)
/-- a function of values that is one of several, by the values -/
theorem OpOk.alt {f : Value → Value → Sem Value} {m m1 m2 : AV → AV → AH → Res AV} (h1 : OpOk X f m1) (h2 : OpOk X f m2) (e : ∀ x y h, m x y h = m1 x y h ∨ m x y h = m2 x y h) : OpOk X f m :=
  fun pins s σ H v w u u' Q I r1 r2 ⟨ρ, F, x, y, hh, a, b, c, d⟩ => by
    rcases e x y hh with z | z
    · rw [z] at d; exact h1 pins s σ H v w u u' Q I r1 r2 ⟨ρ, F, x, y, hh, a, b, c, d⟩
    · rw [z] at d; exact h2 pins s σ H v w u u' Q I r1 r2 ⟨ρ, F, x, y, hh, a, b, c, d⟩
/-- two ints, under a condition -/
def mI (c : Int → Int → Bool) (g : Int → Int → AV) : AV → AV → AH → Res AV
  | .int i, .int j, h => if c i j then .ok (g i j) h else .stuck
  | _, _, _ => .stuck
theorem mI_calm {c g} : Calm (mI c g) := fun x y h => by
  unfold mI
  split
  · split <;> trivial
  · trivial
theorem mI_ok {f : Value → Value → Sem Value} {C : Int → Int → Prop} {c : Int → Int → Bool} {gV : Int → Int → V} {g : Int → Int → AV} (ho : OpR X f (rI C gV)) (hc : ∀ i j, c i j = true → C i j) (hg : ∀ ρ F i j, RV X.K X.mg ρ F (g i j) (gV i j)) : OpOk X f (mI c g) :=
  .of ho fun ρ F x y h v w H Q rv rw' rh o => by
    unfold mI at o
    split at o
    · rename_i h' i j
      split at o
      · rename_i hcc
        exact ⟨i, j, rv.int, rw'.int, hc i j hcc, o.now rh (hg _ _ _ _)⟩
      · exact o.elim
    · exact o.elim
theorem mI_ok0 {f : Value → Value → Sem Value} {gV : Int → Int → V} {g : Int → Int → AV} (ho : OpR X f (rI0 gV)) (hg : ∀ ρ F i j, RV X.K X.mg ρ F (g i j) (gV i j)) : OpOk X f (mI (fun _ _ => true) g) :=
  .of ho fun ρ F x y h v w H Q rv rw' rh o => by
    unfold mI at o
    split at o
    · rename_i h' i j
      rw [if_pos rfl] at o
      exact ⟨i, j, rv.int, rw'.int, o.now rh (hg _ _ _ _)⟩
    · exact o.elim

/-! ### + -/
def mAdd (nm : Bool) : AV → AV → AH → Res AV
  | .int i, .int j, h => .ok (.int (i + j)) h
  | .int i, .bl k, h => .ok (.int (i + PyProof.Rows.b2i k)) h
  | .str a, .str b, h => if a.length + b.length ≤ sizeLine then .ok (.str (a ++ b)) h else .stuck
  | .tup a, .tup b, h => if a.length + b.length ≤ sizeLine then .ok (.tup (a ++ b)) h else .stuck
  | x, y, h => match itemsM h x, itemsM h y with
    | some a, some b => if a.length + b.length ≤ sizeLine then mkL nm (a ++ b) h else .stuck
    | _, _ => .stuck
theorem mkL_calm {nm l h} : (mkL nm l h).calm := by
  unfold mkL; split <;> trivial
theorem mAdd_calm {nm} : Calm (mAdd nm) := fun x y h => by
  unfold mAdd
  split
  · trivial
  · trivial
  · split <;> trivial
  · split <;> trivial
  · split
    · split
      · exact mkL_calm
      · trivial
    · trivial
theorem tup_out {K : PySem.W.Frag} {mg : Str → Option Value} {ρ : List Addr} {F H : Hp} {h : AH} {Q : VK} {E : XK} {l : List AV} {vs : List V} {a : Addr} (o : Out K mg (RV K mg) ρ F H (.ok (.tup l) h) Q E) (rh : RH K mg ρ F h H) (q : SqT K F a vs) (r : RVs K mg ρ F l vs) : Q (.ref a) H :=
  o.now rh (by simp only [RV]; exact ⟨a, vs, rfl, q, r⟩)
theorem RVs.nil_iff {K : PySem.W.Frag} {mg : Str → Option Value} {ρ : List Addr} {F : Hp} {l : List AV} {vs : List V} (r : RVs K mg ρ F l vs) (e : vs = []) : l = [] := by
  have := r.length
  subst e
  simpa using this
theorem mAdd_ok {nm} : OpOk X (binaryOp .Add) (mAdd nm) := by
  intro pins s σ H v w u u' Q I r1 r2 ⟨ρ, F, x, y, h, a, b, rh, o⟩
  unfold mAdd at o
  split at o
  · rename_i h i j
    exact op_add pins s σ H v w u u' Q I r1 r2 ⟨i, j, a.int, b.int, o.now rh (by simp [RV])⟩
  · rename_i h i j
    exact op_add_ib pins s σ H v w u u' Q I r1 r2 ⟨i, j, a.int, b.bl, o.now rh (by simp [RV])⟩
  · rename_i h i j
    split at o
    · rename_i hl
      exact op_add_str pins s σ H v w u u' Q I r1 r2 ⟨i, j, a.str, b.str, hl, o.now rh (by simp [RV])⟩
    · exact o.elim
  · rename_i h i j
    split at o
    · rename_i hl
      simp only [RV] at a b
      obtain ⟨p, vs, ep, qa, ra⟩ := a
      obtain ⟨q, ws, eq, qb, rb⟩ := b
      refine op_catA pins s σ H v w u u' Q I r1 r2 ⟨p, q, vs, ws, ep, eq, SqT.mono rh.sub qa, SqT.mono rh.sub qb, by rw [← ra.length, ← rb.length]; exact hl, fun e => ?_, fun e e2 => ?_, fun e e2 c hc => out_tup rh (ra.append rb) o hc⟩
      · have := ra.nil_iff e
        subst this
        exact tup_out o rh qb (by simpa using rb)
      · have := rb.nil_iff e2
        subst this
        exact tup_out o rh qa (by simpa using ra)
    · exact o.elim
  · rename_i h _ _ _ _
    split at o
    · rename_i i j hi hj
      split at o
      · rename_i hl
        obtain ⟨p, vs, ep, qa, ra⟩ := items_M rh a hi
        obtain ⟨q, ws, eq, qb, rb⟩ := items_M rh b hj
        exact op_cat pins s σ H v w u u' Q I r1 r2 ⟨p, q, vs, ws, ep, eq, qa, qb, by rw [← ra.length, ← rb.length]; exact hl, fun c hc => out_mkL rh (ra.append rb) o hc⟩
      · exact o.elim
    · exact o.elim
/-! ### - * // % ** -/
def mSub := mI (fun _ _ => true) fun i j => .int (i - j)
theorem mSub_ok : OpOk X (binaryOp .Sub) mSub := mI_ok0 op_sub fun _ _ _ _ => by simp [RV]
def mulOk (i j : Int) : Bool := decide ((Builtin.Int.intBits i : Int) + (Builtin.Int.intBits j : Int) ≤ 134217728)
def repOk (n : Nat) (k : Int) : Bool := decide (-(2 ^ 63) ≤ k) && (decide (k < 2 ^ 63) && decide (n * k.toNat ≤ sizeLine))
def mMul (nm : Bool) : AV → AV → AH → Res AV
  | .int i, .int j, h => if mulOk i j then .ok (.int (i * j)) h else .stuck
  | x, .int k, h => match itemsM h x with
    | some l => if repOk l.length k then mkL nm (List.replicate k.toNat l).flatten h else .stuck
    | none => .stuck
  | _, _, _ => .stuck
theorem mMul_calm {nm} : Calm (mMul nm) := fun x y h => by
  unfold mMul
  split
  · split <;> trivial
  · split
    · split
      · exact mkL_calm
      · trivial
    · trivial
  · trivial
theorem RVs.rep {K : PySem.W.Frag} {mg : Str → Option Value} {ρ : List Addr} {F : Hp} {l : List AV} {vs : List V} (r : RVs K mg ρ F l vs) : ∀ n : Nat, RVs K mg ρ F (List.replicate n l).flatten (List.replicate n vs).flatten
  | 0 => by simp [RVs]
  | n + 1 => by simp only [List.replicate_succ, List.flatten_cons]; exact r.append (RVs.rep r n)
theorem mMul_ok {nm} : OpOk X (binaryOp .Mult) (mMul nm) := by
  intro pins s σ H v w u u' Q I r1 r2 ⟨ρ, F, x, y, h, a, b, rh, o⟩
  unfold mMul at o
  split at o
  · rename_i h i j
    split at o
    · rename_i hc
      exact op_mulX pins s σ H v w u u' Q I r1 r2 ⟨i, j, a.int, b.int, (by unfold CMulX; exact of_decide_eq_true hc), o.now rh (by simp [RV])⟩
    · exact o.elim
  · rename_i h x k _
    split at o
    · rename_i l hi
      split at o
      · rename_i hc
        simp only [repOk, Bool.and_eq_true, decide_eq_true_eq] at hc
        obtain ⟨p, vs, ep, qa, ra⟩ := items_M rh a hi
        exact op_rep pins s σ H v w u u' Q I r1 r2 ⟨p, k, vs, ep, b.int, qa, hc.1, hc.2.1, by rw [← ra.length]; exact hc.2.2, fun c hc => out_mkL rh (ra.rep _) o hc⟩
      · exact o.elim
    · exact o.elim
  · exact o.elim
def divOk (_ j : Int) : Bool := decide (j ≠ 0) && decide (j.natAbs.log2 < 9000)
def mDiv := mI divOk fun i j => .int (i.fdiv j)
theorem op_fdivX : OpR X (binaryOp .FloorDiv) (rI (fun _ j => j ≠ 0 ∧ j.natAbs.log2 < 9000) fun i j => .int (i.fdiv j)) := opI fun i j _ _ _ _ _ hc q => PyProof.Rows.floordiv_int hc.1 q (.inl (PyProof.noPylong_of_log2 hc.2))
theorem mDiv_ok : OpOk X (binaryOp .FloorDiv) mDiv := mI_ok op_fdivX (fun i j h => by simpa [divOk] using h) fun _ _ _ _ => by simp [RV]
def mMod := mI (fun _ j => decide (j ≠ 0)) fun i j => .int (i.fmod j)
theorem mMod_ok : OpOk X (binaryOp .Mod) mMod := mI_ok op_modN (fun i j h => of_decide_eq_true h) fun _ _ _ _ => by simp [RV]
def powOk (i n : Int) : Bool := decide (0 ≤ n) && decide ((Builtin.Int.intBits i : Int) * n ≤ 2 ^ 27)
def mPow := mI powOk fun i j => .int (i ^ j.toNat)
theorem op_powX : OpR X (binaryOp .Pow) (rI (fun i j => 0 ≤ j ∧ (Builtin.Int.intBits i : Int) * j ≤ 2 ^ 27) fun i j => .int (i ^ j.toNat)) := opI fun _ _ _ _ _ _ _ hc q => PyProof.Rows.pow_int hc.1 hc.2 q
theorem mPow_ok : OpOk X (binaryOp .Pow) mPow := mI_ok op_powX (fun i j h => by simpa [powOk] using h) fun _ _ _ _ => by simp [RV]
def mNeg : AV → AH → Res AV
  | .int i, h => .ok (.int (-i)) h
  | _, _ => .stuck
theorem mNeg_calm : Calm1 mNeg := fun x h => by unfold mNeg; split <;> trivial
theorem mNeg_ok : UnOk X (unaryOp .USub) mNeg := .of un_neg fun ρ F x h v H Q rv rh o => by
  unfold mNeg at o
  split at o
  · exact ⟨_, rv.int, o.now rh (by simp [RV])⟩
  · exact o.elim
/-! ### comparisons -/
def mLt := mI (fun _ _ => true) fun i j => .bl (decide (i < j))
def mLe := mI (fun _ _ => true) fun i j => .bl (decide (i ≤ j))
def mGt := mI (fun _ _ => true) fun i j => .bl (decide (j < i))
def mGe := mI (fun _ _ => true) fun i j => .bl (decide (j ≤ i))
theorem mLt_ok : OpOk X (compareOp .Lt) mLt := mI_ok0 op_lt fun _ _ _ _ => by simp [RV]
theorem mLe_ok : OpOk X (compareOp .LtE) mLe := mI_ok0 op_le fun _ _ _ _ => by simp [RV]
theorem mGt_ok : OpOk X (compareOp .Gt) mGt := mI_ok0 op_gt fun _ _ _ _ => by simp [RV]
theorem mGe_ok : OpOk X (compareOp .GtE) mGe := mI_ok0 op_ge fun _ _ _ _ => by simp [RV]
/-- is None, is not None -/
def isN : AV → Bool
  | .non => true
  | _ => false
def mIs (neg : Bool) : AV → AV → AH → Res AV
  | x, .non, h => .ok (.bl (isN x != neg)) h
  | _, _, _ => .stuck
theorem mIs_calm {b} : Calm (mIs b) := fun x y h => by unfold mIs; split <;> trivial
theorem RV.isN {K : PySem.W.Frag} {mg : Str → Option Value} {ρ : List Addr} {F : Hp} {x : AV} {v : V} (r : RV K mg ρ F x v) : decide (v = .non) = isN x := by
  cases x <;> simp only [RV] at r
  · subst r; rfl
  all_goals first
    | (subst r; rfl)
    | (obtain ⟨a, e⟩ := r; first | (obtain ⟨_, e⟩ := e; subst_vars; rfl) | (subst_vars; rfl) | (obtain ⟨e, _⟩ := e; subst_vars; rfl))
    | (obtain ⟨a, b, e, _⟩ := r; subst_vars; rfl)
    | (obtain ⟨a, b, c, d, e, _⟩ := r; subst_vars; rfl)
theorem mIs_ok : OpOk X (compareOp .Is) (mIs false) := .of op_isN fun ρ F x y h v w H Q rv rw' rh o => by
  unfold mIs at o
  split at o
  · exact ⟨rw'.non, o.now rh (by simp only [RV]; rw [rv.isN]; simp)⟩
  · exact o.elim
theorem mIsNot_ok : OpOk X (compareOp .IsNot) (mIs true) := .of op_notN fun ρ F x y h v w H Q rv rw' rh o => by
  unfold mIs at o
  split at o
  · exact ⟨rw'.non, o.now rh (by simp only [RV]; rw [rv.isN]; simp)⟩
  · exact o.elim
end
end AVL

namespace AVL
open PySem PySem.Spec L2

/-! ### a def is left: its own names go, what it hands back is frozen -/
mutual
def frzV (g : Nat → Option AV) : AV → Option AV
  | .ref k => g k
  | .tup l => (frzVs g l).map .tup
  | .lst l => (frzVs g l).map .lst
  | .klst l => (frzVs g l).map .klst
  | .dct ks l => (frzVs g l).map (.dct ks)
  | .obj c ks l => (frzVs g l).map (.obj c ks)
  | .exc c ks l => (frzVs g l).map (.exc c ks)
  | .non => some .non
  | .bl b => some (.bl b)
  | .int i => some (.int i)
  | .str x => some (.str x)
  | .ty n => some (.ty n)
  | .cls c => some (.cls c)
def frzVs (g : Nat → Option AV) : List AV → Option (List AV)
  | [] => some []
  | x :: xs => match frzV g x, frzVs g xs with
    | some y, some ys => some (y :: ys)
    | _, _ => none
end
def frzN (h : AH) (m : Nat) : Nat → Nat → Option AV
  | 0, _ => none
  | f + 1, k => if k < m then some (.ref k) else match h[k]? with
    | some (.lst l) => (frzVs (frzN h m f) l).map .lst
    | some (.dct ks l) => (frzVs (frzN h m f) l).map (.dct ks)
    | some (.ins c ks l) => (frzVs (frzN h m f) l).map (.obj c ks)
    | _ => none
def frz (h : AH) (m : Nat) (x : AV) : Option AV := frzV (frzN h m (h.length + 1)) x
def frzs (h : AH) (m : Nat) (x : List AV) : Option (List AV) := frzVs (frzN h m (h.length + 1)) x
def leave (m : Nat) (x : AV) (h : AH) : Res AV := match frz h m x with
  | some y => .ok y (h.take m)
  | none => .stuck
/-- a list of its own is handed back, still to be written -/
def leaveK (m : Nat) (x : AV) (h : AH) : Res AV := match x with
  | .ref k => if k < m then .ok (.ref k) (h.take m) else match h[k]? with
    | some (.lst l) => if bnds k l then match frzs h m l with
      | some l' => .ok (.ref m) (h.take m ++ [.lst l'])
      | none => .stuck
      else .stuck
    | _ => .stuck
  | x => leave m x h
def leaveX (m : Nat) (c : Str) (ks : List Str) (l : List AV) (h : AH) : Res AV := match frzs h m l with
  | some l' => .exc c ks l' (h.take m)
  | none => .stuck

section
variable {K : PySem.W.Frag} {mg : Str → Option Value} {ρ ρ' : List Addr} {F H F' : Hp} {h : AH}
mutual
theorem RV.cut {m : Nat} (f : ∀ a o, F a = some o → F' a = some o) (p : ∀ (n : Nat) (a : Addr), n < m → ρ[n]? = some a → ρ'[n]? = some a) : ∀ (x : AV) (v : V), bnd m x = true → RV K mg ρ F x v → RV K mg ρ' F' x v
  | .non, v, _, h => by simpa [RV] using h
  | .bl b, v, _, h => by simpa [RV] using h
  | .int i, v, _, h => by simpa [RV] using h
  | .str x, v, _, h => by simpa [RV] using h
  | .ty n, v, _, h => by simpa [RV] using h
  | .cls c, v, _, h => by simpa [RV] using h
  | .tup l, v, b, h => by
    simp only [RV] at h ⊢
    obtain ⟨a, vs, e, q, r⟩ := h
    exact ⟨a, vs, e, SqT.mono f q, RVs.cut f p l vs b r⟩
  | .lst l, v, b, h => by
    simp only [RV] at h ⊢
    obtain ⟨a, vs, e, q, r⟩ := h
    exact ⟨a, vs, e, f _ _ q, RVs.cut f p l vs b r⟩
  | .klst l, v, b, h => by
    simp only [RV] at h ⊢
    obtain ⟨a, vs, e, q, r⟩ := h
    exact ⟨a, vs, e, SqL.mono f q, RVs.cut f p l vs b r⟩
  | .dct ks l, v, b, h => by
    simp only [RV] at h ⊢
    obtain ⟨a, kvs, e, q, k, r⟩ := h
    exact ⟨a, kvs, e, f _ _ q, k, RVs.cut f p l _ b r⟩
  | .obj c ks l, v, b, h => by
    simp only [RV] at h ⊢
    obtain ⟨a, C, dx, fs, e, m, q, k, r⟩ := h
    exact ⟨a, C, dx, fs, e, m, f _ _ q, k, RVs.cut f p l _ b r⟩
  | .exc c ks l, v, b, h => by
    simp only [RV] at h ⊢
    obtain ⟨a, C, d, fs, e, m, q, q', k, r⟩ := h
    exact ⟨a, C, d, fs, e, m, f _ _ q, f _ _ q', k, RVs.cut f p l _ b r⟩
  | .ref n, v, b, h => by
    simp only [RV] at h ⊢
    obtain ⟨a, e, q⟩ := h
    exact ⟨a, e, p _ _ (of_decide_eq_true b) q⟩
theorem RVs.cut {m : Nat} (f : ∀ a o, F a = some o → F' a = some o) (p : ∀ (n : Nat) (a : Addr), n < m → ρ[n]? = some a → ρ'[n]? = some a) : ∀ (x : List AV) (v : List V), bnds m x = true → RVs K mg ρ F x v → RVs K mg ρ' F' x v
  | [], v, _, h => by simpa [RVs] using h
  | x :: xs, v, b, h => by
    simp only [RVs] at h ⊢
    obtain ⟨w, r, e, q, t⟩ := h
    have b' : (bnd m x && bnds m xs) = true := b
    rw [Bool.and_eq_true] at b'
    exact ⟨w, r, e, RV.cut f p x w b'.1 q, RVs.cut f p xs r b'.2 t⟩
end
theorem RC.cut {m : Nat} (f : ∀ a o, F a = some o → F' a = some o) (p : ∀ (n : Nat) (a : Addr), n < m → ρ[n]? = some a → ρ'[n]? = some a) {c : Cell} {o : HO} (b : bndC m c = true) (h : RC K mg ρ F c o) : RC K mg ρ' F' c o := by
  cases c with
  | lst l => obtain ⟨vs, e, q⟩ := h; exact ⟨vs, e, q.cut f p _ _ b⟩
  | dct ks l => obtain ⟨vs, e, k, q⟩ := h; exact ⟨vs, e, k, q.cut f p _ _ b⟩
  | ins c ks l => obtain ⟨C, dx, fs, e, m, k, q⟩ := h; exact ⟨C, dx, fs, e, m, k, q.cut f p _ _ b⟩
  | dead => exact h
mutual
theorem frzV_ok {g : Nat → Option AV} {b : Nat} (f : ∀ a o, F a = some o → F' a = some o) (hg : ∀ k a y, k < b → ρ[k]? = some a → g k = some y → RV K mg ρ' F' y (.ref a)) : ∀ (x y : AV) (v : V), bnd b x = true → RV K mg ρ F x v → frzV g x = some y → RV K mg ρ' F' y v
  | .non, y, v, _, h, e => by simp only [frzV, Option.some.injEq] at e; subst e; simpa [RV] using h
  | .bl _, y, v, _, h, e => by simp only [frzV, Option.some.injEq] at e; subst e; simpa [RV] using h
  | .int _, y, v, _, h, e => by simp only [frzV, Option.some.injEq] at e; subst e; simpa [RV] using h
  | .str _, y, v, _, h, e => by simp only [frzV, Option.some.injEq] at e; subst e; simpa [RV] using h
  | .ty _, y, v, _, h, e => by simp only [frzV, Option.some.injEq] at e; subst e; simpa [RV] using h
  | .cls _, y, v, _, h, e => by simp only [frzV, Option.some.injEq] at e; subst e; simpa [RV] using h
  | .ref k, y, v, hb, h, e => by
    simp only [frzV] at e
    simp only [RV] at h
    obtain ⟨a, rfl, q⟩ := h
    exact hg k a y (of_decide_eq_true hb) q e
  | .tup l, y, v, hb, h, e => by
    simp only [frzV, Option.map_eq_some_iff] at e
    obtain ⟨l', e, rfl⟩ := e
    simp only [RV] at h ⊢
    obtain ⟨a, vs, ev, q, r⟩ := h
    exact ⟨a, vs, ev, SqT.mono f q, frzVs_ok f hg l l' vs hb r e⟩
  | .lst l, y, v, hb, h, e => by
    simp only [frzV, Option.map_eq_some_iff] at e
    obtain ⟨l', e, rfl⟩ := e
    simp only [RV] at h ⊢
    obtain ⟨a, vs, ev, q, r⟩ := h
    exact ⟨a, vs, ev, f _ _ q, frzVs_ok f hg l l' vs hb r e⟩
  | .klst l, y, v, hb, h, e => by
    simp only [frzV, Option.map_eq_some_iff] at e
    obtain ⟨l', e, rfl⟩ := e
    simp only [RV] at h ⊢
    obtain ⟨a, vs, ev, q, r⟩ := h
    exact ⟨a, vs, ev, SqL.mono f q, frzVs_ok f hg l l' vs hb r e⟩
  | .dct ks l, y, v, hb, h, e => by
    simp only [frzV, Option.map_eq_some_iff] at e
    obtain ⟨l', e, rfl⟩ := e
    simp only [RV] at h ⊢
    obtain ⟨a, vs, ev, q, k, r⟩ := h
    exact ⟨a, vs, ev, f _ _ q, k, frzVs_ok f hg l l' _ hb r e⟩
  | .obj c ks l, y, v, hb, h, e => by
    simp only [frzV, Option.map_eq_some_iff] at e
    obtain ⟨l', e, rfl⟩ := e
    simp only [RV] at h ⊢
    obtain ⟨a, C, dx, fs, ev, m, q, k, r⟩ := h
    exact ⟨a, C, dx, fs, ev, m, f _ _ q, k, frzVs_ok f hg l l' _ hb r e⟩
  | .exc c ks l, y, v, hb, h, e => by
    simp only [frzV, Option.map_eq_some_iff] at e
    obtain ⟨l', e, rfl⟩ := e
    simp only [RV] at h ⊢
    obtain ⟨a, C, dx, fs, ev, m, q, q', k, r⟩ := h
    exact ⟨a, C, dx, fs, ev, m, f _ _ q, f _ _ q', k, frzVs_ok f hg l l' _ hb r e⟩
theorem frzVs_ok {g : Nat → Option AV} {b : Nat} (f : ∀ a o, F a = some o → F' a = some o) (hg : ∀ k a y, k < b → ρ[k]? = some a → g k = some y → RV K mg ρ' F' y (.ref a)) : ∀ (x y : List AV) (v : List V), bnds b x = true → RVs K mg ρ F x v → frzVs g x = some y → RVs K mg ρ' F' y v
  | [], y, v, _, h, e => by simp only [frzVs, Option.some.injEq] at e; subst e; simpa [RVs] using h
  | x :: xs, y, v, hb, h, e => by
    simp only [frzVs] at e
    have b' : (bnd b x && bnds b xs) = true := hb
    rw [Bool.and_eq_true] at b'
    split at e
    · rename_i y1 ys e1 e2
      cases e
      simp only [RVs] at h ⊢
      obtain ⟨w, r, rfl, q, t⟩ := h
      exact ⟨w, r, rfl, frzV_ok f hg x y1 w b'.1 q e1, frzVs_ok f hg xs ys r b'.2 t e2⟩
    · cases e
end
theorem frzN_ok {m b : Nat} (rh : RH K mg ρ F h H) (f : ∀ a o, F a = some o → F' a = some o) (lo : ∀ (k : Nat) (a : Addr), k < m → ρ[k]? = some a → ρ'[k]? = some a)
    (hi : ∀ (k : Nat) (a : Addr) (c : Cell), m ≤ k → k < b → ρ[k]? = some a → h[k]? = some c → c.live = true → F' a = H a) : ∀ (n k : Nat) (a : Addr) (y : AV), k < b → ρ[k]? = some a → frzN h m n k = some y → RV K mg ρ' F' y (.ref a)
  | 0, k, a, y, _, _, e => by simp [frzN] at e
  | n + 1, k, a, y, hk, ea, e => by
    simp only [frzN] at e
    split at e
    · rename_i hm
      cases e
      simp only [RV]
      exact ⟨a, rfl, lo k a hm ea⟩
    · rename_i hm
      have ih : ∀ b', b' ≤ b → ∀ (j : Nat) (a : Addr) (y : AV), j < b' → ρ[j]? = some a → frzN h m n j = some y → RV K mg ρ' F' y (.ref a) := fun b' hb' j a y hj => frzN_ok rh f lo hi n j a y (by omega)
      have old : ∀ {c : Cell}, h[k]? = some c → bndC (k + 1) c = true := fun e => rh.old k _ e
      split at e
      · rename_i l q
        simp only [Option.map_eq_some_iff] at e
        obtain ⟨l', e, rfl⟩ := e
        obtain ⟨o, e1, vs, rfl, r⟩ := rh.cell k _ q a ea
        simp only [RV]
        exact ⟨a, vs, rfl, by rw [hi k a _ (by omega) hk ea q rfl]; exact e1, frzVs_ok f (ih (k + 1) (by omega)) l l' vs (old q) r e⟩
      · rename_i ks l q
        simp only [Option.map_eq_some_iff] at e
        obtain ⟨l', e, rfl⟩ := e
        obtain ⟨o, e1, kvs, rfl, ek, r⟩ := rh.cell k _ q a ea
        simp only [RV]
        exact ⟨a, kvs, rfl, by rw [hi k a _ (by omega) hk ea q rfl]; exact e1, ek, frzVs_ok f (ih (k + 1) (by omega)) l l' _ (old q) r e⟩
      · rename_i c ks l q
        simp only [Option.map_eq_some_iff] at e
        obtain ⟨l', e, rfl⟩ := e
        obtain ⟨o, e1, C, dx, fs, rfl, em, ek, r⟩ := rh.cell k _ q a ea
        simp only [RV]
        exact ⟨a, C, dx, fs, rfl, em, by rw [hi k a _ (by omega) hk ea q rfl]; exact e1, ek, frzVs_ok f (ih (k + 1) (by omega)) l l' _ (old q) r e⟩
      · cases e
/-- the names from m on are frozen, but perhaps x -/
def Fdrop (ρ : List Addr) (F H : Hp) (m : Nat) (x : Option Addr) : Hp := fun a => match F a with
  | some o => some o
  | none => if a ∈ ρ.drop m ∧ some a ≠ x then H a else none
theorem Fdrop_fz {m : Nat} {x : Option Addr} : ∀ a o, F a = some o → Fdrop ρ F H m x a = some o := fun a o e => by unfold Fdrop; rw [e]
theorem Fdrop_sub {m : Nat} {x : Option Addr} (rh : RH K mg ρ F h H) : ∀ a o, Fdrop ρ F H m x a = some o → H a = some o := fun a o e => by
  unfold Fdrop at e
  split at e
  · rename_i u q
    cases e
    exact rh.sub a _ q
  · split at e
    · exact e
    · cases e
theorem Fdrop_hi {m k : Nat} {a : Addr} {x : Option Addr} {c : Cell} (rh : RH K mg ρ F h H) (hm : m ≤ k) (ea : ρ[k]? = some a) (ec : h[k]? = some c) (hl : c.live = true) (hx : some a ≠ x) : Fdrop ρ F H m x a = H a := by
  unfold Fdrop
  rw [rh.sep k c ec hl a ea]
  have : a ∈ ρ.drop m := by
    refine List.mem_of_getElem? (i := k - m) ?_
    rw [List.getElem?_drop]
    have : m + (k - m) = k := by omega
    rw [this]; exact ea
  show (if a ∈ ρ.drop m ∧ some a ≠ x then H a else none) = H a
  rw [if_pos ⟨this, hx⟩]
theorem not_drop {m k : Nat} {a : Addr} (nd : ρ.Nodup) (hk : k < m) (ea : ρ[k]? = some a) : a ∉ ρ.drop m := fun hm => by
  obtain ⟨j, hj⟩ := List.getElem?_of_mem hm
  rw [List.getElem?_drop] at hj
  have := nodup_get nd ea hj
  omega
theorem rh_drop {m : Nat} {x : Option Addr} (rh : RH K mg ρ F h H) : RH K mg (ρ.take m) (Fdrop ρ F H m x) (h.take m) H where
  len := by simp [rh.len]
  tab := rh.tab
  ntb := fun a ps e => by
    unfold Fdrop at e
    split at e
    · rename_i u q
      cases e
      exact rh.ntb a ps q
    · split at e
      · rename_i hm
        obtain ⟨k, ek⟩ := List.getElem?_of_mem hm.1
        rw [List.getElem?_drop] at ek
        have hl : m + k < h.length := by rw [← rh.len]; exact (List.getElem?_eq_some_iff.mp ek).1
        obtain ⟨o, e1, r⟩ := rh.cell (m + k) h[m + k] (by simp [hl]) a ek
        rw [e] at e1; cases e1
        exact r.ntb ps rfl
      · cases e
  nd := List.Nodup.sublist (List.take_sublist m ρ) rh.nd
  sub := Fdrop_sub rh
  sep := fun n c e hl a ea => by
    have hn : n < m := by
      have := (List.getElem?_eq_some_iff.mp e).1
      simp at this; omega
    rw [List.getElem?_take, if_pos hn] at e ea
    unfold Fdrop
    rw [rh.sep n c e hl a ea]
    show (if a ∈ ρ.drop m ∧ some a ≠ x then H a else none) = none
    rw [if_neg fun z => not_drop rh.nd hn ea z.1]
  old := fun n c e => by
    have hn : n < m := by
      have := (List.getElem?_eq_some_iff.mp e).1
      simp at this; omega
    rw [List.getElem?_take, if_pos hn] at e
    exact rh.old n c e
  cell := fun n c e a ea => by
    have hn : n < m := by
      have := (List.getElem?_eq_some_iff.mp e).1
      simp at this; omega
    rw [List.getElem?_take, if_pos hn] at e ea
    obtain ⟨o, e1, r⟩ := rh.cell n c e a ea
    exact ⟨o, e1, r.cut (m := m) Fdrop_fz (fun j b hj eb => by rw [List.getElem?_take, if_pos hj]; exact eb) (bndC_mono (by omega) c (rh.old n c e))⟩
theorem ext_drop {ρ0 : List Addr} {F0 H0 : Hp} {x : Option Addr} (e : Ext ρ0 F0 H0 ρ F H) (nd : ρ.Nodup) : Ext ρ0 F0 H0 (ρ.take ρ0.length) (Fdrop ρ F H ρ0.length x) H := by
  obtain ⟨t, et⟩ := e.pre
  have ht : ρ.take ρ0.length = ρ0 := by rw [et]; simp
  refine ⟨⟨[], by rw [ht]; simp⟩, fun a o q => Fdrop_fz a o (e.fz a o q), e.keep, fun a ha => .inl (by rw [ht] at ha; exact ha), fun a o q => ?_⟩
  unfold Fdrop at q
  split at q
  · rename_i u q'
    exact e.fnew a o (q'.trans q)
  · split at q
    · rename_i hd
      rcases e.new a (List.mem_of_mem_drop hd.1) with z | z
      · exact .inr (.inr z)
      · exact .inr (.inl z)
    · cases q
theorem lo_take {m : Nat} : ∀ (k : Nat) (a : Addr), k < m → ρ[k]? = some a → (ρ.take m)[k]? = some a := fun k a hk e => by rw [List.getElem?_take, if_pos hk]; exact e
theorem leave_ok {ρ0 : List Addr} {F0 H0 : Hp} {h0 : AH} {x : AV} {v : V} {Q : VK} {E : XK} (rh0 : RH K mg ρ0 F0 h0 H0) (o : Out K mg (RV K mg) ρ0 F0 H0 (leave h0.length x h) Q E) (e : Ext ρ0 F0 H0 ρ F H) (rh : RH K mg ρ F h H) (rv : RV K mg ρ F x v) : Q v H := by
  unfold leave at o
  split at o
  · rename_i y ey
    refine o _ _ _ v (ext_drop (x := none) e rh.nd) (by rw [← rh0.len]; exact rh_drop rh) ?_
    rw [rh0.len]
    refine frzV_ok (b := ρ.length) Fdrop_fz (fun k a y hk ea ey => ?_) x y v (rv.bnd _ _) rv ey
    exact frzN_ok rh Fdrop_fz lo_take (fun k a c hm _ ea ec hl => Fdrop_hi rh hm ea ec hl (by simp)) _ k a y hk ea ey
  · exact o.elim
theorem leaveX_ok {ρ0 : List Addr} {F0 H0 : Hp} {h0 : AH} {c : Str} {ks : List Str} {l : List AV} {C : Addr} {d : Option Addr} {Q : VK} {E : XK} (rh0 : RH K mg ρ0 F0 h0 H0) (o : Out K mg (RV K mg) ρ0 F0 H0 (leaveX h0.length c ks l h) Q E) (e : Ext ρ0 F0 H0 ρ F H) (rh : RH K mg ρ F h H) (em : mg c = some (.ref C)) (rx : RX K mg ρ F ks l d) : E (.ref C) d H := by
  unfold leaveX at o
  split at o
  · rename_i y ey
    obtain ⟨dd, fs, ed, ef, ek, r⟩ := rx
    refine o _ _ _ C d (ext_drop (x := none) e rh.nd) (by rw [← rh0.len]; exact rh_drop rh) em ⟨dd, fs, ed, Fdrop_fz _ _ ef, ek, ?_⟩
    rw [rh0.len]
    refine frzVs_ok (b := ρ.length) Fdrop_fz (fun k a y hk ea ey => ?_) l y _ (r.bnd _ _) r ey
    exact frzN_ok rh Fdrop_fz lo_take (fun k a c hm _ ea ec hl => Fdrop_hi rh hm ea ec hl (by simp)) _ k a y hk ea ey
  · exact o.elim
theorem leaveK_eq {m : Nat} {x : AV} {h : AH} (hx : ∀ k, x ≠ .ref k) : leaveK m x h = leave m x h := by
  cases x <;> first | rfl | exact absurd rfl (hx _)
theorem leaveK_ok {ρ0 : List Addr} {F0 H0 : Hp} {h0 : AH} {x : AV} {v : V} {Q : VK} {E : XK} (rh0 : RH K mg ρ0 F0 h0 H0) (o : Out K mg (RV K mg) ρ0 F0 H0 (leaveK h0.length x h) Q E) (e : Ext ρ0 F0 H0 ρ F H) (rh : RH K mg ρ F h H) (rv : RV K mg ρ F x v) : Q v H := by
  have hlen : h0.length ≤ ρ.length := by
    obtain ⟨t, et⟩ := e.pre
    rw [et, ← rh0.len]; simp
  by_cases hx : ∃ k, x = .ref k
  case neg =>
    rw [leaveK_eq fun k z => hx ⟨k, z⟩] at o
    exact leave_ok rh0 o e rh rv
  case pos =>
    obtain ⟨k, rfl⟩ := hx
    simp only [RV] at rv
    obtain ⟨a, rfl, ea⟩ := rv
    simp only [leaveK] at o
    split at o
    · rename_i hk
      refine o _ _ _ _ (ext_drop (x := none) e rh.nd) (by rw [← rh0.len]; exact rh_drop rh) ?_
      simp only [RV]
      exact ⟨a, rfl, by rw [rh0.len]; exact lo_take k a hk ea⟩
    · rename_i hk
      split at o
      · rename_i l q
        split at o
        · rename_i hb
          split at o
          · rename_i l' el
            obtain ⟨u, e1, vs, rfl, r⟩ := rh.cell k _ q a ea
            have FN : Fdrop ρ F H h0.length (some a) a = none := by
              unfold Fdrop
              rw [rh.sep k _ q rfl a ea]
              show (if a ∈ ρ.drop h0.length ∧ some a ≠ some a then H a else none) = none
              rw [if_neg fun z => z.2 rfl]
            have RD := rh_drop (m := h0.length) (x := some a) rh
            have na : a ∉ ρ.take h0.length := fun hm => by
              obtain ⟨j, hj⟩ := List.getElem?_of_mem hm
              have hlt : j < h0.length := by
                have := (List.getElem?_eq_some_iff.mp hj).1
                simp at this; omega
              rw [List.getElem?_take, if_pos hlt] at hj
              have := nodup_get rh.nd hj ea
              omega
            have hi : ∀ (j : Nat) (b : Addr) (c : Cell), h0.length ≤ j → j < k → ρ[j]? = some b → h[j]? = some c → c.live = true → Fdrop ρ F H h0.length (some a) b = H b := fun j b c hm hj eb ec hl =>
              Fdrop_hi rh hm eb ec hl fun z => by
                have z' : b = a := Option.some.inj z
                subst z'
                have := nodup_get rh.nd eb ea
                omega
            have RL : RVs K mg (ρ.take h0.length ++ [a]) (Fdrop ρ F H h0.length (some a)) l' vs := by
              refine RVs.mono (fun _ _ z => z) (fun n b eb => ?_) l' vs (frzVs_ok (ρ' := ρ.take h0.length) (b := k) Fdrop_fz (fun j b y hj eb ey => frzN_ok rh Fdrop_fz lo_take hi _ j b y hj eb ey) l l' vs hb r el)
              rw [List.getElem?_append_left (List.getElem?_eq_some_iff.mp eb).1]
              exact eb
            have hmm : h0.length = (ρ.take h0.length).length := by rw [List.length_take]; omega
            have hhl : (h.take h0.length).length = h0.length := by rw [List.length_take, ← rh.len]; omega
            refine o (ρ.take h0.length ++ [a]) (Fdrop ρ F H h0.length (some a)) H _ ?_ ⟨by simp [rh.len], rh.tab, RD.ntb, ?_, RD.sub, ?_, ?_, ?_⟩ ?_
            · have E1 := ext_drop (x := some a) e rh.nd
              rw [rh0.len] at E1
              refine ⟨?_, E1.fz, E1.keep, fun b hb => ?_, E1.fnew⟩
              · obtain ⟨t, et⟩ := E1.pre
                exact ⟨t ++ [a], by rw [et, List.append_assoc]⟩
              · rcases List.mem_append.mp hb with z | z
                · exact E1.new b z
                · have : b = a := by simpa using z
                  subst this
                  exact e.new b (List.mem_of_getElem? ea)
            · rw [List.nodup_append]
              exact ⟨RD.nd, by simp, fun x hx y hy z => by
                have : y = a := by simpa using hy
                subst this; subst z
                exact na hx⟩
            · intro n c ec hl b eb
              by_cases hn : n < h0.length
              · rw [List.getElem?_append_left (by omega)] at ec eb
                exact RD.sep n c ec hl b eb
              · have hn2 : n = h0.length := by
                  have := (List.getElem?_eq_some_iff.mp ec).1
                  simp at this; omega
                subst hn2
                rw [List.getElem?_append_right (by omega)] at eb
                have : b = a := by
                  have z : h0.length - (ρ.take h0.length).length = 0 := by omega
                  rw [z] at eb; simpa using eb.symm
                rw [this]; exact FN
            · intro n c ec
              by_cases hn : n < h0.length
              · rw [List.getElem?_append_left (by omega)] at ec
                exact RD.old n c ec
              · have hn2 : n = h0.length := by
                  have := (List.getElem?_eq_some_iff.mp ec).1
                  simp at this; omega
                subst hn2
                rw [List.getElem?_append_right (by omega)] at ec
                have : c = .lst l' := by
                  have z : h0.length - (h.take h0.length).length = 0 := by omega
                  rw [z] at ec; simpa using ec.symm
                subst this
                have b1 := RL.bnd
                rw [List.length_append, ← hmm] at b1
                exact b1
            · intro n c ec b eb
              by_cases hn : n < h0.length
              · rw [List.getElem?_append_left (by omega)] at ec eb
                obtain ⟨u, e2, r2⟩ := RD.cell n c ec b eb
                refine ⟨u, e2, ?_⟩
                cases c with
                | lst l => obtain ⟨vs, e, q⟩ := r2; exact ⟨vs, e, q.mono (fun _ _ z => z) (fun n b eb => by rw [List.getElem?_append_left (List.getElem?_eq_some_iff.mp eb).1]; exact eb) _ _⟩
                | dct ks l => obtain ⟨vs, e, k, q⟩ := r2; exact ⟨vs, e, k, q.mono (fun _ _ z => z) (fun n b eb => by rw [List.getElem?_append_left (List.getElem?_eq_some_iff.mp eb).1]; exact eb) _ _⟩
                | ins c ks l => obtain ⟨C, dx, fs, e, m, k, q⟩ := r2; exact ⟨C, dx, fs, e, m, k, q.mono (fun _ _ z => z) (fun n b eb => by rw [List.getElem?_append_left (List.getElem?_eq_some_iff.mp eb).1]; exact eb) _ _⟩
                | dead => exact r2
              · have hn2 : n = h0.length := by
                  have := (List.getElem?_eq_some_iff.mp ec).1
                  simp at this; omega
                subst hn2
                rw [List.getElem?_append_right (by omega)] at ec eb
                have e3 : c = .lst l' := by
                  have z : h0.length - (h.take h0.length).length = 0 := by omega
                  rw [z] at ec; simpa using ec.symm
                have e4 : b = a := by
                  have z : h0.length - (ρ.take h0.length).length = 0 := by omega
                  rw [z] at eb; simpa using eb.symm
                subst e3; subst e4
                exact ⟨_, e1, vs, rfl, RL⟩
            · simp only [RV]
              refine ⟨a, rfl, ?_⟩
              rw [List.getElem?_append_right (by omega)]
              have z : h0.length - (ρ.take h0.length).length = 0 := by omega
              rw [z]; rfl
          · exact o.elim
        · exact o.elim
      · exact o.elim
end
end AVL

namespace AVL
open PySem PySem.Spec L2
abbrev SM := SL → AH → SRes
abbrev GM := AV → SL → AH → Option (SL × AH)
abbrev GsM := List AV → SL → AH → Option (SL × AH)
section
variable (X : Cx) (W : WX)
def lS (f : SM) : TS := fun D σ H => ∃ ρ F sl h, RSl X.K X.mg ρ F sl σ ∧ RH X.K X.mg ρ F h H ∧ OutS X.K X.mg ρ F H (f sl h) D W
/-- a target -/
def OutG (ρ : List Addr) (F H : Hp) (r : Option (SL × AH)) (Q : L2.St → Hp → Prop) : Prop := match r with
  | some (sl', h') => ∀ ρ' F' H' σ', Ext ρ F H ρ' F' H' → RH X.K X.mg ρ' F' h' H' → RSl X.K X.mg ρ' F' sl' σ' → Q σ' H'
  | none => False
def lG (f : AV → SL → AH → Option (SL × AH)) : TG := fun v σ H Q => ∃ ρ F x sl h, RV X.K X.mg ρ F x v ∧ RSl X.K X.mg ρ F sl σ ∧ RH X.K X.mg ρ F h H ∧ OutG X ρ F H (f x sl h) Q
def lGs (f : List AV → SL → AH → Option (SL × AH)) : TGs := fun v σ H Q => ∃ ρ F x sl h, RVs X.K X.mg ρ F x v ∧ RSl X.K X.mg ρ F sl σ ∧ RH X.K X.mg ρ F h H ∧ OutG X ρ F H (f x sl h) Q
end
theorem ps_imp {X : Cx} {e : Stmt} {t t' : TS} (h : PS X e t) (i : ∀ D σ H, t' D σ H → t D σ H) : PS X e t' := ⟨fun pins s σ H D I q => h.run pins s σ H D I (i D σ H q)⟩
theorem pss_imp {X : Cx} {e : List Stmt} {t t' : TS} (h : PSs X e t) (i : ∀ D σ H, t' D σ H → t D σ H) : PSs X e t' := ⟨fun pins s σ H D I q => h.run pins s σ H D I (i D σ H q)⟩
theorem pg_imp {X : Cx} {e : Expr} {t t' : TG} (h : PG X e t) (i : ∀ v σ H Q, t' v σ H Q → t v σ H Q) : PG X e t' := ⟨fun pins s σ H v u Q I r q => h.run pins s σ H v u Q I r (i v σ H Q q)⟩
theorem pgs_imp {X : Cx} {e : List Expr} {t t' : TGs} (h : PGs X e t) (i : ∀ v σ H Q, t' v σ H Q → t v σ H Q) : PGs X e t' := ⟨fun pins s σ H v u Q I r q => h.run pins s σ H v u Q I r (i v σ H Q q)⟩
theorem RSl.set {K : PySem.W.Frag} {mg : Str → Option Value} {ρ : List Addr} {F : Hp} {sl : SL} {σ : L2.St} (rs : RSl K mg ρ F sl σ) (i : Nat) {x : AV} {v : V} (r : RV K mg ρ F x v) : RSl K mg ρ F (sl.set i (some x)) (σ.set i (some v)) := by
  refine ⟨by simpa using rs.1, fun j y e => ?_⟩
  by_cases hj : i = j
  · subst hj
    have hl : i < sl.length := by
      have := (List.getElem?_eq_some_iff.mp e).1
      simpa using this
    rw [List.getElem?_set_self hl] at e
    cases e
    exact ⟨v, by rw [List.getElem?_set_self (by rw [← rs.1]; exact hl)], r⟩
  · rw [List.getElem?_set_ne hj] at e ⊢
    exact rs.2 j y e

/-! ### blocks -/
def sNext : SM := fun sl h => .next sl h
def sSeq (f g : SM) : SM := fun sl h => (f sl h).seq g
def sRet (f : EM) : SM := fun sl h => (f sl h).toS sl fun x h1 => .ret x h1
def sRetN : SM := fun _ h => .ret .non h
def sExpr (f : EM) : SM := fun sl h => (f sl h).toS sl fun _ h1 => .next sl h1
def sIf (t : TM) (f g : SM) : SM := fun sl h => (t sl h).toS sl fun b h1 => if b then f sl h1 else g sl h1
def sBrk : SM := fun sl h => .brk sl h
def sCont : SM := fun sl h => .cont sl h
def sOpt (r : Option (SL × AH)) : SRes := match r with
  | some (sl, h) => .next sl h
  | none => .stuck
def sAsg (f : EM) (g : GM) : SM := fun sl h => (f sl h).toS sl fun x h1 => sOpt (g x sl h1)
def gName (i : Nat) : GM := fun x sl h => some (sl.set i (some x), h)
def gsNil : GsM := fun xs sl h => match xs with
  | [] => some (sl, h)
  | _ => none
def gsCons (t : GM) (u : GsM) : GsM := fun xs sl h => match xs with
  | x :: r => match t x sl h with
    | some (sl', h') => u r sl' h'
    | none => none
  | [] => none
def gTup (n : Nat) (t : GsM) : GM := fun x sl h => match itemsT x with
  | some l => if l.length = n then t l sl h else none
  | none => none
/-- a, b = e, f (names) -/
def setAll : List Nat → List AV → SL → SL
  | i :: is, x :: xs, sl => setAll is xs (sl.set i (some x))
  | _, _, sl => sl
def sPar (is : List Nat) (f : AM) : SM := fun sl h => (f sl h).toS sl fun xs h1 => if xs.length = is.length then .next (setAll is xs sl) h1 else .stuck
section
variable {X : Cx} {W : WX} {st : Stmt} {rest : List Stmt} {f g : SM} {fe : EM} {ft : TM} {e : Expr} {pos : Pos}
theorem rsNil : PSs X [] (lS X W sNext) := pss_imp pss_nil fun D σ H ⟨ρ, F, sl, h, rs, rh, o⟩ => o ρ F H σ (Ext.refl _ _ _) rh rs
theorem rsCons (h1 : PS X st (lS X W f)) (h2 : PSs X rest (lS X W g)) : PSs X (st :: rest) (lS X W (sSeq f g)) := by
  refine pss_imp (pss_cons h1 h2) fun D σ H ⟨ρ, F, sl, h, rs, rh, o⟩ => ?_
  refine ⟨ρ, F, sl, h, rs, rh, ?_⟩
  unfold sSeq at o
  cases q : f sl h with
  | next sl' h' =>
    rw [q] at o
    exact fun ρ' F' H' σ' ex rh' rs' => ⟨ρ', F', sl', h', rs', rh', OutS.ext (show OutS X.K X.mg ρ F H (g sl' h') D W from o) ex⟩
  | ret x h' => rw [q] at o; exact o
  | brk x h' => rw [q] at o; exact o
  | cont x h' => rw [q] at o; exact o
  | exc c ks l x h' => rw [q] at o; exact o
  | stuck => rw [q] at o; exact o
theorem rsOne (h1 : PS X st (lS X W f)) : PSs X [st] (lS X W f) := pss_one h1
theorem rsRet (he : PE X e (lE X W fe)) : PS X (.Return (some e) pos) (lS X W (sRet fe)) :=
  ps_imp (ps_ret he) fun D σ H ⟨ρ, F, sl, h, rs, rh, o⟩ => ⟨ρ, F, sl, h, rs, rh, Out.bindS (R := RV X.K X.mg) o rs fun x h1 ρ1 F1 H1 v ex rh1 rv o1 => o1 _ _ _ _ (Ext.refl _ _ _) rh1 rv⟩
theorem rsRetN : PS X (.Return none pos) (lS X W sRetN) := ps_imp ps_retN fun D σ H ⟨ρ, F, sl, h, rs, rh, o⟩ => o _ _ _ _ (Ext.refl _ _ _) rh (by simp [RV])
theorem rsPass : PS X (.Pass pos) (lS X W sNext) := ps_imp ps_pass fun D σ H ⟨ρ, F, sl, h, rs, rh, o⟩ => o ρ F H σ (Ext.refl _ _ _) rh rs
theorem rsBrk : PS X (.Break pos) (lS X W sBrk) := ps_imp ps_break fun D σ H ⟨ρ, F, sl, h, rs, rh, o⟩ => o ρ F H σ (Ext.refl _ _ _) rh rs
theorem rsCont : PS X (.Continue pos) (lS X W sCont) := ps_imp ps_continue fun D σ H ⟨ρ, F, sl, h, rs, rh, o⟩ => o ρ F H σ (Ext.refl _ _ _) rh rs
theorem rsExpr (he : PE X e (lE X W fe)) (hs : swapsWith e none pos.line X.env = pure false := by rfl) : PS X (.Expr e pos) (lS X W (sExpr fe)) :=
  ps_imp (ps_expr he hs) fun D σ H ⟨ρ, F, sl, h, rs, rh, o⟩ => ⟨ρ, F, sl, h, rs, rh, Out.bindS (R := RV X.K X.mg) o rs fun x h1 ρ1 F1 H1 v ex rh1 rv o1 => o1 _ _ _ _ (Ext.refl _ _ _) rh1 (rs.ext ex)⟩
theorem rsIf {c : Expr} {a b : List Stmt} (hc : PT X c (lT X W ft)) (ha : PSs X a (lS X W f)) (hb : PSs X b (lS X W g)) : PS X (.If c a b pos) (lS X W (sIf ft f g)) := by
  refine ps_imp (ps_if hc ha hb) fun D σ H ⟨ρ, F, sl, h, rs, rh, o⟩ => ⟨ρ, F, sl, h, rs, rh, Out.bindS (R := RT) o rs fun x h1 ρ1 F1 H1 v ex rh1 rv o1 => ?_⟩
  cases rv
  cases x with
  | true => exact iteT ⟨ρ1, F1, sl, h1, rs.ext ex, rh1, o1⟩
  | false => exact iteF ⟨ρ1, F1, sl, h1, rs.ext ex, rh1, o1⟩
/-! ### assignments -/
variable {tg : Expr} {gm : GM} {gsm : GsM}
theorem OutG.ext {ρ ρ1 : List Addr} {F H F1 H1 : Hp} {r : Option (SL × AH)} {Q : L2.St → Hp → Prop} (o : OutG X ρ F H r Q) (e : Ext ρ F H ρ1 F1 H1) : OutG X ρ1 F1 H1 r Q := by
  cases r with
  | none => exact o
  | some p => exact fun ρ' F' H' σ' e' => o ρ' F' H' σ' (e.trans e')
theorem rgName (i : Nat) {x : Str} (hN : X.N.Nodup) (hi : X.N[i]? = some x := by rfl) (hx : Loc X.env.scope x := by first | exact Or.inl rfl | exact Or.inr rfl) (hf : X.fn x = true ∨ X.env.scope.names.lookup x = some .local := by first | exact .inl rfl | exact .inr rfl) :
    PG X (.Name x pos) (lG X (gName i)) :=
  pg_imp (pg_name hN hi hx hf) fun v σ H Q ⟨ρ, F, x, sl, h, rv, rs, rh, o⟩ => o ρ F H _ (Ext.refl _ _ _) rh (rs.set i rv)
theorem rgsNil : PGs X [] (lGs X gsNil) := pgs_imp pgs_nil fun vs σ H Q ⟨ρ, F, x, sl, h, rv, rs, rh, o⟩ => by
  cases x with
  | nil => exact ⟨by simpa [RVs] using rv, o ρ F H σ (Ext.refl _ _ _) rh rs⟩
  | cons y ys => exact o.elim
theorem rgsCons {es : List Expr} (h1 : PG X e (lG X gm)) (h2 : PGs X es (lGs X gsm)) (hs : (assignEach (e :: es) X.env).map (·.2) = assign e X.env :: (assignEach es X.env).map (·.2) := by rfl) : PGs X (e :: es) (lGs X (gsCons gm gsm)) :=
  pgs_imp (pgs_cons h1 h2 hs) fun vs σ H Q ⟨ρ, F, x, sl, h, rv, rs, rh, o⟩ => by
    cases x with
    | nil => exact o.elim
    | cons y ys =>
      simp only [RVs] at rv
      obtain ⟨v, r, ev, a, t⟩ := rv
      refine ⟨v, r, ev, ρ, F, y, sl, h, a, rs, rh, ?_⟩
      simp only [gsCons] at o
      cases q : gm y sl h with
      | none => rw [q] at o; exact o
      | some p =>
        obtain ⟨sl', h'⟩ := p
        rw [q] at o
        exact fun ρ' F' H' σ' ex rh' rs' => ⟨ρ', F', ys, sl', h', t.ext ex, rs', rh', OutG.ext (show OutG X ρ F H (gsm ys sl' h') Q from o) ex⟩
theorem rgTup {es : List Expr} {k : Nat} {n : Nat} (h : PGs X es (lGs X gsm)) (hc : X.calm = true := by rfl)
    (hn : (assignEach es X.env).length = n := by rfl) (hst : (assignEach es X.env).findIdx? (·.1) = none := by rfl) : PG X (.Tuple es k pos) (lG X (gTup n gsm)) :=
  pg_imp (pg_tup hc h hn hst) fun v σ H Q ⟨ρ, F, x, sl, h, rv, rs, rh, o⟩ => by
    simp only [AVL.gTup] at o
    split at o
    · rename_i l el
      split at o
      · rename_i hl
        obtain ⟨a, vs, ev, q, r⟩ := items_T rh rv el
        exact ⟨a, vs, ev, q, by rw [← r.length]; exact hl, ρ, F, l, sl, h, r, rs, rh, o⟩
      · exact o.elim
    · exact o.elim
theorem rsAsg (he : PE X e (lE X W fe)) (hg : PG X tg (lG X gm)) (hs : swapsWithSole [tg] e pos.line X.env = pure false := by rfl) (hw : swappedStores [tg] e X.env = pure none := by rfl)
    (h1 : (assignEach [tg] X.env).map (·.2) = [assign tg X.env] := by rfl) : PS X (.Assign [tg] e pos) (lS X W (sAsg fe gm)) := by
  refine ps_imp (ps_asg he hg hs hw h1) fun D σ H ⟨ρ, F, sl, h, rs, rh, o⟩ => ⟨ρ, F, sl, h, rs, rh, Out.bindS (R := RV X.K X.mg) o rs fun x h1 ρ1 F1 H1 v ex rh1 rv o1 => ?_⟩
  refine ⟨ρ1, F1, x, sl, h1, rv, rs.ext ex, rh1, ?_⟩
  cases q : gm x sl h1 with
  | none => rw [q] at o1; exact o1
  | some p => rw [q] at o1; exact o1
theorem rsPar2 {i j : Nat} {x y : Str} {a b : Expr} {fa : AM} {px py pt : Pos} {kt k2 pt2} (hN : X.N.Nodup) (ha : PA X [a, b] (lA X W fa)) (hc : X.calm = true := by rfl) (hi : X.N[i]? = some x := by rfl) (hj : X.N[j]? = some y := by rfl) (hij : i ≠ j := by decide)
    (hx : X.env.scope.names.lookup x = some .local := by rfl) (hy : X.env.scope.names.lookup y = some .local := by rfl)
    (hw : swappedStores [.Tuple [.Name x px, .Name y py] kt pt] (.Tuple [a, b] k2 pt2) X.env = pure (some [x, y]) := by rfl)
    (hs : swapsWithSole [.Tuple [.Name x px, .Name y py] kt pt] (.Tuple [a, b] k2 pt2) pos.line X.env = pure false := by rfl) :
    PS X (.Assign [.Tuple [.Name x px, .Name y py] kt pt] (.Tuple [a, b] k2 pt2) pos) (lS X W (sPar [i, j] fa)) := by
  refine ps_imp (ps_par hc hN hi hj hij hx hy ha hw hs) fun D σ H ⟨ρ, F, sl, h, rs, rh, o⟩ => ⟨ρ, F, sl, h, rs, rh, Out.bindS (R := RVs X.K X.mg) o rs fun xs h1 ρ1 F1 H1 vs ex rh1 rv o1 => ?_⟩
  split at o1
  · rename_i hl
    match xs, hl with
    | [u, w], _ =>
      simp only [RVs] at rv
      obtain ⟨v1, r1, e1, a1, v2, r2, e2, a2, e3⟩ := rv
      subst e3; subst e2; subst e1
      exact ⟨v1, v2, rfl, o1 _ _ _ _ (Ext.refl _ _ _) rh1 (((rs.ext ex).set i a1).set j a2)⟩
  · exact o1.elim
end
end AVL

namespace AVL
open PySem PySem.Spec L2
abbrev MF := List AV → AH → Res AV
/-- a def's promise by its function -/
def spOf (K : PySem.W.Frag) (mg : Str → Option Value) (n : Nat) (mf : MF) : Sp := fun vs H Q E => ∃ ρ F args h, RVs K mg ρ F args vs ∧ RH K mg ρ F h H ∧ args.length = n ∧ Out K mg (RV K mg) ρ F H (mf args h) Q E
def finF (m : Nat) (kp : Bool) : SRes → Res AV
  | .ret x h => if kp then leaveK m x h else leave m x h
  | .next _ h => leave m .non h
  | .exc c ks l _ h => leaveX m c ks l h
  | _ => .stuck
/-- a def: n names of its own beside the parameters -/
def mkF (n : Nat) (kp : Bool) (bm : SM) : MF := fun args h => finF h.length kp (bm (args.map some ++ List.replicate n none) h)
theorem RVs.start {K : PySem.W.Frag} {mg : Str → Option Value} {ρ : List Addr} {F : Hp} {args : List AV} {vs : List V} {N : List Str} {n : Nat} (r : RVs K mg ρ F args vs) (hn : N.length = args.length + n) : RSl K mg ρ F (args.map some ++ List.replicate n none) (L2.start N vs) := by
  have hl := r.length
  refine ⟨by unfold L2.start; simp; omega, fun i x e => ?_⟩
  by_cases hi : i < args.length
  · rw [List.getElem?_append_left (by simpa using hi), List.getElem?_map] at e
    cases q : args[i]? with
    | none => rw [q] at e; simp at e
    | some y =>
      rw [q] at e
      simp at e
      subst e
      obtain ⟨v, ev, rv⟩ := r.get q
      refine ⟨v, ?_, rv⟩
      unfold L2.start
      rw [List.getElem?_append_left (by simp; omega), List.getElem?_map, ev]
      rfl
  · rw [List.getElem?_append_right (by simp; omega), List.getElem?_replicate] at e
    split at e <;> simp at e
/-- a def, called where no container's repr is under way -/
structure FnG (P : Program) (w : World) (K : PySem.W.Frag) (mg : Str → Option Value) (base : Heap) (k : Nat) (f : Addr) (fd : FuncData) (ps : List Str) (sp : Sp) : Prop where
  run : ∀ (A : Around) (outer : List Env) (s : Shared) (H : Hp) (args : Args) (us : List Value) (vs : List V) (Q : VK) (E : XK), A.guards = some [] → Room k A → Env0 P w K mg base A outer s H → BindsTo s fd args (ps.zip us) → Vals vs us → vs.length = ps.length → sp vs H Q E →
    codeAny (model P w) A (.call (.ref f) args) (CR (L2.CX P w) outer P w H s Q E) s
theorem fn_mk {P : Program} {w : World} {K : PySem.W.Frag} {mg : Str → Option Value} {base : Heap} {x qual : Str} {params : Arguments} {body : List Stmt} {scope : Scope} {dvs : List V} {kws : List (Str × V)} {f : Addr} {fd : FuncData} {N ps : List Str} {k n : Nat} {kp : Bool} {bm : SM}
    (F : FunD K x qual params body scope dvs kws f fd) (S : FnScope N ps scope) (hn : N.length = ps.length + n)
    (hb : ∀ (cdv : Value) (A : Around) (outer : List Env) (s : Shared) (H : Hp) (E : XK), fd.code = cdv → (A.deeper (PyProof.Rows.envOfC qual scope s.heap.objs.size f cdv)).guards = some [] → Room k (A.deeper (PyProof.Rows.envOfC qual scope s.heap.objs.size f cdv)) →
      PSs (cxOf (L2.CX P w) P w K mg base N qual scope f cdv A outer s H E) body (lS (cxOf (L2.CX P w) P w K mg base N qual scope f cdv A outer s H E) (fun c d _ H => E c d H) bm)) :
    FnG P w K mg base (k + 1) f fd ps (spOf K mg ps.length (mkF n kp bm)) := by
  obtain ⟨oc, od, dV, kV, doc, pm, an, cdv, ct, osl, rfl, lk, hcd, _, _⟩ := F.ex
  refine ⟨fun A outer s H args us vs Q E gd hr e0 hbd r hlen h => LamX.run_ofS lk hcd S hr e0 hbd r hlen fun hr2 => ⟨_, hb cdv A outer s H E rfl gd hr2, ?_⟩⟩
  obtain ⟨ρ, F0, args, h, r, rh, hl, o⟩ := h
  refine ⟨ρ, F0, args.map some ++ List.replicate n none, h, r.start (by rw [hn, hl]), rh, ?_⟩
  unfold mkF at o
  cases q : bm (args.map some ++ List.replicate n none) h with
  | next sl h' => rw [q] at o; exact fun ρ' F' H' σ' ex rh' rs' => leave_ok (x := .non) rh o ex rh' (by simp [RV])
  | ret y h' =>
    rw [q] at o
    refine fun ρ' F' H' v ex rh' rv => ?_
    cases kp with
    | true => exact leaveK_ok rh o ex rh' rv
    | false => exact leave_ok rh o ex rh' rv
  | brk sl h' => rw [q] at o; exact o.elim
  | cont sl h' => rw [q] at o; exact o.elim
  | exc c ks l sl h' => rw [q] at o; exact fun ρ' F' H' σ' C d ex rh' _ em rx => leaveX_ok rh o ex rh' em rx
  | stuck => rw [q] at o; exact o.elim
/-- the def x of the module keeps its function -/
def Has (P : Program) (w : World) (K : PySem.W.Frag) (mg : Str → Option Value) (base : Heap) (x : Str) (k : Nat) (ps : List Str) (mf : MF) : Prop :=
  ∃ f fd, mg x = some (.ref f) ∧ PySem.W.keepIn K (.ref f) = true ∧ Binds K fd ps [] ∧ FnG P w K mg base k f fd ps (spOf K mg ps.length mf)
def eCall (n : Nat) (mf : MF) (fa : AM) : EM := fun sl h => (fa sl h).bind fun args h1 => if args.length = n then mf args h1 else .stuck
section
variable {X : Cx} {W : WX} {fa : AM} {fe fe2 : EM} {f g : SM} {e e' : Expr} {es : List Expr} {k : Nat} {x : Str} {ps : List Str} {mf : MF} {p pos : Pos}
theorem out_call {σ : L2.St} {H : Hp} {Q : VK} (o : lE X W (eCall ps.length mf fa) σ H Q) : lA X W fa σ H fun vs H1 => spOf X.K X.mg ps.length mf vs H1 Q (WE W σ) := by
  obtain ⟨ρ, F, sl, h, rs, rh, o⟩ := o
  refine ⟨ρ, F, sl, h, rs, rh, Out.bind (R := RVs X.K X.mg) o fun xs h1 ρ1 F1 H1 vs ex rh1 rv o1 => ?_⟩
  split at o1
  · rename_i hl
    exact ⟨ρ1, F1, xs, h1, rv, rh1, hl, o1⟩
  · exact o1.elim
theorem run_g {pins : List (Addr × Obj)} {σ : L2.St} {H : Hp} {s : Shared} {Q : VK} {us : List Value} {vs : List V} {f : Addr} {fd : FuncData} {args : Args} (F : FnG X.prog X.w X.K X.mg X.base k f fd ps (spOf X.K X.mg ps.length mf)) (gd : X.A.guards = some []) (hr : Room k X.A) (tk : Takes X W)
    (hb : BindsTo s fd args (ps.zip us)) (I : L2.Inv X pins σ H s) (r : Vals vs us) (hl : vs.length = ps.length) (h : spOf X.K X.mg ps.length mf vs H Q (WE W σ)) : wpAny (model X.prog X.w) X.A (call (.ref f) args.pos args.kw) (EP X pins σ Q) X.xe s := by
  refine wpAny_call (codeAny_mono (F.run X.A X.stack s H ⟨args.pos, args.kw⟩ us vs Q (WE W σ) gd hr I.env0 hb r hl h) fun r s' hq => ?_)
  cases r with
  | error e => exact passAt tk σ pins H s e s' I hq
  | ok fl =>
    cases fl with
    | ret u => exact I.after hq
    | next => exact False.elim hq
    | brk => exact False.elim hq
    | cont => exact False.elim hq
theorem sp_len {K : PySem.W.Frag} {mg : Str → Option Value} {n : Nat} {vs : List V} {H : Hp} {Q : VK} {E : XK} (h : spOf K mg n mf vs H Q E) : vs.length = n := by
  obtain ⟨_, _, args, _, r, _, hl, _⟩ := h
  rw [← r.length]; exact hl
theorem rCall (G : Has X.prog X.w X.K X.mg X.base x k ps mf) (gd : X.A.guards = some []) (hr : Room k X.A) (tk : Takes X W) (ha : PA X (e :: es) (lA X W fa)) (hg : Gl X x := by rfl) (hdb : (x == ("__debug__" : Str)) = false := by decide)
    (he : starEach (e :: es) X.env = (false, eval e X.env) :: starEach es X.env := by rfl) (hpl : (backTo pos (starEach es X.env)).any (·.1) = false := by rfl) :
    PE X (.Call (.Name x p) (e :: es) [] pos) (lE X W (eCall ps.length mf fa)) := by
  obtain ⟨f, fd, hm, hk, hb, F⟩ := G
  refine ⟨fun pins s σ H Q I o => wpAny_Call_Name_kw (ld_glob I hg hm ?_ hdb)⟩
  refine PySem.W.callWith_K (h₀ := X.base) I.ok.mod.kin hk (thn (ha.run pos pins s σ H _ I (out_call o)) fun us s1 ⟨vs, H1, I1, r, q⟩ => ⟨I1.kIn, ?_⟩) he hpl
  have hl := sp_len q
  have b := hb s1 us I1.kIn (by rw [List.append_nil, ← r.length]; exact hl)
  rw [List.append_nil] at b
  exact run_g (args := ⟨us, []⟩) F gd hr tk b I1 r hl q
theorem rCall0 (G : Has X.prog X.w X.K X.mg X.base x k ps mf) (gd : X.A.guards = some []) (hr : Room k X.A) (tk : Takes X W) (hg : Gl X x := by rfl) (hdb : (x == ("__debug__" : Str)) = false := by decide) : PE X (.Call (.Name x p) [] [] pos) (lE X W (eCall ps.length mf aNil)) := by
  obtain ⟨f, fd, hm, hk, hb, F⟩ := G
  refine ⟨fun pins s σ H Q I h => ?_⟩
  refine wpAny_Call_Name_kw (ld_glob I hg hm ?_ hdb)
  obtain ⟨ρ, F', sl, h, rs, rh, o⟩ := out_call h
  have sp := Out.now (R := RVs X.K X.mg) o rh .nil
  have hl := sp_len sp
  have b := hb s [] I.kIn (by rw [List.append_nil]; exact hl)
  exact PySem.W.callWith_K0 I.kIn hk (run_g (args := ⟨[], []⟩) F gd hr tk b I .nil hl sp)
/-! calls with keywords, with defaults -/
inductive ASrc where
  | p (i : Nat) | k (j : Nat)
def srcG {α : Type} (ss : List ASrc) (xs zs : List α) : List α := ss.filterMap fun s => match s with
  | .p i => xs[i]?
  | .k j => zs[j]?
theorem vals_ix {vs : List V} {us : List Value} (r : Vals vs us) : ∀ i : Nat, (vs[i]? = none ∧ us[i]? = none) ∨ ∃ v u, vs[i]? = some v ∧ us[i]? = some u ∧ RelV v u := by
  induction r with
  | nil => exact fun i => .inl ⟨by simp, by simp⟩
  | cons r1 _ ih =>
    intro i
    cases i with
    | zero => exact .inr ⟨_, _, rfl, rfl, r1⟩
    | succ i => simpa using ih i
theorem srcG_vals {vs zs : List V} {us ws : List Value} (r : Vals vs us) (rz : Vals zs ws) : ∀ ss : List ASrc, Vals (srcG ss vs zs) (srcG ss us ws)
  | [] => .nil
  | .p i :: ss => by
    have ih := srcG_vals r rz ss
    unfold srcG at ih ⊢
    rcases vals_ix r i with ⟨a, b⟩ | ⟨v, u, a, b, c⟩
    · simp only [List.filterMap_cons, a, b]; exact ih
    · simp only [List.filterMap_cons, a, b]; exact .cons c ih
  | .k i :: ss => by
    have ih := srcG_vals r rz ss
    unfold srcG at ih ⊢
    rcases vals_ix rz i with ⟨a, b⟩ | ⟨v, u, a, b, c⟩
    · simp only [List.filterMap_cons, a, b]; exact ih
    · simp only [List.filterMap_cons, a, b]; exact .cons c ih
theorem rvs_ix {K : PySem.W.Frag} {mg : Str → Option Value} {ρ : List Addr} {F : Hp} : ∀ {xs : List AV} {vs : List V}, RVs K mg ρ F xs vs → ∀ i : Nat, (xs[i]? = none ∧ vs[i]? = none) ∨ ∃ x v, xs[i]? = some x ∧ vs[i]? = some v ∧ RV K mg ρ F x v
  | [], vs, r, i => by
    simp only [RVs] at r
    subst r
    exact .inl ⟨by simp, by simp⟩
  | x :: xs, vs, r, i => by
    simp only [RVs] at r
    obtain ⟨v, r', rfl, a, b⟩ := r
    cases i with
    | zero => exact .inr ⟨_, _, rfl, rfl, a⟩
    | succ i => simpa using rvs_ix b i
theorem srcG_rvs {K : PySem.W.Frag} {mg : Str → Option Value} {ρ : List Addr} {F : Hp} {xs ys : List AV} {vs zs : List V} (r : RVs K mg ρ F xs vs) (rz : RVs K mg ρ F ys zs) : ∀ ss : List ASrc, RVs K mg ρ F (srcG ss xs ys) (srcG ss vs zs)
  | [] => by simp [srcG, RVs]
  | .p i :: ss => by
    have ih := srcG_rvs r rz ss
    unfold srcG at ih ⊢
    rcases rvs_ix r i with ⟨a, b⟩ | ⟨v, u, a, b, c⟩
    · simp only [List.filterMap_cons, a, b]; exact ih
    · simp only [List.filterMap_cons, a, b, RVs]; exact ⟨_, _, rfl, c, ih⟩
  | .k i :: ss => by
    have ih := srcG_rvs r rz ss
    unfold srcG at ih ⊢
    rcases rvs_ix rz i with ⟨a, b⟩ | ⟨v, u, a, b, c⟩
    · simp only [List.filterMap_cons, a, b]; exact ih
    · simp only [List.filterMap_cons, a, b, RVs]; exact ⟨_, _, rfl, c, ih⟩
/-- the def x, called with n values and the keywords ks -/
def HasK (P : Program) (w : World) (K : PySem.W.Frag) (mg : Str → Option Value) (base : Heap) (x : Str) (k n : Nat) (ks : List Str) (ss : List ASrc) (ps : List Str) (mf : MF) : Prop :=
  ∃ f fd, mg x = some (.ref f) ∧ PySem.W.keepIn K (.ref f) = true ∧ (∀ (s : Shared) (us ws : List Value), K.In s.heap → us.length = n → ws.length = ks.length → BindsTo s fd ⟨us, ks.zip ws⟩ (ps.zip (srcG ss us ws))) ∧ FnG P w K mg base k f fd ps (spOf K mg ps.length mf)
theorem bindsK {K : PySem.W.Frag} {x qual : Str} {params : Arguments} {body : List Stmt} {scope : Scope} {f : Addr} {fd : FuncData} {ps ks : List Str} {n : Nat} {ss : List ASrc} {kws : List (Str × V)} (F : FunD K x qual params body scope [] kws f fd)
    (h : ∀ (kV doc pm : Value) (an : Option Addr) (cdv ct : Value) (us ws : List Value), us.length = n → ws.length = ks.length → bindArgs (PySem.W.fnOf x qual params body scope .none kV doc pm an cdv ct) ⟨us, ks.zip ws⟩ = pure (ps.zip (srcG ss us ws))) :
    ∀ (s : Shared) (us ws : List Value), K.In s.heap → us.length = n → ws.length = ks.length → BindsTo s fd ⟨us, ks.zip ws⟩ (ps.zip (srcG ss us ws)) := by
  obtain ⟨oc, od, dV, kV, doc, pm, an, cdv, ct, osl, rfl, lk, hcd, hD, hK⟩ := F.ex
  rcases hD with ⟨_, rfl⟩ | ⟨e, _⟩
  · exact fun s us ws _ l1 l2 => .of_eq (h kV doc pm an cdv ct us ws l1 l2)
  · exact absurd rfl e
def lK (X : Cx) (W : WX) (f : AM) : TA := lA X W f
def eCallK (n m pn : Nat) (ss : List ASrc) (mf : MF) (fa fk : AM) : EM := fun sl h => (fa sl h).bind fun xs h1 => (fk sl h1).bind fun zs h2 => if xs.length = n ∧ zs.length = m ∧ (srcG ss xs zs).length = pn then mf (srcG ss xs zs) h2 else .stuck
theorem rCallK {fk : AM} {n : Nat} {ks : List Str} {ss : List ASrc} {kws : List Keyword} (G : HasK X.prog X.w X.K X.mg X.base x k n ks ss ps mf) (gd : X.A.guards = some []) (hr : Room k X.A) (tk : Takes X W) (ha : PA X (e :: es) (lA X W fa)) (hkw : PK X kws (lA X W fk))
    (hall : (backToKw pos (keywordEach kws X.env)).all (·.1.isSome) = true := by rfl) (hks : (backToKw pos (keywordEach kws X.env)).filterMap (·.1) = ks := by rfl) (hg : Gl X x := by rfl) (hdb : (x == ("__debug__" : Str)) = false := by decide)
    (he : starEach (e :: es) X.env = (false, eval e X.env) :: starEach es X.env := by rfl) (hpl : ((backTo pos (starEach (e :: es) X.env)).any (·.1) || (backToKw pos (keywordEach kws X.env)).any (·.1.isNone)) = false := by rfl) :
    PE X (.Call (.Name x p) (e :: es) kws pos) (lE X W (eCallK n ks.length ps.length ss mf fa fk)) := by
  obtain ⟨f, fd, hm, hk, hb, F⟩ := G
  refine ⟨fun pins s σ H Q I o => wpAny_Call_Name_kw (ld_glob I hg hm ?_ hdb)⟩
  obtain ⟨ρ, F0, sl, h, rs, rh, o⟩ := o
  refine PySem.W.callWith_KW (h₀ := X.base) I.ok.mod.kin hk hall (thn (ha.run pos pins s σ H (fun vs H1 => lA X W fk σ H1 fun zs H2 => ∃ ρ2 F2 xs ys h2, RVs X.K X.mg ρ2 F2 xs vs ∧ RVs X.K X.mg ρ2 F2 ys zs ∧ RH X.K X.mg ρ2 F2 h2 H2 ∧ Out X.K X.mg (RV X.K X.mg) ρ2 F2 H2 (if xs.length = n ∧ ys.length = ks.length ∧ (srcG ss xs ys).length = ps.length then mf (srcG ss xs ys) h2 else .stuck) Q (WE W σ)) I
    ⟨ρ, F0, sl, h, rs, rh, Out.bind (R := RVs X.K X.mg) o fun xs h1 ρ1 F1 H1 vs ex rh1 rv o1 => ⟨ρ1, F1, sl, h1, rs.ext ex, rh1, Out.bind (R := RVs X.K X.mg) o1 fun ys h2 ρ2 F2 H2 zs ex2 rh2 rz o2 => ⟨ρ2, F2, xs, ys, h2, rv.ext ex2, rz, rh2, o2⟩⟩⟩) fun us s1 ⟨vs, H1, I1, r, q⟩ => ?_) hpl he
  refine thn (hkw.run pos pins s1 σ H1 _ I1 q) fun ws s2 ⟨zs, H2, I2, rz, ρ2, F2, xs, ys, h2, q1, q2, rh2, o2⟩ => ⟨I2.kIn, ?_⟩
  rw [hks]
  split at o2
  case isFalse => exact o2.elim
  rename_i hc
  have l1 : us.length = n := by rw [← r.length, ← q1.length]; exact hc.1
  have l2 : ws.length = ks.length := by rw [← rz.length, ← q2.length]; exact hc.2.1
  have rr := srcG_rvs q1 q2 ss
  exact run_g (args := ⟨us, ks.zip ws⟩) F gd hr tk (hb s2 us ws I2.kIn l1 l2) I2 (srcG_vals r rz ss) (by rw [← rr.length]; exact hc.2.2) ⟨ρ2, F2, _, h2, rr, rh2, hc.2.2, o2⟩
theorem pk_imp {kws : List Keyword} {t t' : TA} (h : PK X kws t) (i : ∀ σ H Q, t' σ H Q → t σ H Q) : PK X kws t' := ⟨fun pos pins s σ H Q I q => h.run pos pins s σ H Q I (i σ H Q q)⟩
theorem rkNil : PK X [] (lA X W aNil) := pk_imp pk_nil fun σ H Q ⟨ρ, F, sl, h, rs, rh, o⟩ => Out.now (R := RVs X.K X.mg) o rh .nil
theorem rkCons {kws : List Keyword} {nm : Option Str} {kpos : Pos} (ha : PE X e (lE X W fe)) (hr : PK X kws (lA X W fa)) : PK X (⟨nm, e, kpos⟩ :: kws) (lA X W (aCons fe fa)) := by
  refine pk_imp (pk_cons ha hr) fun σ H Q ⟨ρ, F, sl, h, rs, rh, o⟩ => ?_
  refine ⟨ρ, F, sl, h, rs, rh, Out.bind (R := RV X.K X.mg) o fun x h1 ρ1 F1 H1 v e1 rh1 rv1 o1 => ?_⟩
  refine ⟨ρ1, F1, sl, h1, rs.ext e1, rh1, Out.bind (R := RVs X.K X.mg) o1 fun xs h2 ρ2 F2 H2 vs e2 rh2 rv2 o2 => ?_⟩
  exact Out.now (R := RVs X.K X.mg) o2 rh2 (.cons (rv1.ext e2) rv2)

/-! ### while -/
section
open Classical
/-- n turns at most; none: not through -/
def whileN (t : TM) (b : SM) : Nat → SL → AH → Option SRes
  | 0, _, _ => none
  | n + 1, sl, h => match t sl h with
    | .ok true h1 => match b sl h1 with
      | .next sl' h' => whileN t b n sl' h'
      | .cont sl' h' => whileN t b n sl' h'
      | .brk sl' h' => some (.next sl' h')
      | r => some r
    | .ok false h1 => some (.next sl h1)
    | .exc c ks l h1 => some (.exc c ks l sl h1)
    | .stuck => some .stuck
noncomputable def sWhile (t : TM) (b : SM) : SM := fun sl h => if q : ∃ r, ∃ n, whileN t b n sl h = some r then q.choose else .stuck
theorem whileN_mono {t : TM} {b : SM} : ∀ (n : Nat) {sl : SL} {h : AH} {r : SRes}, whileN t b n sl h = some r → whileN t b (n + 1) sl h = some r
  | 0, sl, h, r, e => by simp [whileN] at e
  | n + 1, sl, h, r, e => by
    rw [whileN] at e ⊢
    cases q : t sl h with
    | ok c h1 =>
      rw [q] at e
      cases c with
      | true =>
        cases q2 : b sl h1 with
        | next sl' h' => simp only [q2] at e ⊢; exact whileN_mono n e
        | cont sl' h' => simp only [q2] at e ⊢; exact whileN_mono n e
        | brk sl' h' => simp only [q2] at e ⊢; exact e
        | ret _ _ => simp only [q2] at e ⊢; exact e
        | exc _ _ _ _ _ => simp only [q2] at e ⊢; exact e
        | stuck => simp only [q2] at e ⊢; exact e
      | false => exact e
    | exc _ _ _ _ => rw [q] at e; exact e
    | stuck => rw [q] at e; exact e
theorem whileN_le {t : TM} {b : SM} {n m : Nat} (hnm : n ≤ m) {sl : SL} {h : AH} {r : SRes} (e : whileN t b n sl h = some r) : whileN t b m sl h = some r := by
  induction hnm with
  | refl => exact e
  | step _ ih => exact whileN_mono _ ih
theorem whileN_det {t : TM} {b : SM} {n m : Nat} {sl : SL} {h : AH} {r r' : SRes} (e : whileN t b n sl h = some r) (e' : whileN t b m sl h = some r') : r = r' := by
  have h1 := whileN_le (Nat.le_max_left n m) e
  have h2 := whileN_le (Nat.le_max_right n m) e'
  rw [h1] at h2
  exact Option.some.inj h2
theorem sWhile_of {t : TM} {b : SM} {n : Nat} {sl : SL} {h : AH} {r : SRes} (e : whileN t b n sl h = some r) : sWhile t b sl h = r := by
  unfold sWhile
  have q : ∃ r, ∃ n, whileN t b n sl h = some r := ⟨r, n, e⟩
  rw [dif_pos q]
  obtain ⟨m, hm⟩ := q.choose_spec
  exact whileN_det hm e
/-- one turn -/
theorem sWhile_eq {t : TM} {b : SM} {sl : SL} {h : AH} : sWhile t b sl h = (t sl h).toS sl fun c h1 => if c then (match b sl h1 with
    | .next sl' h' => sWhile t b sl' h'
    | .cont sl' h' => sWhile t b sl' h'
    | .brk sl' h' => .next sl' h'
    | r => r) else .next sl h1 := by
  have go : ∀ r, (∃ n, whileN t b (n + 1) sl h = some r) → sWhile t b sl h = r := fun r ⟨n, e⟩ => sWhile_of e
  cases q : t sl h with
  | ok c h1 =>
    cases c with
    | false => exact go _ ⟨0, by simp [whileN, q, Res.toS]⟩
    | true =>
      have step : ∀ sl' h', (∀ n, whileN t b (n + 1) sl h = whileN t b n sl' h') → sWhile t b sl h = sWhile t b sl' h' := fun sl' h' hn => by
        by_cases z : ∃ r, ∃ n, whileN t b n sl' h' = some r
        · obtain ⟨r, n, e⟩ := z
          rw [sWhile_of e]
          exact go r ⟨n, by rw [hn]; exact e⟩
        · have z' : ¬ ∃ r, ∃ n, whileN t b n sl h = some r := fun ⟨r, n, e⟩ => z ⟨r, n, by rw [← hn]; exact whileN_mono n e⟩
          unfold sWhile
          rw [dif_neg z, dif_neg z']
      show _ = (match b sl h1 with
        | .next sl' h' => sWhile t b sl' h'
        | .cont sl' h' => sWhile t b sl' h'
        | .brk sl' h' => .next sl' h'
        | r => r)
      cases q2 : b sl h1 with
      | next sl' h' => exact step sl' h' fun n => by simp [whileN, q, q2]
      | cont sl' h' => exact step sl' h' fun n => by simp [whileN, q, q2]
      | brk sl' h' => exact go _ ⟨0, by simp [whileN, q, q2]⟩
      | ret _ _ => exact go _ ⟨0, by simp [whileN, q, q2]⟩
      | exc _ _ _ _ _ => exact go _ ⟨0, by simp [whileN, q, q2]⟩
      | stuck => exact go _ ⟨0, by simp [whileN, q, q2]⟩
  | exc c ks l h1 => exact go _ ⟨0, by simp [whileN, q, Res.toS]⟩
  | stuck => exact go _ ⟨0, by simp [whileN, q, Res.toS]⟩
theorem sWhile_some {t : TM} {b : SM} {sl : SL} {h : AH} (hn : sWhile t b sl h ≠ .stuck) : ∃ n, whileN t b n sl h = some (sWhile t b sl h) := by
  unfold sWhile at hn ⊢
  split
  · rename_i q
    exact q.choose_spec
  · rename_i q
    rw [dif_neg q] at hn
    exact absurd rfl hn
end
variable {ft : TM}
theorem rsWhile {c : Expr} {body : List Stmt} (hp : PassesOwn (model X.prog X.w) X.A X.env X.xe) (hc : PT X c (lT X W ft)) (hb : PSs X body (lS X W f)) : PS X (.While c body [] pos) (lS X W (sWhile ft f)) := by
  refine ps_imp (ps_while hp hc hb) fun D σ H ⟨ρ, F, sl, h, rs, rh, o⟩ => ?_
  have hns : sWhile ft f sl h ≠ .stuck := fun z => by rw [z] at o; exact o
  obtain ⟨n, hn⟩ := sWhile_some hns
  refine ⟨fun m σ' H' => ∃ ρ' F' sl' h' r, Ext ρ F H ρ' F' H' ∧ RSl X.K X.mg ρ' F' sl' σ' ∧ RH X.K X.mg ρ' F' h' H' ∧ whileN ft f m sl' h' = some r ∧ OutS X.K X.mg ρ' F' H' r D W, ⟨n, ρ, F, sl, h, _, Ext.refl _ _ _, rs, rh, hn, o⟩, ?_⟩
  rintro m σ1 H1 ⟨ρ1, F1, sl1, h1, r, ex, rs1, rh1, hw, o1⟩
  refine ⟨ρ1, F1, sl1, h1, rs1, rh1, ?_⟩
  cases m with
  | zero => simp [whileN] at hw
  | succ m =>
    rw [whileN] at hw
    cases q : ft sl1 h1 with
    | stuck => rw [q] at hw; cases hw; exact o1.elim
    | exc c ks l h2 => rw [q] at hw; cases hw; exact fun ρ' F' H' C d e' rh' em rx => o1 ρ' F' H' σ1 C d e' rh' (rs1.ext e') em rx
    | ok b h2 =>
      rw [q] at hw
      intro ρ2 F2 H2 v e2 rh2 rv
      cases rv
      cases b with
      | false => cases hw; exact iteF (o1 ρ2 F2 H2 σ1 e2 rh2 (rs1.ext e2))
      | true =>
        refine iteT ⟨fun σ' H' => ∃ ρ' F' sl' h', Ext ρ F H ρ' F' H' ∧ RSl X.K X.mg ρ' F' sl' σ' ∧ RH X.K X.mg ρ' F' h' H' ∧ whileN ft f m sl' h' = some r ∧ OutS X.K X.mg ρ' F' H' r D W,
          fun σ' H' ⟨ρ', F', sl', h', a1, a2, a3, a4, a5⟩ => ⟨m, Nat.lt_succ_self m, ρ', F', sl', h', r, a1, a2, a3, a4, a5⟩, ρ2, F2, sl1, h2, rs1.ext e2, rh2, ?_⟩
        have oo := OutS.ext o1 e2
        cases q2 : f sl1 h2 with
        | next sl' h' => simp only [q2] at hw; exact fun ρ3 F3 H3 σ3 e3 rh3 rs3 => ⟨ρ3, F3, sl', h', ex.trans (e2.trans e3), rs3, rh3, hw, oo.ext e3⟩
        | cont sl' h' => simp only [q2] at hw; exact fun ρ3 F3 H3 σ3 e3 rh3 rs3 => ⟨ρ3, F3, sl', h', ex.trans (e2.trans e3), rs3, rh3, hw, oo.ext e3⟩
        | brk sl' h' => simp only [q2] at hw; cases hw; exact oo
        | ret y h' => simp only [q2] at hw; cases hw; exact oo
        | exc c ks l sl' h' => simp only [q2] at hw; cases hw; exact oo
        | stuck => simp only [q2] at hw; cases hw; exact oo.elim
end
end AVL

namespace AVL
open PySem PySem.Spec L2
/-! ### calls of built-ins, by values -/
def CallOk (X : Cx) (f : Value) (m : List AV → AH → Res AV) : Prop :=
  CallR X f fun vs H Q => ∃ ρ F xs h, RVs X.K X.mg ρ F xs vs ∧ RH X.K X.mg ρ F h H ∧ Out X.K X.mg (RV X.K X.mg) ρ F H (m xs h) Q fun _ _ _ => False
def eBlt (m : List AV → AH → Res AV) (fa : AM) : EM := fun sl h => (fa sl h).bind fun xs h1 => m xs h1
def CalmA (m : List AV → AH → Res AV) : Prop := ∀ xs h, (m xs h).calm
section
variable {X : Cx} {W : WX} {fa : AM} {fe fi : EM} {e a b : Expr} {es : List Expr} {x : Str} {p pos : Pos} {m : List AV → AH → Res AV}
theorem CallOk.of {f : Value} {r : List V → Hp → VK → Prop} (ho : CallR X f r)
    (h : ∀ ρ F xs h vs H Q, RVs X.K X.mg ρ F xs vs → RH X.K X.mg ρ F h H → Out X.K X.mg (RV X.K X.mg) ρ F H (m xs h) Q (fun _ _ _ => False) → r vs H Q) : CallOk X f m :=
  fun pins s σ H vs us Q I r1 ⟨ρ, F, xs, hh, a, c, d⟩ => ho pins s σ H vs us Q I r1 (h ρ F xs hh vs H Q a c d)
theorem blt_in {σ : L2.St} {H : Hp} {Q : VK} (c : CalmA m) (o : lE X W (eBlt m fa) σ H Q) :
    lA X W fa σ H fun vs H1 => ∃ ρ F xs h, RVs X.K X.mg ρ F xs vs ∧ RH X.K X.mg ρ F h H1 ∧ Out X.K X.mg (RV X.K X.mg) ρ F H1 (m xs h) Q fun _ _ _ => False := by
  obtain ⟨ρ, F, sl, h, rs, rh, o⟩ := o
  refine ⟨ρ, F, sl, h, rs, rh, Out.bind (R := RVs X.K X.mg) o fun xs h1 ρ1 F1 H1 vs ex rh1 rv o1 => ?_⟩
  exact ⟨ρ1, F1, xs, h1, rv, rh1, Out.calm o1 (c xs h1)⟩
theorem rBlt {id : String} (ho : CallOk X (.builtin id) m) (c : CalmA m) (hm : X.mg x = none) (hv : bootBuiltins x = some (.builtin id)) (ha : PA X (e :: es) (lA X W fa)) (hg : Gl X x := by rfl) (hn : x ≠ "__name__" := by decide) (hdb : (x == ("__debug__" : Str)) = false := by decide)
    (he : starEach (e :: es) X.env = (false, eval e X.env) :: starEach es X.env := by rfl) (hpl : (backTo pos (starEach es X.env)).any (·.1) = false := by rfl) :
    PE X (.Call (.Name x p) (e :: es) [] pos) (lE X W (eBlt m fa)) := pe_imp (pe_callB ho hg hm hv ha hn hdb he hpl) fun σ H Q o => blt_in c o
theorem rBltTy {T : String} (ho : CallOk X (.type T) m) (c : CalmA m) (hm : X.mg x = none) (hv : bootBuiltins x = some (.type T)) (ha : PA X (e :: es) (lA X W fa)) (hg : Gl X x := by rfl) (hn : x ≠ "__name__" := by decide) (hdb : (x == ("__debug__" : Str)) = false := by decide)
    (he : starEach (e :: es) X.env = (false, eval e X.env) :: starEach es X.env := by rfl) (hpl : (backTo pos (starEach es X.env)).any (·.1) = false := by rfl) :
    PE X (.Call (.Name x p) (e :: es) [] pos) (lE X W (eBlt m fa)) := pe_imp (pe_callTy ho hg hm hv ha hn hdb he hpl) fun σ H Q o => blt_in c o
/-- a module's name that stands for a built-in function (from math import gcd) -/
theorem rBltFun {id : String} (ho : CallOk X (.builtin id) m) (c : CalmA m) (hm : X.mg x = some (.builtin id)) (ha : PA X (e :: es) (lA X W fa)) (hg : Gl X x := by rfl) (hdb : (x == ("__debug__" : Str)) = false := by decide)
    (he : starEach (e :: es) X.env = (false, eval e X.env) :: starEach es X.env := by rfl) (hpl : (backTo pos (starEach es X.env)).any (·.1) = false := by rfl) :
    PE X (.Call (.Name x p) (e :: es) [] pos) (lE X W (eBlt m fa)) := pe_imp (pe_callBfun ho hg hm ha hdb he hpl) fun σ H Q o => blt_in c o
theorem RVs.one {K : PySem.W.Frag} {mg : Str → Option Value} {ρ : List Addr} {F : Hp} {x : AV} {vs : List V} (r : RVs K mg ρ F [x] vs) : ∃ v, vs = [v] ∧ RV K mg ρ F x v := by
  simp only [RVs] at r
  obtain ⟨v, r, e, a, e2⟩ := r
  subst e2; exact ⟨v, e, a⟩
theorem RVs.two {K : PySem.W.Frag} {mg : Str → Option Value} {ρ : List Addr} {F : Hp} {x y : AV} {vs : List V} (r : RVs K mg ρ F [x, y] vs) : ∃ v w, vs = [v, w] ∧ RV K mg ρ F x v ∧ RV K mg ρ F y w := by
  simp only [RVs] at r
  obtain ⟨v, r, e, a, w, r2, e3, b, e2⟩ := r
  subst e2; subst e3; exact ⟨v, w, e, a, b⟩
/-! len -/
def lenA (h : AH) (x : AV) : Option Nat := match x with
  | .str z => if z.length ≤ sizeLine then some z.length else none
  | .dct ks _ => some ks.length
  | .ref n => match h[n]? with
    | some (.lst l) => some l.length
    | some (.dct ks _) => some ks.length
    | _ => none
  | x => (items h x).map List.length
def mLen : List AV → AH → Res AV
  | [x], h => match lenA h x with
    | some n => .ok (.int n) h
    | none => .stuck
  | _, _ => .stuck
theorem mLen_calm : CalmA mLen := fun xs h => by
  unfold mLen
  split
  · split <;> trivial
  · trivial
theorem dct_len {K : PySem.W.Frag} {mg : Str → Option Value} {ρ : List Addr} {F : Hp} {ks : List Key} {kvs : List (Key × V)} (e : kvs.map (·.1) = ks) : kvs.length = ks.length := by rw [← e]; simp
theorem mLen_ok : CallOk X (.builtin "len") mLen := by
  intro pins s σ H vs us Q I r1 ⟨ρ, F, xs, h, rv, rh, o⟩
  unfold mLen at o
  split at o
  · rename_i _ _ x
    obtain ⟨v, rfl, r⟩ := rv.one
    split at o
    · rename_i n e
      have fin : Q (.int n) H := o.now rh (by simp [RV])
      have seq : ∀ {l : List AV}, items h x = some l → n = l.length → wpAny (model X.prog X.w) X.A (call (.builtin "len") us) (EP X pins σ Q) X.xe s := fun {l} hl hn => by
        rcases items_cases hl with z | z
        · obtain ⟨a, ws, rfl, q, rr⟩ := items_T rh r z
          exact call_len_seq pins s σ H _ us Q I r1 ⟨a, ws, rfl, .inr q, by rw [← rr.length, ← hn]; exact fin⟩
        · obtain ⟨a, ws, rfl, q, rr⟩ := items_L rh r z
          exact call_len_seq pins s σ H _ us Q I r1 ⟨a, ws, rfl, .inl q, by rw [← rr.length, ← hn]; exact fin⟩
      have dict : ∀ {a : Addr} {kvs : List (Key × V)}, v = .ref a → H a = some (.dK kvs) → n = kvs.length → wpAny (model X.prog X.w) X.A (call (.builtin "len") us) (EP X pins σ Q) X.xe s := fun {a kvs} ea hd hn => by
        subst ea
        exact call_lenD pins s σ H _ us Q I r1 ⟨a, kvs, rfl, hd, by rw [← hn]; exact fin⟩
      unfold lenA at e
      split at e
      · rename_i z
        split at e
        · rename_i hz
          cases e
          exact call_len pins s σ H _ us Q I r1 ⟨v, z.length, rfl, by rw [r.str]; exact ⟨hz, rfl⟩, fin⟩
        · cases e
      · rename_i ks l
        cases e
        simp only [RV] at r
        obtain ⟨a, kvs, rfl, ef, ek, _⟩ := r
        exact dict rfl (rh.sub _ _ ef) (by rw [← ek]; simp)
      · rename_i k
        split at e
        · rename_i l q
          cases e
          exact seq (l := l) (by simp [items, itemsL, itemsM, q]) rfl
        · rename_i ks l q
          cases e
          simp only [RV] at r
          obtain ⟨a, rfl, ea⟩ := r
          obtain ⟨u, e1, kvs, rfl, ek, _⟩ := rh.cell k _ q a ea
          exact dict rfl e1 (by rw [← ek]; simp)
        · cases e
      · simp only [Option.map_eq_some_iff] at e
        obtain ⟨l, hl, e⟩ := e
        exact seq hl e.symm
    · exact o.elim
  · exact o.elim
/-! abs, int, bool, gcd -/
def mAbs : List AV → AH → Res AV
  | [.int i], h => .ok (.int (if i < 0 then -i else i)) h
  | _, _ => .stuck
theorem mAbs_calm : CalmA mAbs := fun xs h => by unfold mAbs; split <;> trivial
theorem mAbs_ok : CallOk X (.builtin "abs") mAbs := .of call_abs fun ρ F xs h vs H Q rv rh o => by
  unfold mAbs at o
  split at o
  · obtain ⟨v, rfl, r⟩ := rv.one
    exact ⟨_, by rw [r.int], o.now rh (by simp [RV])⟩
  · exact o.elim
def mInt : List AV → AH → Res AV
  | [.int i], h => .ok (.int i) h
  | [.bl k], h => .ok (.int (if k then 1 else 0)) h
  | _, _ => .stuck
theorem mInt_calm : CalmA mInt := fun xs h => by unfold mInt; split <;> trivial
theorem mInt_ok : CallOk X (.type "int") mInt := .of call_int1 fun ρ F xs h vs H Q rv rh o => by
  unfold mInt at o
  split at o
  · obtain ⟨v, rfl, r⟩ := rv.one
    exact .inl ⟨_, by rw [r.int], o.now rh (by simp [RV])⟩
  · obtain ⟨v, rfl, r⟩ := rv.one
    exact .inr ⟨_, by rw [r.bl], o.now rh (by simp [RV])⟩
  · exact o.elim
def mGcd : List AV → AH → Res AV
  | [.int i, .int j], h => .ok (.int ((Nat.gcd i.natAbs j.natAbs : Nat) : Int)) h
  | _, _ => .stuck
theorem mGcd_calm : CalmA mGcd := fun xs h => by unfold mGcd; split <;> trivial
theorem mGcd_ok : CallOk X (.builtin "math.gcd") mGcd := .of cr_gcd fun ρ F xs h vs H Q rv rh o => by
  unfold mGcd at o
  split at o
  · obtain ⟨v, w, rfl, r, r2⟩ := rv.two
    exact ⟨_, _, by rw [r.int, r2.int], o.now rh (by simp [RV])⟩
  · exact o.elim
/-! list(xs), tuple(xs) -/
def mList (nm : Bool) : List AV → AH → Res AV
  | [x], h => match items h x with
    | some l => mkL nm l h
    | none => .stuck
  | _, _ => .stuck
theorem mList_calm {nm} : CalmA (mList nm) := fun xs h => by
  unfold mList
  split
  · split
    · exact mkL_calm
    · trivial
  · trivial
theorem mList_ok {nm} : CallOk X (.type "list") (mList nm) := .of call_list_of fun ρ F xs h vs H Q rv rh o => by
  unfold mList at o
  split at o
  · obtain ⟨v, rfl, r⟩ := rv.one
    split at o
    · rename_i l hl
      rcases items_cases hl with z | z
      · obtain ⟨a, ws, rfl, q, rr⟩ := items_T rh r z
        exact ⟨a, ws, rfl, .inr q, fun p hp => out_mkL rh rr o hp⟩
      · obtain ⟨a, ws, rfl, q, rr⟩ := items_L rh r z
        exact ⟨a, ws, rfl, .inl q, fun p hp => out_mkL rh rr o hp⟩
    · exact o.elim
  · exact o.elim
def mTuple : List AV → AH → Res AV
  | [x], h => match items h x with
    | some l => .ok (.tup l) h
    | none => .stuck
  | _, _ => .stuck
theorem mTuple_calm : CalmA mTuple := fun xs h => by
  unfold mTuple
  split
  · split <;> trivial
  · trivial
theorem mTuple_ok : CallOk X (.type "tuple") mTuple := .of call_tuple_of fun ρ F xs h vs H Q rv rh o => by
  unfold mTuple at o
  split at o
  · rename_i _ _ x
    obtain ⟨v, rfl, r⟩ := rv.one
    split at o
    · rename_i l hl
      rcases items_cases hl with z | z
      · cases x with
        | tup l' =>
          simp only [itemsT, Option.some.injEq] at z
          subst z
          have r' := r
          simp only [RV] at r
          obtain ⟨a, ws, rfl, q, rr⟩ := r
          exact ⟨a, ws, rfl, .inr ⟨SqT.mono rh.sub q, o.now rh r'⟩⟩
        | _ => simp [itemsT] at z
      · obtain ⟨a, ws, rfl, q, rr⟩ := items_L rh r z
        exact ⟨a, ws, rfl, .inl ⟨q, fun p hp => out_tup rh rr o hp⟩⟩
    · exact o.elim
  · exact o.elim
/-! all, any of a list of truths -/
def bools : List AV → Option (List Bool)
  | [] => some []
  | .bl b :: xs => (bools xs).map (b :: ·)
  | _ => none
theorem RVs.bools {K : PySem.W.Frag} {mg : Str → Option Value} {ρ : List Addr} {F : Hp} : ∀ {l : List AV} {vs : List V} {bs : List Bool}, RVs K mg ρ F l vs → AVL.bools l = some bs → vs = bs.map V.bl
  | [], vs, bs, r, e => by
    simp only [AVL.bools, Option.some.injEq] at e
    subst e
    simpa [RVs] using r
  | x :: xs, vs, bs, r, e => by
    cases x with
    | bl b =>
      simp only [AVL.bools, Option.map_eq_some_iff] at e
      obtain ⟨bs', e, rfl⟩ := e
      simp only [RVs] at r
      obtain ⟨v, r, rfl, a, t⟩ := r
      rw [t.bools e, a.bl]; rfl
    | _ => simp [AVL.bools] at e
def mAllAny (f : List Bool → Bool) : List AV → AH → Res AV
  | [x], h => match itemsL h x with
    | some l => match bools l with
      | some bs => .ok (.bl (f bs)) h
      | none => .stuck
    | none => .stuck
  | _, _ => .stuck
def mAll := mAllAny fun bs => bs.all id
def mAny := mAllAny fun bs => bs.any id
theorem mAllAny_calm {f} : CalmA (mAllAny f) := fun xs h => by
  unfold mAllAny
  split
  · split
    · split <;> trivial
    · trivial
  · trivial
theorem mAllAny_in {f : List Bool → Bool} {ρ F xs h vs H Q} (rv : RVs X.K X.mg ρ F xs vs) (rh : RH X.K X.mg ρ F h H) (o : Out X.K X.mg (RV X.K X.mg) ρ F H (mAllAny f xs h) Q fun _ _ _ => False) :
    ∃ (a : Addr) (bs : List Bool), vs = [V.ref a] ∧ SqL X.K H a (bs.map V.bl) ∧ Q (.bl (f bs)) H := by
  unfold mAllAny at o
  split at o
  · obtain ⟨v, rfl, r⟩ := rv.one
    split at o
    · rename_i l hl
      split at o
      · rename_i bs hb
        obtain ⟨a, ws, rfl, q, rr⟩ := items_L rh r hl
        exact ⟨a, bs, rfl, by rw [← rr.bools hb]; exact q, o.now rh (by simp [RV])⟩
      · exact o.elim
    · exact o.elim
  · exact o.elim
theorem mAll_ok (hc : X.calm = true) : CallOk X (.builtin "all") mAll := .of (cr_all hc) fun ρ F xs h vs H Q rv rh o => mAllAny_in rv rh o
theorem mAny_ok (hc : X.calm = true) : CallOk X (.builtin "any") mAny := .of (cr_any hc) fun ρ F xs h vs H Q rv rh o => mAllAny_in rv rh o
/-! isinstance -/
inductive Tag where
  | ty (n : String) | own (c : Str) | exn (c : Str)
  deriving DecidableEq
/-- a value's type -/
def tagOf (h : AH) : AV → Option Tag
  | .non => some (.ty "NoneType")
  | .bl _ => some (.ty "bool")
  | .int _ => some (.ty "int")
  | .str _ => some (.ty "str")
  | .tup _ => some (.ty "tuple")
  | .lst _ => some (.ty "list")
  | .dct _ _ => some (.ty "dict")
  | .obj c _ _ => some (.own c)
  | .exc c _ _ => some (.exn c)
  | .ref n => match h[n]? with
    | some (.lst _) => some (.ty "list")
    | some (.dct _ _) => some (.ty "dict")
    | some (.ins c _ _) => some (.own c)
    | _ => none
  | _ => none
def clsTag : AV → Option Tag
  | .ty n => some (.ty n)
  | .cls c => some (.own c)
  | _ => none
def TagV (mg : Str → Option Value) : Tag → Value → Prop
  | .ty n, v => v = .type n
  | .own c, v => ∃ C, v = .ref C ∧ mg c = some (.ref C)
  | .exn c, v => ∃ C, v = .ref C ∧ mg c = some (.ref C)
abbrev IsaF := Tag → Tag → Option Bool
def isaAny (isa : IsaF) (t : Tag) : List Tag → Option Bool
  | [] => some false
  | c :: r => match isa t c with
    | some true => some true
    | some false => isaAny isa t r
    | none => none
def clsTags (x : AV) : Option (List Tag) := match x with
  | .tup (c :: l) => (c :: l).mapM clsTag
  | x => (clsTag x).map fun t => [t]
def mIsi (isa : IsaF) : List AV → AH → Res AV
  | [x, c], h => match tagOf h x, clsTags c with
    | some t, some cs => match isaAny isa t cs with
      | some b => .ok (.bl b) h
      | none => .stuck
    | _, _ => .stuck
  | _, _ => .stuck
theorem mIsi_calm {isa} : CalmA (mIsi isa) := fun xs h => by
  unfold mIsi
  split
  · split
    · split <;> trivial
    · trivial
  · trivial
/-- an instance of an own class, an own exception, may be asked -/
structure OwnIs (K : PySem.W.Frag) (C : Addr) : Prop where
  kit : ∀ (X : Cx) (pins : List (Addr × Obj)) (σ : L2.St) (H : Hp) (s : Shared) (a dx : Addr) (fs : List (Str × V)), X.K = K → L2.Inv X pins σ H s → H a = some (.ins C dx fs) → ∃ P : Heap → Prop, PySem.W.KitX K (.ref a) (.ref C) P ∧ P s.heap
structure ExcIs (K : PySem.W.Frag) (C : Addr) : Prop where
  kit : ∀ (a d : Addr) (h : Heap) (oe : Obj) (vs : Array Value) (mA : Str → Option Value), h.get? a = some oe → oe.cls = .ref C → oe.dict = some d → oe.data = .fields vs → h.Ns1 d mA → ∃ P : Heap → Prop, PySem.W.KitX K (.ref a) (.ref C) P ∧ P h
structure IsaOk (K : PySem.W.Frag) (mg : Str → Option Value) (isa : IsaF) : Prop where
  ok : ∀ t u b, isa t u = some b → ∀ tv uv, TagV mg t tv → TagV mg u uv → PySem.W.kitOne K tv uv = some b
  obj : ∀ c u b, isa (.own c) u = some b → ∀ C, mg c = some (.ref C) → OwnIs K C
  exn : ∀ c u b, isa (.exn c) u = some b → ∀ C, mg c = some (.ref C) → ExcIs K C
end
end AVL

namespace AVL
open PySem PySem.Spec L2
section
variable {X : Cx} {W : WX}
/-! ### isinstance -/
theorem tag_kit {pins : List (Addr × Obj)} {σ : L2.St} {H : Hp} {s : Shared} {ρ : List Addr} {F : Hp} {h : AH} {x : AV} {v : V} {u : Value} {t : Tag} {isa : IsaF} (I : L2.Inv X pins σ H s) (rh : RH X.K X.mg ρ F h H) (rv : RV X.K X.mg ρ F x v) (ru : RelV v u) (e : tagOf h x = some t)
    (ok : IsaOk X.K X.mg isa) (hc : ∀ n, t = .own n ∨ t = .exn n → ∃ c b, isa t c = some b) : ∃ tv, TagV X.mg t tv ∧ ∃ P : Heap → Prop, PySem.W.KitX X.K u tv P ∧ P s.heap ∧ u ≠ .builtin "__main__.__loader__#opaque" := by
  have lst : ∀ {a : Addr} {vs : List V}, v = .ref a → H a = some (.lst vs) → ∃ P : Heap → Prop, PySem.W.KitX X.K u (.type "list") P ∧ P s.heap ∧ u ≠ .builtin "__main__.__loader__#opaque" := fun ev eh => by
    subst ev; exact kit_of I ru (.base (.lst eh))
  have dct : ∀ {a : Addr} {vs : List (Key × V)}, v = .ref a → H a = some (.dK vs) → ∃ P : Heap → Prop, PySem.W.KitX X.K u (.type "dict") P ∧ P s.heap ∧ u ≠ .builtin "__main__.__loader__#opaque" := fun ev eh => by
    subst ev; exact kit_of I ru (.base (.dK eh))
  have ins : ∀ {n : Str} {a C dx : Addr} {fs : List (Str × V)}, t = .own n → X.mg n = some (.ref C) → v = .ref a → H a = some (.ins C dx fs) → ∃ tv, TagV X.mg t tv ∧ ∃ P : Heap → Prop, PySem.W.KitX X.K u tv P ∧ P s.heap ∧ u ≠ .builtin "__main__.__loader__#opaque" := fun et em ev eh => by
    subst ev; subst et
    obtain ⟨c, b, ei⟩ := hc _ (.inl rfl)
    obtain ⟨P, kx, p⟩ := (ok.obj _ _ _ ei _ em).kit X pins σ H s _ _ _ rfl I eh
    cases ru
    exact ⟨_, ⟨_, rfl, em⟩, P, kx, p, fun z => by cases z⟩
  cases x with
  | non => cases e; rw [rv.non] at ru; exact ⟨_, rfl, kit_of I ru (.base .non)⟩
  | bl i => cases e; rw [rv.bl] at ru; exact ⟨_, rfl, kit_of I ru (.base (.bl _))⟩
  | int i => cases e; rw [rv.int] at ru; exact ⟨_, rfl, kit_of I ru (.base (.int _))⟩
  | str i => cases e; rw [rv.str] at ru; exact ⟨_, rfl, kit_of I ru (.base (.str _))⟩
  | tup l =>
    cases e
    simp only [RV] at rv
    obtain ⟨a, vs, rfl, q, _⟩ := rv
    rcases SqT.mono rh.sub q with (q | ⟨o, q⟩) | ⟨o, its, n, q, qc, _⟩
    · exact ⟨_, rfl, kit_of I ru (.base (.tup q))⟩
    · exact ⟨_, rfl, kit_of I ru (.fTuple q)⟩
    · exact ⟨_, rfl, kit_of I ru (.kTuple q qc)⟩
  | lst l =>
    cases e
    simp only [RV] at rv
    obtain ⟨a, vs, ev, q, _⟩ := rv
    exact ⟨_, rfl, lst ev (rh.sub _ _ q)⟩
  | dct ks l =>
    cases e
    simp only [RV] at rv
    obtain ⟨a, vs, ev, q, _⟩ := rv
    exact ⟨_, rfl, dct ev (rh.sub _ _ q)⟩
  | obj c ks l =>
    cases e
    simp only [RV] at rv
    obtain ⟨a, C, dx, fs, ev, em, q, _⟩ := rv
    exact ins rfl em ev (rh.sub _ _ q)
  | exc c ks l =>
    cases e
    simp only [RV] at rv
    obtain ⟨a, C, d, fs, rfl, em, q, q2, _⟩ := rv
    obtain ⟨c', b, ei⟩ := hc _ (.inr rfl)
    have x1 : ObjOk X.prog X.w H s.heap a (EXV a (.ref C) (some d)) := I.hok a _ (rh.sub _ _ q)
    obtain ⟨⟨oe, vs, g1, g2, g3, g4⟩, _, _⟩ := x1
    have x2 : ObjOk X.prog X.w H s.heap d (.xd fs) := I.hok d _ (rh.sub _ _ q2)
    obtain ⟨mA, hn, _⟩ := x2
    obtain ⟨P, kx, p⟩ := (ok.exn _ _ _ ei _ em).kit a d s.heap oe vs mA g1 g2 g3 g4 hn
    cases ru
    exact ⟨_, ⟨_, rfl, em⟩, P, kx, p, fun z => by cases z⟩
  | ref k =>
    simp only [RV] at rv
    obtain ⟨a, ev, ea⟩ := rv
    simp only [tagOf] at e
    split at e
    · rename_i l q
      cases e
      obtain ⟨o, e1, vs, rfl, _⟩ := rh.cell k _ q a ea
      exact ⟨_, rfl, lst ev e1⟩
    · rename_i l q
      cases e
      obtain ⟨o, e1, vs, rfl, _⟩ := rh.cell k _ q a ea
      exact ⟨_, rfl, dct ev e1⟩
    · rename_i l q
      cases e
      obtain ⟨o, e1, C, dx, fs, rfl, em, _⟩ := rh.cell k _ q a ea
      exact ins rfl em ev e1
    · cases e
  | _ => simp [tagOf] at e
theorem isaAny_kit {K : PySem.W.Frag} {mg : Str → Option Value} {isa : IsaF} (ok : IsaOk K mg isa) {t : Tag} {tv : Value} (ht : TagV mg t tv) : ∀ {cs : List Tag} {us : List Value} {b : Bool}, isaAny isa t cs = some b → Paired (TagV mg) cs us → PySem.W.kitAny K tv us = some b
  | [], _, b, e, .nil => e
  | c :: cs, _, b, e, .cons r rr => by
    unfold isaAny at e
    unfold PySem.W.kitAny
    split at e
    · rename_i q; rw [ok.ok _ _ _ q _ _ ht r]; exact e
    · rename_i q; rw [ok.ok _ _ _ q _ _ ht r]; exact isaAny_kit ok ht e rr
    · cases e
theorem isaAny_some {isa : IsaF} {t : Tag} {cs : List Tag} {b : Bool} (e : isaAny isa t cs = some b) (hn : cs ≠ []) : ∃ c b, isa t c = some b := by
  cases cs with
  | nil => exact absurd rfl hn
  | cons c cs =>
    unfold isaAny at e
    split at e
    · rename_i q; exact ⟨_, _, q⟩
    · rename_i q; exact ⟨_, _, q⟩
    · cases e
theorem clsTag_val {K : PySem.W.Frag} {mg : Str → Option Value} {ρ : List Addr} {F : Hp} {x : AV} {v : V} {u : Value} {t : Tag} (rv : RV K mg ρ F x v) (ru : RelV v u) (e : clsTag x = some t) : TagV mg t u ∧ ClsV v u := by
  cases x with
  | ty n =>
    cases e
    simp only [RV] at rv
    subst rv
    have : u = .type n := ru
    subst this
    exact ⟨rfl, .ty n⟩
  | cls c =>
    cases e
    simp only [RV] at rv
    obtain ⟨C, rfl, em⟩ := rv
    have : u = .ref C := ru
    subst this
    exact ⟨⟨C, rfl, em⟩, .own C⟩
  | _ => simp [clsTag] at e
theorem clsTag_vals {K : PySem.W.Frag} {mg : Str → Option Value} {ρ : List Addr} {F : Hp} : ∀ {xs : List AV} {vs : List V} {us : List Value} {ts : List Tag}, RVs K mg ρ F xs vs → Vals vs us → xs.mapM clsTag = some ts → Paired (TagV mg) ts us ∧ Paired ClsV vs us
  | [], vs, us, ts, r, ru, e => by
    simp only [RVs] at r
    subst r
    cases ru
    simp at e
    subst e
    exact ⟨.nil, .nil⟩
  | x :: xs, vs, us, ts, r, ru, e => by
    simp only [RVs] at r
    obtain ⟨v, r, rfl, a, t⟩ := r
    cases ru with
    | cons r1 r2 =>
      rw [List.mapM_cons] at e
      cases q : clsTag x with
      | none => rw [q] at e; simp at e
      | some c =>
        cases q2 : xs.mapM clsTag with
        | none => rw [q, q2] at e; simp at e
        | some cs =>
          rw [q, q2] at e
          simp at e
          subst e
          obtain ⟨a1, a2⟩ := clsTag_val a r1 q
          obtain ⟨b1, b2⟩ := clsTag_vals t r2 q2
          exact ⟨.cons a1 b1, .cons a2 b2⟩
theorem mIsi_ok {isa : IsaF} (ok : IsaOk X.K X.mg isa) : CallOk X (.builtin "isinstance") (mIsi isa) := by
  intro pins s σ H vs us Q I r1 ⟨ρ, F, xs, h, rv, rh, o⟩
  unfold mIsi at o
  split at o
  · rename_i _ _ x c
    obtain ⟨v, w, rfl, rx, rc⟩ := rv.two
    obtain ⟨u1, u2, rfl, ru1, ru2⟩ := vals2 r1
    split at o
    · rename_i t cs et ecs
      split at o
      · rename_i b eb
        have fin : ∀ tk, EP X pins σ Q (.bool b) { s with toks := tk } := fun tk => ⟨.bl b, H, I.tok tk, rfl, o.now rh (by simp [RV])⟩
        have one : ∀ {t1 : Tag}, clsTag c = some t1 → cs = [t1] → wpAny (model X.prog X.w) X.A (call (.builtin "isinstance") [u1, u2]) (EP X pins σ Q) X.xe s := fun {t1} e1 e2 => by
          subst e2
          have hone : isa t t1 = some b := by
            unfold isaAny at eb
            split at eb
            · rename_i q; rw [q]; exact eb
            · rename_i q; rw [q]; simpa [isaAny] using eb
            · cases eb
          obtain ⟨tv, ht, P, kx, p, hx⟩ := tag_kit (isa := isa) I rh rx ru1 et ok fun n en => ⟨_, _, hone⟩
          obtain ⟨tc, cv⟩ := clsTag_val rc ru2 e1
          exact PySem.W.kia_one kx I.kIn p (ok.ok _ _ _ hone _ _ ht tc) hx fin
        cases c with
        | tup l =>
          simp only [RV] at rc
          obtain ⟨a, ws, rfl, q, rr⟩ := rc
          have : u2 = .ref a := ru2
          subst this
          cases l with
          | nil => simp [clsTags, clsTag] at ecs
          | cons c1 l =>
            simp only [clsTags] at ecs
            have hl : cs ≠ [] := fun z => by
              subst z
              rw [List.mapM_cons] at ecs
              cases q1 : clsTag c1 with
              | none => rw [q1] at ecs; simp at ecs
              | some _ =>
                cases q2 : l.mapM clsTag with
                | none => rw [q1, q2] at ecs; simp at ecs
                | some _ => rw [q1, q2] at ecs; simp at ecs
            obtain ⟨tv, ht, P, kx, p, hx⟩ := tag_kit (isa := isa) I rh rx ru1 et ok fun n en => isaAny_some eb hl
            obtain ⟨its, ri, ⟨o', h1, h2, n, h3⟩, _⟩ := I.tuple (SqT.mono rh.sub q)
            obtain ⟨b1, b2⟩ := clsTag_vals rr ri ecs
            obtain ⟨oc, od, dt, sl⟩ := o'
            simp only at h2 h3
            subst h2 h3
            exact PySem.W.kia_tup kx I.kIn p h1 (isaAny_kit ok ht eb b1) hx fin
        | ty n => exact one (t1 := .ty n) rfl (by simpa [clsTags, clsTag] using ecs.symm)
        | cls n => exact one (t1 := .own n) rfl (by simpa [clsTags, clsTag] using ecs.symm)
        | _ => simp [clsTags, clsTag] at ecs
      · exact o.elim
    · exact o.elim
  · exact o.elim
end
end AVL

namespace AVL
open PySem PySem.Spec L2
/-! ### == of data -/
def pd : Nat → AH → AV → Option PyData
  | 0, _, _ => none
  | n + 1, h, x => match x with
    | .non => some .none
    | .bl b => some (.bool b)
    | .int i => some (.int i)
    | .str z => if PyData.strOk z then some (.str z) else none
    | .tup l => (l.mapM (pd n h)).map .tuple
    | x => match itemsL h x with
      | some l => (l.mapM (pd n h)).map .list
      | none => none
def mEq (neg : Bool) : AV → AV → AH → Res AV := fun x y h => match pd 60 h x, pd 60 h y with
  | some d, some e => .ok (.bl (PyData.eqv d e != neg)) h
  | _, _ => .stuck
theorem mEq_calm {neg} : Calm (mEq neg) := fun x y h => by unfold mEq; split <;> trivial
section
variable {X : Cx} {W : WX} {K : PySem.W.Frag} {mg : Str → Option Value} {ρ : List Addr} {F H : Hp} {h : AH}
theorem pd_all {n : Nat} (ih : ∀ (x : AV) (v : V) (d : PyData), RV K mg ρ F x v → pd n h x = some d → Dp K H v d ∧ d.canLay0 = true ∧ d.depth ≤ n) : ∀ (l : List AV) (vs : List V) (ds : List PyData), RVs K mg ρ F l vs → l.mapM (pd n h) = some ds → DpAll K H vs ds ∧ PyData.canLayAll0 ds = true ∧ PyData.depthAll ds ≤ n
  | [], vs, ds, r, e => by
    simp only [RVs] at r
    subst r
    simp at e
    subst e
    exact ⟨.nil, rfl, Nat.zero_le _⟩
  | x :: xs, vs, ds, r, e => by
    simp only [RVs] at r
    obtain ⟨v, r, rfl, a, t⟩ := r
    rw [List.mapM_cons] at e
    cases q : pd n h x with
    | none => rw [q] at e; simp at e
    | some d =>
      cases q2 : xs.mapM (pd n h) with
      | none => rw [q, q2] at e; simp at e
      | some ds' =>
        rw [q, q2] at e
        simp at e
        subst e
        obtain ⟨a1, a2, a3⟩ := ih x v d a q
        obtain ⟨b1, b2, b3⟩ := pd_all ih xs r ds' t q2
        refine ⟨.cons a1 b1, ?_, ?_⟩
        · simp only [PyData.canLayAll0, Bool.and_eq_true]; exact ⟨a2, b2⟩
        · simp only [PyData.depthAll]; exact Nat.max_le.mpr ⟨a3, b3⟩
theorem pd_ok (rh : RH K mg ρ F h H) : ∀ (n : Nat) (x : AV) (v : V) (d : PyData), RV K mg ρ F x v → pd n h x = some d → Dp K H v d ∧ d.canLay0 = true ∧ d.depth ≤ n
  | 0, x, v, d, _, e => by simp [pd] at e
  | n + 1, x, v, d, rv, e => by
    have ih := pd_ok rh n
    have seq : ∀ {l : List AV} {ds : List PyData}, itemsL h x = some l → l.mapM (pd n h) = some ds → Dp K H v (.list ds) ∧ (PyData.list ds).canLay0 = true ∧ (PyData.list ds).depth ≤ n + 1 := fun {l ds} hl e => by
      obtain ⟨a, vs, rfl, q, r⟩ := items_L rh rv hl
      obtain ⟨b1, b2, b3⟩ := pd_all ih l vs ds r e
      exact ⟨.lst q b1, by simpa [PyData.canLay0] using b2, by simp only [PyData.depth]; omega⟩
    unfold pd at e
    split at e
    · cases e; rw [rv.non]; exact ⟨.non, rfl, Nat.zero_le _⟩
    · cases e; rw [rv.bl]; exact ⟨.bl _, rfl, Nat.zero_le _⟩
    · cases e; rw [rv.int]; exact ⟨.int _, rfl, Nat.zero_le _⟩
    · split at e
      · rename_i hz; cases e; rw [rv.str]; exact ⟨.str _, by simpa [PyData.canLay0] using hz, Nat.zero_le _⟩
      · cases e
    · rename_i l
      simp only [Option.map_eq_some_iff] at e
      obtain ⟨ds, e, rfl⟩ := e
      simp only [RV] at rv
      obtain ⟨a, vs, rfl, q, r⟩ := rv
      obtain ⟨b1, b2, b3⟩ := pd_all ih l vs ds r e
      exact ⟨.tup (SqT.mono rh.sub q) b1, by simpa [PyData.canLay0] using b2, by simp only [PyData.depth]; omega⟩
    · split at e
      · rename_i l hl
        simp only [Option.map_eq_some_iff] at e
        obtain ⟨ds, e, rfl⟩ := e
        exact seq hl e
      · cases e
theorem pd_shaped (rh : RH K mg ρ F h H) {x : AV} {v : V} {d : PyData} (rv : RV K mg ρ F x v) (e : pd 60 h x = some d) : Dp K H v d ∧ SeqAt.shaped d = true := by
  obtain ⟨a, b, c⟩ := pd_ok rh 60 x v d rv e
  exact ⟨a, by unfold SeqAt.shaped; rw [b]; simp; omega⟩
theorem mEq_ok (hu : X.A.units + 64 < cLine) : OpOk X (compareOp .Eq) (mEq false) := .of (op_eqD hu) fun ρ F x y h v w H Q rv rw' rh o => by
  unfold mEq at o
  split at o
  · rename_i d e hd he
    obtain ⟨a, b⟩ := pd_shaped rh rv hd
    obtain ⟨a', b'⟩ := pd_shaped rh rw' he
    exact ⟨d, e, a, a', b, b', o.now rh (by simp [RV])⟩
  · exact o.elim
theorem mNe_ok (hu : X.A.units + 64 < cLine) : OpOk X (compareOp .NotEq) (mEq true) := .of (op_neD hu) fun ρ F x y h v w H Q rv rw' rh o => by
  unfold mEq at o
  split at o
  · rename_i d e hd he
    obtain ⟨a, b⟩ := pd_shaped rh rv hd
    obtain ⟨a', b'⟩ := pd_shaped rh rw' he
    exact ⟨d, e, a, a', b, b', o.now rh (by simp [RV])⟩
  · exact o.elim
/-! ### in, of flat items -/
def flatA : AV → Bool
  | .non => true
  | .bl _ => true
  | .int _ => true
  | .str _ => true
  | _ => false
def eqA : AV → AV → Bool
  | .non, .non => true
  | .bl a, .bl b => a == b
  | .bl a, .int b => (if a then 1 else 0) == b
  | .int a, .bl b => a == (if b then 1 else 0)
  | .int a, .int b => a == b
  | .str a, .str b => a == b
  | _, _ => false
def inA (x : AV) (xs : List AV) : Bool := xs.any fun y => eqA y x
def mIn (neg : Bool) : AV → AV → AH → Res AV
  | .str i, .str j, h => .ok (.bl (!(Builtin.Str.occurrences j i 0 j.length 1).isEmpty != neg)) h
  | x, y, h => match items h y with
    | some l => if flatA x && l.all flatA then .ok (.bl (inA x l != neg)) h else .stuck
    | none => .stuck
theorem mIn_calm {neg} : Calm (mIn neg) := fun x y h => by
  unfold mIn
  split
  · trivial
  · split
    · split <;> trivial
    · trivial
theorem RV.flat {x : AV} {v : V} (r : RV K mg ρ F x v) (f : flatA x = true) : flatV v = true := by
  cases x with
  | non => rw [r.non]; rfl
  | bl _ => rw [r.bl]; rfl
  | int _ => rw [r.int]; rfl
  | str _ => rw [r.str]; rfl
  | _ => simp [flatA] at f
theorem RV.eqA {x y : AV} {v w : V} (r : RV K mg ρ F x v) (f : flatA x = true) (r2 : RV K mg ρ F y w) (f2 : flatA y = true) : eqV v w = AVL.eqA x y := by
  cases x with
  | non => rw [r.non]; cases y <;> first | (simp [flatA] at f2; done) | (first | rw [r2.non] | rw [r2.bl] | rw [r2.int] | rw [r2.str]) <;> rfl
  | bl _ => rw [r.bl]; cases y <;> first | (simp [flatA] at f2; done) | (first | rw [r2.non] | rw [r2.bl] | rw [r2.int] | rw [r2.str]) <;> rfl
  | int _ => rw [r.int]; cases y <;> first | (simp [flatA] at f2; done) | (first | rw [r2.non] | rw [r2.bl] | rw [r2.int] | rw [r2.str]) <;> rfl
  | str _ => rw [r.str]; cases y <;> first | (simp [flatA] at f2; done) | (first | rw [r2.non] | rw [r2.bl] | rw [r2.int] | rw [r2.str]) <;> rfl
  | _ => simp [flatA] at f
theorem RVs.inA {x : AV} {v : V} (r : RV K mg ρ F x v) (f : flatA x = true) : ∀ {l : List AV} {vs : List V}, RVs K mg ρ F l vs → l.all flatA = true → inV v vs = AVL.inA x l ∧ vs.all flatV = true
  | [], vs, rs, _ => by
    simp only [RVs] at rs
    subst rs
    exact ⟨rfl, rfl⟩
  | y :: ys, vs, rs, fs => by
    simp only [RVs] at rs
    obtain ⟨w, r', rfl, a, t⟩ := rs
    rw [List.all_cons, Bool.and_eq_true] at fs
    obtain ⟨h1, h2⟩ := RVs.inA r f t fs.2
    refine ⟨?_, by rw [List.all_cons, a.flat fs.1, h2]; rfl⟩
    show (eqV w v || inV v r') = (AVL.eqA y x || AVL.inA x ys)
    rw [a.eqA fs.1 r f, h1]
theorem mIn_in {neg : Bool} {ρ F x y h v w H Q} (rv : RV X.K X.mg ρ F x v) (rw' : RV X.K X.mg ρ F y w) (rh : RH X.K X.mg ρ F h H) (o : Out X.K X.mg (RV X.K X.mg) ρ F H (mIn neg x y h) Q fun _ _ _ => False) :
    (∃ i j, v = .str i ∧ w = .str j ∧ Q (.bl (!(Builtin.Str.occurrences j i 0 j.length 1).isEmpty != neg)) H) ∨ rIn X.K neg v w H Q := by
  unfold mIn at o
  split at o
  · rename_i i j
    exact .inl ⟨_, _, rv.str, rw'.str, o.now rh (by simp [RV])⟩
  · split at o
    · rename_i l hl
      split at o
      · rename_i hf
        rw [Bool.and_eq_true] at hf
        have fin : Q (.bl (inA x l != neg)) H := o.now rh (by simp [RV])
        have go : ∀ {a : Addr} {ws : List V}, w = .ref a → (SqL X.K H a ws ∨ SqT X.K H a ws) → RVs X.K X.mg ρ F l ws → rIn X.K neg v w H Q := fun {a ws} ew q rr => by
          obtain ⟨h1, h2⟩ := RVs.inA rv hf.1 rr hf.2
          refine ⟨a, ws, ew, q, rv.flat hf.1, h2, ?_⟩
          rw [h1]
          cases neg with
          | true => simpa using fin
          | false => simpa using fin
        rcases items_cases hl with z | z
        · obtain ⟨a, ws, e, q, rr⟩ := items_T rh rw' z
          exact .inr (go e (.inr q) rr)
        · obtain ⟨a, ws, e, q, rr⟩ := items_L rh rw' z
          exact .inr (go e (.inl q) rr)
      · exact o.elim
    · exact o.elim
theorem mIn_ok : OpOk X (compareOp .In) (mIn false) := .of (OpR.or op_in_str op_in_seq) fun ρ F x y h v w H Q rv rw' rh o => by
  rcases mIn_in rv rw' rh o with ⟨i, j, e1, e2, q⟩ | q
  · exact .inl ⟨i, j, e1, e2, by simpa using q⟩
  · exact .inr q
theorem mNotIn_ok : OpOk X (compareOp .NotIn) (mIn true) := .of (OpR.or op_notin_str op_notIn_seq) fun ρ F x y h v w H Q rv rw' rh o => by
  rcases mIn_in rv rw' rh o with ⟨i, j, e1, e2, q⟩ | q
  · exact .inl ⟨i, j, e1, e2, by simpa using q⟩
  · exact .inr q
/-! ### items by their place -/
def mIx : AV → AV → AH → Res AV
  | .str z, .int i, h => match (if z.length ≤ sizeLine then atI z.cps.toList i else none) with
    | some c => .ok (.str ⟨#[c]⟩) h
    | none => .stuck
  | x, .int i, h => match items h x with
    | some l => match atI l i with
      | some y => .ok y h
      | none => .stuck
    | none => .stuck
  | _, _, _ => .stuck
theorem mIx_calm : Calm mIx := fun x y h => by
  unfold mIx
  split
  · split <;> trivial
  · split
    · split <;> trivial
    · trivial
  · trivial
theorem RVs.atI {l : List AV} {vs : List V} {i : Int} {x : AV} (r : RVs K mg ρ F l vs) (e : L2.atI l i = some x) : ∃ v, L2.atI vs i = some v ∧ RV K mg ρ F x v := by
  unfold L2.atI at e ⊢
  rw [← r.length]
  cases q : ixN l.length i with
  | none => rw [q] at e; cases e
  | some j =>
    rw [q] at e
    exact r.get e
def IxOk (X : Cx) (m : AV → AV → AH → Res AV) : Prop := IxR X fun v w H Q => ∃ ρ F x y h, RV X.K X.mg ρ F x v ∧ RV X.K X.mg ρ F y w ∧ RH X.K X.mg ρ F h H ∧ Out X.K X.mg (RV X.K X.mg) ρ F H (m x y h) Q fun _ _ _ => False
theorem mIx_ok : IxOk X mIx := by
  intro value slice pins s σ H v w u u' Q I r1 r2 ⟨ρ, F, x, y, h, a, b, rh, o⟩ hs
  refine ix_seq value slice pins s σ H v w u u' Q I r1 r2 ?_ hs
  unfold mIx at o
  split at o
  · rename_i _ z i
    split at o
    · rename_i c hc
      split at hc
      · rename_i hz
        exact .inr (.inr ⟨z, i, c, a.str, b.int, hz, hc, o.now rh (by simp [RV])⟩)
      · cases hc
    · exact o.elim
  · rename_i _ x i _
    split at o
    · rename_i l hl
      split at o
      · rename_i y' hy
        rcases items_cases hl with z | z
        · obtain ⟨p, ws, e, q, rr⟩ := items_T rh a z
          obtain ⟨v', e1, rv'⟩ := rr.atI hy
          exact .inr (.inl ⟨p, ws, i, v', e, b.int, q, e1, o.now rh rv'⟩)
        · obtain ⟨p, ws, e, q, rr⟩ := items_L rh a z
          obtain ⟨v', e1, rv'⟩ := rr.atI hy
          exact .inl ⟨p, ws, i, v', e, b.int, q, e1, o.now rh rv'⟩
      · exact o.elim
    · exact o.elim
  · exact o.elim
variable {fa fb fc : EM} {a b c e : Expr} {pos p2 : Pos}
theorem rIx (ha : PE X a (lE X W fa)) (hb : PE X b (lE X W fb)) (hs : PlainIx b := by exact fun _ _ => rfl) : PE X (.Subscript a b pos) (lE X W (eBin mIx fa fb)) :=
  pe_imp (pe_ix mIx_ok ha hb hs) fun σ H Q h => two mIx_calm h
/-! ### slices -/
def cutA (xs : List AV) (lo hi : Option Int) : List AV := (xs.drop (HT.sIx xs.length 0 lo)).take (HT.sIx xs.length xs.length hi - HT.sIx xs.length 0 lo)
abbrev OM := SL → AH → Res (Option Int)
def oNo : OM := fun _ h => .ok none h
def oPart (f : EM) : OM := fun sl h => (f sl h).bind fun x h1 => match x with
  | .int i => .ok (some i) h1
  | _ => .stuck
def ROp : List Addr → Hp → Option Int → Option Int → Prop := fun _ _ a b => a = b
def lO (X : Cx) (W : WX) (f : OM) : TO := fun σ H Q => ∃ ρ F sl h, RSl X.K X.mg ρ F sl σ ∧ RH X.K X.mg ρ F h H ∧ Out X.K X.mg ROp ρ F H (f sl h) Q (fun c d H' => W c d σ H')
theorem po_imp {X : Cx} {e : Option Expr} {t t' : TO} (h : PO X e t) (i : ∀ σ H Q, t' σ H Q → t σ H Q) : PO X e t' := ⟨fun pins s σ H Q I q => h.run pins s σ H Q I (i σ H Q q)⟩
theorem roNo : PO X none (lO X W oNo) := po_imp po_none fun σ H Q ⟨ρ, F, sl, h, rs, rh, o⟩ => Out.now (R := ROp) o rh rfl
theorem roPart (h : PE X e (lE X W fa)) : PO X (some e) (lO X W (oPart fa)) := po_imp (po_some h) fun σ H Q ⟨ρ, F, sl, h, rs, rh, o⟩ =>
  ⟨ρ, F, sl, h, rs, rh, Out.bind (R := RV X.K X.mg) o fun x h1 ρ1 F1 H1 v ex rh1 rv o1 => by
    cases x with
    | int i => exact ⟨i, rv.int, Out.now (R := ROp) o1 rh1 rfl⟩
    | _ => exact o1.elim⟩
def mSl (nm : Bool) (x : AV) (lo hi : Option Int) (h : AH) : Res AV := match x with
  | .str z => if z.length ≤ sizeLine then .ok (.str (cutS z lo hi)) h else .stuck
  | .tup l => .ok (.tup (cutA l lo hi)) h
  | x => match itemsL h x with
    | some l => mkL nm (cutA l lo hi) h
    | none => .stuck
theorem mSl_calm {nm x lo hi h} : (mSl nm x lo hi h).calm := by
  unfold mSl
  split
  · split <;> trivial
  · trivial
  · split
    · exact mkL_calm
    · trivial
def eSl (nm : Bool) (f : EM) (fl fh : OM) : EM := fun sl h => (f sl h).bind fun x h1 => (fl sl h1).bind fun lo h2 => (fh sl h2).bind fun hi h3 => mSl nm x lo hi h3
theorem RVs.cutA {l : List AV} {vs : List V} (r : RVs K mg ρ F l vs) (lo hi : Option Int) : RVs K mg ρ F (AVL.cutA l lo hi) (cutV vs lo hi) := by
  unfold AVL.cutA cutV
  rw [r.length]
  exact (r.drop _).take _
theorem rSl {nm : Bool} {lo hi : Option Expr} {fl fh : OM} (he : PE X e (lE X W fa)) (hl : PO X lo (lO X W fl)) (hh : PO X hi (lO X W fh)) : PE X (.Subscript e (.Slice lo hi none p2) pos) (lE X W (eSl nm fa fl fh)) := by
  refine pe_imp (pe_slice (SlR.or sl_str (SlR.or sl_tupA sl_list)) he hl hh) fun σ H Q ⟨ρ, F, sl, h, rs, rh, o⟩ => ?_
  refine ⟨ρ, F, sl, h, rs, rh, Out.bind (R := RV X.K X.mg) o fun x h1 ρ1 F1 H1 v ex rh1 rv o1 => ?_⟩
  refine ⟨ρ1, F1, sl, h1, rs.ext ex, rh1, Out.bind (R := ROp) o1 fun lo h2 ρ2 F2 H2 lo' ex2 rh2 e2 o2 => ?_⟩
  cases e2
  refine ⟨ρ2, F2, sl, h2, (rs.ext ex).ext ex2, rh2, Out.bind (R := ROp) o2 fun hi h3 ρ3 F3 H3 hi' ex3 rh3 e3 o3 => ?_⟩
  cases e3
  have rv3 := (rv.ext ex2).ext ex3
  unfold mSl at o3
  split at o3
  · rename_i z
    split at o3
    · rename_i hz
      exact .inl ⟨z, rv3.str, hz, o3.now rh3 (by simp [RV])⟩
    · exact o3.elim
  · rename_i l
    simp only [RV] at rv3
    obtain ⟨a, vs, ev, q, r⟩ := rv3
    refine .inr (.inl ⟨a, vs, ev, SqT.mono rh3.sub q, fun hw => ?_, fun _ p hp => out_tup rh3 (r.cutA lo hi) o3 hp⟩)
    have e : AVL.cutA l lo hi = l := by
      unfold AVL.cutA
      rw [r.length, hw.1, hw.2]
      simp [← r.length]
    rw [e] at o3
    exact tup_out o3 rh3 q r
  · split at o3
    · rename_i l hl
      obtain ⟨a, vs, ev, q, r⟩ := items_L rh3 rv3 hl
      exact .inr (.inr ⟨a, vs, ev, q, fun p hp => out_mkL rh3 (r.cutA lo hi) o3 hp⟩)
    · exact o3.elim
/-! ### a store by its place -/
def mSet : AV → AV → AV → AH → Option AH
  | .ref n, .int i, y, h => match h[n]? with
    | some (.lst l) => match ixN l.length i with
      | some j => if bnd (n + 1) y then some (h.set n (.lst (l.set j y))) else none
      | none => none
    | _ => none
  | _, _, _, _ => none
def gSub (fo fi : EM) : GM := fun y sl h => match fo sl h with
  | .ok o h1 => match fi sl h1 with
    | .ok i h2 => match mSet o i y h2 with
      | some h3 => some (sl, h3)
      | none => none
    | _ => none
  | _ => none
theorem rgSub {o i : Expr} {fo fi : EM} (ho : PE X o (lE X W fo)) (hi : PE X i (lE X W fi)) (hs : ∀ v, assign (.Subscript o i pos) X.env v = (do
      let ov ← holding [v] (eval o X.env)
      let iv ← holding [v, ov] (eval i X.env)
      standAt pos
      holding [v, ov, iv] (setItem ov iv v)
      release [v, ov, iv] []) := by intro _; rfl) : PG X (.Subscript o i pos) (lG X (gSub fo fi)) := by
  refine pg_imp (pg_sub ho hi set_list hs) fun v σ H Q ⟨ρ, F, y, sl, h, rv, rs, rh, o⟩ => ?_
  refine ⟨ρ, F, sl, h, rs, rh, ?_⟩
  unfold AVL.gSub at o
  cases q : fo sl h with
  | stuck => rw [q] at o; exact o.elim
  | exc _ _ _ _ => rw [q] at o; exact o.elim
  | ok x1 h1 =>
    rw [q] at o
    intro ρ1 F1 H1 v1 ex1 rh1 rv1
    refine ⟨ρ1, F1, sl, h1, rs.ext ex1, rh1, ?_⟩
    simp only at o
    cases q2 : fi sl h1 with
    | stuck => rw [q2] at o; exact o.elim
    | exc _ _ _ _ => rw [q2] at o; exact o.elim
    | ok x2 h2 =>
      rw [q2] at o
      intro ρ2 F2 H2 v2 ex2 rh2 rv2
      simp only at o
      cases q3 : mSet x1 x2 y h2 with
      | none => rw [q3] at o; exact o.elim
      | some h3 =>
        rw [q3] at o
        simp only at o
        unfold mSet at q3
        split at q3
        · rename_i n j
          split at q3
          · rename_i l el
            split at q3
            · rename_i jj ej
              split at q3
              · rename_i hb
                cases q3
                have rr := rv1.ext ex2
                simp only [RV] at rr
                obtain ⟨a, rfl, ea⟩ := rr
                obtain ⟨u, e1, vs, rfl, r⟩ := rh2.cell n _ el a ea
                have rset := r.set jj ((rv.ext ex1).ext ex2)
                have ob : bndC (n + 1) (.lst l) = true := rh2.old n _ el
                refine ⟨a, vs, j, jj, rfl, rv2.int, e1, by rw [← r.length]; exact ej, ?_⟩
                have hm : a ∈ ρ2 := List.mem_of_getElem? ea
                refine o ρ2 F2 _ σ (ex1.trans (ex2.trans (ext_set rh2 hm e1 fun ps => by simp))) (rh_set rh2 ea el rfl (bnds_set jj ob hb) ⟨_, rfl, rset⟩) (((rs.ext ex1).ext ex2).ext (ext_set (o := .lst (vs.set jj v)) rh2 hm e1 fun ps => by simp))
              · cases q3
            · cases q3
          · cases q3
        · cases q3
end
end AVL

namespace AVL
open PySem PySem.Spec L2
abbrev Src := List AV × (AH → Bool)
abbrev IM := SL → AH → Res Src
structure WalkOk (X : Cx) (J : It) (ρ : List Addr) (F : Hp) (l : List AV) (ok : AH → Bool) : Prop where
  go : ∀ ρ' F' h' H' (i : Nat) (y : AV), (∃ t, ρ' = ρ ++ t) → (∀ a o, F a = some o → F' a = some o) → RH X.K X.mg ρ' F' h' H' → ok h' = true → l[i]? = some y →
    J.go i H' ∧ ∀ v H'', J.yld i H' v H'' → ∃ ρ'' F'', Ext ρ' F' H' ρ'' F'' H'' ∧ RH X.K X.mg ρ'' F'' h' H'' ∧ RV X.K X.mg ρ'' F'' y v
  stop : ∀ ρ' F' h' H', (∃ t, ρ' = ρ ++ t) → (∀ a o, F a = some o → F' a = some o) → RH X.K X.mg ρ' F' h' H' → ok h' = true → J.stop l.length H'
def RI (X : Cx) : List Addr → Hp → Src → It → Prop := fun ρ F p J => WalkOk X J ρ F p.1 p.2
def lI (X : Cx) (W : WX) (it : IM) : TI := fun σ H R => ∃ ρ F sl h, RSl X.K X.mg ρ F sl σ ∧ RH X.K X.mg ρ F h H ∧ Out X.K X.mg (RI X) ρ F H (it sl h) R (fun c d H' => W c d σ H')
theorem pi_imp {X : Cx} {tg e : Expr} {t t' : TI} (h : PI X tg e t) (i : ∀ σ H R, t' σ H R → t σ H R) : PI X tg e t' := ⟨fun pins s σ H R I q => h.run pins s σ H R I (i σ H R q)⟩
def forL (ok : AH → Bool) (g : GM) (b : SM) : List AV → SM
  | [], sl, h => if ok h then .next sl h else .stuck
  | y :: r, sl, h => if ok h then match g y sl h with
    | none => .stuck
    | some (sl1, h1) => match b sl1 h1 with
      | .next sl2 h2 => forL ok g b r sl2 h2
      | .cont sl2 h2 => forL ok g b r sl2 h2
      | .brk sl2 h2 => .next sl2 h2
      | x => x
    else .stuck
def sFor (it : IM) (g : GM) (b : SM) : SM := fun sl h => (it sl h).toS sl fun p h1 => forL p.2 g b p.1 sl h1
section
variable {X : Cx} {W : WX} {it : IM} {gm : GM} {bm : SM} {tg iter : Expr} {body : List Stmt} {pos : Pos}
theorem rsFor (hp : PassesOwn (model X.prog X.w) X.A X.env X.xe) (hi : PI X tg iter (lI X W it)) (hg : PG X tg (lG X gm)) (hb : PSs X body (lS X W bm)) (hc : X.calm = true := by rfl)
    (hs : ∀ x, foldedSetIterable iter X.env x = pure x := by intro _; rfl) : PS X (.For tg iter body [] pos) (lS X W (sFor it gm bm)) := by
  refine ps_imp (ps_for hp hc hi hg hb hs) fun D σ H ⟨ρ0, F0, sl0, h0, rs0, rh0, o⟩ => ?_
  refine ⟨ρ0, F0, sl0, h0, rs0, rh0, Out.bindS (R := RI X) o rs0 fun p h1 ρ F H1 J ex rh wk o1 => ?_⟩
  obtain ⟨l, ok⟩ := p
  have rs := rs0.ext ex
  refine ⟨fun i m σ' H' => m = l.length - i ∧ i ≤ l.length ∧ ∃ ρ' F' sl' h', Ext ρ F H1 ρ' F' H' ∧ RSl X.K X.mg ρ' F' sl' σ' ∧ RH X.K X.mg ρ' F' h' H' ∧ OutS X.K X.mg ρ' F' H' (forL ok gm bm (l.drop i) sl' h') D W,
    ⟨l.length, by simp, Nat.zero_le _, ρ, F, sl0, h1, Ext.refl _ _ _, rs, rh, by simpa using o1⟩, ?_⟩
  rintro i m σ1 H2 ⟨rfl, hi', ρ1, F1, sl1, h2, e1, rs1, rh1, o2⟩
  by_cases hlt : i < l.length
  · rw [List.drop_eq_getElem_cons hlt] at o2
    unfold forL at o2
    split at o2
    case isFalse => exact o2.elim
    rename_i hok
    obtain ⟨hgo, hy⟩ := wk.go ρ1 F1 h2 H2 i l[i] e1.pre e1.fz rh1 hok (by simp [hlt])
    cases q : gm l[i] sl1 h2 with
    | none => rw [q] at o2; exact o2.elim
    | some pp =>
      obtain ⟨sl3, h3⟩ := pp
      rw [q] at o2
      refine .inr ⟨hgo, fun σ' H' => ∃ ρ' F' sl' h', Ext ρ F H1 ρ' F' H' ∧ RSl X.K X.mg ρ' F' sl' σ' ∧ RH X.K X.mg ρ' F' h' H' ∧ OutS X.K X.mg ρ' F' H' (forL ok gm bm (l.drop (i + 1)) sl' h') D W, fun σ' H' hN => ⟨l.length - (i + 1), by omega, rfl, hlt, hN⟩, fun v H'' yl => ?_⟩
      obtain ⟨ρ2, F2, e2, rh2, rv2⟩ := hy v H'' yl
      refine ⟨ρ2, F2, l[i], sl1, h2, rv2, rs1.ext e2, rh2, ?_⟩
      rw [q]
      intro ρ3 F3 H3 σ3 e3 rh3 rs3
      refine ⟨ρ3, F3, sl3, h3, rs3, rh3, ?_⟩
      have o3 := OutS.ext o2 (e2.trans e3)
      have ex3 := e1.trans (e2.trans e3)
      simp only at o3
      cases q2 : bm sl3 h3 with
      | next sl4 h4 => simp only [q2] at o3; exact fun ρ4 F4 H4 σ4 e4 rh4 rs4 => ⟨ρ4, F4, sl4, h4, ex3.trans e4, rs4, rh4, o3.ext e4⟩
      | cont sl4 h4 => simp only [q2] at o3; exact fun ρ4 F4 H4 σ4 e4 rh4 rs4 => ⟨ρ4, F4, sl4, h4, ex3.trans e4, rs4, rh4, o3.ext e4⟩
      | brk sl4 h4 => simp only [q2] at o3; exact o3
      | ret y4 h4 => simp only [q2] at o3; exact o3
      | exc c ks l sl4 h4 => simp only [q2] at o3; exact o3
      | stuck => simp only [q2] at o3; exact o3
  · have e : i = l.length := by omega
    subst e
    rw [List.drop_length] at o2
    unfold forL at o2
    split at o2
    case isFalse => exact o2.elim
    rename_i hok
    exact .inl ⟨wk.stop ρ1 F1 h2 H2 e1.pre e1.fz rh1 hok, o2 ρ1 F1 H2 σ1 (Ext.refl _ _ _) rh1 rs1⟩

/-! ### what is walked -/
def okAll : AH → Bool := fun _ => true
/-- the list x still holds l -/
def okL (x : AV) (l : List AV) : AH → Bool := fun h => match itemsL h x with
  | some l' => beqVs l' l
  | none => false
theorem okL_items {x : AV} {l : List AV} {h : AH} (e : okL x l h = true) : itemsL h x = some l := by
  unfold okL at e
  split at e
  · rename_i l' q
    rw [q, beqVs_eq _ _ e]
  · cases e
theorem walk_L {ρ F h H} {x : AV} {v : V} {l : List AV} (rh : RH X.K X.mg ρ F h H) (rv : RV X.K X.mg ρ F x v) (e : itemsL h x = some l) : ∃ a vs, v = .ref a ∧ SqL X.K H a vs ∧ WalkOk X (Itl X.K a) ρ F l (okL x l) := by
  obtain ⟨a, vs, rfl, q, r⟩ := items_L rh rv e
  have at_ : ∀ ρ' F' h' H', (∃ t, ρ' = ρ ++ t) → (∀ a o, F a = some o → F' a = some o) → RH X.K X.mg ρ' F' h' H' → okL x l h' = true → ∃ ws, SqL X.K H' a ws ∧ RVs X.K X.mg ρ' F' l ws := fun ρ' F' h' H' pr fz rh' ok => by
    have rv' : RV X.K X.mg ρ' F' x (.ref a) := RV.mono fz (fun n b eb => by
      obtain ⟨t, rfl⟩ := pr
      rw [List.getElem?_append_left (List.getElem?_eq_some_iff.mp eb).1]; exact eb) x _ rv
    obtain ⟨b, ws, eb, q', r'⟩ := items_L rh' rv' (okL_items ok)
    cases eb
    exact ⟨ws, q', r'⟩
  refine ⟨a, vs, rfl, q, ⟨fun ρ' F' h' H' i y pr fz rh' ok ey => ?_, fun ρ' F' h' H' pr fz rh' ok => ?_⟩⟩
  · obtain ⟨ws, q', r'⟩ := at_ ρ' F' h' H' pr fz rh' ok
    obtain ⟨w', ew, rw'⟩ := r'.get ey
    refine ⟨⟨ws, w', q', ew⟩, fun v H'' ⟨eH, hy⟩ => ?_⟩
    subst eH
    have e2 := hy ws q'
    rw [ew] at e2
    cases e2
    exact ⟨ρ', F', Ext.refl _ _ _, rh', rw'⟩
  · obtain ⟨ws, q', r'⟩ := at_ ρ' F' h' H' pr fz rh' ok
    exact ⟨ws, q', by rw [r'.length]; exact Nat.le_refl _⟩
theorem walk_T {ρ F h H} {x : AV} {v : V} {l : List AV} (rh : RH X.K X.mg ρ F h H) (rv : RV X.K X.mg ρ F x v) (e : itemsT x = some l) : ∃ a vs, v = .ref a ∧ SqT X.K H a vs ∧ WalkOk X (Itt X.K a) ρ F l okAll := by
  cases x with
  | tup l' =>
    simp only [itemsT, Option.some.injEq] at e
    subst e
    simp only [RV] at rv
    obtain ⟨a, vs, rfl, q, r⟩ := rv
    have mono : ∀ {ρ' : List Addr} {F' : Hp}, (∃ t, ρ' = ρ ++ t) → (∀ a o, F a = some o → F' a = some o) → RVs X.K X.mg ρ' F' l' vs := fun pr fz => RVs.mono fz (fun n b eb => by
      obtain ⟨t, rfl⟩ := pr
      rw [List.getElem?_append_left (List.getElem?_eq_some_iff.mp eb).1]; exact eb) _ _ r
    refine ⟨a, vs, rfl, SqT.mono rh.sub q, ⟨fun ρ' F' h' H' i y pr fz rh' ok ey => ?_, fun ρ' F' h' H' pr fz rh' ok => ?_⟩⟩
    · have q' : SqT X.K H' a vs := SqT.mono (fun a o e => rh'.sub a o (fz a o e)) q
      obtain ⟨w', ew, rw'⟩ := (mono pr fz).get ey
      refine ⟨⟨vs, w', q', ew⟩, fun v H'' ⟨eH, hy⟩ => ?_⟩
      subst eH
      have e2 := hy vs q'
      rw [ew] at e2
      cases e2
      exact ⟨ρ', F', Ext.refl _ _ _, rh', rw'⟩
    · exact ⟨vs, SqT.mono (fun a o e => rh'.sub a o (fz a o e)) q, by rw [r.length]; exact Nat.le_refl _⟩
  | _ => simp [itemsT] at e
def chars (z : Str) : List AV := z.cps.toList.map fun c => .str ⟨#[c]⟩
theorem walk_S {ρ F} (z : Str) : WalkOk X (Its z) ρ F (chars z) okAll := by
  refine ⟨fun ρ' F' h' H' i y pr fz rh' ok ey => ?_, fun ρ' F' h' H' pr fz rh' ok => by simp [chars, Its]⟩
  unfold chars at ey
  rw [List.getElem?_map] at ey
  cases q : z.cps.toList[i]? with
  | none => rw [q] at ey; simp at ey
  | some c =>
    rw [q] at ey
    simp at ey
    subst ey
    have hlt : i < z.cps.size := by
      have := (List.getElem?_eq_some_iff.mp q).1
      simpa using this
    refine ⟨hlt, fun v H'' ⟨eH, c', ec, ev⟩ => ?_⟩
    subst eH
    have : c' = c := by
      have q' : z.cps[i]? = some c := by simpa using q
      rw [ec] at q'; exact Option.some.inj q'
    subst this
    exact ⟨ρ', F', Ext.refl _ _ _, rh', by rw [ev]; simp [RV]⟩
def itSeq (f : EM) : IM := fun sl h => (f sl h).bind fun x h1 => match x with
  | .str z => .ok (chars z, okAll) h1
  | .tup l => .ok (l, okAll) h1
  | x => match itemsL h1 x with
    | some l => .ok (l, okL x l) h1
    | none => .stuck
variable {fe : EM} {fa : AM} {e a b c : Expr} {p : Pos}
/-- a list, a tuple, a text -/
theorem riSeq (he : PE X e (lE X W fe)) : PI X tg e (lI X W (itSeq fe)) := by
  refine ⟨fun pins s σ H R I ⟨ρ, F, sl, h, rs, rh, o⟩ => ?_⟩
  refine thn (he.run pins s σ H (fun v H1 => ∃ ρ1 F1 h1 x, RH X.K X.mg ρ1 F1 h1 H1 ∧ RV X.K X.mg ρ1 F1 x v ∧ Out X.K X.mg (RI X) ρ1 F1 H1 (match x with
    | .str z => .ok (chars z, okAll) h1
    | .tup l => .ok (l, okAll) h1
    | x => match itemsL h1 x with
      | some l => .ok (l, okL x l) h1
      | none => .stuck) R (fun c d H' => W c d σ H')) I ⟨ρ, F, sl, h, rs, rh, Out.bind (R := RV X.K X.mg) o fun x h1 ρ1 F1 H1 v ex rh1 rv o1 => ⟨ρ1, F1, h1, x, rh1, rv, o1⟩⟩) fun u s1 hh => ?_
  obtain ⟨v, H1, I1, ru, ρ1, F1, h1, x, rh1, rv, o1⟩ := hh
  have lst : ∀ {l : List AV}, itemsL h1 x = some l → Out X.K X.mg (RI X) ρ1 F1 H1 (.ok (l, okL x l) h1) R (fun c d H' => W c d σ H') → wpAny (model X.prog X.w) X.A (pyIter u) (PIE X pins σ tg R) X.xe s1 := fun {l} hl o2 => by
    obtain ⟨a, vs, rfl, q, wk⟩ := walk_L rh1 rv hl
    cases ru
    obtain ⟨its, rv', p, hz⟩ := I1.list q
    refine PySem.wpAny_pyIter_list p.isList ?_
    refine ⟨s1.heap.objs.size, [s1.heap.objs.size], _, _, H1, rfl, I1.kept (t' := s1.toks) fun b o e => Heap.get?_push_of_some _ e, turn_list a _, ⟨_, Heap.get?_push_size _ rfl, rfl, rfl⟩, fun b hb => ?_, o2.now rh1 wk⟩
    have e : b = s1.heap.objs.size := by simpa using hb
    subst e
    exact I1.fpOk (Nat.le_refl _) (I1.hok.fresh (Nat.le_refl _))
  cases x with
  | str z =>
    rw [rv.str] at ru
    obtain ⟨t, rfl⟩ := ru
    have fin := o1.now rh1 (walk_S z)
    cases ha : z.cps.all (· < 128)
    · exact PySem.wpAny_pyIter_wide ha (pi_one (tk := s1.toks) I1 _ (turn_str _ z t "str_iterator" (.inr rfl)) ⟨_, Heap.get?_push_size _ rfl, rfl, rfl⟩ fin)
    · exact PySem.wpAny_pyIter_ascii ha (pi_one (tk := s1.toks) I1 _ (turn_str _ z t "str_ascii_iterator" (.inl rfl)) ⟨_, Heap.get?_push_size _ rfl, rfl, rfl⟩ fin)
  | tup l =>
    obtain ⟨a, vs, rfl, q, wk⟩ := walk_T rh1 rv (l := l) rfl
    cases ru
    obtain ⟨its, rv', p, hz⟩ := I1.tuple q
    refine PySem.wpAny_pyIter_tuple (show s1.heap.IsTuple a its.toArray from p) ?_
    refine ⟨s1.heap.objs.size, [s1.heap.objs.size], _, _, H1, rfl, I1.kept (t' := s1.toks) fun b o e => Heap.get?_push_of_some _ e, turn_tuple a _, ⟨_, Heap.get?_push_size _ rfl, rfl, rfl⟩, fun b hb => ?_, o1.now rh1 wk⟩
    have e : b = s1.heap.objs.size := by simpa using hb
    subst e
    exact I1.fpOk (Nat.le_refl _) (I1.hok.fresh (Nat.le_refl _))
  | lst l => exact lst rfl o1
  | klst l => exact lst rfl o1
  | ref k =>
    simp only at o1
    split at o1
    · rename_i l hl
      exact lst hl o1
    · exact o1.elim
  | _ => exact o1.elim
/-! range -/
def rangeL (lo : Int) (n : Nat) : List AV := (List.range n).map fun i : Nat => AV.int (lo + (i : Int))
theorem walk_R {ρ F} (lo : Int) (n : Nat) : WalkOk X (Itr lo n) ρ F (rangeL lo n) okAll := by
  refine ⟨fun ρ' F' h' H' i y pr fz rh' ok ey => ?_, fun ρ' F' h' H' pr fz rh' ok => by simp [rangeL, Itr]⟩
  unfold rangeL at ey
  rw [List.getElem?_map] at ey
  by_cases hi : i < n
  · rw [List.getElem?_range hi] at ey
    simp at ey
    subst ey
    refine ⟨hi, fun v H'' ⟨eH, ev⟩ => ?_⟩
    subst eH
    exact ⟨ρ', F', Ext.refl _ _ _, rh', by rw [ev]; simp [RV]⟩
  · rw [List.getElem?_eq_none (by simpa using hi)] at ey
    simp at ey
def b62 (i : Int) : Bool := decide (-(2 ^ 62) ≤ i) && decide (i < 2 ^ 62)
def itRng1 (f : AM) : IM := fun sl h => (f sl h).bind fun xs h1 => match xs with
  | [.int j] => if b62 j then .ok (rangeL 0 j.toNat, okAll) h1 else .stuck
  | _ => .stuck
def itRng2 (f : AM) : IM := fun sl h => (f sl h).bind fun xs h1 => match xs with
  | [.int i, .int j] => if b62 i && b62 j then .ok (rangeL i (j - i).toNat, okAll) h1 else .stuck
  | _ => .stuck
theorem b62_iff {i : Int} (h : b62 i = true) : -(2 ^ 62) ≤ i ∧ i < 2 ^ 62 := by
  unfold b62 at h
  rw [Bool.and_eq_true] at h
  exact ⟨of_decide_eq_true h.1, of_decide_eq_true h.2⟩
theorem riRng1 (hm : X.mg "range" = none) (ha : PA X [a] (lA X W fa)) (hg : Gl X "range" := by rfl) (hs : starEach [a] X.env = [(false, eval a X.env)] := by rfl) : PI X tg (.Call (.Name "range" p) [a] [] pos) (lI X W (itRng1 fa)) := by
  refine pi_imp (pi_range1 hg hm ha hs) fun σ H R ⟨ρ, F, sl, h, rs, rh, o⟩ => ⟨ρ, F, sl, h, rs, rh, Out.bind (R := RVs X.K X.mg) o fun xs h1 ρ1 F1 H1 vs ex rh1 rv o1 => ?_⟩
  split at o1
  · rename_i j
    obtain ⟨v, rfl, r⟩ := rv.one
    split at o1
    · rename_i hb
      exact ⟨j, by rw [r.int], (b62_iff hb).1, (b62_iff hb).2, o1.now rh1 (walk_R 0 _)⟩
    · exact o1.elim
  · exact o1.elim
theorem riRng2 (hm : X.mg "range" = none) (ha : PA X [a, b] (lA X W fa)) (hg : Gl X "range" := by rfl) (hs : starEach [a, b] X.env = [(false, eval a X.env), (false, eval b X.env)] := by rfl) (hs2 : starEach [b] X.env = [(false, eval b X.env)] := by rfl) :
    PI X tg (.Call (.Name "range" p) [a, b] [] pos) (lI X W (itRng2 fa)) := by
  refine pi_imp (pi_range2 hg hm ha hs hs2) fun σ H R ⟨ρ, F, sl, h, rs, rh, o⟩ => ⟨ρ, F, sl, h, rs, rh, Out.bind (R := RVs X.K X.mg) o fun xs h1 ρ1 F1 H1 vs ex rh1 rv o1 => ?_⟩
  split at o1
  · rename_i i j
    obtain ⟨v, w, rfl, r, r2⟩ := rv.two
    split at o1
    · rename_i hb
      rw [Bool.and_eq_true] at hb
      exact ⟨i, j, by rw [r.int, r2.int], ⟨(b62_iff hb.1).1, (b62_iff hb.1).2, (b62_iff hb.2).1, (b62_iff hb.2).2⟩, o1.now rh1 (walk_R i _)⟩
    · exact o1.elim
  · exact o1.elim
/-! enumerate of a list -/
def enumL (n : Nat) : List AV → List AV
  | [] => []
  | x :: xs => .tup [.int n, x] :: enumL (n + 1) xs
theorem enumL_len : ∀ (l : List AV) (n : Nat), (enumL n l).length = l.length
  | [], _ => rfl
  | x :: xs, n => by simp [enumL, enumL_len xs]
theorem enumL_get : ∀ (l : List AV) (n i : Nat) (y : AV), (enumL n l)[i]? = some y → ∃ x, l[i]? = some x ∧ y = .tup [.int ((n + i : Nat) : Int), x]
  | [], n, i, y, e => by simp [enumL] at e
  | x :: xs, n, 0, y, e => by simp [enumL] at e; exact ⟨x, by simp, by rw [← e]; simp⟩
  | x :: xs, n, i + 1, y, e => by
    simp only [enumL, List.getElem?_cons_succ] at e
    obtain ⟨z, e1, e2⟩ := enumL_get xs (n + 1) i y e
    exact ⟨z, by simpa using e1, by rw [e2]; congr 3; omega⟩
def itEnum (f : AM) : IM := fun sl h => (f sl h).bind fun xs h1 => match xs with
  | [x] => match itemsL h1 x with
    | some l => .ok (enumL 0 l, okL x l) h1
    | none => .stuck
  | _ => .stuck
theorem riEnum {elts : List Expr} {kk : Nat} {tpos : Pos} (hm : X.mg "enumerate" = none) (ha : PA X [e] (lA X W fa)) (hg : Gl X "enumerate" := by rfl) (hs : starEach [e] X.env = [(false, eval e X.env)] := by rfl) :
    PI X (.Tuple elts kk tpos) (.Call (.Name "enumerate" p) [e] [] pos) (lI X W (itEnum fa)) := by
  refine pi_imp (pi_enum hg hm ha hs) fun σ H R ⟨ρ, F, sl, h, rs, rh, o⟩ => ⟨ρ, F, sl, h, rs, rh, Out.bind (R := RVs X.K X.mg) o fun xs h1 ρ1 F1 H1 vs ex rh1 rv o1 => ?_⟩
  split at o1
  · rename_i x
    obtain ⟨v, rfl, r⟩ := rv.one
    split at o1
    · rename_i l hl
      obtain ⟨a, ws, rfl, q, wk⟩ := walk_L rh1 r hl
      refine ⟨a, ws, rfl, q, o1.now rh1 ⟨fun ρ' F' h' H' i y pr fz rh' ok ey => ?_, fun ρ' F' h' H' pr fz rh' ok => ?_⟩⟩
      · obtain ⟨z, e1, rfl⟩ := enumL_get l 0 i y ey
        obtain ⟨go, yl⟩ := wk.go ρ' F' h' H' i z pr fz rh' ok e1
        refine ⟨go, fun v H'' ⟨T, u, ev, hT, eH, hu⟩ => ?_⟩
        subst eH; subst ev
        obtain ⟨ρ2, F2, e2, rh2, rv2⟩ := yl u H' ⟨rfl, hu⟩
        have rvs : RVs X.K X.mg ρ2 F2 [.int (i : Nat), z] [.int (i : Nat), u] := .cons (by simp [RV]) (.cons rv2 .nil)
        refine ⟨ρ2, upd F2 T (.tup [.int (i : Nat), u]), e2.trans (ext_frz rh2 hT), rh_frz rh2 hT, ?_⟩
        simp only [RV]
        have := rvs.ext (ext_frz (o := .tup [.int (i : Nat), u]) rh2 hT)
        exact ⟨T, _, rfl, .inl (.inl upd_same), by simpa using this⟩
      · show (Ite X.K a).stop _ _
        rw [enumL_len]
        exact wk.stop ρ' F' h' H' pr fz rh' ok
    · exact o1.elim
  · exact o1.elim
end
end AVL

namespace AVL
open PySem PySem.Spec L2
def wipeA (sl : SL) : List Nat → SL
  | [] => sl
  | v :: vs => (wipeA sl vs).set v none
def Res.nx {α : Type} : Res α → Res α
  | .exc _ _ _ _ => .stuck
  | r => r
def compL (ok : AH → Bool) (g : GM) (t : TM) (fe : EM) (slw : SL) : List AV → List AV → AH → Res (List AV)
  | [], acc, h => if ok h then .ok acc h else .stuck
  | y :: r, acc, h => if ok h then match g y slw h with
    | none => .stuck
    | some (sl2, h1) => (t sl2 h1).nx.bind fun b h2 => if b then (fe sl2 h2).nx.bind fun z h3 => compL ok g t fe slw r (acc ++ [z]) h3 else compL ok g t fe slw r acc h2
    else .stuck
def eComp (nm : Bool) (it : IM) (g : GM) (t : TM) (fe : EM) (vs : List Nat) : EM := fun sl h => (it sl h).bind fun p h1 =>
  if lineOk p.1 then (compL p.2 g t fe (wipeA sl vs) p.1 [] h1).bind fun acc h2 => mkL nm acc h2 else .stuck
def tTrue : TM := fun _ h => .ok true h
section
variable {K : PySem.W.Frag} {mg : Str → Option Value} {ρ ρ1 : List Addr} {F H F1 H1 : Hp} {h : AH}
theorem RSl.wipe {sl : SL} {σ : L2.St} (rs : RSl K mg ρ F sl σ) : ∀ vs : List Nat, RSl K mg ρ F (wipeA sl vs) (L2.wipe σ vs)
  | [] => rs
  | v :: vs => by
    have ih := RSl.wipe rs vs
    unfold wipeA L2.wipe
    refine ⟨by simpa using ih.1, fun i x e => ?_⟩
    by_cases hi : v = i
    · subst hi
      by_cases hl : v < (wipeA sl vs).length
      · rw [List.getElem?_set_self hl] at e; cases e
      · rw [List.getElem?_eq_none (by simpa using hl)] at e; cases e
    · rw [List.getElem?_set_ne hi] at e ⊢
      exact ih.2 i x e
/-- an object beside is written -/
theorem rh_off {D : Addr} {o : HO} (rh : RH K mg ρ F h H) (hD : D ∉ ρ) (hF : F D = none) (hS : Soft H D) : RH K mg ρ F h (upd H D o) where
  len := rh.len
  tab := tabs_upd rh.tab hS
  ntb := rh.ntb
  nd := rh.nd
  sub := fun b u e => by rw [upd_ne (fun z => by rw [z, hF] at e; cases e)]; exact rh.sub b u e
  sep := rh.sep
  old := rh.old
  cell := fun n c e b hb => by
    obtain ⟨u, e1, r⟩ := rh.cell n c e b hb
    exact ⟨u, by rw [upd_ne (fun z => by subst z; exact hD (List.mem_of_getElem? hb))]; exact e1, r⟩
theorem ext_off {D : Addr} {o : HO} (e : Ext ρ F H ρ1 F1 H1) (hD : H D = none) : Ext ρ F H ρ1 F1 (upd H1 D o) where
  pre := e.pre
  fz := e.fz
  keep := fun a u q hn ht => by rw [upd_ne (ne_of_none q hD)]; exact e.keep a u q hn ht
  new := e.new
  fnew := e.fnew
/-- what is beside stays beside -/
theorem Ext.off {D : Addr} {o : HO} (e : Ext ρ F H ρ1 F1 H1) (hD : D ∉ ρ) (hF : F D = Option.none) (hH : H D = some o) (nt : ∀ ps, o ≠ .tbl ps) : D ∉ ρ1 ∧ F1 D = Option.none ∧ H1 D = some o := by
  refine ⟨fun z => ?_, ?_, e.keep D o hH hD nt⟩
  · rcases e.new D z with q | q
    · exact hD q
    · obtain ⟨ps, r⟩ := q _ hH
      exact nt ps r
  · cases q : F1 D with
    | none => rfl
    | some u =>
      rcases e.fnew D u q with z | z | z
      · rw [hF] at z; cases z
      · obtain ⟨ps, r⟩ := z _ hH
        exact absurd r (nt ps)
      · exact absurd z hD
theorem out_mkL_at {nm : Bool} {l : List AV} {vs : List V} {Q : VK} {E : XK} {D : Addr} (o : Out K mg (RV K mg) ρ F H (mkL nm l h) Q E) (e : Ext ρ F H ρ1 F1 H1) (rh : RH K mg ρ1 F1 h H1) (rv : RVs K mg ρ1 F1 l vs)
    (hD : D ∉ ρ1) (hF : F1 D = none) (hH : H1 D = some (.lst vs)) (h0 : H D = none) : Q (.ref D) H1 := by
  have fzF : ∀ a o, F1 a = some o → upd F1 D (.lst vs) a = some o := fun a o q => by rw [upd_ne (fun z => by rw [z, hF] at q; cases q)]; exact q
  cases nm with
  | false =>
    refine o ρ1 (upd F1 D (.lst vs)) H1 _ ⟨e.pre, fun a o q => fzF a o (e.fz a o q), e.keep, e.new, fun a u q => ?_⟩ ⟨rh.len, rh.tab, fun a ps q => ?_, rh.nd, fun a u q => ?_, fun n c ec hl a ea => ?_, rh.old, fun n c ec a ea => ?_⟩ ?_
    · by_cases ha : a = D
      · exact .inr (.inl (by rw [ha]; exact gone_of h0))
      · rw [upd_ne ha] at q; exact e.fnew a u q
    · by_cases ha : a = D
      · rw [ha, upd_same] at q; cases q
      · rw [upd_ne ha] at q; exact rh.ntb a ps q
    · by_cases ha : a = D
      · rw [ha, upd_same] at q; cases q; rw [ha]; exact hH
      · rw [upd_ne ha] at q; exact rh.sub a u q
    · rw [upd_ne (fun z => by subst z; exact hD (List.mem_of_getElem? ea))]; exact rh.sep n c ec hl a ea
    · obtain ⟨u, e1, r⟩ := rh.cell n c ec a ea
      exact ⟨u, e1, by
        cases c with
        | lst l => obtain ⟨ws, a, b⟩ := r; exact ⟨ws, a, RVs.mono fzF (fun _ _ z => z) _ _ b⟩
        | dct ks l => obtain ⟨ws, a, k, b⟩ := r; exact ⟨ws, a, k, RVs.mono fzF (fun _ _ z => z) _ _ b⟩
        | ins c ks l => obtain ⟨C, dx, fs, a, m, k, b⟩ := r; exact ⟨C, dx, fs, a, m, k, RVs.mono fzF (fun _ _ z => z) _ _ b⟩
        | dead => exact r⟩
    · simp only [RV]
      exact ⟨D, vs, rfl, upd_same, RVs.mono fzF (fun _ _ z => z) _ _ rv⟩
  | true =>
    have pp : ∀ (n : Nat) (a : Addr), ρ1[n]? = some a → (ρ1 ++ [D])[n]? = some a := fun n a q => by rw [List.getElem?_append_left (List.getElem?_eq_some_iff.mp q).1]; exact q
    have rcm : ∀ {c : Cell} {u : HO}, RC K mg ρ1 F1 c u → RC K mg (ρ1 ++ [D]) F1 c u := fun {c u} r => by
      cases c with
      | lst l => obtain ⟨ws, a, b⟩ := r; exact ⟨ws, a, RVs.mono (fun _ _ z => z) pp _ _ b⟩
      | dct ks l => obtain ⟨ws, a, k, b⟩ := r; exact ⟨ws, a, k, RVs.mono (fun _ _ z => z) pp _ _ b⟩
      | ins c ks l => obtain ⟨C, dx, fs, a, m, k, b⟩ := r; exact ⟨C, dx, fs, a, m, k, RVs.mono (fun _ _ z => z) pp _ _ b⟩
      | dead => exact r
    have last : ∀ {n : Nat} {c : Cell}, (h ++ [Cell.lst l])[n]? = some c → (n < h.length ∧ h[n]? = some c) ∨ (n = h.length ∧ c = .lst l) := fun {n c} q => by
      by_cases hl : n < h.length
      · rw [List.getElem?_append_left hl] at q; exact .inl ⟨hl, q⟩
      · have hn2 : n = h.length := by
          have := (List.getElem?_eq_some_iff.mp q).1
          simp at this; omega
        subst hn2
        exact .inr ⟨rfl, by simpa using q.symm⟩
    have lastρ : ∀ {a : Addr}, (ρ1 ++ [D])[h.length]? = some a → a = D := fun {a} q => by rw [← rh.len] at q; simpa using q.symm
    refine o (ρ1 ++ [D]) F1 H1 _ ⟨?_, e.fz, e.keep, fun a ha => ?_, e.fnew⟩ ⟨by simp [rh.len], rh.tab, rh.ntb, ?_, rh.sub, fun n c ec hl a ea => ?_, fun n c ec => ?_, fun n c ec a ea => ?_⟩ ?_
    · obtain ⟨t, et⟩ := e.pre
      exact ⟨t ++ [D], by rw [et, List.append_assoc]⟩
    · rcases List.mem_append.mp ha with z | z
      · exact e.new a z
      · have : a = D := by simpa using z
        exact .inr (by rw [this]; exact gone_of h0)
    · rw [List.nodup_append]
      exact ⟨rh.nd, by simp, fun x hx y hy z => by
        have : y = D := by simpa using hy
        subst this; subst z; exact hD hx⟩
    · rcases last ec with ⟨hn, q⟩ | ⟨rfl, rfl⟩
      · rw [List.getElem?_append_left (by rw [rh.len]; exact hn)] at ea
        exact rh.sep n c q hl a ea
      · rw [lastρ ea]; exact hF
    · rcases last ec with ⟨hn, q⟩ | ⟨rfl, rfl⟩
      · exact rh.old n c q
      · have := rv.bnd
        rw [rh.len] at this
        exact bndC_mono (Nat.le_succ _) (.lst l) this
    · rcases last ec with ⟨hn, q⟩ | ⟨rfl, rfl⟩
      · rw [List.getElem?_append_left (by rw [rh.len]; exact hn)] at ea
        obtain ⟨u, e1, r⟩ := rh.cell n c q a ea
        exact ⟨u, e1, rcm r⟩
      · rw [lastρ ea]; exact ⟨_, hH, vs, rfl, RVs.mono (fun _ _ z => z) pp _ _ rv⟩
    · simp only [RV]
      exact ⟨D, rfl, by rw [← rh.len]; simp⟩
end
section
variable {X : Cx} {W : WX} {it : IM} {gm : GM} {ft : TM} {fe : EM} {elt tg iter : Expr} {ifs : List Expr} {scope : Scope} {own : List (Str × Nat)} {pos : Pos}
theorem wipe_wipe {σ : L2.St} : ∀ (vs : List Nat), L2.wipe (L2.wipe σ vs) vs = L2.wipe σ vs := fun vs => by
  have key : ∀ (vs us : List Nat), (∀ i ∈ us, i ∈ vs) → L2.wipe (L2.wipe σ vs) us = L2.wipe σ vs := by
    intro vs us
    induction us with
    | nil => intro _; rfl
    | cons a as ih =>
      intro h
      show (L2.wipe (L2.wipe σ vs) as).set a none = _
      rw [ih fun i hi => h i (List.mem_cons_of_mem _ hi)]
      have ha := h a List.mem_cons_self
      refine List.ext_getElem? fun j => ?_
      by_cases hj : a = j
      · subst hj
        have z : ∀ (vs : List Nat), a ∈ vs → ∀ (x : Option V), (L2.wipe σ vs)[a]? = some x → x = none := by
          intro vs
          induction vs with
          | nil => intro hm; simp at hm
          | cons b bs ih2 =>
            intro hm x hx
            have hx' : ((L2.wipe σ bs).set b none)[a]? = some x := hx
            by_cases hb : b = a
            · subst hb
              by_cases hl : b < (L2.wipe σ bs).length
              · rw [List.getElem?_set_self hl] at hx'; exact (Option.some.inj hx').symm
              · rw [List.getElem?_eq_none (by simpa using hl)] at hx'; cases hx'
            · rw [List.getElem?_set_ne hb] at hx'
              rcases List.mem_cons.mp hm with q | q
              · exact absurd q.symm hb
              · exact ih2 q x hx'
        by_cases hl : a < (L2.wipe σ vs).length
        · rw [List.getElem?_set_self hl]
          have q : (L2.wipe σ vs)[a]? = some (L2.wipe σ vs)[a] := by simp [hl]
          rw [q, z vs ha _ q]
        · rw [List.getElem?_eq_none (by simpa using hl), List.getElem?_eq_none (by simpa using hl)]
      · rw [List.getElem?_set_ne hj]
  exact key vs vs fun _ h => h
abbrev W0 : WX := fun _ _ _ _ => False
structure GOk (X : Cx) (g : TG) (gm : GM) (vs : List Nat) : Prop where
  run : ∀ ρ F h H x v (sl : SL) (σ : L2.St) sl2 h2 (Q : L2.St → Hp → Prop), RV X.K X.mg ρ F x v → RSl X.K X.mg ρ F sl σ → RH X.K X.mg ρ F h H → gm x sl h = some (sl2, h2) → (h2 = h → ∀ σ2, RSl X.K X.mg ρ F sl2 σ2 → L2.wipe σ2 vs = L2.wipe σ vs → Q σ2 H) → g v σ H Q
theorem wipe_set {σ : L2.St} {v : Option V} : ∀ {vs : List Nat} {i : Nat}, i ∈ vs → L2.wipe (σ.set i v) vs = L2.wipe σ vs
  | [], i, h => by simp at h
  | w :: ws, i, h => by
    unfold L2.wipe
    by_cases hi : i ∈ ws
    · rw [wipe_set hi]
    · have hw : i = w := by
        rcases List.mem_cons.mp h with z | z
        · exact z
        · exact absurd z hi
      subst hw
      have : ∀ (ws : List Nat), i ∉ ws → L2.wipe (σ.set i v) ws = (L2.wipe σ ws).set i v := fun ws => by
        induction ws with
        | nil => intro _; rfl
        | cons a as ih =>
          intro hn
          unfold L2.wipe
          rw [ih (fun z => hn (List.mem_cons_of_mem _ z))]
          have ne : i ≠ a := fun z => hn (by rw [z]; exact List.mem_cons_self)
          rw [List.set_comm _ _ ne]
      rw [this ws hi, List.set_set]
theorem gokName {i : Nat} {vs : List Nat} (hi : i ∈ vs) : GOk X (L2.gName i) (AVL.gName i) vs := ⟨fun ρ F h H x v sl σ sl2 h2 Q rv rs rh e q => by
  simp only [AVL.gName, Option.some.injEq, Prod.mk.injEq] at e
  obtain ⟨e1, e2⟩ := e
  subst e1
  exact q e2.symm _ (rs.set i rv) (wipe_set hi)⟩
/-- several names of a tuple -/
structure GsOk (X : Cx) (g : TGs) (gm : GsM) (vs : List Nat) : Prop where
  run : ∀ ρ F h H x v (sl : SL) (σ : L2.St) sl2 h2 (Q : L2.St → Hp → Prop), RVs X.K X.mg ρ F x v → RSl X.K X.mg ρ F sl σ → RH X.K X.mg ρ F h H → gm x sl h = some (sl2, h2) → (h2 = h → ∀ σ2, RSl X.K X.mg ρ F sl2 σ2 → L2.wipe σ2 vs = L2.wipe σ vs → Q σ2 H) → g v σ H Q
theorem gokNil {vs : List Nat} : GsOk X L2.gNil AVL.gsNil vs := ⟨fun ρ F h H x v sl σ sl2 h2 Q rv rs rh e q => by
  cases x with
  | nil =>
    simp only [AVL.gsNil, Option.some.injEq, Prod.mk.injEq] at e
    obtain ⟨e1, e2⟩ := e
    subst e1
    exact ⟨by simpa [RVs] using rv, q e2.symm σ rs rfl⟩
  | cons a b => simp [AVL.gsNil] at e⟩
theorem gokCons {g : TG} {gs : TGs} {m : GM} {ms : GsM} {vs : List Nat} (h1 : GOk X g m vs) (h2 : GsOk X gs ms vs) : GsOk X (L2.gCons g gs) (AVL.gsCons m ms) vs := ⟨fun ρ F h H x v sl σ sl2 hh2 Q rv rs rh e q => by
  cases x with
  | nil => simp [AVL.gsCons] at e
  | cons a b =>
    simp only [RVs] at rv
    obtain ⟨w, r, ev, ra, rb⟩ := rv
    simp only [AVL.gsCons] at e
    cases q1 : m a sl h with
    | none => rw [q1] at e; cases e
    | some p =>
      obtain ⟨sl1, hh1⟩ := p
      rw [q1] at e
      refine ⟨w, r, ev, h1.run ρ F h H a w sl σ sl1 hh1 _ ra rs rh q1 fun eh σ1 rs1 w1 => ?_⟩
      subst eh
      exact h2.run ρ F _ H b r sl1 σ1 sl2 hh2 Q rb rs1 rh e fun eh σ2 rs2 w2 => q eh σ2 rs2 (w2.trans w1)⟩
theorem gokTup {gs : TGs} {ms : GsM} {vs : List Nat} {n : Nat} (h2 : GsOk X gs ms vs) : GOk X (L2.gTup X.K n gs) (AVL.gTup n ms) vs := ⟨fun ρ F h H x v sl σ sl2 hh2 Q rv rs rh e q => by
  simp only [AVL.gTup] at e
  split at e
  · rename_i l el
    split at e
    · rename_i hl
      obtain ⟨a, ws, ev, q', r⟩ := items_T rh rv el
      exact ⟨a, ws, ev, q', by rw [← r.length]; exact hl, h2.run ρ F h H l ws sl σ sl2 hh2 Q r rs rh e q⟩
    · cases e
  · cases e⟩
theorem compL_nil {ok : AH → Bool} {slw : SL} {acc : List AV} {h : AH} : compL ok gm ft fe slw [] acc h = if ok h then .ok acc h else .stuck := rfl
theorem compL_cons {ok : AH → Bool} {slw : SL} {acc r : List AV} {y : AV} {h : AH} : compL ok gm ft fe slw (y :: r) acc h = if ok h then match gm y slw h with
    | none => .stuck
    | some (sl2, h1) => (ft sl2 h1).nx.bind fun b h2 => if b then (fe sl2 h2).nx.bind fun z h3 => compL ok gm ft fe slw r (acc ++ [z]) h3 else compL ok gm ft fe slw r acc h2
    else .stuck := rfl
theorem comp_in {g : TG} {nm : Bool} {σ : L2.St} {H : Hp} {Q : VK} (hg : GOk X g gm (own.map (·.2))) (o : lE X W (eComp nm it gm ft fe (own.map (·.2))) σ H Q) :
    tLc (lI X W it) g (lT X W0 ft) (lE X W0 fe) (own.map (·.2)) σ H Q := by
  generalize own.map (·.2) = vs at *
  obtain ⟨ρ0, F0, sl, h0, rs0, rh0, o⟩ := o
  refine ⟨ρ0, F0, sl, h0, rs0, rh0, Out.bind (R := RI X) o fun p h1 ρ F H1 J ex rh wk o1 => ?_⟩
  obtain ⟨l, ok⟩ := p
  split at o1
  case isFalse => exact o1.elim
  rename_i hline
  have hll : l.length ≤ sizeLine := of_decide_eq_true hline
  generalize hr0 : compL ok gm ft fe (wipeA sl vs) l [] h1 = r0 at o1
  intro D hD
  have hDρ : D ∉ ρ := rh.notin hD
  have hDF : F D = none := rh.Fnone hD
  have rsw : RSl X.K X.mg ρ F (wipeA sl vs) (L2.wipe σ vs) := (rs0.ext ex).wipe vs
  refine ⟨fun i m H' => m = l.length - i ∧ i ≤ l.length ∧ ∃ ρ' F' h' acc accV, Ext ρ F H1 ρ' F' H' ∧ RH X.K X.mg ρ' F' h' H' ∧ D ∉ ρ' ∧ F' D = none ∧ H' D = some (.lst accV) ∧ RVs X.K X.mg ρ' F' acc accV ∧ acc.length ≤ i ∧
      compL ok gm ft fe (wipeA sl vs) (l.drop i) acc h' = r0,
    ⟨l.length, by simp, Nat.zero_le _, ρ, F, h1, [], [], ext_off (Ext.refl _ _ _) hD, rh_off rh hDρ hDF (soft_none hD), hDρ, hDF, upd_same, .nil, Nat.le_refl _, by rw [List.drop_zero]; exact hr0⟩, ?_⟩
  rintro i m H2 ⟨rfl, hi, ρ1, F1, h2, acc, accV, e1, rh1, d1, d2, d3, racc, hacc, eq⟩
  by_cases hlt : i < l.length
  · rw [List.drop_eq_getElem_cons hlt] at eq
    have n1 : r0 ≠ .stuck := fun z => by rw [z] at o1; exact o1
    rw [compL_cons] at eq
    split at eq
    case isFalse => exact absurd eq.symm n1
    rename_i hok
    obtain ⟨hgo, hy⟩ := wk.go ρ1 F1 h2 H2 i l[i] e1.pre e1.fz rh1 hok (by simp [hlt])
    cases q : gm l[i] (wipeA sl vs) h2 with
    | none => rw [q] at eq; exact absurd eq.symm n1
    | some pp =>
      obtain ⟨sl3, h3⟩ := pp
      rw [q] at eq
      refine .inr ⟨hgo, fun H' => i + 1 ≤ l.length ∧ ∃ ρ' F' h' acc accV, Ext ρ F H1 ρ' F' H' ∧ RH X.K X.mg ρ' F' h' H' ∧ D ∉ ρ' ∧ F' D = none ∧ H' D = some (.lst accV) ∧ RVs X.K X.mg ρ' F' acc accV ∧ acc.length ≤ i + 1 ∧
        compL ok gm ft fe (wipeA sl vs) (l.drop (i + 1)) acc h' = r0, fun H' hN => ⟨l.length - (i + 1), by omega, rfl, hN⟩, fun v H'' yl => ?_⟩
      obtain ⟨ρ2, F2, e2, rh2, rv2⟩ := hy v H'' yl
      obtain ⟨d1', d2', d3'⟩ := e2.off d1 d2 d3 fun ps => by simp
      refine hg.run ρ2 F2 h2 H'' l[i] v (wipeA sl vs) (L2.wipe σ vs) sl3 h3 _ rv2 ((rsw.ext e1).ext e2) rh2 q fun eh σ2 rs2 hw => ⟨?_, ?_⟩
      · exact hw.trans (wipe_wipe vs)
      · subst eh
        refine ⟨ρ2, F2, sl3, h3, rs2, rh2, ?_⟩
        cases q2 : ft sl3 h3 with
        | exc _ _ _ _ => simp only [q2, Res.nx, Res.bind] at eq; exact absurd eq.symm n1
        | stuck => simp only [q2, Res.nx, Res.bind] at eq; exact absurd eq.symm n1
        | ok b h4 =>
          simp only [q2, Res.nx, Res.bind] at eq
          intro ρ3 F3 H3 b' e3 rh3 eb
          cases eb
          obtain ⟨d1'', d2'', d3''⟩ := e3.off d1' d2' d3' fun ps => by simp
          cases b with
          | false =>
            refine iteF ⟨hlt, ρ3, F3, h4, acc, accV, e1.trans (e2.trans e3), rh3, d1'', d2'', d3'', (racc.ext e2).ext e3, by omega, by simpa using eq⟩
          | true =>
            refine iteT ⟨ρ3, F3, sl3, h4, rs2.ext e3, rh3, ?_⟩
            simp only [if_true] at eq
            cases q3 : fe sl3 h4 with
            | exc _ _ _ _ => simp only [q3, Res.nx, Res.bind] at eq; exact absurd eq.symm n1
            | stuck => simp only [q3, Res.nx, Res.bind] at eq; exact absurd eq.symm n1
            | ok z h5 =>
              simp only [q3, Res.nx, Res.bind] at eq
              intro ρ4 F4 H4 y e4 rh4 ry
              obtain ⟨g1, g2, g3⟩ := e4.off d1'' d2'' d3'' fun ps => by simp
              have racc4 := ((racc.ext e2).ext e3).ext e4
              refine ⟨accV, g3, by rw [← racc.length]; omega, hlt, ρ4, F4, h5, acc ++ [z], accV ++ [y], ext_off (e1.trans (e2.trans (e3.trans e4))) hD, rh_off rh4 g1 g2 (soft_lst g3), g1, g2, upd_same, racc4.append (.cons ry .nil), by simp; omega, eq⟩
  · have e : i = l.length := by omega
    subst e
    rw [List.drop_length] at eq
    rw [compL_nil] at eq
    split at eq
    · rename_i hok
      refine .inl ⟨wk.stop ρ1 F1 h2 H2 e1.pre e1.fz rh1 hok, ?_⟩
      rw [← eq] at o1
      exact out_mkL_at (show Out X.K X.mg (RV X.K X.mg) ρ F H1 (mkL nm acc h2) Q _ from o1) e1 rh1 racc d1 d2 d3 hD
    · rw [← eq] at o1; exact o1.elim
/-- [elt for tg in iter if ..] -/
theorem rComp {g : TG} {nm : Bool} (hN : X.N.Nodup) (hi : PI X tg iter (lI X W it)) (ok : BlkOk X.N X.env.scope scope own) (hgo : GOk X g gm (own.map (·.2)))
    (hg : ∀ (s : Shared) (H : Hp) (C : Addr) (cl : List (Str × Addr)) (fp : List Addr), PG (X.blk s H scope (PySem.compEnvC scope cl C X.env) fp) tg g)
    (ht : ∀ (s : Shared) (H : Hp) (C : Addr) (cl : List (Str × Addr)) (fp : List Addr), PTs (X.blk s H scope (PySem.compEnvC scope cl C X.env) fp) ifs (lT (X.blk s H scope (PySem.compEnvC scope cl C X.env) fp) W0 ft))
    (he : ∀ (s : Shared) (H : Hp) (C : Addr) (cl : List (Str × Addr)) (fp : List Addr), PE (X.blk s H scope (PySem.compEnvC scope cl C X.env) fp) elt (lE (X.blk s H scope (PySem.compEnvC scope cl C X.env) fp) W0 fe))
    (hc : X.calm = true := by rfl) (hs : ∀ x, foldedSetIterable iter X.env x = pure x := by intro _; rfl) : PE X (.ListComp elt [⟨tg, iter, ifs, 0⟩] scope pos) (lE X W (eComp nm it gm ft fe (own.map (·.2)))) :=
  pe_imp (pe_lc (tt := lT X W0 ft) (te := lE X W0 fe) hc hN hi ok hg (fun s H C cl fp => ht s H C cl fp) (fun s H C cl fp => he s H C cl fp) hs) fun σ H Q o => comp_in hgo o
theorem rsSetComp {g : TG} {nm : Bool} {i : Nat} {y : Str} {py spos : Pos} (hN : X.N.Nodup) (hi : PI X tg iter (lI X W it)) (ok : BlkOk X.N X.env.scope scope own) (hgo : GOk X g gm (own.map (·.2)))
    (hg : ∀ (s : Shared) (H : Hp) (C : Addr) (cl : List (Str × Addr)) (fp : List Addr), PG (X.blk s H scope (PySem.compEnvC scope cl C X.env) fp) tg g)
    (ht : ∀ (s : Shared) (H : Hp) (C : Addr) (cl : List (Str × Addr)) (fp : List Addr), PTs (X.blk s H scope (PySem.compEnvC scope cl C X.env) fp) ifs (lT (X.blk s H scope (PySem.compEnvC scope cl C X.env) fp) W0 ft))
    (he : ∀ (s : Shared) (H : Hp) (C : Addr) (cl : List (Str × Addr)) (fp : List Addr), PE (X.blk s H scope (PySem.compEnvC scope cl C X.env) fp) elt (lE (X.blk s H scope (PySem.compEnvC scope cl C X.env) fp) W0 fe))
    (hc : X.calm = true := by rfl) (hy : X.N[i]? = some y := by rfl) (hyl : X.env.scope.names.lookup y = some .local := by rfl)
    (hsw : swapsWith (.ListComp elt [⟨tg, iter, ifs, 0⟩] scope pos) (some (.Name y py)) spos.line X.env = pure true := by exact sw_true rfl rfl rfl (by decide +kernel)) (hs : ∀ x, foldedSetIterable iter X.env x = pure x := by intro _; rfl) :
    PS X (.Assign [.Name y py] (.ListComp elt [⟨tg, iter, ifs, 0⟩] scope pos) spos) (lS X W (sAsg (eComp nm it gm ft fe (own.map (·.2))) (AVL.gName i))) := by
  refine ps_imp (ps_setLc (tt := lT X W0 ft) (te := lE X W0 fe) hc hN hy hyl hsw hi ok hg (fun s H C cl fp => ht s H C cl fp) (fun s H C cl fp => he s H C cl fp) hs) fun D σ H ⟨ρ, F, sl, h, rs, rh, o⟩ => ?_
  refine comp_in hgo ⟨ρ, F, sl, h, rs, rh, Out.bindS (R := RV X.K X.mg) o rs fun x h1 ρ1 F1 H1 v ex rh1 rv o1 => ?_⟩
  exact o1 ρ1 F1 H1 _ (Ext.refl _ _ _) rh1 ((rs.ext ex).set i rv)
theorem rtsNil : PTs X [] (lT X W tTrue) := ⟨fun pins s σ H Q I ⟨ρ, F, sl, h, rs, rh, o⟩ => pts_nil.run pins s σ H Q I (Out.now (R := RT) o rh rfl)⟩
theorem rtsOne {c : Expr} (h : PT X c (lT X W ft)) : PTs X [c] (lT X W ft) := pts_one h
end
end AVL

namespace AVL
open PySem PySem.Spec L2
/-! ### own exceptions, one or two fields -/
def spX1 (C : Addr) (f : Str) : Sp := fun vs H Q _ => ∃ a v, vs = [.ref a, v] ∧ H a = some (exo a C none) ∧ ∀ d, H d = none → d ≠ a → Q .non (upd (upd H d (exd d [(f, v)])) a (exo a C (some d)))
def spX2 (C : Addr) (f g : Str) : Sp := fun vs H Q _ => ∃ a v w, vs = [.ref a, v, w] ∧ H a = some (exo a C none) ∧ ∀ d, H d = none → d ≠ a → Q .non (upd (upd (upd H d (exd d [(f, v)])) a (exo a C (some d))) d (exd d [(g, w), (f, v)]))
section
variable {P : Program} {w : World} {K : PySem.W.Frag} {mg : Str → Option Value} {base : Heap} {n qual f g s p q : Str} {params : Arguments} {body : List Stmt} {scope : Scope} {fI C : Addr} {fd : FuncData} {p1 p2 p3 p4 p5 p6 p7 p8 : Pos}
theorem exc1_ok (F : FunD K n qual params body scope [] [] fI fd) (S : FnScope [s, p] [s, p] scope) (hb : body = [.Assign [.Attribute (.Name s p1) f p2] (.Name p p3) p4]) (T : OexC K C) (hno : PySem.W.findIn K (.ref C) f = some none)
    (v1 : Vis scope s) (v2 : Vis scope p) (d1 : (s == ("__debug__" : Str)) = false := by decide) (d2 : (s == ("__classdict__" : Str)) = false := by decide) (d3 : (p == ("__debug__" : Str)) = false := by decide) (d4 : (p == ("__classdict__" : Str)) = false := by decide) : FnOk P w K mg base CX0 1 fI fd [s, p] (spX1 C f) := by
  subst hb
  refine F.ok (k := 0) S (fun vs H Q E h => ?_) fun cdv A outer sh H vs Q E hr h => ⟨_, pss_one (ps_ost (pe_var (i := 0) rfl v1 d1 d2) (pe_var (i := 1) rfl v2 d3 d4) rfl), ?_⟩
  · obtain ⟨a, v, rfl, _⟩ := h; rfl
  · obtain ⟨a, v, rfl, h1, h2⟩ := h
    exact ⟨v, rfl, .ref a, rfl, a, C, rfl, T, hno, .inl ⟨h1, h2⟩⟩
theorem exc2_ok (F : FunD K n qual params body scope [] [] fI fd) (S : FnScope [s, p, q] [s, p, q] scope) (hb : body = [.Assign [.Attribute (.Name s p1) f p2] (.Name p p3) p4, .Assign [.Attribute (.Name s p5) g p6] (.Name q p7) p8]) (T : OexC K C) (hno : PySem.W.findIn K (.ref C) f = some none) (hno2 : PySem.W.findIn K (.ref C) g = some none)
    (v1 : Vis scope s) (v2 : Vis scope p) (v3 : Vis scope q) (d1 : (s == ("__debug__" : Str)) = false := by decide) (d2 : (s == ("__classdict__" : Str)) = false := by decide) (d3 : (p == ("__debug__" : Str)) = false := by decide) (d4 : (p == ("__classdict__" : Str)) = false := by decide) (d5 : (q == ("__debug__" : Str)) = false := by decide) (d6 : (q == ("__classdict__" : Str)) = false := by decide) : FnOk P w K mg base CX0 1 fI fd [s, p, q] (spX2 C f g) := by
  subst hb
  refine F.ok (k := 0) S (fun vs H Q E h => ?_) fun cdv A outer sh H vs Q E hr h => ⟨_, pss_cons (ps_ost (pe_var (i := 0) rfl v1 d1 d2) (pe_var (i := 1) rfl v2 d3 d4) rfl) (pss_one (ps_ost (pe_var (i := 0) rfl v1 d1 d2) (pe_var (i := 2) rfl v3 d5 d6) rfl)), ?_⟩
  · obtain ⟨a, v, w, rfl, _⟩ := h; rfl
  · obtain ⟨a, v, w, rfl, h1, h2⟩ := h
    refine ⟨v, rfl, .ref a, rfl, a, C, rfl, T, hno, .inl ⟨h1, fun d hd ne => ?_⟩⟩
    exact ⟨w, rfl, .ref a, rfl, a, C, rfl, T, hno2, .inr ⟨d, [(f, v)], upd_same, by rw [upd_ne ne]; exact upd_same, by simp, h2 d hd ne⟩⟩
end
/-- the class x of own exceptions, its fields -/
def HasX (P : Program) (w : World) (K : PySem.W.Frag) (mg : Str → Option Value) (base : Heap) (x : Str) (fs : List Str) : Prop :=
  ∃ C fI fd, ∃ ps : List Str, mg x = some (.ref C) ∧ OexC K C ∧ PySem.W.findIn K (.ref C) "__init__" = some (some (.ref fI)) ∧ PySem.W.typeIn K (.ref fI) = some (.type "function") ∧ Binds K fd ps [] ∧
    match fs with
    | [f] => FnOk P w K mg base CX0 1 fI fd ps (spX1 C f)
    | [f, g] => FnOk P w K mg base CX0 1 fI fd ps (spX2 C f g)
    | _ => False
def sRaise (c : Str) (ks : List Str) (fa : AM) : SM := fun sl h => (fa sl h).toS sl fun xs h1 => if xs.length = ks.length then .exc c ks.reverse xs.reverse sl h1 else .stuck
section
variable {X : Cx} {W : WX} {fa : AM} {e : Expr} {es : List Expr} {x : Str} {p pos pos2 : Pos} {ks : List Str}
theorem upd_del {H : Hp} {a d : Addr} {o u v z : HO} (ha : H a = none) (hne : d ≠ a) : upd (del (upd (upd (upd H a o) d u) a v) a) d z = upd H d z := by
  funext b
  by_cases hd : b = d
  · rw [hd, upd_same, upd_same]
  · rw [upd_ne hd, upd_ne hd]
    by_cases hb : b = a
    · rw [hb, del_same, ha]
    · rw [del_ne hb, upd_ne hb, upd_ne hd, upd_ne hb]
theorem upd_del2 {H : Hp} {a d : Addr} {o u v y z : HO} (ha : H a = none) (hne : d ≠ a) : upd (del (upd (upd (upd (upd H a o) d u) a v) d y) a) d z = upd H d z := by
  funext b
  by_cases hd : b = d
  · rw [hd, upd_same, upd_same]
  · rw [upd_ne hd, upd_ne hd]
    by_cases hb : b = a
    · rw [hb, del_same, ha]
    · rw [del_ne hb, upd_ne hd, upd_ne hb, upd_ne hd, upd_ne hb]
theorem rx_new {ρ : List Addr} {F H : Hp} {h : AH} {d C : Addr} {ks : List Str} {l : List AV} {fs : List (Str × V)} {c : Str} {D : Ends} {σ : L2.St} {sl : SL} (rh : RH X.K X.mg ρ F h H) (rs : RSl X.K X.mg ρ F sl σ) (hd : H d = none) (em : X.mg c = some (.ref C)) (ek : fs.map (·.1) = ks) (r : RVs X.K X.mg ρ F l (fs.map (·.2)))
    (o : OutS X.K X.mg ρ F H (.exc c ks l sl h) D W) : W (.ref C) (some d) σ (upd H d (.xd fs)) :=
  o ρ (upd F d (.xd fs)) _ σ C (some d) (ext_frz rh hd) (rh_frz rh hd) (rs.ext (ext_frz (o := .xd fs) rh hd)) em ⟨d, fs, rfl, upd_same, ek, r.ext (ext_frz (o := .xd fs) rh hd)⟩
theorem rsRaise (G : HasX X.prog X.w X.K X.mg X.base x ks) (hr : Room 2 X.A) (tk : Takes X W) (ha : PA X (e :: es) (lA X W fa)) (hc : X.calm = true := by rfl) (hg : Gl X x := by rfl) (hdb : (x == ("__debug__" : Str)) = false := by decide)
    (he : starEach (e :: es) X.env = (false, eval e X.env) :: starEach es X.env := by rfl) (hpl : (backTo pos (starEach es X.env)).any (·.1) = false := by rfl) :
    PS X (.Raise (some (.Call (.Name x p) (e :: es) [] pos)) none pos2) (lS X W (sRaise x ks fa)) := by
  obtain ⟨C, fI, fd, ps, hm, T, iC, tI, hb, hF⟩ := G
  match ks, hF with
  | [f], hF =>
    refine ps_imp (ps_raise hc tk (pmk_oex (dvs := []) T iC tI hF hr hb .nil pass0 hg hm ha hdb he hpl)) fun D σ H ⟨ρ, F, sl, h, rs, rh, o⟩ => ?_
    refine ⟨ρ, F, sl, h, rs, rh, Out.bindS (R := RVs X.K X.mg) o rs fun xs h1 ρ1 F1 H1 vs ex rh1 rv o1 => ?_⟩
    split at o1
    case isFalse => exact o1.elim
    rename_i hl
    match xs, hl with
    | [y], _ =>
      obtain ⟨v, rfl, r⟩ := rv.one
      refine ⟨by simp, fun a hna => ⟨a, v, rfl, upd_same, fun d hd ne => ⟨rfl, d, [(f, v)], upd_same, by rw [upd_ne ne]; exact upd_same, by rw [upd_ne ne] at hd; exact hd, ?_⟩⟩⟩
      rw [upd_del hna ne]
      rw [upd_ne ne] at hd
      exact rx_new rh1 (rs.ext ex) hd hm rfl (by simpa using rv) o1
  | [f, g], hF =>
    refine ps_imp (ps_raise hc tk (pmk_oex (dvs := []) T iC tI hF hr hb .nil pass0 hg hm ha hdb he hpl)) fun D σ H ⟨ρ, F, sl, h, rs, rh, o⟩ => ?_
    refine ⟨ρ, F, sl, h, rs, rh, Out.bindS (R := RVs X.K X.mg) o rs fun xs h1 ρ1 F1 H1 vs ex rh1 rv o1 => ?_⟩
    split at o1
    case isFalse => exact o1.elim
    rename_i hl
    match xs, hl with
    | [y, z], _ =>
      obtain ⟨v, w, rfl, r, r2⟩ := rv.two
      refine ⟨by simp, fun a hna => ⟨a, v, w, rfl, upd_same, fun d hd ne => ⟨rfl, d, [(g, w), (f, v)], by rw [upd_ne (Ne.symm ne)]; exact upd_same, upd_same, by rw [upd_ne ne] at hd; exact hd, ?_⟩⟩⟩
      rw [upd_del2 hna ne]
      rw [upd_ne ne] at hd
      exact rx_new rh1 (rs.ext ex) hd hm rfl (.cons r2 (.cons r .nil)) o1
end
end AVL

namespace AVL
open PySem PySem.Spec L2
section
variable {X : Cx} {W : WX} {fa fb fc : EM} {a b c e : Expr} {x : Str} {pos : Pos} {ga : AM}
theorem rTyp {n : String} (hm : X.mg x = none) (hv : bootBuiltins x = some (.type n)) (hg : Gl X x := by rfl) (hn : x ≠ "__name__" := by decide) (hd : (x == ("__debug__" : Str)) = false := by decide) : PE X (.Name x pos) (lE X W (eC (.ty n))) :=
  rC (pe_bltn (v := .ty n) hg hm hv rfl hn hd) fun _ _ => by simp [RV]
/-- a op b op' c -/
def eChain (m m' : AV → AV → AH → Res AV) (fa fb fc : EM) : EM := fun sl h => (fa sl h).bind fun x h1 => (fb sl h1).bind fun y h2 => (m x y h2).bind fun z h3 => match z with
  | .bl k => if k then (fc sl h3).bind fun w h4 => m' y w h4 else .ok (.bl false) h3
  | _ => .stuck
theorem chain_in {m m' : AV → AV → AH → Res AV} {σ : L2.St} {H : Hp} {Q : VK} (c : Calm m) (c' : Calm m') (o : lE X W (eChain m m' fa fb fc) σ H Q) :
    tChain (fun v w H Q => ∃ ρ F x y h, RV X.K X.mg ρ F x v ∧ RV X.K X.mg ρ F y w ∧ RH X.K X.mg ρ F h H ∧ Out X.K X.mg (RV X.K X.mg) ρ F H (m x y h) Q fun _ _ _ => False)
      (fun v w H Q => ∃ ρ F x y h, RV X.K X.mg ρ F x v ∧ RV X.K X.mg ρ F y w ∧ RH X.K X.mg ρ F h H ∧ Out X.K X.mg (RV X.K X.mg) ρ F H (m' x y h) Q fun _ _ _ => False) (lE X W fa) (lE X W fb) (lE X W fc) σ H Q := by
  obtain ⟨ρ, F, sl, h, rs, rh, o⟩ := o
  refine ⟨ρ, F, sl, h, rs, rh, Out.bind (R := RV X.K X.mg) o fun x h1 ρ1 F1 H1 v e1 rh1 rv1 o1 => ?_⟩
  refine ⟨ρ1, F1, sl, h1, rs.ext e1, rh1, Out.bind (R := RV X.K X.mg) o1 fun y h2 ρ2 F2 H2 w e2 rh2 rv2 o2 => ?_⟩
  refine ⟨ρ2, F2, x, y, h2, rv1.ext e2, rv2, rh2, ?_⟩
  have oc : (m x y h2).calm := c x y h2
  cases q : m x y h2 with
  | stuck => rw [q] at o2; exact o2.elim
  | exc _ _ _ _ => rw [q] at oc; exact oc.elim
  | ok z h3 =>
    rw [q] at o2
    intro ρ3 F3 H3 v3 e3 rh3 rv3
    have o3 := Out.ext o2 e3
    simp only [Res.bind] at o3
    cases z with
    | bl k =>
      refine ⟨k, rv3.bl, ?_⟩
      cases k with
      | true => exact iteT ⟨ρ3, F3, sl, h3, ((rs.ext e1).ext e2).ext e3, rh3, Out.bind (R := RV X.K X.mg) o3 fun w' h4 ρ4 F4 H4 v4 e4 rh4 rv4 o4 => ⟨ρ4, F4, y, w', h4, (rv2.ext e3).ext e4, rv4, rh4, Out.calm o4 (c' y w' h4)⟩⟩
      | false => exact iteF (o3.now rh3 (by simp [RV]))
    | _ => exact o3.elim
theorem rChain {op op' : CmpOp} {m m' : AV → AV → AH → Res AV} (ho : OpOk X (compareOp op) m) (c1 : Calm m) (ho' : OpOk X (compareOp op') m') (c2 : Calm m') (ha : PE X a (lE X W fa)) (hb : PE X b (lE X W fb)) (hc : PE X c (lE X W fc))
    (hm : lastMarks [op, op'] [b, c] = false := by with_unfolding_all rfl) : PE X (.Compare a [op, op'] [b, c] pos) (lE X W (eChain m m' fa fb fc)) := pe_imp (pe_chain ho ho' ha hb hc hm) fun σ H Q o => chain_in c1 c2 o
theorem rtChain {op op' : CmpOp} {m m' : AV → AV → AH → Res AV} (ho : OpOk X (compareOp op) m) (c1 : Calm m) (ho' : OpOk X (compareOp op') m') (c2 : Calm m') (ha : PE X a (lE X W fa)) (hb : PE X b (lE X W fb)) (hc : PE X c (lE X W fc))
    (hm : lastMarks [op, op'] [b, c] = false := by with_unfolding_all rfl) : PT X (.Compare a [op, op'] [b, c] pos) (lT X W (tV (eChain m m' fa fb fc))) := pt_imp (pt_chain ho ho' ha hb hc hm) fun σ H Q o => by
  obtain ⟨ρ, F, sl, h, rs, rh, o⟩ := tV_val o
  exact chain_in c1 c2 ⟨ρ, F, sl, h, rs, rh, o⟩
theorem mI_calm' {c g} : Calm (mI c g) := mI_calm
/-- three names at once -/
theorem rsPar3 {i j l : Nat} {x y z : Str} {px py pz pt : Pos} {kt k2 pt2} (hN : X.N.Nodup) (ha : PA X [a, b, c] (lA X W ga)) (hc : X.calm = true := by rfl) (hi : X.N[i]? = some x := by rfl) (hj : X.N[j]? = some y := by rfl) (hl : X.N[l]? = some z := by rfl) (hij : i ≠ j := by decide) (hil : i ≠ l := by decide) (hjl : j ≠ l := by decide)
    (hx : X.env.scope.names.lookup x = some .local := by rfl) (hy : X.env.scope.names.lookup y = some .local := by rfl) (hz : X.env.scope.names.lookup z = some .local := by rfl)
    (hw : swappedStores [.Tuple [.Name x px, .Name y py, .Name z pz] kt pt] (.Tuple [a, b, c] k2 pt2) X.env = pure (some [x, y, z]) := by rfl)
    (hs : swapsWithSole [.Tuple [.Name x px, .Name y py, .Name z pz] kt pt] (.Tuple [a, b, c] k2 pt2) pos.line X.env = pure false := by rfl) :
    PS X (.Assign [.Tuple [.Name x px, .Name y py, .Name z pz] kt pt] (.Tuple [a, b, c] k2 pt2) pos) (lS X W (sPar [i, j, l] ga)) := by
  refine ps_imp (ps_par3 hc hN hi hj hl hij hil hjl hx hy hz ha hw hs) fun D σ H ⟨ρ, F, sl, h, rs, rh, o⟩ => ⟨ρ, F, sl, h, rs, rh, Out.bindS (R := RVs X.K X.mg) o rs fun xs h1 ρ1 F1 H1 vs ex rh1 rv o1 => ?_⟩
  split at o1
  · rename_i hl'
    match xs, hl' with
    | [u, w, t], _ =>
      simp only [RVs] at rv
      obtain ⟨v1, r1, e1, a1, v2, r2, e2, a2, v3, r3, e3, a3, e4⟩ := rv
      subst e4; subst e3; subst e2; subst e1
      exact ⟨v1, v2, v3, rfl, o1 _ _ _ _ (Ext.refl _ _ _) rh1 ((((rs.ext ex).set i a1).set j a2).set l a3)⟩
  · exact o1.elim
end
theorem bb_len : bootBuiltins "len" = some (.builtin "len") := by decide +kernel
theorem bb_abs : bootBuiltins "abs" = some (.builtin "abs") := by decide +kernel
theorem bb_isinstance : bootBuiltins "isinstance" = some (.builtin "isinstance") := by decide +kernel
theorem bb_all : bootBuiltins "all" = some (.builtin "all") := by decide +kernel
theorem bb_any : bootBuiltins "any" = some (.builtin "any") := by decide +kernel
theorem bb_repr : bootBuiltins "repr" = some (.builtin "repr") := by decide +kernel
theorem bb_sum : bootBuiltins "sum" = some (.builtin "sum") := by decide +kernel
theorem bb_max : bootBuiltins "max" = some (.builtin "max") := by decide +kernel
theorem bb_min : bootBuiltins "min" = some (.builtin "min") := by decide +kernel
theorem bb_sorted : bootBuiltins "sorted" = some (.builtin "sorted") := by decide +kernel
theorem bb_int : bootBuiltins "int" = some (.type "int") := by decide +kernel
theorem bb_str : bootBuiltins "str" = some (.type "str") := by decide +kernel
theorem bb_bool : bootBuiltins "bool" = some (.type "bool") := by decide +kernel
theorem bb_list : bootBuiltins "list" = some (.type "list") := by decide +kernel
theorem bb_tuple : bootBuiltins "tuple" = some (.type "tuple") := by decide +kernel
theorem bb_dict : bootBuiltins "dict" = some (.type "dict") := by decide +kernel
theorem bb_set : bootBuiltins "set" = some (.type "set") := by decide +kernel
theorem takes0 {X : Cx} : Takes X W0 := fun _ _ ⟨_, _, _, _, _, _, _, _, _, _, _, _, _, _, _, _, w⟩ => w.elim
end AVL

namespace AVL
open PySem PySem.Spec PySem.Calls L2 LamX PyProof.Rows
open PySem.W (tabObj)
/-! ### lambdas: without parameters, or with parameters that all have a default -/
def lmFd (q : Str) (pa : Arguments) (bd : Expr) (sc : Scope) (cl : List (Str × Addr)) (dV pm cdv ctv : Value) : FuncData := { PySem.W.kla_fn "<lambda>" q pa bd sc cl pm cdv ctv with defaults := dV }
def lmO (q : Str) (pa : Arguments) (bd : Expr) (sc : Scope) (cl : List (Str × Addr)) (dV pm cdv ctv : Value) : Obj := { cls := .type "function", data := .func (lmFd q pa bd sc cl dV pm cdv ctv) }
section
variable {M : Model} {A : Around} {E : Value → Shared → Prop} {s : Shared} {q : Str} {pa : Arguments} {bd : Expr} {sc : Scope} {en : Env} {cA PA' : Addr} {tb : Array Value} {po : Pos} {ln : Nat} {gm : Str → Option Value} {cl : List (Str × Addr)} {Q : Value → Shared → Prop} {dV : Value}
theorem lm_tail (e1 : closureFor sc en = pure cl) (e2 : en.globals = mainGlobals) (e3 : s.heap.Ns mainGlobals gm) (e4 : en.code = .ref cA) (e5 : PySem.W.CodeHd s.heap cA PA') (e6 : s.heap.get? PA' = some (tabObj tb)) (e7 : TriplesOk tb.toList) (e8 : mainGlobals ≠ PA') (e9 : s.heap.BuiltinsAt gm PA')
    (new : codeAmong po tb.toList = none → ∀ c' ctv g tk, Heap.ExtBut PA' s.heap g → s.heap.objs.size ≤ c' → c' < g.objs.size → g.CodeRec (.ref c') q → g.get? PA' = some (tabObj (tb ++ #[rawInt po.line, rawInt po.col, .ref c'])) →
      Q (.ref g.objs.size) { s with heap := g.push (lmO q pa bd sc cl dV ((gm "__name__").getD .none) (.ref c') ctv), toks := tk })
    (hit : ∀ cv, codeAmong po tb.toList = some cv → ∀ (ctv : Value) (g : Heap) (tk : Tok), (∀ b o, s.heap.get? b = some o → g.get? b = some o) → s.heap.objs.size ≤ g.objs.size →
      Q (.ref g.objs.size) { s with heap := g.push (lmO q pa bd sc cl dV ((gm "__name__").getD .none) cv ctv), toks := tk }) :
    wpAny M A (makeTail "<lambda>" q pa (.expr bd) sc en dV .none none po ln) Q E s := by
  obtain ⟨bm, ob, f1, f2, _, f3, f4, f5, f6, f7⟩ := e9
  unfold makeTail
  rw [e1, e2]
  refine wpAny_bind (wpAny_pure ?_)
  have kp : ∀ oT : Obj, ∀ b o, s.heap.get? b = some o → (s.heap.push oT).get? b = some o := fun oT b o z => Heap.get?_push_of_some _ z
  have sz : ∀ oT : Obj, s.heap.objs.size ≤ (s.heap.push oT).objs.size := fun oT => by rw [Heap.size_push]; omega
  cases hc : codeAmong po tb.toList with
  | none =>
    cases cl with
    | nil =>
      simp only [List.isEmpty_nil, if_true]
      refine wpAny_bind (wpAny_pure ?_)
      refine wpAny_bind ?_
      refine wpAny_functionCodeX e4 (e5.code e6 e7) (e5.tab e6) hc fun c' g tk hx hge hlt _ hrec htb _ => ?_
      have gg := e3.extBut hx e8
      refine wpAny_bind ?_
      refine wpAny_builtinsFor gg f1 f2 (hx _ _ f3 f4) f5 f6 f7 ?_
      refine wpAny_bind ?_
      refine wpAny_nsGet gg ?_
      refine wpAny_bind (wpAny_pure ?_)
      exact wpAny_newObj_type (new hc c' .none g tk hx hge hlt hrec htb.2) (by size_fits)
    | cons y ys =>
      simp only [List.isEmpty_cons, Bool.false_eq_true, if_false]
      refine wpAny_bind (wpAny_newTextTuple ?_)
      refine wpAny_bind ?_
      refine wpAny_functionCodeX e4 ((e5.keeps (kp _)).code (kp _ _ _ e6) e7) ((e5.keeps (kp _)).tab (kp _ _ _ e6)) hc fun c' g tk hx hge hlt _ hrec htb _ => ?_
      have gg := (e3.push _).extBut hx e8
      have hx2 : Heap.ExtBut PA' s.heap g := fun b o nb z => hx b o nb (kp _ _ _ z)
      have hge2 : s.heap.objs.size ≤ c' := Nat.le_trans (sz _) hge
      refine wpAny_bind ?_
      refine wpAny_builtinsFor gg f1 f2 (hx2 _ _ f3 f4) f5 f6 f7 ?_
      refine wpAny_bind ?_
      refine wpAny_nsGet gg ?_
      refine wpAny_bind (wpAny_pure ?_)
      exact wpAny_newObj_type (new hc c' _ g tk hx2 hge2 hlt hrec htb.2) (by size_fits)
  | some cv =>
    cases cl with
    | nil =>
      simp only [List.isEmpty_nil, if_true]
      refine wpAny_bind (wpAny_pure ?_)
      refine wpAny_bind ?_
      refine wpAny_functionCode_hit e4 (e5.code e6 e7) hc ?_
      refine wpAny_bind ?_
      refine wpAny_builtinsFor e3 f1 f2 f4 f5 f6 f7 ?_
      refine wpAny_bind ?_
      refine wpAny_nsGet e3 ?_
      refine wpAny_bind (wpAny_pure ?_)
      exact wpAny_newObj_type (hit cv hc .none s.heap s.toks (fun _ _ z => z) (Nat.le_refl _)) (by size_fits)
    | cons y ys =>
      simp only [List.isEmpty_cons, Bool.false_eq_true, if_false]
      refine wpAny_bind (wpAny_newTextTuple ?_)
      refine wpAny_bind ?_
      refine wpAny_functionCode_hit e4 ((e5.keeps (kp _)).code (kp _ _ _ e6) e7) hc ?_
      refine wpAny_bind ?_
      refine wpAny_builtinsFor (e3.push _) f1 f2 (kp _ _ _ f4) f5 f6 f7 ?_
      refine wpAny_bind ?_
      refine wpAny_nsGet (e3.push _) ?_
      refine wpAny_bind (wpAny_pure ?_)
      exact wpAny_newObj_type (hit cv hc _ _ s.toks (kp _) (sz _)) (by size_fits)
end
section
variable {X : Cx} {pins : List (Addr × Obj)} {σ : L2.St} {H HZ : Hp} {s s1 : Shared}
theorem lm_made {T : List (Addr × Str)} {cA PA' : Addr} {pa : Arguments} {bd : Expr} {sc : Scope} {po : Pos} {E Q : Value → Shared → Prop} {dV : Value} (I : Inv X pins σ H s) (TB : TabB X.base X.mg cA PA') (e4 : X.env.code = .ref cA)
    (hm : (PA', X.env.qual ++ "<lambda>") ∈ T) (hu : ∀ p ∈ T, p.1 = PA' → p.2 = X.env.qual ++ "<lambda>") (hT : Tabs T H) (hfree : ∀ y ∈ sc.names, y.2 = .free → ∃ c, X.env.cells.lookup y.1 = some c)
    (h : ∀ (f c' : Addr) (pm ctv : Value) (H1 : Hp) (s' : Shared), Inv X pins σ H1 s' → ExtN H H1 → Tabs T H1 → (∀ b o, b ≠ PA' → s.heap.get? b = some o → s'.heap.get? b = some o) → (∀ b, H b = none → s.heap.get? b ≠ none → H1 b = none) →
      s'.heap.get? f = some (lmO (X.env.qual ++ "<lambda>") pa bd sc (cloFrom X.env.cells sc.names []) dV pm (.ref c') ctv) → H1 f = none → f ∉ frs X.stack → H1 c' = some (CodeO c' (X.env.qual ++ "<lambda>")) → Q (.ref f) s') :
    wpAny (model X.prog X.w) X.A (makeTail "<lambda>" (X.env.qual ++ "<lambda>") pa (.expr bd) sc X.env dV .none none po po.line) Q E s := by
  obtain ⟨tb, hP, ht, ha⟩ := hT _ hm
  have eP : s.heap.get? PA' = some (tabObj tb) := I.hok PA' _ hP
  have out : ∀ f, s.heap.objs.size ≤ f → f ∉ frs X.stack := fun f hf z => by
    rcases List.mem_cons.mp (I.stkSub _ z) with e | e
    · have lt := I.lt
      rw [← e] at lt
      exact Nat.lt_irrefl _ (Nat.lt_of_lt_of_le lt hf)
    · exact I.nofs hf e
  refine lm_tail (gm := X.mg) (cA := cA) (PA' := PA') (tb := tb) (closure_ok hfree) I.ok.glob (I.mod.glob.keeps I.bk) e4 (TB.code.keeps I.bk) eP ht TB.gP (TB.bm.keeps I.bk) (fun hc c' ctv g tk hx hge hlt hrec htb => ?_) fun cv hc ctv g tk hx hsz => ?_
  · obtain ⟨c2, oc, vs, t, z2, hoc, hd, hv⟩ := hrec
    cases z2
    have hsz : s.heap.objs.size ≤ g.objs.size := Nat.le_trans hge (Nat.le_of_lt hlt)
    have nC : H c' = none := I.hok.fresh hge
    have I1 := inv_table (t' := tk) (more := #[rawInt po.line, rawInt po.col, .ref c']) (h' := g.push (lmO (X.env.qual ++ "<lambda>") pa bd sc (cloFrom X.env.cells sc.names []) dV ((X.mg "__name__").getD .none) (.ref c') ctv)) I hP
      (fun b o nb z => Heap.get?_push_of_some _ (hx b o nb z)) (Heap.get?_push_of_some _ htb) hge ⟨oc, vs, t, Heap.get?_push_of_some _ hoc, hd, hv⟩
    have hE : ExtN H (upd (upd H PA' (.tbl (tb ++ #[rawInt po.line, rawInt po.col, .ref c']))) c' (CodeO c' (X.env.qual ++ "<lambda>"))) := fun b o z n => by
      rw [upd_ne (ne_of_none z nC), upd_ne (fun y => n tb (Option.some.inj (z.symm.trans (by rw [y]; exact hP))))]
      exact z
    have nl : (tb ++ #[rawInt po.line, rawInt po.col, .ref c']).toList = tb.toList ++ [rawInt po.line, rawInt po.col, .ref c'] := by simp
    refine h g.objs.size c' ((X.mg "__name__").getD .none) ctv _ _ I1 hE (fun p hp => ?_) (fun b o nb z => Heap.get?_push_of_some _ (hx b o nb z)) (fun b z hs => ?_) (Heap.get?_push_size _ rfl) ?_ (out _ hsz) upd_same
    · by_cases hb : p.1 = PA'
      · rw [hu p hp hb, hb]
        refine ⟨_, by rw [upd_ne (ne_of_none hP nC), upd_same], by rw [nl]; exact PySem.TriplesOk_snoc _ _ _ _ ht, fun p' cv z => ?_⟩
        rw [nl] at z
        rcases among_app _ ht z with y | y
        · obtain ⟨c0, y1, y2⟩ := ha p' cv y
          exact ⟨c0, y1, hE _ _ y2 codeO_ne⟩
        · exact ⟨c', y, upd_same⟩
      · obtain ⟨tb2, y1, y2, y3⟩ := hT p hp
        refine ⟨tb2, by rw [upd_ne (ne_of_none y1 nC), upd_ne hb]; exact y1, y2, fun p' cv z => ?_⟩
        obtain ⟨c0, w1, w2⟩ := y3 p' cv z
        exact ⟨c0, w1, hE _ _ w2 codeO_ne⟩
    · have n1 : b ≠ c' := fun y => by
        rw [y] at hs
        cases hq : s.heap.get? c' with
        | none => exact hs hq
        | some o => exact Nat.lt_irrefl _ (Nat.lt_of_lt_of_le (Heap.lt_size hq) hge)
      have n2 : b ≠ PA' := fun y => by rw [y, hP] at z; cases z
      rw [upd_ne n1, upd_ne n2]; exact z
    · have n1 : g.objs.size ≠ c' := Nat.ne_of_gt hlt
      have n2 : g.objs.size ≠ PA' := Nat.ne_of_gt (Nat.lt_of_lt_of_le (Heap.lt_size eP) hsz)
      rw [upd_ne n1, upd_ne n2]
      exact I.hok.fresh hsz
  · obtain ⟨c', z, hco⟩ := ha po cv hc
    subst z
    have I1 : Inv X pins σ H { s with heap := g.push (lmO (X.env.qual ++ "<lambda>") pa bd sc (cloFrom X.env.cells sc.names []) dV ((X.mg "__name__").getD .none) (.ref c') ctv), toks := tk } := I.kept fun b o y => Heap.get?_push_of_some _ (hx b o y)
    exact h g.objs.size c' ((X.mg "__name__").getD .none) ctv H _ I1 (ExtN.refl H) hT (fun b o _ y => Heap.get?_push_of_some _ (hx b o y)) (fun b y _ => y) (Heap.get?_push_size _ rfl) (I.hok.fresh hsz) (out _ hsz) hco
/-- the names of such a lambda: captured ones, globals, and parameters that the maker has not -/
structure LmS (N : List Str) (sc own : Scope) : Prop where
  kind : own.kind = .function
  co : own.isCoroutine = false
  gen : own.isGenerator = false
  nocell : ∀ y ∈ own.names, y.2 ≠ .cell
  loc : ∀ y ∈ own.names, y.2 = .local → y.1 ∉ N
  free : ∀ y ∈ own.names, y.2 = .free → sc.names.lookup y.1 = some .cell ∨ sc.names.lookup y.1 = some .free
def lmSB (N : List Str) (sc own : Scope) : Bool :=
  decide (own.kind = .function) && !own.isCoroutine && !own.isGenerator && own.names.all fun y => !decide (y.2 = .cell) && (!decide (y.2 = .local) || !decide (y.1 ∈ N)) && (!decide (y.2 = .free) || decide (sc.names.lookup y.1 = some .cell) || decide (sc.names.lookup y.1 = some .free))
theorem lmS_by {N : List Str} {sc own : Scope} (h : lmSB N sc own = true) : LmS N sc own := by
  unfold lmSB at h
  simp only [Bool.and_eq_true, Bool.or_eq_true, Bool.not_eq_true', decide_eq_true_eq, decide_eq_false_iff_not, List.all_eq_true] at h
  obtain ⟨⟨⟨h1, h2⟩, h3⟩, h4⟩ := h
  refine ⟨h1, h2, h3, fun y hy => (h4 y hy).1.1, fun y hy e => ?_, fun y hy e => ?_⟩
  · rcases (h4 y hy).1.2 with z | z
    · exact absurd e z
    · exact z
  · rcases (h4 y hy).2 with (z | z) | z
    · exact absurd e z
    · exact .inl z
    · exact .inr z
theorem LmS.has {X : Cx} {own : Scope} (L : LmS X.N X.env.scope own) (ok : X.Ok) : ∀ y ∈ own.names, y.2 = .free → ∃ c, X.env.cells.lookup y.1 = some c := fun y hy e =>
  ok.has _ ((L.free y hy e).elim .inl .inr)
theorem lm_start {A : Around} {outer : List Env} {E : XK} {own : Scope} {f c' : Addr} {g : Heap} {tk : Nat} {bs : Str → Option Value} (I : Inv X pins σ H s) (L : LmS X.N X.env.scope own) (e0 : Env0 X.prog X.w X.K X.mg X.base A outer s1 HZ) (hd : A.handled = none)
    (un : Un (frs X.stack) [] H HZ s.heap s1.heap) (hns : g.Ns s1.heap.objs.size bs) (kp : ∀ b o, s1.heap.get? b = some o → g.get? b = some o) :
    Inv (lamCx X A outer s1 HZ E own f c') [] σ HZ { s1 with heap := g, toks := tk } := by
  have same : ∀ {y c}, (cloFrom X.env.cells own.names []).lookup y = some c → X.env.cells.lookup y = some c := fun {y c} e => by
    rcases cloFrom_mem (PySem.mem_of_lookup e) with z | ⟨z1, z2⟩
    · cases z
    · obtain ⟨c1, hc⟩ := L.has I.ok _ z1 rfl
      have hc2 : X.env.cells.lookup y = some c1 := hc
      have ec : c = c1 := by
        rw [z2, hc2] <;> rfl
      rw [ec]; exact hc2
  have seen : ∀ {y}, own.names.lookup y = some .free → ∃ c, (cloFrom X.env.cells own.names []).lookup y = some c := fun {y} hl => mem_lookup (cloFrom_has (cells := X.env.cells) (acc := []) (PySem.mem_of_lookup hl))
  have cellK : ∀ {c : Addr} {v : Option Value}, H c = none → s.heap.IsCell c v → g.IsCell c v := fun {c v} n ⟨o, ho, hv⟩ => by
    obtain ⟨sl, y⟩ := un.any ho n (by simp)
    exact ⟨_, kp _ _ y, hv⟩
  have noA : ∀ b : Addr, b ∉ (lamCx X A outer s1 HZ E own f c').ex := fun b z => absurd (show b ∈ ([] : List Addr) from z) (by simp)
  have okk : (lamCx X A outer s1 HZ E own f c').Ok := by
    refine ⟨e0.mod, L.kind, rfl, rfl, Nat.le_refl _, fun y z c y1 y2 => I.ok.inj y z c (same y1) (same y2), fun y hy => ?_, fun y c z _ => ?_, fun _ => hd, Around.frames_deeper e0.frames, .inr ⟨rfl, rfl⟩, fun b z => absurd z (noA b), e0.bs, e0.bsz, fun b _ _ => noA b, fun b z => absurd z (noA b), e0.funs, e0.frf⟩
    · have hy2 : own.names.lookup y = some .cell ∨ own.names.lookup y = some .free := hy
      rcases hy2 with z | z
      · exact absurd rfl (L.nocell _ (PySem.mem_of_lookup z))
      · exact seen z
    · have z2 : false = true := z
      cases z2
  refine ⟨okk, rfl, e0.bare, Un.kept kp, ⟨_, hns, fun i y v y1 y2 y3 => ?_⟩, fun y c z => ?_, e0.hok.fresh (Nat.le_refl _), fun y c z => ?_, fun w hw => absurd (show w ∈ ([] : List (Addr × Obj)) ++ [] from hw) (by simp), e0.hok.kept kp, I.len⟩
  · have y4 : Vis own y := y3
    rcases y4 with k | k | k
    · exact absurd (List.mem_of_getElem? y1) (L.loc _ (PySem.mem_of_lookup k) rfl)
    · exact absurd rfl (L.nocell _ (PySem.mem_of_lookup k))
    · obtain ⟨m, _, hl⟩ := I.loc
      have up := L.free _ (PySem.mem_of_lookup k) rfl
      obtain ⟨u, r, lk⟩ := hl i y v y1 y2 (up.elim (fun k => .inr (.inl k)) (fun k => .inr (.inr k)))
      obtain ⟨c2, h2⟩ := seen k
      refine ⟨u, r, .inr ⟨.inr k, c2, h2, ?_⟩⟩
      have c1 := same h2
      rcases lk with ⟨k1, _⟩ | ⟨_, c3, z1, z2⟩
      · have k2 : X.env.scope.names.lookup y = some .local := k1
        rcases up with k3 | k3 <;> rw [show X.env.scope.names.lookup y = _ from k3] at k2 <;> cases k2
      · rw [c1] at z1
        cases z1
        exact cellK (I.freeC y _ c1) z2
  · obtain ⟨u, z2⟩ := I.cell y c (same z)
    exact ⟨u, cellK (I.freeC y c (same z)) z2⟩
  · obtain ⟨v, o, ho, _⟩ := I.cell y c (same z)
    exact un.free c o ho (I.freeC y c (same z)) (by simp)
end
end AVL

namespace AVL
open PySem PySem.Spec PySem.Calls L2 LamX PyProof.Rows
/-- how such a lambda's parameters are filled: none, or one with an int of the text -/
def LmArg (X : Cx) (pa : Arguments) (bd : Expr) (own : Scope) : Prop :=
  (defaultsOf pa X.env = ([], []) ∧ ∀ q cl pm cv ctv, bindArgs (lmFd q pa bd own cl .none pm cv ctv) ⟨[], []⟩ = pure []) ∨
  ∃ (i : Int) (k : Nat) (p : Pos) (x : Str), defaultsOf pa X.env = ([eval (.Constant (.int i) k p) X.env], []) ∧ own.names.lookup x = some .local ∧
    ∀ q cl pm cv ctv T u, ∃ kk, bindArgs (lmFd q pa bd own cl (.ref T) pm cv ctv) ⟨[], []⟩ = seqItems? (.ref T) >>= kk ∧ kk (some #[u]) = pure [(x, u)]
section
variable {X : Cx} {pins : List (Addr × Obj)} {σ : L2.St} {H : Hp} {s : Shared}
/-- f is such a lambda, made; H1, s' : behind its making -/
structure Made (X : Cx) (pa : Arguments) (bd : Expr) (own : Scope) (f c' : Addr) (H1 : Hp) (s' : Shared) : Prop where
  ob : ∃ dV pm ctv, s'.heap.get? f = some (lmO (X.env.qual ++ "<lambda>") pa bd own (cloFrom X.env.cells own.names []) dV pm (.ref c') ctv) ∧
    ∀ (HZ : Hp) (s1 : Shared), Un (frs X.stack) [] H1 HZ s'.heap s1.heap → ∃ bs, BindsTo s1 (lmFd (X.env.qual ++ "<lambda>") pa bd own (cloFrom X.env.cells own.names []) dV pm (.ref c') ctv) ⟨[], []⟩ bs ∧ ∀ y ∈ bs, own.names.lookup y.1 = some .local
  hf : H1 f = none
  hfr : f ∉ frs X.stack
theorem lm_eval {T : List (Addr × Str)} {cA PA' : Addr} {pa : Arguments} {bd : Expr} {own : Scope} {po : Pos} {E Q : Value → Shared → Prop} (I : Inv X pins σ H s) (TB : TabB X.base X.mg cA PA') (e4 : X.env.code = .ref cA)
    (hm : (PA', X.env.qual ++ "<lambda>") ∈ T) (hu : ∀ p ∈ T, p.1 = PA' → p.2 = X.env.qual ++ "<lambda>") (hT : Tabs T H) (hfree : ∀ y ∈ own.names, y.2 = .free → ∃ c, X.env.cells.lookup y.1 = some c) (ar : LmArg X pa bd own)
    (h : ∀ (f c' : Addr) (H1 : Hp) (s' : Shared), Inv X pins σ H1 s' → ExtN H H1 → Tabs T H1 → Made X pa bd own f c' H1 s' → H1 c' = some (CodeO c' (X.env.qual ++ "<lambda>")) → Q (.ref f) s') :
    wpAny (model X.prog X.w) X.A (eval (.Lambda pa bd own po) X.env) Q E s := by
  rw [arm_eval_Lambda]
  rcases ar with ⟨e1, e2⟩ | ⟨i, k, p, x, e1, hl, e2⟩
  · rw [e1]
    show wpAny _ _ (do let dv ← evalAll []; let kdv ← holding dv (evalAllOpt []); makeFunction "<lambda>" (X.env.qual ++ "<lambda>") pa (.expr bd) own X.env dv kdv [] po po.line) Q E s
    refine wpAny_bind (wpAny_pure (wpAny_bind (wpAny_holding (wpAny_pure ?_))))
    rw [makeFunction_eq]
    simp only [List.zip_nil_right, List.filterMap_nil, List.isEmpty_nil, if_true, pure_bind]
    refine lm_made I TB e4 hm hu hT hfree fun f c' pm ctv H1 s' I1 x1 t1 _ _ ho hn hfr hc => h f c' H1 s' I1 x1 t1 ⟨⟨_, pm, ctv, ho, fun HZ s1 _ => ⟨[], BindsTo.of_eq (e2 _ _ _ _ _), fun y hy => absurd hy (by simp)⟩⟩, hn, hfr⟩ hc
  · rw [e1]
    show wpAny _ _ (do let dv ← evalAll [eval (.Constant (.int i) k p) X.env]; let kdv ← holding dv (evalAllOpt []); makeFunction "<lambda>" (X.env.qual ++ "<lambda>") pa (.expr bd) own X.env dv kdv [] po po.line) Q E s
    unfold evalAll
    refine wpAny_bind (wpAny_bind (wpAny_Constant_int ?_))
    have I0 := I.tok (s.toks + 1)
    unfold evalAll
    refine wpAny_bind (wpAny_holding (wpAny_pure (wpAny_pure ?_)))
    refine wpAny_bind (wpAny_holding (wpAny_pure ?_))
    rw [makeFunction_eq]
    simp only [List.zip_nil_right, List.filterMap_nil, List.isEmpty_nil, List.isEmpty_cons, Bool.false_eq_true, if_false, if_true, pure_bind]
    refine wpAny_bind (wpAny_newTextTuple ?_)
    have I1 : Inv X pins σ H { s with heap := s.heap.push { cls := .type "tuple", data := .seq [Value.int i s.toks].toArray }, toks := s.toks + 1 } := I.kept fun b o z => Heap.get?_push_of_some _ z
    have gT : (s.heap.push { cls := .type "tuple", data := .seq [Value.int i s.toks].toArray }).get? s.heap.objs.size = some { cls := .type "tuple", data := .seq [Value.int i s.toks].toArray } := Heap.get?_push_size _ rfl
    have nT : H s.heap.objs.size = none := I.hok.fresh (Nat.le_refl _)
    have fT : s.heap.objs.size ∉ frs X.stack := fun z => by
      rcases List.mem_cons.mp (I.stkSub _ z) with e | e
      · have lt := I.lt
        rw [← e] at lt
        exact Nat.lt_irrefl _ lt
      · exact I.nofs (Nat.le_refl _) e
    have nP : s.heap.objs.size ≠ PA' := fun z => by
      obtain ⟨tb, hP, _⟩ := hT _ hm
      rw [z] at nT
      rw [show H PA' = some (.tbl tb) from hP] at nT
      cases nT
    refine lm_made I1 TB e4 hm hu hT hfree fun f c' pm ctv H1 s' I2 x1 t1 k1 k2 ho hn hfr hc => h f c' H1 s' I2 x1 t1 ⟨⟨_, pm, ctv, ho, fun HZ s1 un => ?_⟩, hn, hfr⟩ hc
    obtain ⟨kk, r1, r2⟩ := e2 (X.env.qual ++ "<lambda>") (cloFrom X.env.cells own.names []) pm (.ref c') ctv s.heap.objs.size (Value.int i s.toks)
    have at1 : s1.heap.get? s.heap.objs.size = some { cls := .type "tuple", data := .seq [Value.int i s.toks].toArray } :=
      un.keep _ _ (k1 _ _ nP gT) (k2 _ nT (by rw [gT]; simp)) fT (fun z => absurd z (by simp))
    refine ⟨[(x, Value.int i s.toks)], fun M A E Q hq => ?_, fun y hy => ?_⟩
    · rw [r1]
      refine wpAny_bind (wpAny_seqItems at1 rfl ?_)
      rw [show kk (some [Value.int i s.toks].toArray) = pure [(x, Value.int i s.toks)] from r2]
      exact wpAny_pure hq
    · have e : y = (x, Value.int i s.toks) := by simpa using hy
      rw [e]; exact hl
/-- a(), in the def that got the lambda -/
theorem lm_act {CXg : CXT} {Eg : XK} {Ng : List Str} {qg : Str} {sg : Scope} {g f c' : Addr} {cdg : Value} {pa : Arguments} {bd : Expr} {own : Scope} {k i : Nat} {a : Str} {pn : List (Addr × Obj)} {xe : Value → Shared → Prop} {W : WX} {tb : XK → TE} {p1 p2 : Pos}
    (I : Inv X pins σ H s) (L : LmS X.N X.env.scope own) (md : Made X pa bd own f c' H s)
    (tk : Takes ((cxOf CXg X.prog X.w X.K X.mg X.base Ng qg sg g cdg X.A X.stack s H Eg).tr pn xe) W) (hr : Room (k + 1) (X.A.deeper (envOfC qg sg s.heap.objs.size g cdg)))
    (gd : (X.A.deeper (envOfC qg sg s.heap.objs.size g cdg)).guards = some [])
    (hbody : ∀ (A : Around) (outer : List Env) (s : Shared) (H : Hp) (E : XK), (A.deeper (lamEnv X own s.heap.objs.size f c')).guards = some [] → Room k (A.deeper (lamEnv X own s.heap.objs.size f c')) → PE (lamCx X A outer s H E own f c') bd (tb E))
    (hN : Ng[i]? = some a) (hv : Vis sg a) (hd : (a == ("__debug__" : Str)) = false := by decide) (hcd : (a == ("__classdict__" : Str)) = false := by decide) :
    PE ((cxOf CXg X.prog X.w X.K X.mg X.base Ng qg sg g cdg X.A X.stack s H Eg).tr pn xe) (.Call (.Name a p1) [] [] p2)
      (fun σZ HZ Q => σZ[i]? = some (some (.ref f)) ∧ HZ c' = some (CodeO c' (X.env.qual ++ "<lambda>")) ∧ tb (WE W σZ) σ HZ Q) := by
  refine ⟨fun pinsZ sZ σZ HZ Q IZ h => ?_⟩
  obtain ⟨hs, hc, ht⟩ := h
  refine wpAny_Call_Name_kw (thn ((pe_var (pos := p1) (i := i) hN hv hd hcd).run pinsZ sZ σZ HZ (fun v H1 => v = .ref f ∧ H1 = HZ) IZ ⟨.ref f, hs, rfl, rfl⟩) fun u s1 ⟨v, H1, I1, r1, q1⟩ => ?_)
  obtain ⟨z1, z2⟩ := q1
  subst z1
  rw [z2] at I1
  obtain rfl : u = Value.ref f := r1
  have un : Un (frs X.stack) [] H HZ s.heap s1.heap := I1.base
  obtain ⟨dV, pm, ctv, ho, hb⟩ := md.ob
  obtain ⟨bs, bt, bl⟩ := hb HZ s1 un
  have of1 := un.keep f _ ho md.hf md.hfr (fun z => nomatch (show f ∈ ([] : List Addr) from z))
  refine PySem.W.callWith_F0 ⟨_, _, _, _, of1⟩ ?_
  obtain ⟨⟨oc, vs, t, hoc, hdc, hvc⟩, _, _⟩ := I1.hok c' _ hc
  have rc : codeAny (model X.prog X.w) (X.A.deeper (envOfC qg sg s.heap.objs.size g cdg)) (.call (.ref f) ⟨[], []⟩) (CR (L2.CX X.prog X.w) (envOfC qg sg s.heap.objs.size g cdg :: X.stack) X.prog X.w HZ s1 Q (WE W σZ)) s1 := by
    refine PySem.W.kla_callFunE hr.depth of1 rfl L.co L.gen rfl ⟨c', oc, vs, t, rfl, hoc, hdc, hvc⟩ (bt _ _ _ _ ?_)
    refine wpAny_newFunctionEnv L.nocell bl (fun h₁ hns hsb => ⟨I1.nolimit.fresh _ hsb, ?_⟩) L.kind
    show codeAny _ _ (.expr bd (lamEnv X own s1.heap.objs.size f c')) _ _
    have kp : ∀ b o, s1.heap.get? b = some o → h₁.get? b = some o := fun b o e => hsb.extBut b o (Nat.ne_of_lt (Heap.lt_size e)) (Heap.get?_push_of_some _ e)
    have J := lm_start (E := WE W σZ) (f := f) (c' := c') (tk := s1.toks + bs.length) I L I1.env0 hr.hd un hns kp
    refine PySem.W.kla_codeExpr (wpAny_mono ((hbody (X.A.deeper (envOfC qg sg s.heap.objs.size g cdg)) _ s1 HZ (WE W σZ) gd (hr.deeper _)).run [] _ _ HZ Q J ht) (fun v s' hq => ?_) fun e s' hq => hq)
    obtain ⟨w', H', J', rv, q⟩ := hq
    exact ⟨w', H', J'.os, J'.bare, J'.base, J'.hok, rv, q⟩
  refine wpAny_call (codeAny_mono rc fun r s' hq => ?_)
  cases r with
  | error e => exact passAt tk σZ pinsZ HZ s1 e s' I1 hq
  | ok fl =>
    cases fl with
    | ret u => exact I1.after hq
    | next => exact False.elim hq
    | brk => exact False.elim hq
    | cont => exact False.elim hq
end
end AVL

namespace AVL
open PySem PySem.Spec PySem.Calls L2 LamX PyProof.Rows
section
variable {X : Cx} {pins : List (Addr × Obj)} {σ : L2.St} {H : Hp} {s : Shared}
/-- an exception's object is told of from now on -/
theorem inv_adopt {a : Addr} {oe : Obj} {vs : Array Value} (I : Inv X pins σ H s) (ga : s.heap.get? a = some oe) (gd : oe.data = .fields vs) (na : H a = none) (n0 : X.s_0.heap.get? a = none) (nL : a ≠ X.env.locals) (np : ∀ p ∈ X.pn ++ pins, p.1 ≠ a) :
    Inv X pins σ (upd H a (EXV a oe.cls oe.dict)) s where
  ok := I.ok
  os := I.os
  bare := I.bare
  base := {
    keep := I.base.keep
    slot := I.base.slot
    free := fun b o e n x => by rw [upd_ne (fun z => by rw [z, n0] at e; cases e)]; exact I.base.free b o e n x
    there := I.base.there
    tups := fun b xs e => by
      have z := I.base.tups b xs e
      rw [upd_ne (ne_of_none z na)]; exact z
    frzs := fun b o xs e => by
      have z := I.base.frzs b o xs e
      rw [upd_ne (ne_of_none z na)]; exact z
    tbls := fun b ps e => by
      obtain ⟨m, z⟩ := I.base.tbls b ps e
      exact ⟨m, by rw [upd_ne (ne_of_none z na)]; exact z⟩ }
  loc := I.loc
  cell := I.cell
  free := by rw [upd_ne (Ne.symm nL)]; exact I.free
  freeC := fun x c e => by
    obtain ⟨v, o, ho, hd⟩ := I.cell x c e
    rw [upd_ne (fun z => by rw [z, ga] at ho; cases ho; rw [gd] at hd; cases hd)]
    exact I.freeC x c e
  pin := fun p hp => by
    obtain ⟨e, n, r⟩ := I.pin p hp
    exact ⟨e, by rw [upd_ne (np p hp)]; exact n, r⟩
  hok := fun b o e => by
    by_cases hb : b = a
    · rw [hb, upd_same] at e
      cases e
      rw [hb]
      refine ⟨⟨oe, vs, ga, rfl, rfl, gd⟩, ⟨oe, ga⟩, fun h1 h2 ⟨o2, v2, y1, y2, y3, y4⟩ st => ⟨o2, v2, st _ y1, y2, y3, y4⟩⟩
    · rw [upd_ne hb] at e
      exact (I.hok b o e).stay (fun _ _ _ q => q) (fun c q => by rw [upd_ne (ne_of_none q na)]; exact q) (fun c xs q => by rw [upd_ne (ne_of_none q na)]; exact q)
  len := I.len
/-- the wish of 'except x as n: y = n', the exception kept -/
def wKeep (K : PySem.W.Frag) (c : Value) (i j : Nat) (Wout : WX) (D : Ends) : WX := fun cls d σ H =>
  ∃ b, PySem.W.exmOne K cls c = some b ∧ (b = true → ∀ a, H a = none → D.nx (((σ.set i (some (.ref a))).set j (some (.ref a))).set i none) (upd H a (EXV a cls d))) ∧ (b = false → Wout cls d σ H)
end
section
variable {X : Cx} {x n y : Str} {c : Value} {i j : Nat} {body : List Stmt} {np q1 q2 q3 pos pos' : Pos} {tb : WX → TS} {Wout : WX}
theorem ps_try_keep (hs : X.stack = X.env :: X.outer) (hf : X.env.frame = some X.env.locals) (hx : X.ex = []) (hN : X.N.Nodup) (hi : X.N[i]? = some n) (hj : X.N[j]? = some y) (ij : i ≠ j) (kn : X.env.kindOf n = some .local) (ky : X.env.kindOf y = some .local) (hc : Names X x c) (tk : Takes X Wout)
    (hb : ∀ (W : WX) (pn : List (Addr × Obj)) (xe : Value → Shared → Prop), Takes (X.tr pn xe) W → PassesOwn (model X.prog X.w) X.A X.env xe → PSs (X.tr pn xe) body (tb W))
    (d1 : (n == ("__debug__" : Str)) = false := by decide) (d2 : (n == ("__classdict__" : Str)) = false := by decide) :
    PS X (.Try body [.ExceptHandler (some (.Name x np)) (some n) [.Assign [.Name y q1] (.Name n q2) q3] pos'] [] [] pos) (fun D σ H => tb (wKeep X.K c i j Wout D) D σ H) := by
  refine ⟨fun pins s σ H D I h => ?_⟩
  have ok := I.ok
  have fra : X.A.frames = some (X.env :: X.outer) := by rw [ok.frames, hs]
  let hd1 : List ExceptHandler := [.ExceptHandler (some (.Name x np)) (some n) [.Assign [.Name y q1] (.Name n q2) q3] pos']
  have run1 := (hb (wKeep X.K c i j Wout D) (X.pn ++ pins) (fun e t1 => wpAny (model X.prog X.w) X.A (noteFrame e X.env) (fun _ t2 => wpAny (model X.prog X.w) X.A (setFlight e none) (fun _ t3 => wpAny (model X.prog X.w) X.A (handleBy e X.env hd1) (SP X pins D) X.xe t3) X.xe t2) X.xe t1) (fun u t z => ?_) PassesOwn.looking).run [] s σ H D (I.toTry _) h
  · refine wpAny_Try_except (wpAny_mono run1 (fun f t1 hsp => ?_) fun e t1 he => he)
    cases f with
    | next =>
      obtain ⟨σ2, H2, J2, w⟩ := hsp
      exact wpAny_execs_nil ⟨σ2, H2, J2.ofTry ok, w⟩
    | brk =>
      obtain ⟨σ2, H2, J2, w⟩ := hsp
      exact ⟨σ2, H2, J2.ofTry ok, w⟩
    | cont =>
      obtain ⟨σ2, H2, J2, w⟩ := hsp
      exact ⟨σ2, H2, J2.ofTry ok, w⟩
    | ret u =>
      obtain ⟨v, σ2, H2, J2, r, w⟩ := hsp
      exact ⟨v, σ2, H2, J2.ofTry ok, r, w⟩
  · obtain ⟨a, B, sI, pins2, σ2, H2, cls, d, rfl, J0, nb, up, sky, na, os, ag, b, eb, yes, no⟩ := z
    have J : Inv X pins σ2 H2 sI := J0.ofTry ok
    have sky2 : Sky B (X.env :: X.outer) a (Zc cls d) X.env.locals t.heap := by rw [← hs]; exact sky
    show wpAny (model X.prog X.w) X.A (noteFrame (.ref a) X.env) _ _ _
    refine Sky.land Zc.steady fra hf sky2 fun h3 fl3 up3 => ?_
    have J3 : Inv X pins σ2 H2 { t with heap := h3 } := J.landed nb fl3.1 (up.trans up3) os ag
    obtain ⟨oe3, vs3, he3, hz3, hd3⟩ := fl3.there
    have nfr : a ∉ frs (X.env :: X.outer) := fun hm => by
      obtain ⟨_, o2, e2, n2⟩ := fl3.2.2.1.mem hm
      rw [he3] at e2; cases e2
      exact n2 _ hd3
    have nL : a ≠ X.env.locals := fun z => nfr (List.mem_filterMap.mpr ⟨X.env, List.mem_cons_self, by rw [hf, z]⟩)
    have nF : a ∉ X.fs := fun hm => by
      obtain ⟨e, he, w⟩ := List.mem_filterMap.mp hm
      exact nfr (List.mem_filterMap.mpr ⟨e, List.mem_cons_of_mem _ he, w⟩)
    have nI : sI.heap.get? a = none := by
      cases w : sI.heap.get? a with
      | none => rfl
      | some o =>
        have z := nb a o w (by rw [hs]; exact nfr)
        rw [fl3.2.1] at z; cases z
    have n0 : X.s_0.heap.get? a = none := by
      cases w : X.s_0.heap.get? a with
      | none => rfl
      | some o =>
        obtain ⟨o2, z⟩ := J.base.there a o w (by rw [hx]; simp)
        rw [nI] at z; cases z
    have npin : ∀ p ∈ X.pn ++ pins, p.1 ≠ a := fun p hp z => by
      have w := (J.pin p hp).1
      rw [z, nI] at w; cases w
    have S3 := J3.suite he3 hd3 na nL nF
    refine wpAny_handleBy_cons (codeAny_handlers_test ?_) (by intro w; cases w)
    have lt : PySem.W.Looks (model X.prog X.w) h3 (typeOf (.ref a)) cls := fun A Q E s k w => wpAny_typeOf_ref (k _ _ he3) (by rw [hz3.1]; exact w)
    have lm := PySem.W.exm_one (M := model X.prog X.w) (J3.kIn) lt eb
    have named : ∀ {Q : Value → Shared → Prop} {E : Value → Shared → Prop}, Q c { t with heap := h3 } → wpAny (model X.prog X.w) (X.A.mark (some (.ref a))) (eval (.Name x np) X.env) Q E { t with heap := h3 } := fun {Q E} w => by
      obtain ⟨hg, hdbg, hm | ⟨hm, hv, hnn⟩⟩ := hc
      · exact ld_glob (X := X.suite a ((a, oe3) :: (X.pn ++ pins))) S3 hg hm w hdbg
      · exact ld_blt (X := X.suite a ((a, oe3) :: (X.pn ++ pins))) S3 hg hm hv w hnn hdbg
    refine named (lm.here ?_)
    cases b with
    | true =>
      refine codeAny_handlers_suite_as ?_
      refine HandSPX.lands_againZ fl3 fun h4 fl4 up4 => ?_
      have J4 : Inv X pins σ2 H2 { t with heap := h4 } := J.landed nb fl4.1 ((up.trans up3).trans up4) os ag
      obtain ⟨oe4, vs4, he4, hz4, hd4⟩ := fl4.there
      have S4 := J4.suite he4 hd4 na nL nF
      refine store_ok (X := X.suite a ((a, oe4) :: (X.pn ++ pins))) (v := .ref a) S4 hN hi (.inl kn) rfl (fun s5 S5 => ?_) (.inr kn)
      have hlen : i < σ2.length := by rw [J4.len]; exact (List.getElem?_eq_some_iff.mp hi).1
      have hsu : PSs (X.suite a ((a, oe4) :: (X.pn ++ pins))) [.Assign [.Name y q1] (.Name n q2) q3] (tAsg (tVar i) (L2.gName j)) :=
        pss_one (ps_set (i := j) hN hj (.inl ky) (pe_var (X := X.suite a ((a, oe4) :: (X.pn ++ pins))) (i := i) hi (.inl kn) d1 d2) rfl (.inr ky))
      refine wpAny_mono (hsu.run [] s5 _ H2 { nx := fun σ6 H6 => σ6 = (σ2.set i (some (.ref a))).set j (some (.ref a)) ∧ H6 = H2, rt := fun _ _ => False, bk := fun _ _ => False, ct := fun _ _ => False } S5 ⟨.ref a, List.getElem?_set_self hlen, rfl, rfl⟩) (fun f s6 hsp => ?_) (fun _ _ w => False.elim w)
      cases f with
      | next =>
        obtain ⟨σ6, H6, S6, rfl, rfl⟩ := hsp
        have p6 := (S6.pin (a, oe4) (List.mem_append_left _ List.mem_cons_self)).1
        have K6 := inv_adopt (S6.unsuite ok) p6 hd4 na n0 nL npin
        rw [hz4.1, hz4.2] at K6
        exact gone_ok K6 hN hi kn fun s7 J7 => ⟨_, _, J7, yes rfl a na⟩
      | brk =>
        obtain ⟨_, _, _, w⟩ := hsp
        exact False.elim w
      | cont =>
        obtain ⟨_, _, _, w⟩ := hsp
        exact False.elim w
      | ret u =>
        obtain ⟨_, _, _, _, _, w⟩ := hsp
        exact False.elim w
    | false =>
      show wpAny _ X.A (handleBy (.ref a) X.env []) _ _ _
      refine wpAny_handleBy_nil ?_
      obtain ⟨k1, k2, k3, oe, vs, T, oT, ts', he, hz, hd, h1, hr⟩ := id fl3
      unfold PySem.passOn
      refine wpAny_bind (wpAny_field he hd h1 ?_)
      rw [if_neg (show ¬ ((Value.ref T == Value.none) = true) from by simp)]
      have fin : wpAny (model X.prog X.w) X.A (setFlight (.ref a) X.env.frame) (fun _ s4 => wpAny (model X.prog X.w) X.A (throw (.ref a) : Sem Flow) (SP X pins D) X.xe s4) X.xe { t with heap := h3 } := by
        rw [hf]
        refine HandSPX.setFlight_upZ fl3 fun h4 hh4 up4 => wpAny_throw (tk _ _ ?_)
        exact ⟨a, B, sI, pins, σ2, H2, cls, d, rfl, J, nb, (up.trans up3).trans up4, .inr (.inr (by rw [hs]; exact hh4)), na, os, ag, no rfl⟩
      first
        | exact wpAny_bind (wpAny_pure (wpAny_bind fin))
        | exact wpAny_bind fin
end
end AVL

namespace AVL
open PySem PySem.Spec PySem.Calls L2 LamX PyProof.Rows
abbrev E00 : XK := fun _ _ _ => False
/-- what a def makes of the lambda that it gets: th, the lambda's function -/
def TTr (K : PySem.W.Frag) (mg : Str → Option Value) (mf : (AH → Res AV) → AH → Res AV) : (XK → Hp → VK → Prop) → Hp → VK → Prop := fun tl H Q =>
  ∃ ρ F h th, RH K mg ρ F h H ∧ (∀ ρ1 F1 h1 H1 Q1 E1, Ext ρ F H ρ1 F1 H1 → RH K mg ρ1 F1 h1 H1 → Out K mg (RV K mg) ρ1 F1 H1 (th h1) Q1 E1 → tl E1 H1 Q1) ∧ Out K mg (RV K mg) ρ F H (mf th h) Q E00
/-- Z: the def's own context -/
def Asks (Z : Cx) (a : Str) (f c' : Addr) (q : Str) (tl : XK → Hp → VK → Prop) : Prop := ∀ (W : WX) (pn : List (Addr × Obj)) (xe : Value → Shared → Prop) (p1 p2 : Pos), Takes (Z.tr pn xe) W →
  PE (Z.tr pn xe) (.Call (.Name a p1) [] [] p2) (fun σZ HZ Q => σZ[0]? = some (some (.ref f)) ∧ HZ c' = some (CodeO c' q) ∧ tl (WE W σZ) HZ Q)
def HasL (P : Program) (w : World) (K : PySem.W.Frag) (mg : Str → Option Value) (base : Heap) (x a : Str) (mf : (AH → Res AV) → AH → Res AV) : Prop :=
  ∃ g oc od pg bg sg dV kV doc pm cdv ct an osl Ng, mg x = some (.ref g) ∧ PySem.W.keepIn K (.ref g) = true ∧ K.lookup g = some ⟨oc, od, .func (PySem.W.fnOf x x pg bg sg dV kV doc pm an cdv ct), osl⟩ ∧ PySem.W.codeIn K cdv x = true ∧
    Binds K (PySem.W.fnOf x x pg bg sg dV kV doc pm an cdv ct) [a] [] ∧ FnScope Ng [a] sg ∧ Ng[0]? = some a ∧ Vis sg a ∧
    ∀ (A : Around) (outer : List Env) (s : Shared) (H : Hp) (f c' : Addr) (q : Str) (Q : VK) (tl : XK → Hp → VK → Prop), (A.deeper (envOfC x sg s.heap.objs.size g cdv)).guards = some [] → Room 1 (A.deeper (envOfC x sg s.heap.objs.size g cdv)) → Asks (cxOf L2.CX0 P w K mg base Ng x sg g cdv A outer s H E00) a f c' q tl → H c' = some (CodeO c' q) → TTr K mg mf tl H Q →
      ∃ t, PSs (cxOf L2.CX0 P w K mg base Ng x sg g cdv A outer s H E00).nox bg t ∧ t { nx := fun _ H' => Q .non H', rt := Q } (L2.start Ng [.ref f]) H
theorem fin_out {K : PySem.W.Frag} {mg : Str → Option Value} {ρ0 ρ : List Addr} {F0 H0 F H : Hp} {h0 : AH} {kp : Bool} {r : SRes} {Q : VK} {E : XK} {σ : L2.St} (rh : RH K mg ρ0 F0 h0 H0) (o : Out K mg (RV K mg) ρ0 F0 H0 (finF h0.length kp r) Q E) (e : Ext ρ0 F0 H0 ρ F H) :
    OutS K mg ρ F H r { nx := fun _ H' => Q .non H', rt := Q } (fun c d _ H => E c d H) := by
  cases r with
  | next sl h' => exact fun ρ' F' H' σ' ex rh' rs' => leave_ok (x := .non) rh o (e.trans ex) rh' (by simp [RV])
  | ret y h' =>
    refine fun ρ' F' H' v ex rh' rv => ?_
    cases kp with
    | true => exact leaveK_ok rh o (e.trans ex) rh' rv
    | false => exact leave_ok rh o (e.trans ex) rh' rv
  | brk sl h' => exact o.elim
  | cont sl h' => exact o.elim
  | exc c ks l sl h' => exact fun ρ' F' H' σ' C d ex rh' _ em rx => leaveX_ok rh o (e.trans ex) rh' em rx
  | stuck => exact o.elim
/-- def x(a): y = None; try: a() except cx as n: y = n; .. -/
def mGive (isx : Str → Bool) (n j : Nat) (bm : SM) : (AH → Res AV) → AH → Res AV := fun th h => match th h with
  | .ok _ h1 => finF h.length false (bm ((List.replicate n none).set j (some .non)) h1)
  | .exc c ks l h1 => if isx c then finF h.length false (bm ((List.replicate n none).set j (some (.exc c ks l))) h1) else .stuck
  | .stuck => .stuck
theorem rsl_one {K : PySem.W.Frag} {mg : Str → Option Value} {ρ : List Addr} {F : Hp} {n j : Nat} {σ : L2.St} {x : AV} {v : V} (hl : σ.length = n) (e : σ[j]? = some (some v)) (r : RV K mg ρ F x v) : RSl K mg ρ F ((List.replicate n none).set j (some x)) σ := by
  refine ⟨by simp [hl], fun i y z => ?_⟩
  by_cases hi : i = j
  · subst hi
    have hlt : i < n := by rw [← hl]; exact (List.getElem?_eq_some_iff.mp e).1
    rw [List.getElem?_set_self (by simpa using hlt)] at z
    cases z
    exact ⟨v, e, r⟩
  · rw [List.getElem?_set_ne (Ne.symm hi), List.getElem?_replicate] at z
    split at z <;> cases z
theorem gives {P : Program} {w : World} {K : PySem.W.Frag} {mg : Str → Option Value} {base : Heap} {x a y n cx : Str} {params : Arguments} {body rest : List Stmt} {scope : Scope} {g FE : Addr} {fd : FuncData} {N : List Str} {i j k0 : Nat} {q0 q00 p0 p1 p2 p3 p4 p5 p6 q1 q2 q3 : Pos} {bm : SM} {isx : Str → Bool}
    (F : FunD K x x params body scope [] [] g fd) (hm : mg x = some (.ref g)) (S : FnScope N [a] scope) (hb : Binds K fd [a] [])
    (eb : body = .Assign [.Name y q0] (.Constant .none k0 q00) p0 :: .Try [.Expr (.Call (.Name a p1) [] [] p2) p3] [.ExceptHandler (some (.Name cx p4)) (some n) [.Assign [.Name y q1] (.Name n q2) q3] p5] [] [] p6 :: rest)
    (h0 : N[0]? = some a) (hi : N[i]? = some n) (hj : N[j]? = some y) (ij : i ≠ j) (j0 : j ≠ 0) (va : Vis scope a) (kn : scope.names.lookup n = some .local) (ky : scope.names.lookup y = some .local) (kc : scope.names.lookup cx = some .globalImplicit) (dc : (cx == ("__debug__" : Str)) = false) (mc : mg cx = some (.ref FE))
    (ix : ∀ c C, isx c = true → mg c = some (.ref C) → PySem.W.exmOne K (.ref C) (.ref FE) = some true)
    (hrest : ∀ (cdv : Value) (A : Around) (outer : List Env) (s : Shared) (H : Hp), (A.deeper (envOfC x scope s.heap.objs.size g cdv)).guards = some [] → Room 1 (A.deeper (envOfC x scope s.heap.objs.size g cdv)) → PSs (cxOf L2.CX0 P w K mg base N x scope g cdv A outer s H E00).nox rest (lS (cxOf L2.CX0 P w K mg base N x scope g cdv A outer s H E00).nox W0 bm))
    (d1 : (n == ("__debug__" : Str)) = false := by decide) (d2 : (n == ("__classdict__" : Str)) = false := by decide) : HasL P w K mg base x a (mGive isx N.length j bm) := by
  obtain ⟨oc, od, dV, kV, doc, pm, an, cdv, ct, osl, rfl, lk, hcd, _, _⟩ := F.ex
  refine ⟨g, oc, od, params, body, scope, dV, kV, doc, pm, cdv, ct, an, osl, N, hm, F.kp, lk, hcd, hb, S, h0, va, fun A outer s H f c' q Q tl gd hr1 act hc tt => ?_⟩
  subst eb
  obtain ⟨ρ, F', h, th, rh, htl, o⟩ := tt
  let Z := (cxOf L2.CX0 P w K mg base N x scope g cdv A outer s H E00).nox
  refine ⟨_, pss_cons (ps_set (X := Z) (i := j) S.nd hj (.inl ky) pe_non rfl (.inr ky)) (pss_cons (ps_try_keep (X := Z) (c := .ref FE) (i := i) (j := j) (Wout := W0)
    (tb := fun W D σ H => σ[0]? = some (some (.ref f)) ∧ H c' = some (CodeO c' q) ∧ tl (WE W σ) H (fun _ H' => D.nx σ H'))
    rfl rfl rfl S.nd hi hj ij kn ky ⟨kc, dc, .inl mc⟩ takes0 (fun W pn xe tk _ => ?_) d1 d2) (hrest cdv A outer s H gd hr1)), ?_⟩
  · exact pss_one (ps_expr (act W pn xe p1 p2 tk))
  · have hst : (L2.start N [.ref f]).length = N.length := by
      have hp : 0 < N.length := (List.getElem?_eq_some_iff.mp h0).1
      unfold L2.start; simp; omega
    have s0 : (L2.start N [.ref f])[0]? = some (some (V.ref f)) := by unfold L2.start; simp
    have jl : j < N.length := (List.getElem?_eq_some_iff.mp hj).1
    have il : i < N.length := (List.getElem?_eq_some_iff.mp hi).1
    refine ⟨by rw [List.getElem?_set_ne j0]; exact s0, hc, htl ρ F' h H _ _ (Ext.refl _ _ _) rh ?_⟩
    unfold mGive at o
    cases qt : th h with
    | stuck => rw [qt] at o; exact o.elim
    | ok v h1 =>
      rw [qt] at o
      intro ρ1 F1 H1 u ex rh1 _
      exact ⟨ρ1, F1, _, h1, rsl_one (v := .non) (by simp [hst]) (List.getElem?_set_self (by rw [hst]; exact jl)) (by simp [RV]), rh1, fin_out (σ := []) rh o ex⟩
    | exc c ks l h1 =>
      rw [qt] at o
      intro ρ1 F1 H1 C d ex rh1 em rx
      dsimp only at o
      split at o
      case isFalse => exact o.elim
      rename_i hx
      refine ⟨true, ix c C hx em, fun _ e he => ?_, fun z => by cases z⟩
      obtain ⟨dd, fs, rfl, fd, ek, r⟩ := rx
      have ex2 := ext_frz (o := EXV e (.ref C) (some dd)) rh1 he
      have nt : ∀ ps, EXV e (.ref C) (some dd) ≠ .tbl ps := fun ps z => by unfold EXV at z; cases z
      refine ⟨ρ1, _, _, h1, rsl_one (v := .ref e) (by simp [hst]) ?_ ?_, rh_frz rh1 he nt, fin_out (σ := []) rh o (ex.trans ex2)⟩
      · rw [List.getElem?_set_ne ij, List.getElem?_set_self (by simp [hst]; exact jl)]
      · simp only [RV]
        exact ⟨e, C, dd, fs, rfl, em, upd_same, by rw [upd_ne (ne_of_none fd (rh1.Fnone he))]; exact fd, ek, r.ext ex2⟩
end AVL

namespace AVL
open PySem PySem.Spec PySem.Calls L2 LamX PyProof.Rows
def eLam (mf : (AH → Res AV) → AH → Res AV) (fe : EM) : EM := fun sl h => (mf (fun h' => fe sl h') h).nx
section
variable {K : PySem.W.Frag} {mg : Str → Option Value} {ρ : List Addr} {F H H1 : Hp} {h : AH}
theorem ext_tab (x : ExtN H H1) : Ext ρ F H ρ F H1 := ⟨⟨[], by simp⟩, fun _ _ e => e, fun a o e _ nt => x a o e nt, fun _ z => .inl z, fun _ _ z => .inl z⟩
theorem rh_tab (rh : RH K mg ρ F h H) (x : ExtN H H1) (t : Tabs (tabsOf K) H1) : RH K mg ρ F h H1 where
  len := rh.len
  tab := t
  ntb := rh.ntb
  nd := rh.nd
  sub := fun a o e => x a o (rh.sub a o e) fun ps z => rh.ntb a ps (by rw [e, z])
  sep := rh.sep
  old := rh.old
  cell := fun n c e a ea => by
    obtain ⟨o, e1, r⟩ := rh.cell n c e a ea
    exact ⟨o, x a o e1 r.ntb, r⟩
theorem Out.off {α β : Type} {R : List Addr → Hp → α → β → Prop} {Q : β → Hp → Prop} {r : Res α} {E E' : XK} (o : Out K mg R ρ F H r.nx Q E) : Out K mg R ρ F H r.nx Q E' := by
  cases r with
  | ok a h => exact o
  | exc c ks l h => exact o.elim
  | stuck => exact o.elim
theorem Out.unx {α β : Type} {R : List Addr → Hp → α → β → Prop} {Q : β → Hp → Prop} {r : Res α} {E E' : XK} (o : Out K mg R ρ F H r.nx Q E) : Out K mg R ρ F H r Q E' := by
  cases r with
  | ok a h => exact o
  | exc c ks l h => exact o.elim
  | stuck => exact o.elim
end
section
variable {X : Cx} {W : WX} {x a : Str} {mf : (AH → Res AV) → AH → Res AV} {fe : EM} {pa : Arguments} {bd : Expr} {own : Scope} {k : Nat} {cA PA' : Addr} {p lpos pos : Pos}
/-- x(lambda: bd) -/
theorem rLam (G : HasL X.prog X.w X.K X.mg X.base x a mf) (TB : TabB X.base X.mg cA PA') (e4 : X.env.code = .ref cA) (hm : (PA', X.env.qual ++ "<lambda>") ∈ tabsOf X.K) (hu : ∀ p ∈ tabsOf X.K, p.1 = PA' → p.2 = X.env.qual ++ "<lambda>")
    (gd : X.A.guards = some []) (hr : Room (k + 2) X.A) (L : LmS X.N X.env.scope own) (ar : LmArg X pa bd own)
    (hbody : ∀ (A : Around) (outer : List Env) (s : Shared) (H : Hp) (E : XK) (f c' : Addr), (A.deeper (lamEnv X own s.heap.objs.size f c')).guards = some [] → Room k (A.deeper (lamEnv X own s.heap.objs.size f c')) → PE (lamCx X A outer s H E own f c') bd (lE (lamCx X A outer s H E own f c') (fun c d _ H => E c d H) fe))
    (hg : Gl X x := by rfl) (hdb : (x == ("__debug__" : Str)) = false := by decide) (hd : (a == ("__debug__" : Str)) = false := by decide) (hcd : (a == ("__classdict__" : Str)) = false := by decide) :
    PE X (.Call (.Name x p) [.Lambda pa bd own lpos] [] pos) (lE X W (eLam mf fe)) := by
  refine ⟨fun pins s σ H Q I o => ?_⟩
  obtain ⟨g, oc, od, pg, bg, sg, dV, kV, doc, pm, cdv, ct, an, osl, Ng, mx, kp, lk, hcg, hb, Sg, n0, va, give⟩ := G
  obtain ⟨ρ, F, sl, h, rs, rh, o⟩ := o
  refine wpAny_Call_Name_kw (ld_glob I hg mx ?_ hdb)
  refine PySem.W.callWith_K (h₀ := X.base) I.ok.mod.kin kp ?_ (by rfl) (by rfl)
  show wpAny _ _ (spliced ((false, eval (.Lambda pa bd own lpos) X.env) :: backTo pos (starEach [] X.env))) _ _ s
  refine Calls.spliced_cons (lm_eval I TB e4 hm hu rh.tab (L.has I.ok) ar fun f c' H1 s1 I1 eN T1 md hco => ?_)
  refine Calls.spliced_nil ⟨I1.kIn, ?_⟩
  have rc : codeAny (model X.prog X.w) X.A (.call (.ref g) ⟨[.ref f], []⟩) (CR L2.CX0 X.stack X.prog X.w H1 s1 Q E00) s1 := by
    refine LamX.run_ofS (N := Ng) (ps := [a]) (us := [.ref f]) (vs := [.ref f]) lk hcg Sg hr I1.env0 (hb s1 [.ref f] I1.kIn rfl) (.cons rfl .nil) rfl fun hr2 => ?_
    obtain ⟨t, ht, hq⟩ := give X.A X.stack s1 H1 f c' (X.env.qual ++ "<lambda>") Q (fun E H' Q' => lE X (fun c d _ H => E c d H) fe σ H' Q') gd (hr2.mono (by omega))
      (fun W pn xe p1 p2 tk => lm_act (tb := fun E => lE X (fun c d _ H => E c d H) fe) (i := 0) I1 L md tk hr2 gd (fun A outer s H E gd3 hr3 => hbody A outer s H E f c' gd3 hr3) n0 va hd hcd) hco
      ⟨ρ, F, h, fun h' => fe sl h', rh_tab rh eN T1, fun ρ1 F1 h1 H2 Q1 E1 ex rh1 o1 => ⟨ρ1, F1, sl, h1, (rs.ext (ext_tab eN)).ext ex, rh1, o1⟩, (Out.unx o).ext (ext_tab eN)⟩
    exact ⟨t, ht.nox, hq⟩
  refine wpAny_call (codeAny_mono rc fun r s2 hq => ?_)
  cases r with
  | error e => exact (show False from hq).elim
  | ok fl =>
    cases fl with
    | ret u => exact I1.after hq
    | next => exact False.elim hq
    | brk => exact False.elim hq
    | cont => exact False.elim hq
end
end AVL

namespace AVL
open PySem PySem.Spec L2
/-! ### an exception that is kept: its fields, its class -/
def mAttrX (okc : Str → Bool) (f : Str) (x : AV) (h : AH) : Res AV := match x with
  | .exc c ks l => if okc c then match (ks.zip l).lookup f with
    | some y => .ok y h
    | none => .stuck
    else .stuck
  | _ => .stuck
def eAttrX (okc : Str → Bool) (f : Str) (fe : EM) : EM := fun sl h => (fe sl h).bind fun x h1 => mAttrX okc f x h1
theorem rv_lookup {K : PySem.W.Frag} {mg : Str → Option Value} {ρ : List Addr} {F : Hp} {f : Str} {y : AV} : ∀ {l : List AV} {fs : List (Str × V)}, RVs K mg ρ F l (fs.map (·.2)) → ((fs.map (·.1)).zip l).lookup f = some y → ∃ v, fs.lookup f = some v ∧ RV K mg ρ F y v
  | [], fs, r, e => by simp at e
  | x :: l, [], r, e => by simp at e
  | x :: l, (k, v) :: fs, r, e => by
    simp only [List.map_cons, RVs] at r
    obtain ⟨w, r', e1, a, b⟩ := r
    cases e1
    simp only [List.map_cons, List.zip_cons_cons, List.lookup_cons] at e ⊢
    cases q : (f == k) with
    | true => rw [q] at e; cases e; exact ⟨v, rfl, a⟩
    | false => rw [q] at e; exact rv_lookup b e
section
variable {X : Cx} {W : WX} {fe : EM} {e : Expr} {pos : Pos} {n : Str} {okc : Str → Bool}
theorem rAttrX (ok : ∀ c C, okc c = true → X.mg c = some (.ref C) → XfC X.K C ∧ PySem.W.findIn X.K (.ref C) n = some none) (he : PE X e (lE X W fe))
    (hb : attributeBase e n X.env (eval e X.env) = eval e X.env := by rfl) : PE X (.Attribute e n pos) (lE X W (eAttrX okc n fe)) := by
  refine ⟨fun pins s σ H Q I o => ?_⟩
  obtain ⟨ρ, F, sl, h, rs, rh, o⟩ := o
  refine attr_of hb (thn (he.run pins s σ H (fun v H1 => ∃ ρ1 F1 x h1, RH X.K X.mg ρ1 F1 h1 H1 ∧ RV X.K X.mg ρ1 F1 x v ∧ Out X.K X.mg (RV X.K X.mg) ρ1 F1 H1 (mAttrX okc n x h1) Q (fun c d H' => W c d σ H')) I
    ⟨ρ, F, sl, h, rs, rh, Out.bind (R := RV X.K X.mg) o fun x h1 ρ1 F1 H1 v ex rh1 rv o1 => ⟨ρ1, F1, x, h1, rh1, rv, o1⟩⟩) fun u s1 hh => ?_)
  obtain ⟨v, H1, I1, ru, ρ1, F1, x, h1, rh1, rv, o1⟩ := hh
  cases x with
  | exc c ks l =>
    unfold mAttrX at o1
    dsimp only at o1
    split at o1
    case isFalse => exact o1.elim
    rename_i hc
    split at o1
    case h_2 => exact o1.elim
    rename_i y hy
    simp only [RV] at rv
    obtain ⟨a, C, d, fs, rfl, em, q1, q2, rfl, rr⟩ := rv
    obtain ⟨T, hno⟩ := ok c C hc em
    have x1 : ObjOk X.prog X.w H1 s1.heap a (EXV a (.ref C) (some d)) := I1.hok a _ (rh1.sub _ _ q1)
    obtain ⟨⟨oe, vs, g1, g2, g3, g4⟩, _, _⟩ := x1
    have x2 : ObjOk X.prog X.w H1 s1.heap d (.xd fs) := I1.hok d _ (rh1.sub _ _ q2)
    obtain ⟨mA, hns, hr⟩ := x2
    obtain ⟨od, ho, hl⟩ := lookIn_ns hns
    obtain ⟨z, el, rz⟩ := rv_lookup rr hy
    obtain ⟨w, hw, rw'⟩ := RelO.some_of (v := z) (o := mA n) (by rw [← el]; exact hr n)
    obtain rfl : u = Value.ref a := ru
    have J : PySem.W.InstAt s1.heap a oe C (some od) := ⟨g1, g2, by unfold PySem.W.notCls; rw [g4] <;> rfl, by rw [g3]; exact ho⟩
    exact HandSPX.exc_get I1.kIn J T.ga T.gg T.exC (PySem.W.findObj_own T.hdC hno rfl (by rw [hl, hw])) (handed_of rw') ⟨z, H1, I1.tok _, rw', o1.now rh1 rz⟩
  | _ => exact o1.elim
end
/-- what isinstance asks of an own exception's class -/
def excIsB (K : PySem.W.Frag) (C : Addr) : Bool :=
  (PySem.W.clsIn K C).isSome && (decide (PySem.W.findIn K (.ref C) "__getattribute__" = some (some (.builtin "BaseException.__getattribute__"))) && (decide (PySem.W.findIn K (.ref C) "__getattr__" = some none) && (decide (PySem.W.subIn K (.ref C) (.type "BaseException") = some true) &&
    (decide (PySem.W.findIn K (.ref C) "__class__" = some (some (.builtin "object.__class__"))) && (decide (PySem.W.specialIn K (.builtin "object.__class__") "__get__" = some (some (.builtin "getset_descriptor.__get__"))) &&
      (decide (PySem.W.takesIn K (.builtin "object.__class__") = some true) && decide (PySem.W.mroIn K C (.type "object") = some true)))))))
theorem excIs_of {K : PySem.W.Frag} {C : Addr} (h : excIsB K C = true) : ExcIs K C := by
  unfold excIsB at h
  simp only [Bool.and_eq_true, decide_eq_true_eq] at h
  obtain ⟨h1, h2, h3, h4, h5, h6, h7, h8⟩ := h
  refine ⟨fun a d hh oe vs mA g1 g2 g3 g4 hns => ?_⟩
  obtain ⟨od, ho, _⟩ := lookIn_ns hns
  exact ⟨_, PySem.W.kitx_exc (ox := oe) (od := some od) h1 h2 h3 h4 h5 h6 h7 h8, ⟨g1, g2, by unfold PySem.W.notCls; rw [g4] <;> rfl, by rw [g3]; exact ho⟩⟩
/-! ### repr of data -/
def mRepr (xs : List AV) (h : AH) : Res AV := match xs with
  | [x] => match pd 60 h x with
    | some d => if d.showable && (!d.hasDict && decide (d.shown.length ≤ sizeLine)) then .ok (.str d.shown) h else .stuck
    | none => .stuck
  | _ => .stuck
theorem mRepr_calm : CalmA mRepr := fun xs h => by
  unfold mRepr
  split
  · split
    · split <;> trivial
    · trivial
  · trivial
theorem mRepr_ok {X : Cx} {k : Nat} (gd : X.A.guards = some []) (hr : Room k X.A) : CallOk X (.builtin "repr") mRepr := by
  intro pins s σ H vs us Q I r1 ⟨ρ, F, xs, h, rv, rh, o⟩
  unfold mRepr at o
  split at o
  case h_2 => exact o.elim
  rename_i x
  obtain ⟨v, rfl, rx⟩ := rv.one
  obtain ⟨u, rfl, ru⟩ := vals1 r1
  split at o
  case h_2 => exact o.elim
  rename_i d hd
  split at o
  case isFalse => exact o.elim
  rename_i hc
  simp only [Bool.and_eq_true, Bool.not_eq_true', decide_eq_true_eq] at hc
  obtain ⟨c1, c2, c3⟩ := hc
  obtain ⟨p1, _, p3⟩ := pd_ok rh 60 x v d rx hd
  obtain ⟨as, rd⟩ := Dp.reads I d v u p1 ru
  have fin : ∀ (h' : Heap) (t tk : Tok), (∀ b o, s.heap.get? b = some o → h'.get? b = some o) → EP X pins σ Q (.str d.shown t) { s with heap := h', toks := tk } := fun h' t tk hk => ⟨.str d.shown, H, I.kept hk, ⟨t, rfl⟩, o.now rh (by simp [RV])⟩
  have hu := hr.units
  cases rd with
  | none => exact PySem.P.repr_of_none (by simpa [PyData.shown] using fin s.heap s.toks (s.toks + 1) fun _ _ e => e)
  | bool b => exact PySem.P.repr_of_bool (by simpa [PyData.shown] using fin s.heap s.toks (s.toks + 1) fun _ _ e => e)
  | int i t => exact PySem.P.repr_of_int (by simpa [PyData.showable] using c1) (by simpa [PyData.shown] using fin s.heap s.toks (s.toks + 1) fun _ _ e => e)
  | str y t => exact PySem.P.repr_of_str (by simpa [PyData.shown] using fin s.heap s.toks (s.toks + 1) fun _ _ e => e) (by simpa [PyData.shown] using c3)
  | list a1 a2 a3 a4 => exact repr_of_reads' (Reads.list a1 a2 a3 a4) c1 (fun z => by rw [c2] at z; cases z) gd (by omega) (fun _ _ e => e) (fun h' t tk hk => fin h' t tk hk) c3
  | tuple a1 a2 a3 a4 => exact repr_of_reads' (Reads.tuple a1 a2 a3 a4) c1 (fun z => by rw [c2] at z; cases z) gd (by omega) (fun _ _ e => e) (fun h' t tk hk => fin h' t tk hk) c3
  | dict a1 a2 a3 a4 a5 => cases p1
/-! ### {i: j}, of the text -/
theorem rDict1 {X : Cx} {W : WX} {i j : Int} {a b : Nat} {p1 p2 pos : Pos} : PE X (.Dict [some (.Constant (.int i) a p1)] [.Constant (.int j) b p2] pos) (lE X W (eC (.dct [.inl i] [.int j]))) := by
  refine pe_imp (pe_disp (pps_cons pe_int pe_int pps_nil) rfl rfl (fun z => nomatch z) (show 1 ≤ 15 by decide)) fun σ H Q ⟨ρ, F, sl, h, rs, rh, o⟩ => ?_
  intro p hp
  refine ⟨upd_same, [(.inl i, .int j)], rfl, (show 1 ≤ 15 by decide), ?_⟩
  rw [upd_upd]
  refine o ρ (upd F p (.dK [(.inl i, .int j)])) _ _ (ext_frz rh hp) (rh_frz rh hp) ?_
  simp only [RV, RVs]
  exact ⟨p, _, rfl, upd_same, rfl, _, _, rfl, rfl, rfl⟩
/-- a class of the module, as a value -/
theorem rCls {X : Cx} {W : WX} {c : Str} {pos : Pos} (h : ∃ C, X.mg c = some (.ref C)) (hg : Gl X c := by rfl) (hd : (c == ("__debug__" : Str)) = false := by decide) : PE X (.Name c pos) (lE X W (eC (.cls c))) := by
  obtain ⟨C, hm⟩ := h
  refine ⟨fun pins s σ H Q I ⟨ρ, F, sl, h, rs, rh, o⟩ => ld_glob I hg hm ⟨.ref C, H, I, rfl, Out.now (R := RV X.K X.mg) o rh ?_⟩ hd⟩
  simp only [RV]
  exact ⟨C, rfl, hm⟩
theorem lam_takes {X : Cx} {A : Around} {outer : List Env} {s : Shared} {H : Hp} {E : XK} {own : Scope} {f c' : Addr} : Takes (LamX.lamCx X A outer s H E own f c') (fun c d _ H => E c d H) :=
  takes_of (X := LamX.lamCx X A outer s H E own f c') (E := E) rfl rfl rfl rfl
end AVL

namespace AVL
open PySem PySem.Spec PySem.Calls L2 LamX PyProof.Rows
/-! ### own exceptions' classes, told by a test -/
def oexB (K : PySem.W.Frag) (C : Addr) : Bool := (match K.lookup C with
  | some ⟨.type t, _, .cls cd, sl⟩ => (match cd.mro, sl.toList with
    | .ref C' :: bm, [_, _, _, _, some (.builtin n), _] => decide (t = "type") && (decide (C' = C) && (decide (n = "ValueError.__new__") && (!cd.hasDel && (cd.hasDict && PySem.HandSPX.refsVE bm))))
    | _, _ => false)
  | _ => false) && (decide (PySem.W.findIn K (.ref C) "__setattr__" = some (some (.builtin "object.__setattr__"))) && (decide (PySem.W.subIn K (.ref C) (.type "BaseException") = some true) && (decide (PySem.W.typeIn K (.ref C) = some (.type "type")) && PySem.W.keepIn K (.ref C))))
theorem oex_of {K : PySem.W.Frag} {C : Addr} (h : oexB K C = true) : OexC K C := by
  unfold oexB at h
  obtain ⟨h1, h⟩ := Bool.and_eq_true_iff.mp h
  obtain ⟨h2, h⟩ := Bool.and_eq_true_iff.mp h
  obtain ⟨h3, h⟩ := Bool.and_eq_true_iff.mp h
  obtain ⟨h4, h5⟩ := Bool.and_eq_true_iff.mp h
  refine ⟨?_, of_decide_eq_true h2, of_decide_eq_true h3, of_decide_eq_true h4, h5⟩
  split at h1
  · rename_i t dd cd sl ho
    split at h1
    · rename_i C' bm k0 k1 k2 k3 n k5 hm hs
      simp only [Bool.and_eq_true, decide_eq_true_eq, Bool.not_eq_true'] at h1
      obtain ⟨rfl, rfl, rfl, hdel, hdct, hr⟩ := h1
      obtain ⟨nm, bs, mro, ns, qn, hd, sn, sub, ab, col, del⟩ := cd
      dsimp only at hm hdel hdct
      subst hm hdel hdct
      have hsl : sl = #[k0, k1, k2, k3, some (.builtin "ValueError.__new__"), k5] := by
        obtain ⟨l⟩ := sl
        simp only at hs
        rw [hs]
      subst hsl
      exact ⟨nm, qn, ns, bs, bm, sn, sub, ab, col, dd, k0, k1, k2, k3, k5, ho, hr⟩
    · cases h1
  · cases h1
/-! ### the tables of code objects -/
def lamAt (K : PySem.W.Frag) (x : Str) : Addr × Addr := match K.lookup (He.ga K x) with
  | some ⟨_, _, .func fd, _⟩ => (match fd.code with
    | .ref c => (match K.lookup c with
      | some ⟨_, _, .fields vs, _⟩ => (match (vs[11]? : Option Value) with
        | some (Value.ref P) => (c, P)
        | _ => (0, 0))
      | _ => (0, 0))
    | _ => (0, 0))
  | _ => (0, 0)
def isS : Value → Bool
  | .str _ _ => true
  | _ => false
def isI : Value → Bool
  | .int _ _ => true
  | _ => false
def isB : Value → Bool
  | .bool _ => true
  | _ => false
def codeHB (K : PySem.W.Frag) (p : Addr × Addr) : Bool := match K.lookup p.1 with
  | some ⟨.type t, _, .fields vs, _⟩ => decide (t = "code") && (decide (vs[11]? = some (.ref p.2)) && (decide (vs.getD 11 .none = .ref p.2) && (isS (vs.getD 18 .none) && (isI (vs.getD 7 .none) && (isB (vs.getD 9 .none) && (isI (vs.getD 10 .none) && decide (p.1 ≠ p.2)))))))
  | _ => false
theorem codeH_of {K : PySem.W.Frag} {p : Addr × Addr} {h : Heap} (X : K.In h) (e : codeHB K p = true) : PySem.W.CodeHd h p.1 p.2 := by
  unfold codeHB at e
  split at e
  · rename_i t dd vs sl ho
    simp only [Bool.and_eq_true, decide_eq_true_eq] at e
    obtain ⟨rfl, e1, e2, e3, e4, e5, e6, e7⟩ := e
    have s3 : ∃ a b, vs.getD 18 .none = .str a b := by
      cases q : vs.getD 18 .none with
      | str a b => exact ⟨a, b, rfl⟩
      | _ => rw [q] at e3; cases e3
    have s4 : ∃ a b, vs.getD 7 .none = .int a b := by
      cases q : vs.getD 7 .none with
      | int a b => exact ⟨a, b, rfl⟩
      | _ => rw [q] at e4; cases e4
    have s5 : ∃ a, vs.getD 9 .none = .bool a := by
      cases q : vs.getD 9 .none with
      | bool a => exact ⟨a, rfl⟩
      | _ => rw [q] at e5; cases e5
    have s6 : ∃ a b, vs.getD 10 .none = .int a b := by
      cases q : vs.getD 10 .none with
      | int a b => exact ⟨a, b, rfl⟩
      | _ => rw [q] at e6; cases e6
    obtain ⟨a3, b3, s3⟩ := s3
    obtain ⟨a4, b4, s4⟩ := s4
    obtain ⟨a5, s5⟩ := s5
    obtain ⟨a6, b6, s6⟩ := s6
    exact ⟨_, vs, a3, b3, a4, b4, a5, a6, b6, X _ _ ho, rfl, rfl, e1, e2, s3, s4, s5, s6, e7⟩
  · cases e
def emptyB (K : PySem.W.Frag) (P : Addr) : Bool := match K.lookup P with
  | some ⟨.none, none, .fields vs, sl⟩ => vs.isEmpty && sl.isEmpty
  | _ => false
theorem empty_of {K : PySem.W.Frag} {P : Addr} {h : Heap} (X : K.In h) (e : emptyB K P = true) : h.get? P = some { cls := .none, data := .fields #[] } := by
  unfold emptyB at e
  split at e
  · rename_i vs sl ho
    simp only [Bool.and_eq_true, Array.isEmpty_iff] at e
    obtain ⟨rfl, rfl⟩ := e
    exact X _ _ ho
  · cases e
/-- the defs that make lambdas: their tables are taken out, and told of behind -/
def lamQ (x : Str) : Str := (x ++ ".<locals>.") ++ "<lambda>"
def markO (K : PySem.W.Frag) (ls : List Str) : Obj := { cls := .none, data := .seq (ls.map fun x => Value.str (lamQ x) (lamAt K x).2).toArray }
def mkK (ls : List Str) (K : PySem.W.Frag) : PySem.W.Frag := (K.filter fun e => !(ls.map fun x => (lamAt K x).2).contains e.1) ++ [(mainGlobals, markO K ls)]
theorem lookup_filter {f : Addr → Bool} {a : Addr} {o : Obj} : ∀ {K : PySem.W.Frag}, (K.filter fun e => f e.1).lookup a = some o → K.lookup a = some o ∧ f a = true
  | [], e => by simp at e
  | (b, u) :: r, e => by
    rw [List.filter_cons] at e
    cases hf : f b with
    | true =>
      simp only [hf, if_true] at e
      rw [List.lookup_cons] at e ⊢
      cases q : (a == b) with
      | true =>
        rw [q] at e
        refine ⟨e, ?_⟩
        rw [beq_iff_eq.mp q]; exact hf
      | false => rw [q] at e; exact lookup_filter (K := r) e
    | false =>
      simp only [hf] at e
      obtain ⟨h1, h2⟩ := lookup_filter (K := r) (by simpa using e)
      refine ⟨?_, h2⟩
      rw [List.lookup_cons]
      cases q : (a == b) with
      | true => rw [beq_iff_eq.mp q, hf] at h2; cases h2
      | false => exact h1
def headB (ls : List Str) (K : PySem.W.Frag) : Bool := ((K.filter fun e => !(ls.map fun x => (lamAt K x).2).contains e.1).lookup mainGlobals).isSome && ls.all fun x => codeHB K (lamAt K x) && (emptyB K (lamAt K x).2 && (decide ((mkK ls K).lookup (lamAt K x).2 = none) && ls.all fun y => decide ((lamAt K y).2 = (lamAt K x).2 → y = x)))
theorem mkK_in {ls : List Str} {K : PySem.W.Frag} {h : Heap} (X : K.In h) (e : headB ls K = true) : (mkK ls K).In h := by
  intro a o q
  obtain ⟨e1, _⟩ := Bool.and_eq_true_iff.mp e
  unfold mkK at q
  rw [List.lookup_append] at q
  cases z : (K.filter fun e => !(ls.map fun x => (lamAt K x).2).contains e.1).lookup a with
  | some o2 =>
    rw [z] at q
    cases q
    exact X _ _ (lookup_filter (f := fun b => !(ls.map fun x => (lamAt K x).2).contains b) z).1
  | none =>
    rw [z] at q
    have q2 : ([(mainGlobals, markO K ls)] : PySem.W.Frag).lookup a = some o := q
    rw [List.lookup_cons] at q2
    cases y : (a == mainGlobals) with
    | true => rw [beq_iff_eq.mp y] at z; rw [z] at e1; cases e1
    | false => rw [y] at q2; cases q2
theorem tabs_mkK {ls : List Str} {K : PySem.W.Frag} : tabsOf (mkK ls K) = ls.map fun x => ((lamAt K x).2, lamQ x) := by
  have key : ∀ l : List Str, (l.map fun x => Value.str (lamQ x) (lamAt K x).2).filterMap (fun v => match v with
    | .str q a => some (a, q)
    | _ => none) = l.map fun x => ((lamAt K x).2, lamQ x) := by
    intro l
    induction l with
    | nil => rfl
    | cons x r ih => rw [List.map_cons, List.filterMap_cons, ih]; rfl
  unfold tabsOf mkK
  rw [List.getLast?_append]
  exact key ls
theorem mkK_get {ls : List Str} {K : PySem.W.Frag} (e : headB ls K = true) {a : Addr} {o : Obj} (q : (mkK ls K).lookup a = some o) : K.lookup a = some o := by
  obtain ⟨e1, _⟩ := Bool.and_eq_true_iff.mp e
  unfold mkK at q
  rw [List.lookup_append] at q
  cases z : (K.filter fun e => !(ls.map fun x => (lamAt K x).2).contains e.1).lookup a with
  | some o2 =>
    rw [z] at q
    cases q
    exact (lookup_filter (f := fun b => !(ls.map fun x => (lamAt K x).2).contains b) z).1
  | none =>
    rw [z] at q
    have q2 : ([(mainGlobals, markO K ls)] : PySem.W.Frag).lookup a = some o := q
    rw [List.lookup_cons] at q2
    cases y : (a == mainGlobals) with
    | true => rw [beq_iff_eq.mp y] at z; rw [z] at e1; cases e1
    | false => rw [y] at q2; cases q2
theorem mkK_main {ls : List Str} {K : PySem.W.Frag} (e : headB ls K = true) : (mkK ls K).lookup mainGlobals = K.lookup mainGlobals := by
  obtain ⟨e1, _⟩ := Bool.and_eq_true_iff.mp e
  obtain ⟨o, ho⟩ := Option.isSome_iff_exists.mp e1
  have z : (mkK ls K).lookup mainGlobals = some o := by
    unfold mkK
    rw [List.lookup_append, ho]; rfl
  rw [z, mkK_get e z]
theorem mkK_ga {ls : List Str} {K : PySem.W.Frag} (e : headB ls K = true) (x : Str) : He.ga (mkK ls K) x = He.ga K x := by
  unfold He.ga PySem.W.nsIn
  rw [mkK_main e]
theorem lam_fact {ls : List Str} {K : PySem.W.Frag} {x : Str} {base : Heap} {mg : Str → Option Value} (hx : x ∈ ls) (e : headB ls K = true) (TB : ∀ p ∈ ls.map (lamAt K), TabB base mg p.1 p.2) (fd : FuncData)
    (lk : ∃ oc od osl, (mkK ls K).lookup (He.ga (mkK ls K) x) = some ⟨oc, od, .func fd, osl⟩) : ∃ cA PA2, fd.code = .ref cA ∧ TabB base mg cA PA2 ∧ (PA2, lamQ x) ∈ tabsOf (mkK ls K) ∧ ∀ p ∈ tabsOf (mkK ls K), p.1 = PA2 → p.2 = lamQ x := by
  obtain ⟨oc, od, osl, lk⟩ := lk
  have lk0 := mkK_get e lk
  rw [mkK_ga e] at lk0
  have e2 := e
  unfold headB at e2
  simp only [Bool.and_eq_true, List.all_eq_true, decide_eq_true_eq] at e2
  obtain ⟨_, hh⟩ := e2
  obtain ⟨h1, h2, h3, h4⟩ := hh x hx
  refine ⟨(lamAt K x).1, (lamAt K x).2, ?_, TB _ (List.mem_map.mpr ⟨x, hx, rfl⟩), ?_, fun p hp ep => ?_⟩
  · have ne : (lamAt K x).1 ≠ (lamAt K x).2 := by
      unfold codeHB at h1
      split at h1
      · simp only [Bool.and_eq_true, decide_eq_true_eq] at h1
        exact h1.2.2.2.2.2.2.2
      · cases h1
    unfold lamAt at ne ⊢
    rw [lk0] at ne ⊢
    dsimp only at ne ⊢
    split at ne
    · rename_i c hc
      rw [hc]
      split at ne
      · split at ne
        · rfl
        · exact absurd rfl ne
      · exact absurd rfl ne
    · exact absurd rfl ne
  · rw [tabs_mkK]
    exact List.mem_map.mpr ⟨x, hx, rfl⟩
  · rw [tabs_mkK] at hp
    obtain ⟨y, hy, rfl⟩ := List.mem_map.mp hp
    rw [h4 y hy ep]
/-! ### the hook -/
def obsB (ls : List Str) (fb : PySem.W.Frag → Bool) (fn : List He.DefD) (K0 : PySem.W.Frag) : He.AlD := (headB ls K0 && (fb (mkK ls K0) && fn.all fun d => d.ok (mkK ls K0)), fn.map fun d => He.fnW (mkK ls K0) d.at_)
def obsBG (n : Nat) (ls : List Str) (fb : PySem.W.Frag → Bool) (fn : List He.DefD) (g : Addr → Option Obj) : He.AlD := obsB ls fb fn (He.frG g (He.asD g n))
def SaysB (ls : List Str) (fb : PySem.W.Frag → Bool) (fn : List He.DefD) (K0 : PySem.W.Frag) : Prop := obsB ls fb fn K0 = He.valD fn
def hookB (n : Nat) (ls : List Str) (fb : PySem.W.Frag → Bool) (fn : List He.DefD) : PySem.W.Hook where
  α := He.AlD
  obs := fun s => obsBG n ls fb fn s.heap.get?
  val := fun _ => He.valD fn
  says := fun _ h => ∃ K : PySem.W.Frag, K.In h ∧ SaysB ls fb fn K
  of := fun _ _ e => ⟨_, He.frG_in, e⟩
  keeps := fun _ _ _ ⟨K, hK, c⟩ k => ⟨K, PySem.W.Frag.In.keeps hK k, c⟩
theorem obsBG_eq {n : Nat} {ls : List Str} {fb : PySem.W.Frag → Bool} {fn : List He.DefD} {g : Addr → Option Obj} {s : Shared} (h : ∀ a, g a = s.heap.get? a) : obsBG n ls fb fn g = (hookB n ls fb fn).obs s := by
  have e : g = s.heap.get? := funext h
  rw [e] <;> rfl
section
variable {ls : List Str} {fb : PySem.W.Frag → Bool} {fn : List He.DefD} {K : PySem.W.Frag}
theorem SaysB.head (c : SaysB ls fb fn K) : headB ls K = true := (Bool.and_eq_true_iff.mp (show (headB ls K && (fb (mkK ls K) && fn.all fun d => d.ok (mkK ls K))) = true from congrArg (fun z : He.AlD => z.1) c)).1
theorem SaysB.fact (c : SaysB ls fb fn K) : fb (mkK ls K) = true := (Bool.and_eq_true_iff.mp (Bool.and_eq_true_iff.mp (show (headB ls K && (fb (mkK ls K) && fn.all fun d => d.ok (mkK ls K))) = true from congrArg (fun z : He.AlD => z.1) c)).2).1
theorem SaysB.def_ (c : SaysB ls fb fn K) (i : Nat) {d : He.DefD} (h : fn[i]? = some d := by rfl) : ∃ fd, FunD (mkK ls K) d.name d.qual d.params d.body d.scope (d.dvs (mkK ls K)) (d.kws (mkK ls K)) (He.fAd (mkK ls K) d.at_) fd := by
  have c2 := (Bool.and_eq_true_iff.mp (Bool.and_eq_true_iff.mp (show (headB ls K && (fb (mkK ls K) && fn.all fun d => d.ok (mkK ls K))) = true from congrArg (fun z : He.AlD => z.1) c)).2).2
  have e : fn.map (fun d => He.fnW (mkK ls K) d.at_) = fn.map He.DefD.val := congrArg (fun z : He.AlD => z.2) c
  have e2 : (fn.map fun d => He.fnW (mkK ls K) d.at_)[i]? = (fn.map He.DefD.val)[i]? := by rw [e]
  rw [List.getElem?_map, List.getElem?_map, h] at e2
  exact He.DefD.funD (Option.some.inj e2) (List.all_eq_true.mp c2 d (List.mem_of_getElem? h))
end
/-! ### the law's call -/
theorem law_g {P : Program} {w : World} {K : PySem.W.Frag} {mg mb : Str → Option Value} {k : Nat} {fa a : Addr} {cs : List (Addr × Addr)} {fd : FuncData} {x : Str} {mf : MF} {t : Shared} {vs : List Value} {ns : List Int}
    (KX : K.In t.heap) (hns : t.heap.Ns mainGlobals mg) (hb : t.heap.Ns builtinsNs mb) (hbb : ∀ x : Str, x ≠ "__name__" → mb x = bootBuiltins x) (hlim : t.heap.NoLimit) (hg : t.gens = #[])
    (hT : ∀ p ∈ cs, t.heap.get? p.2 = some { cls := .none, data := .fields #[] }) (nT : ∀ p ∈ cs, K.lookup p.2 = none) (C : ∀ p ∈ cs, PySem.W.CodeHd t.heap p.1 p.2) (hcs : ∀ q ∈ tabsOf K, ∃ p ∈ cs, p.2 = q.1)
    (hbm : ∃ (bm : Addr) (ob : Obj), mg "__builtins__" = some (.ref bm) ∧ bm ≠ builtinsNs ∧ t.heap.get? bm = some ob ∧ ob.cls = .type "module" ∧ ob.dict = some builtinsNs ∧ ob.data = .plain)
    (ha : t.heap.get? a = some { cls := .type "list", data := .seq vs.toArray }) (hi : IntsAre vs ns) (hl : ns.length ≤ sizeLine) (hr : Room k callerA)
    (F : ∀ base : Heap, K.In base → base.Ns mainGlobals mg → (∀ p ∈ cs, TabB base mg p.1 p.2) → FnG P w K mg base k fa fd [x] (spOf K mg 1 mf)) (hbind : ∀ (s : Shared) (u : Value), BindsTo s fd ⟨[u], []⟩ [(x, u)])
    (tr : ∃ h, mf [.klst (ns.map .int)] [] = .ok (.bl true) h) :
    codeAny (model P w) callerA (.call (.ref fa) ⟨[.ref a], []⟩) (fun r s' => r = .ok (.ret (.bool true)) ∧ OldK t.heap s'.heap ∧ s'.os = t.os ∧ AllBare s'.gens) t := by
  have rv := vals_ints hi
  have lenV := hi.length
  let ts := cs.map (·.2)
  have isT : ∀ b ∈ ts, t.heap.get? b = some { cls := .none, data := .fields #[] } := fun b hb => by
    obtain ⟨p, hp, e⟩ := List.mem_map.mp hb
    rw [← e]; exact hT p hp
  have aT : a ∉ ts := fun z => by
    have q := isT a z
    rw [ha] at q
    cases q
  have tT : ∀ p ∈ cs, p.2 ∈ ts := fun p hp => List.mem_map.mpr ⟨p, hp, rfl⟩
  let so : Obj := { cls := .type "list", data := .seq vs.toArray }
  let H : Hp := fun b => if b = a ∧ K.lookup a = none then some (.frz so (.lst (ns.map V.int))) else if b ∈ ts then some (.tbl #[]) else none
  have Hcase : ∀ b u, H b = some u → (b = a ∧ K.lookup a = none ∧ u = .frz so (.lst (ns.map V.int))) ∨ (b ∈ ts ∧ u = .tbl #[]) := fun b u e => by
    show _ ∨ _
    have e2 : (if b = a ∧ K.lookup a = none then some (HO.frz so (.lst (ns.map V.int))) else if b ∈ ts then some (.tbl #[]) else none) = some u := e
    split at e2
    · rename_i q; exact .inl ⟨q.1, q.2, (Option.some.inj e2).symm⟩
    · split at e2
      · rename_i q; exact .inr ⟨q, (Option.some.inj e2).symm⟩
      · cases e2
  have HT : ∀ p ∈ cs, H p.2 = some (.tbl #[]) := fun p hp => by
    show (if p.2 = a ∧ K.lookup a = none then _ else if p.2 ∈ ts then some (HO.tbl #[]) else none) = _
    rw [if_neg (fun z => aT (by rw [← z.1]; exact tT p hp)), if_pos (tT p hp)]
  have hok : HOk P w H t.heap := fun b u e => by
    rcases Hcase b u e with ⟨rfl, _, rfl⟩ | ⟨hb, rfl⟩
    · exact ⟨ha, by rw [List.length_map]; exact hl, vs, _, rv, ha⟩
    · exact isT b hb
  have free : ∀ {b : Addr} {o : Obj}, t.heap.get? b = some o → (∀ v n, o.data ≠ .seq v n) → o.data ≠ .fields #[] → H b = none := fun {b o} e h1 h2 => by
    cases q : H b with
    | none => rfl
    | some u =>
      rcases Hcase b u q with ⟨rfl, _, _⟩ | ⟨hb, _⟩
      · rw [ha] at e; cases e; exact absurd rfl (h1 _ _)
      · rw [isT b hb] at e; cases e; exact absurd rfl h2
  have based : ∀ {b : Addr} {o : Obj}, t.heap.get? b = some o → (∀ v n, o.data ≠ .seq v n) → o.data ≠ .fields #[] → (hidT t.heap H).get? b = some o := fun e h1 h2 => hidT_get e (free e h1 h2)
  have nsB : ∀ {b : Addr} {m : Str → Option Value}, t.heap.Ns b m → (hidT t.heap H).Ns b m := fun {b m} ⟨o, es, ep, e, d, r⟩ => ⟨o, es, ep, based e (fun v n z => by rw [d] at z; cases z) (fun z => by rw [d] at z; cases z), d, r⟩
  have kB : K.In (hidT t.heap H) := fun b o e => hidT_get (KX b o e) (by
    cases q : H b with
    | none => rfl
    | some u =>
      rcases Hcase b u q with ⟨rfl, z, _⟩ | ⟨hb, _⟩
      · rw [z] at e; cases e
      · obtain ⟨p, hp, ep⟩ := List.mem_map.mp hb
        have z := nT p hp
        rw [show p.2 = b from ep] at z
        rw [z] at e; cases e)
  have md : L2.Mod K mg (hidT t.heap H) := ⟨kB, nsB hns, ⟨mb, nsB hb, hbb⟩, let ⟨mc, h1, h2⟩ := hlim; ⟨mc, nsB h1, h2⟩⟩
  have TB : ∀ p ∈ cs, TabB (hidT t.heap H) mg p.1 p.2 := fun p hp => by
    refine ⟨?_, ?_, fun z => ?_⟩
    · obtain ⟨o, us, fl, tf, fg, tg, iF, tx, tt, e1, r1, r2, r3, rr⟩ := C p hp
      exact ⟨o, us, fl, tf, fg, tg, iF, tx, tt, based e1 (fun v n z => by rw [r2] at z; cases z) (fun z => by rw [r2] at z; cases z; simp at r3), r1, r2, r3, rr⟩
    · obtain ⟨bm, ob, b1, b2, b3, b4, b5, b6⟩ := hbm
      refine ⟨bm, ob, b1, b2, fun q => ?_, fun q => ?_, based b3 (fun v n z => by rw [b6] at z; cases z) (fun z => by rw [b6] at z; cases z), b4, b5, b6⟩
      · obtain ⟨o, es, ep, e, hd, _⟩ := hns
        rw [q, e] at b3; cases b3; rw [hd] at b6; cases b6
      · rw [q, hT p hp] at b3; cases b3; cases b6
    · obtain ⟨o, es, ep, e, hd, _⟩ := hns
      rw [z, hT p hp] at e; cases e; cases hd
  have e0 : Env0 P w K mg (hidT t.heap H) callerA [] t H := ⟨rfl, md, fun b o e => of_hidT e, Nat.le_of_eq (hidT_size _ _), trivial, fun b hb => absurd (show b ∈ ([] : List Addr) from hb) (by simp), hok, .of_eq hg⟩
  have hS : SqL K H a (ns.map V.int) := by
    cases hk : K.lookup a with
    | none => exact .inl (.inr ⟨so, if_pos ⟨rfl, hk⟩⟩)
    | some o =>
      have e := KX a o hk
      rw [ha] at e
      cases e
      exact .inr ⟨_, vs.toArray, _, hk, rfl, rfl, rfl, by rw [List.size_toArray, lenV]; exact hl, by simpa using rv⟩
  let F0 : Hp := fun b => if b = a then H a else none
  have F0a : F0 a = H a := if_pos rfl
  have hSF : SqL K F0 a (ns.map V.int) := by
    rcases hS with (h | ⟨o, h⟩) | h
    · exact .inl (.inl (F0a.trans h))
    · exact .inl (.inr ⟨o, F0a.trans h⟩)
    · exact .inr h
  have rints : ∀ l : List Int, RVs K mg [] F0 (l.map .int) (l.map V.int) := fun l => by
    induction l with
    | nil => simp [RVs]
    | cons i r ih => simp only [List.map_cons, RVs, RV]; exact ⟨_, _, rfl, rfl, ih⟩
  obtain ⟨hE, trE⟩ := tr
  have sp : spOf K mg 1 mf [.ref a] H (fun v _ => v = .bl true) E00 := by
    refine ⟨[], F0, [.klst (ns.map .int)], [], ?_, ?_, rfl, ?_⟩
    · simp only [RVs, RV]
      exact ⟨_, _, rfl, ⟨a, _, rfl, hSF, rints ns⟩, rfl⟩
    · refine ⟨rfl, fun q hq => ?_, fun b ps e => ?_, List.nodup_nil, fun b o e => ?_, fun n c e => by simp at e, fun n c e => by simp at e, fun n c e => by simp at e⟩
      · obtain ⟨p, hp, e⟩ := hcs q hq
        exact TabS.nil (by rw [← e]; exact HT p hp)
      · have e2 : (if b = a then H a else none) = some (HO.tbl ps) := e
        split at e2
        · rcases Hcase a _ e2 with ⟨_, _, z⟩ | ⟨z, _⟩
          · cases z
          · exact aT z
        · cases e2
      · have e2 : (if b = a then H a else none) = some o := e
        split at e2
        · rename_i q; rw [q]; exact e2
        · cases e2
    · rw [trE]
      intro ρ1 F1 H1 v ex rh rv
      simpa [RV] using rv
  refine codeAny_mono ((F _ kB (nsB hns) TB).run callerA [] t H ⟨[.ref a], []⟩ [.ref a] [.ref a] _ _ rfl hr e0 (hbind t (.ref a)) (.cons rfl .nil) rfl sp) fun r s' h => ?_
  cases r with
  | error e =>
    exfalso
    obtain ⟨_, _, _, _, _, _, _, _, _, _, _, _, z⟩ := h
    exact z
  | ok fl =>
    cases fl with
    | next => exact False.elim h
    | brk => exact False.elim h
    | cont => exact False.elim h
    | ret u =>
      obtain ⟨v, H', os, bare, un, hok', r', q⟩ := h
      have q' : v = .bl true := q
      subst q'
      obtain rfl : u = Value.bool true := r'
      have key : ∀ b o, b ∉ ts → t.heap.get? b = some o → s'.heap.get? b = some o := fun b o nb e => by
        cases q : H b with
        | none => exact un.keep b o e q (by intro z; exact absurd (show b ∈ ([] : List Addr) from z) (by simp)) (by simp)
        | some u =>
          rcases Hcase b u q with ⟨rfl, _, rfl⟩ | ⟨z, _⟩
          · have z2 := un.frzs _ _ _ q
            obtain ⟨y1, _⟩ := hok _ _ q
            obtain ⟨y2, _⟩ := hok' _ _ z2
            rw [e] at y1; cases y1
            exact y2
          · exact absurd z nb
      have grown : ∀ p ∈ cs, ∃ more : Array Value, s'.heap.get? p.2 = some { cls := .none, data := .fields more } := fun p hp => by
        obtain ⟨more, z⟩ := un.tbls p.2 #[] (HT p hp)
        exact ⟨_, hok' p.2 _ z⟩
      refine ⟨rfl, ⟨fun b o e => ?_, fun b o e => ?_⟩, os, bare⟩
      · by_cases hb : b ∈ ts
        · obtain ⟨p, hp, ep⟩ := List.mem_map.mp hb
          obtain ⟨more, hm⟩ := grown p hp
          have ep' : p.2 = b := ep
          rw [← ep'] at e ⊢
          rw [hT p hp] at e
          cases e
          exact .inr (.inl ⟨((C p hp).tab (hT p hp)).isCodeTable, rfl, #[], more, rfl, by rw [Array.empty_append]; exact hm⟩)
        · exact .inl (key b o hb e)
      · by_cases hb : b ∈ ts
        · obtain ⟨p, hp, ep⟩ := List.mem_map.mp hb
          obtain ⟨more, hm⟩ := grown p hp
          have ep' : p.2 = b := ep
          rw [← ep']
          exact ⟨_, hm⟩
        · exact ⟨o, key b o hb e⟩
theorem walk_g {l : PySem.W.OpenLaw} {n k : Nat} {q : Program} {loose : List Str} {XP : (Str → Option Value) → Heap → Prop} {YP : World → Heap → Prop} {d : DefRec} {x : Str} {mf : MF}
    (hn : l.most = some n) (hn2 : n ≤ sizeLine) (hdf : d.params.defaults = []) (hr : Room k callerA)
    (F : ∀ (w : World) (mg : Str → Option Value) (fa : Addr) (h : Heap), YP w h → h.Ns mainGlobals mg → mg d.name = some (.ref fa) →
      ∃ (K : PySem.W.Frag) (fd : FuncData) (cs : List (Addr × Addr)), K.In h ∧ (∀ p ∈ cs, h.get? p.2 = some { cls := .none, data := .fields #[] }) ∧ (∀ p ∈ cs, K.lookup p.2 = none) ∧ (∀ p ∈ cs, PySem.W.CodeHd h p.1 p.2) ∧ (∀ q ∈ tabsOf K, ∃ p ∈ cs, p.2 = q.1) ∧ (∀ (s : Shared) (u : Value), BindsTo s fd ⟨[u], []⟩ [(x, u)]) ∧
        ∀ base : Heap, K.In base → base.Ns mainGlobals mg → (∀ p ∈ cs, TabB base mg p.1 p.2) → FnG l.prog w K mg base k fa fd [x] (spOf K mg 1 mf))
    (tr : ∀ ns : List Int, ns.length ≤ n → (∀ z ∈ ns, Builtin.Int.intBits z ≤ 1048576) → ∃ h, mf [.klst (ns.map .int)] [] = .ok (.bl true) h) :
    PySem.W.WalkO q loose XP YP l.row.toRowW d [] (fun f vs => PySem.call f vs) := by
  refine Att.attach_callB hn hdf fun w s₀ t mg mb fa o pm cd doc a vs ns G Y ho hd hcd hmg hobj hints hlen hbits hg => ?_
  obtain ⟨K, fd, cs, KX, hT, nT, C, hcs, hb, hF⟩ := F w mg fa _ Y G.T.g hmg
  exact law_g KX G.T.g G.T.b G.T.builtins G.T.nolimit hg hT nT C hcs G.T.bmain hobj hints (Nat.le_trans hlen hn2) hr hF hb (tr ns hlen hbits)
/-! ### isinstance by a table -/
def tval (K : PySem.W.Frag) : Tag → Value
  | .ty n => .type n
  | .own c => .ref (He.ga K c)
  | .exn c => .ref (He.ga K c)
def tagIn (cl : List Str) : Tag → Bool
  | .ty _ => true
  | .own c => cl.contains c
  | .exn c => cl.contains c
/-- what isinstance asks of an own class -/
def ownIsB (K : PySem.W.Frag) (C : Addr) : Bool :=
  PySem.W.plainGet K C Str.empty && (PySem.W.hasDictIn K C && (decide (PySem.W.findIn K (.ref C) "__class__" = some (some (.builtin "object.__class__"))) &&
    (decide (PySem.W.specialIn K (.builtin "object.__class__") "__get__" = some (some (.builtin "getset_descriptor.__get__"))) && (decide (PySem.W.takesIn K (.builtin "object.__class__") = some true) && decide (PySem.W.mroIn K C (.type "object") = some true)))))
theorem ownIs_of {K : PySem.W.Frag} {C : Addr} (h : ownIsB K C = true) : OwnIs K C := by
  unfold ownIsB at h
  simp only [Bool.and_eq_true, decide_eq_true_eq] at h
  obtain ⟨h1, h2, h3, h4, h5, h6⟩ := h
  refine ⟨fun X pins σ H s a dx fs hK I ha => ?_⟩
  subst hK
  obtain ⟨mA, J, _⟩ := ins_get I.hok ha
  obtain ⟨od, J, _⟩ := J.look
  exact ⟨_, PySem.W.kitx_own (show PySem.W.plainGet X.K C "__class__" = true from h1) h2 h3 h4 h5 h6, J⟩
/-- an own class: attributes are its own -/
def clsB (K : PySem.W.Frag) (C : Addr) : Bool := PySem.W.plainGet K C Str.empty && (PySem.W.hasDictIn K C && (PySem.W.plainOver K C && decide (PySem.W.findIn K (.ref C) "__setattr__" = some (some (.builtin "object.__setattr__")))))
theorem cls_of {K : PySem.W.Frag} {C : Addr} (h : clsB K C = true) : Cls K C := by
  unfold clsB at h
  simp only [Bool.and_eq_true, decide_eq_true_eq] at h
  exact ⟨h.1, h.2.1, h.2.2.1, h.2.2.2⟩
def fstB (K : PySem.W.Frag) : Tag → Bool
  | .ty _ => true
  | .own c => ownIsB K (He.ga K c)
  | .exn c => excIsB K (He.ga K c)
def isaOf (L : List (Tag × Tag × Bool)) : IsaF := fun t u => (L.find? fun e => decide (e.1 = t) && decide (e.2.1 = u)).map (·.2.2)
def isaB (L : List (Tag × Tag × Bool)) (cl : List Str) (K : PySem.W.Frag) : Bool := L.all fun e => decide (PySem.W.kitOne K (tval K e.1) (tval K e.2.1) = some e.2.2) && ((tagIn cl e.1 && tagIn cl e.2.1) && fstB K e.1)
theorem isaOf_mem {L : List (Tag × Tag × Bool)} {t u : Tag} {b : Bool} (h : isaOf L t u = some b) : (t, u, b) ∈ L := by
  unfold isaOf at h
  cases q : L.find? fun e => decide (e.1 = t) && decide (e.2.1 = u) with
  | none => rw [q] at h; cases h
  | some e =>
    rw [q] at h
    have z := List.find?_some q
    have m := List.mem_of_find?_eq_some q
    simp only [Bool.and_eq_true, decide_eq_true_eq] at z
    obtain ⟨e1, e2, e3⟩ := e
    obtain ⟨rfl, rfl⟩ := z
    simp only [Option.map_some, Option.some.injEq] at h
    rw [← h]; exact m
theorem tval_of {K : PySem.W.Frag} {mg : Str → Option Value} {cl : List Str} (hc : ∀ c, cl.contains c = true → mg c = some (.ref (He.ga K c))) : ∀ {t : Tag} {v : Value}, tagIn cl t = true → TagV mg t v → v = tval K t
  | .ty n, v, _, h => h
  | .own c, v, q, ⟨C, e, em⟩ => by
    rw [hc c q] at em
    cases em
    exact e
  | .exn c, v, q, ⟨C, e, em⟩ => by
    rw [hc c q] at em
    cases em
    exact e
theorem isa_ok {K : PySem.W.Frag} {mg : Str → Option Value} {L : List (Tag × Tag × Bool)} {cl : List Str} (h : isaB L cl K = true) (hc : ∀ c, cl.contains c = true → mg c = some (.ref (He.ga K c))) : IsaOk K mg (isaOf L) := by
  have get : ∀ {t u b}, isaOf L t u = some b → PySem.W.kitOne K (tval K t) (tval K u) = some b ∧ (tagIn cl t = true ∧ tagIn cl u = true) ∧ fstB K t = true := fun {t u b} e => by
    have z := List.all_eq_true.mp h _ (isaOf_mem e)
    simpa only [Bool.and_eq_true, decide_eq_true_eq] using z
  refine ⟨fun t u b e tv uv ht hu => ?_, fun c u b e C em => ?_, fun c u b e C em => ?_⟩
  · obtain ⟨z, ⟨y1, y2⟩, _⟩ := get e
    rw [tval_of hc y1 ht, tval_of hc y2 hu]; exact z
  · obtain ⟨_, ⟨y1, _⟩, z⟩ := get e
    rw [hc c y1] at em
    cases em
    exact ownIs_of z
  · obtain ⟨_, ⟨y1, _⟩, z⟩ := get e
    rw [hc c y1] at em
    cases em
    exact excIs_of z
end AVL

namespace AVL
open PySem PySem.Spec L2
/-! ### own classes: attributes -/
def lookR (ks : List Str) (l : List AV) (f : Str) (h : AH) : Res AV := match (ks.zip l).lookup f with
  | some y => .ok y h
  | none => .stuck
def mAttr (okx okc : Str → Bool) (f : Str) (x : AV) (h : AH) : Res AV := match x with
  | .exc c ks l => if okx c then lookR ks l f h else .stuck
  | .obj c ks l => if okc c then lookR ks l f h else .stuck
  | .ref n => match h[n]? with
    | some (.ins c ks l) => if okc c then lookR ks l f h else .stuck
    | _ => .stuck
  | _ => .stuck
def eAttr (okx okc : Str → Bool) (f : Str) (fe : EM) : EM := fun sl h => (fe sl h).bind fun x h1 => mAttr okx okc f x h1
section
variable {X : Cx} {W : WX} {fe fo fv : EM} {e o : Expr} {pos pos' : Pos} {n : Str} {okx okc : Str → Bool}
theorem rAttr (ok : ∀ c C, okx c = true → X.mg c = some (.ref C) → XfC X.K C ∧ PySem.W.findIn X.K (.ref C) n = some none) (ok2 : ∀ c C, okc c = true → X.mg c = some (.ref C) → Cls X.K C ∧ NoAttr X.K C n) (he : PE X e (lE X W fe))
    (hb : attributeBase e n X.env (eval e X.env) = eval e X.env := by rfl) : PE X (.Attribute e n pos) (lE X W (eAttr okx okc n fe)) := by
  refine ⟨fun pins s σ H Q I o => ?_⟩
  obtain ⟨ρ, F, sl, h, rs, rh, o⟩ := o
  refine attr_of hb (thn (he.run pins s σ H (fun v H1 => ∃ ρ1 F1 x h1, RH X.K X.mg ρ1 F1 h1 H1 ∧ RV X.K X.mg ρ1 F1 x v ∧ Out X.K X.mg (RV X.K X.mg) ρ1 F1 H1 (mAttr okx okc n x h1) Q (fun c d H' => W c d σ H')) I
    ⟨ρ, F, sl, h, rs, rh, Out.bind (R := RV X.K X.mg) o fun x h1 ρ1 F1 H1 v ex rh1 rv o1 => ⟨ρ1, F1, x, h1, rh1, rv, o1⟩⟩) fun u s1 hh => ?_)
  obtain ⟨v, H1, I1, ru, ρ1, F1, x, h1, rh1, rv, o1⟩ := hh
  unfold mAttr at o1
  split at o1
  · rename_i c ks l
    split at o1
    case isFalse => exact o1.elim
    rename_i hc
    unfold lookR at o1
    split at o1
    case h_2 => exact o1.elim
    rename_i y hy
    simp only [RV] at rv
    obtain ⟨a, C, d, fs, rfl, em, q1, q2, rfl, rr⟩ := rv
    obtain ⟨T, hno⟩ := ok c C hc em
    have x1 : ObjOk X.prog X.w H1 s1.heap a (EXV a (.ref C) (some d)) := I1.hok a _ (rh1.sub _ _ q1)
    obtain ⟨⟨oe, vs, g1, g2, g3, g4⟩, _, _⟩ := x1
    have x2 : ObjOk X.prog X.w H1 s1.heap d (.xd fs) := I1.hok d _ (rh1.sub _ _ q2)
    obtain ⟨mA, hns, hr⟩ := x2
    obtain ⟨od, ho, hl⟩ := lookIn_ns hns
    obtain ⟨z, el, rz⟩ := rv_lookup rr hy
    obtain ⟨w, hw, rw'⟩ := RelO.some_of (v := z) (o := mA n) (by rw [← el]; exact hr n)
    obtain rfl : u = Value.ref a := ru
    have J : PySem.W.InstAt s1.heap a oe C (some od) := ⟨g1, g2, by unfold PySem.W.notCls; rw [g4] <;> rfl, by rw [g3]; exact ho⟩
    exact HandSPX.exc_get I1.kIn J T.ga T.gg T.exC (PySem.W.findObj_own T.hdC hno rfl (by rw [hl, hw])) (handed_of rw') ⟨z, H1, I1.tok _, rw', o1.now rh1 rz⟩
  · rename_i c ks l
    split at o1
    case isFalse => exact o1.elim
    rename_i hc
    unfold lookR at o1
    split at o1
    case h_2 => exact o1.elim
    rename_i y hy
    simp only [RV] at rv
    obtain ⟨a, C, dx, fs, rfl, em, q1, rfl, rr⟩ := rv
    obtain ⟨c1, c2⟩ := ok2 c C hc em
    obtain ⟨z, el, rz⟩ := rv_lookup rr hy
    obtain rfl : u = Value.ref a := ru
    exact getattr_ok I1 (rh1.sub _ _ q1) c1 c2 el fun u' s2 I2 ru => ⟨z, H1, I2, ru, o1.now rh1 rz⟩
  · rename_i k
    split at o1
    case h_2 => exact o1.elim
    rename_i c ks l hk
    split at o1
    case isFalse => exact o1.elim
    rename_i hc
    unfold lookR at o1
    split at o1
    case h_2 => exact o1.elim
    rename_i y hy
    simp only [RV] at rv
    obtain ⟨a, rfl, ea⟩ := rv
    obtain ⟨_, e1, C, dx, fs, rfl, em, rfl, rr⟩ := rh1.cell _ _ hk a ea
    obtain ⟨c1, c2⟩ := ok2 c C hc em
    obtain ⟨z, el, rz⟩ := rv_lookup rr hy
    obtain rfl : u = Value.ref a := ru
    exact getattr_ok I1 e1 c1 c2 el fun u' s2 I2 ru => ⟨z, H1, I2, ru, o1.now rh1 rz⟩
  · exact o1.elim
/-! ### a store of an attribute -/
def putA (f : Str) (y : AV) : List Str → List AV → List Str × List AV
  | g :: ks, x :: l => if g = f then (g :: ks, y :: l) else (g :: (putA f y ks l).1, x :: (putA f y ks l).2)
  | _, _ => ([f], [y])
theorem putA_ok {K : PySem.W.Frag} {mg : Str → Option Value} {ρ : List Addr} {F : Hp} {f : Str} {y : AV} {v : V} (rv : RV K mg ρ F y v) : ∀ {l : List AV} {fs : List (Str × V)}, RVs K mg ρ F l (fs.map (·.2)) →
    (putF f v fs).map (·.1) = (putA f y (fs.map (·.1)) l).1 ∧ RVs K mg ρ F (putA f y (fs.map (·.1)) l).2 ((putF f v fs).map (·.2))
  | [], [], r => by simp [putF, putA, RVs]; exact rv
  | [], _ :: _, r => by simp [RVs] at r
  | x :: l, [], r => by simp [RVs] at r
  | x :: l, (g, w) :: fs, r => by
    simp only [List.map_cons, RVs] at r
    obtain ⟨w', r', e1, a, b⟩ := r
    cases e1
    have ih := putA_ok (f := f) rv b
    unfold putF
    simp only [List.map_cons, putA]
    by_cases q : g = f
    · simp only [q, if_true, List.map_cons, RVs]
      exact ⟨trivial, _, _, rfl, rv, b⟩
    · simp only [if_neg q, List.map_cons, RVs]
      exact ⟨by rw [ih.1], _, _, rfl, a, ih.2⟩
theorem bnds_putA {m : Nat} {f : Str} {y : AV} (b : bnd m y = true) : ∀ {ks : List Str} {l : List AV}, bnds m l = true → bnds m (putA f y ks l).2 = true
  | [], l, h => by
    cases l <;> simp [putA, bnds, b]
  | g :: ks, [], h => by simp [putA, bnds, b]
  | g :: ks, x :: l, h => by
    have h' : (bnd m x && bnds m l) = true := h
    rw [Bool.and_eq_true] at h'
    unfold putA
    split
    · show (bnd m y && bnds m l) = true
      rw [b, h'.2]; rfl
    · show (bnd m x && bnds m (putA f y ks l).2) = true
      rw [h'.1, bnds_putA b h'.2]; rfl
def sFldS (okc : Str → Bool) (f : Str) (fv fo : EM) : SM := fun sl h => (fv sl h).toS sl fun y h1 => (fo sl h1).toS sl fun x h2 => match x with
  | .ref n => match h2[n]? with
    | some (.ins c ks l) => if okc c && (bnd (n + 1) y && decide (l.length < 900)) then .next sl (h2.set n (.ins c (putA f y ks l).1 (putA f y ks l).2)) else .stuck
    | _ => .stuck
  | _ => .stuck
theorem rsFldS (ok2 : ∀ c C, okc c = true → X.mg c = some (.ref C) → Cls X.K C ∧ NoAttr X.K C n) (ho : PE X o (lE X W fo)) (hv : PE X e (lE X W fv)) (hs : swapsWith e (some (.Attribute o n pos')) pos.line X.env = pure false := by rfl) :
    PS X (.Assign [.Attribute o n pos'] e pos) (lS X W (sFldS okc n fv fo)) := by
  refine ps_imp (ps_fld ho hv hs) fun D σ H ⟨ρ, F, sl, h, rs, rh, o⟩ => ⟨ρ, F, sl, h, rs, rh, Out.bindS (R := RV X.K X.mg) o rs fun y h1 ρ1 F1 H1 v ex1 rh1 rv o1 =>
    ⟨ρ1, F1, sl, h1, rs.ext ex1, rh1, Out.bindS (R := RV X.K X.mg) o1 (rs.ext ex1) fun x h2 ρ2 F2 H2 w ex2 rh2 rw' o2 => ?_⟩⟩
  split at o2
  case h_2 => exact o2.elim
  rename_i k
  split at o2
  case h_2 => exact o2.elim
  rename_i c ks l hk
  split at o2
  case isFalse => exact o2.elim
  rename_i hc
  simp only [Bool.and_eq_true, decide_eq_true_eq] at hc
  obtain ⟨hc, hb, hl⟩ := hc
  simp only [RV] at rw'
  obtain ⟨a, rfl, ea⟩ := rw'
  obtain ⟨_, e1, C, dx, fs, rfl, em, rfl, rr⟩ := rh2.cell _ _ hk a ea
  obtain ⟨c1, c2⟩ := ok2 c C hc em
  have pp := putA_ok (f := n) (rv.ext ex2) rr
  have hlen : fs.length < 1000 := by
    have := rr.length
    simp at this; omega
  have ob : bnds (k + 1) l = true := rh2.old _ _ hk
  have hm : a ∈ ρ2 := List.mem_of_getElem? ea
  refine ⟨a, C, dx, fs, rfl, e1, c1, c2, hlen, ?_⟩
  exact o2 ρ2 F2 _ σ (ext_set rh2 hm e1 fun ps => by simp) (rh_set rh2 ea hk rfl (bnds_putA hb ob) ⟨C, dx, _, rfl, em, pp.1, pp.2⟩) (((rs.ext ex1).ext ex2).ext (ext_set (o := .ins C dx (putF n v fs)) rh2 hm e1 fun ps => by simp))
end
/-! ### an instance is made -/
def finM (m : Nat) : Res AV → Res AV
  | .ok .non h => leave m (.ref m) h
  | .exc c ks l h => leaveX m c ks l h
  | _ => .stuck
def mMake (c : Str) (mf : MF) : MF := fun args h => finM h.length (mf (.ref h.length :: args) (h ++ [.ins c [] []]))
/-- the class c is made by its __init__, of the parameters ps behind self -/
def HasM (P : Program) (w : World) (K : PySem.W.Frag) (mg : Str → Option Value) (base : Heap) (c : Str) (k : Nat) (ps : List Str) (mf : MF) : Prop :=
  ∃ C f fd s0, mg c = some (.ref C) ∧ Mk K C f ∧ Binds K fd (s0 :: ps) [] ∧ FnG P w K mg base k f fd (s0 :: ps) (spOf K mg (ps.length + 1) mf)
section
variable {X : Cx} {W : WX} {fa fk : AM} {e : Expr} {es : List Expr} {k : Nat} {x c : Str} {ps : List Str} {mf : MF} {p pos : Pos}
theorem run_mk {pins : List (Addr × Obj)} {σ : L2.St} {H : Hp} {s : Shared} {Q : VK} {us : List Value} {vs : List V} {f C : Addr} {fd : FuncData} {s0 : Str} {kw : List (Str × Value)} {us2 : List Value} (hm : X.mg c = some (.ref C)) (M : Mk X.K C f)
    (F : FnG X.prog X.w X.K X.mg X.base k f fd (s0 :: ps) (spOf X.K X.mg (ps.length + 1) mf)) (gd : X.A.guards = some []) (hr : Room (k + 1) X.A) (tk : Takes X W)
    (hb : ∀ (s : Shared) (x : Value), X.K.In s.heap → BindsTo s fd ⟨x :: us, kw⟩ ((s0 :: ps).zip (x :: us2))) (I : L2.Inv X pins σ H s) (r : Vals vs us2) (h : spOf X.K X.mg ps.length (mMake c mf) vs H Q (WE W σ)) :
    wpAny (model X.prog X.w) X.A (call (.ref C) us kw) (EP X pins σ Q) X.xe s := by
  obtain ⟨ρ, F0, args, h, rv, rh, hl, o⟩ := h
  have I2 := Inv.made (C := C) I
  have n1 : H s.heap.objs.size = none := I.hok.fresh (Nat.le_refl _)
  have n2 : H (s.heap.objs.size + 1) = none := I.hok.fresh (Nat.le_succ _)
  have ne : s.heap.objs.size + 1 ≠ s.heap.objs.size := fun z => absurd z (Nat.ne_of_gt (Nat.lt_succ_self _))
  generalize hdx : s.heap.objs.size = dx at *
  generalize hx : dx + 1 = x at *
  have rh1 := rh_frz (o := .own x) rh n1
  have ex1 := ext_frz (o := .own x) rh n1
  have n3 : upd H dx (.own x) x = none := by rw [upd_ne ne]; exact n2
  have rc : RC X.K X.mg ρ (upd F0 dx (.own x)) (.ins c [] []) (.ins C dx []) := ⟨C, dx, [], rfl, hm, rfl, by simp [RVs]⟩
  have rh2 := rh_nam rh1 n3 rc
  have ex2 := ext_nam (o := .ins C dx []) rh1 n3
  have ex := ex1.trans ex2
  have hx0 : (ρ ++ [x])[h.length]? = some x := by rw [← rh.len]; simp
  have sp : spOf X.K X.mg (ps.length + 1) mf (.ref x :: vs) (upd (upd H dx (.own x)) x (.ins C dx [])) (fun v H2 => v = .non ∧ Q (.ref x) H2) (WE W σ) := by
    refine ⟨_, _, .ref h.length :: args, _, ?_, rh2, by simp [hl], ?_⟩
    · simp only [RVs]
      exact ⟨_, _, rfl, by simp only [RV]; exact ⟨x, rfl, hx0⟩, rv.ext ex⟩
    · unfold mMake at o
      cases q : mf (.ref h.length :: args) (h ++ [.ins c [] []]) with
      | stuck => rw [q] at o; exact o.elim
      | exc c' ks l h' =>
        rw [q] at o
        exact fun ρ' F' H' C' d' e' rh' em rx => leaveX_ok rh o (ex.trans e') rh' em rx
      | ok y h' =>
        rw [q] at o
        intro ρ' F' H' v e' rh' rv'
        cases y with
        | non =>
          refine ⟨by simpa [RV] using rv', leave_ok (x := .ref h.length) rh o (ex.trans e') rh' ?_⟩
          simp only [RV]
          obtain ⟨t, et⟩ := e'.pre
          exact ⟨x, rfl, by rw [et]; rw [List.getElem?_append_left (by rw [← rh.len]; simp)]; exact hx0⟩
        | _ => exact o.elim
  have r2 : Vals (V.ref x :: vs) (Value.ref x :: us2) := .cons rfl r
  have hl2 : (V.ref x :: vs).length = (s0 :: ps).length := by rw [List.length_cons, ← rv.length, hl]; rfl
  refine wpAny_call (make_map (f := f) (kw := kw) I.kIn M.makes M.init (beq_iff_eq.mp M.fn) ?_)
  rw [hdx, hx]
  refine codeAny_mono (F.run _ X.stack _ _ ⟨Value.ref x :: us, kw⟩ (Value.ref x :: us2) _ _ (WE W σ) gd (hr.make C us kw) (I2.env0.make C us kw) (hb _ _ I2.kIn) r2 hl2 sp) fun r s' hq' => ?_
  cases r with
  | error e => exact passAt tk σ pins _ _ e s' I2 hq'
  | ok fl =>
    cases fl with
    | ret u =>
      obtain ⟨v, H', I3, rv, ev, q3⟩ := I2.after hq'
      subst ev
      exact ⟨rv, ⟨V.ref x, H', I3, rfl, q3⟩⟩
    | next => exact False.elim hq'
    | brk => exact False.elim hq'
    | cont => exact False.elim hq'
theorem rMake (G : HasM X.prog X.w X.K X.mg X.base x k ps mf) (gd : X.A.guards = some []) (hr : Room (k + 1) X.A) (tk : Takes X W) (ha : PA X (e :: es) (lA X W fa)) (hg : Gl X x := by rfl) (hdb : (x == ("__debug__" : Str)) = false := by decide)
    (he : starEach (e :: es) X.env = (false, eval e X.env) :: starEach es X.env := by rfl) (hpl : (backTo pos (starEach es X.env)).any (·.1) = false := by rfl) :
    PE X (.Call (.Name x p) (e :: es) [] pos) (lE X W (eCall ps.length (mMake x mf) fa)) := by
  obtain ⟨C, f, fd, s0, hm, M, hb, F⟩ := G
  refine ⟨fun pins s σ H Q I o => wpAny_Call_Name_kw (ld_glob I hg hm ?_ hdb)⟩
  refine PySem.W.callWith_K (h₀ := X.base) I.ok.mod.kin M.kp (thn (ha.run pos pins s σ H _ I (out_call o)) fun us s1 ⟨vs, H1, I1, r, q⟩ => ⟨I1.kIn, ?_⟩) he hpl
  have hl := sp_len q
  refine run_mk hm M F gd hr tk (fun s2 y K2 => ?_) I1 r q
  have b := hb s2 (y :: us) K2 (by rw [List.append_nil, List.length_cons, ← r.length, hl]; rfl)
  rw [List.append_nil] at b
  exact b
theorem rMake0 (G : HasM X.prog X.w X.K X.mg X.base x k [] mf) (gd : X.A.guards = some []) (hr : Room (k + 1) X.A) (tk : Takes X W) (hg : Gl X x := by rfl) (hdb : (x == ("__debug__" : Str)) = false := by decide) : PE X (.Call (.Name x p) [] [] pos) (lE X W (eCall 0 (mMake x mf) aNil)) := by
  obtain ⟨C, f, fd, s0, hm, M, hb, F⟩ := G
  refine ⟨fun pins s σ H Q I h => ?_⟩
  refine wpAny_Call_Name_kw (ld_glob I hg hm ?_ hdb)
  obtain ⟨ρ, F', sl, h, rs, rh, o⟩ := out_call (ps := []) h
  have sp := Out.now (R := RVs X.K X.mg) o rh .nil
  refine PySem.W.callWith_K0 I.kIn M.kp (run_mk (us := []) (kw := []) (us2 := []) hm M F gd hr tk (fun s2 y K2 => ?_) I .nil sp)
  have b := hb s2 [y] K2 (by rfl)
  rw [List.append_nil] at b
  exact b
end
/-! ### calls with keywords and defaults -/
inductive ADs where
  | p (i : Nat) | k (j : Nat) | d (j : Nat)
def srcD {α : Type} (ss : List ADs) (xs ds zs : List α) : List α := ss.filterMap fun s => match s with
  | .p i => xs[i]?
  | .k j => zs[j]?
  | .d j => ds[j]?
theorem srcD_vals {vs dv zs : List V} {us its ws : List Value} (r : Vals vs us) (rd : Vals dv its) (rz : Vals zs ws) : ∀ ss : List ADs, Vals (srcD ss vs dv zs) (srcD ss us its ws)
  | [] => .nil
  | .p i :: ss => by
    have ih := srcD_vals r rd rz ss
    unfold srcD at ih ⊢
    rcases vals_ix r i with ⟨a, b⟩ | ⟨v, u, a, b, c⟩
    · simp only [List.filterMap_cons, a, b]; exact ih
    · simp only [List.filterMap_cons, a, b]; exact .cons c ih
  | .k i :: ss => by
    have ih := srcD_vals r rd rz ss
    unfold srcD at ih ⊢
    rcases vals_ix rz i with ⟨a, b⟩ | ⟨v, u, a, b, c⟩
    · simp only [List.filterMap_cons, a, b]; exact ih
    · simp only [List.filterMap_cons, a, b]; exact .cons c ih
  | .d i :: ss => by
    have ih := srcD_vals r rd rz ss
    unfold srcD at ih ⊢
    rcases vals_ix rd i with ⟨a, b⟩ | ⟨v, u, a, b, c⟩
    · simp only [List.filterMap_cons, a, b]; exact ih
    · simp only [List.filterMap_cons, a, b]; exact .cons c ih
theorem srcD_rvs {K : PySem.W.Frag} {mg : Str → Option Value} {ρ : List Addr} {F : Hp} {xs ds ys : List AV} {vs dv zs : List V} (r : RVs K mg ρ F xs vs) (rd : RVs K mg ρ F ds dv) (rz : RVs K mg ρ F ys zs) : ∀ ss : List ADs, RVs K mg ρ F (srcD ss xs ds ys) (srcD ss vs dv zs)
  | [] => by simp [srcD, RVs]
  | .p i :: ss => by
    have ih := srcD_rvs r rd rz ss
    unfold srcD at ih ⊢
    rcases rvs_ix r i with ⟨a, b⟩ | ⟨v, u, a, b, c⟩
    · simp only [List.filterMap_cons, a, b]; exact ih
    · simp only [List.filterMap_cons, a, b, RVs]; exact ⟨_, _, rfl, c, ih⟩
  | .k i :: ss => by
    have ih := srcD_rvs r rd rz ss
    unfold srcD at ih ⊢
    rcases rvs_ix rz i with ⟨a, b⟩ | ⟨v, u, a, b, c⟩
    · simp only [List.filterMap_cons, a, b]; exact ih
    · simp only [List.filterMap_cons, a, b, RVs]; exact ⟨_, _, rfl, c, ih⟩
  | .d i :: ss => by
    have ih := srcD_rvs r rd rz ss
    unfold srcD at ih ⊢
    rcases rvs_ix rd i with ⟨a, b⟩ | ⟨v, u, a, b, c⟩
    · simp only [List.filterMap_cons, a, b]; exact ih
    · simp only [List.filterMap_cons, a, b, RVs]; exact ⟨_, _, rfl, c, ih⟩
def eCallD (n m pn : Nat) (ss : List ADs) (ds : List AV) (mf : MF) (fa fk : AM) : EM := fun sl h => (fa sl h).bind fun xs h1 => (fk sl h1).bind fun zs h2 => if xs.length = n ∧ zs.length = m ∧ (srcD ss xs ds zs).length = pn then mf (srcD ss xs ds zs) h2 else .stuck
/-- the defaults: plain values -/
def DvOk (K : PySem.W.Frag) (mg : Str → Option Value) (ds : List AV) (dv : List V) : Prop := ∀ ρ F, RVs K mg ρ F ds dv
/-- the def x, called with n values and the keywords ks, the defaults ds -/
def HasD (P : Program) (w : World) (K : PySem.W.Frag) (mg : Str → Option Value) (base : Heap) (x : Str) (k n : Nat) (ks : List Str) (ss : List ADs) (ds : List AV) (ps : List Str) (mf : MF) : Prop :=
  ∃ f fd dv its, mg x = some (.ref f) ∧ PySem.W.keepIn K (.ref f) = true ∧ Vals dv its ∧ DvOk K mg ds dv ∧
    (∀ (s : Shared) (us ws : List Value), K.In s.heap → us.length = n → ws.length = ks.length → BindsTo s fd ⟨us, ks.zip ws⟩ (ps.zip (srcD ss us its ws))) ∧ FnG P w K mg base k f fd ps (spOf K mg ps.length mf)
/-- the class c, made with n values and the keywords ks, the defaults ds -/
def HasMD (P : Program) (w : World) (K : PySem.W.Frag) (mg : Str → Option Value) (base : Heap) (c : Str) (k n : Nat) (ks : List Str) (ss : List ADs) (ds : List AV) (ps : List Str) (mf : MF) : Prop :=
  ∃ C f fd s0 dv its, mg c = some (.ref C) ∧ Mk K C f ∧ Vals dv its ∧ DvOk K mg ds dv ∧
    (∀ (s : Shared) (y : Value) (us ws : List Value), K.In s.heap → us.length = n → ws.length = ks.length → BindsTo s fd ⟨y :: us, ks.zip ws⟩ ((s0 :: ps).zip (y :: srcD ss us its ws))) ∧ FnG P w K mg base k f fd (s0 :: ps) (spOf K mg (ps.length + 1) mf)
section
variable {X : Cx} {W : WX} {fa fk : AM} {e : Expr} {es : List Expr} {k : Nat} {x c : Str} {ps : List Str} {mf : MF} {p pos : Pos} {n : Nat} {ks : List Str} {ss : List ADs} {ds : List AV} {kws : List Keyword}
theorem out_callD {n m pn : Nat} {dv : List V} {σ : L2.St} {H : Hp} {Q : VK} (hd : DvOk X.K X.mg ds dv) (o : lE X W (eCallD n m pn ss ds mf fa fk) σ H Q) : lA X W fa σ H fun vs H1 => lA X W fk σ H1 fun zs H2 =>
    vs.length = n ∧ zs.length = m ∧ spOf X.K X.mg pn mf (srcD ss vs dv zs) H2 Q (WE W σ) := by
  obtain ⟨ρ, F0, sl, h, rs, rh, o⟩ := o
  refine ⟨ρ, F0, sl, h, rs, rh, Out.bind (R := RVs X.K X.mg) o fun xs h1 ρ1 F1 H1 vs ex rh1 rv o1 => ⟨ρ1, F1, sl, h1, rs.ext ex, rh1, Out.bind (R := RVs X.K X.mg) o1 fun ys h2 ρ2 F2 H2 zs ex2 rh2 rz o2 => ?_⟩⟩
  split at o2
  case isFalse => exact o2.elim
  rename_i hc
  exact ⟨by rw [← rv.length]; exact hc.1, by rw [← rz.length]; exact hc.2.1, ρ2, F2, _, h2, srcD_rvs (rv.ext ex2) (hd _ _) rz ss, rh2, hc.2.2, o2⟩
theorem lK_nil {σ : L2.St} {H : Hp} {Q : List V → Hp → Prop} (o : lA X W aNil σ H Q) : Q [] H := by
  obtain ⟨ρ, F', sl, h, rs, rh, o⟩ := o
  exact Out.now (R := RVs X.K X.mg) o rh .nil
/-- f(e, ..), the rest by defaults -/
theorem rCallD (G : HasD X.prog X.w X.K X.mg X.base x k n [] ss ds ps mf) (gd : X.A.guards = some []) (hr : Room k X.A) (tk : Takes X W) (ha : PA X (e :: es) (lA X W fa)) (hg : Gl X x := by rfl) (hdb : (x == ("__debug__" : Str)) = false := by decide)
    (he : starEach (e :: es) X.env = (false, eval e X.env) :: starEach es X.env := by rfl) (hpl : (backTo pos (starEach es X.env)).any (·.1) = false := by rfl) :
    PE X (.Call (.Name x p) (e :: es) [] pos) (lE X W (eCallD n 0 ps.length ss ds mf fa aNil)) := by
  obtain ⟨f, fd, dv, its, hm, hk, rd, hd, hb, F⟩ := G
  refine ⟨fun pins s σ H Q I o => wpAny_Call_Name_kw (ld_glob I hg hm ?_ hdb)⟩
  refine PySem.W.callWith_K (h₀ := X.base) I.ok.mod.kin hk (thn (ha.run pos pins s σ H _ I (out_callD hd o)) fun us s1 ⟨vs, H1, I1, r, q⟩ => ⟨I1.kIn, ?_⟩) he hpl
  obtain ⟨l1, _, q2⟩ := lK_nil q
  exact run_g (args := ⟨us, []⟩) F gd hr tk (hb s1 us [] I1.kIn (by rw [← r.length]; exact l1) rfl) I1 (srcD_vals r rd .nil ss) (sp_len q2) q2
/-- f(e, .., k = v, ..) -/
theorem rCallDK (G : HasD X.prog X.w X.K X.mg X.base x k n ks ss ds ps mf) (gd : X.A.guards = some []) (hr : Room k X.A) (tk : Takes X W) (ha : PA X (e :: es) (lA X W fa)) (hkw : PK X kws (lA X W fk))
    (hall : (backToKw pos (keywordEach kws X.env)).all (·.1.isSome) = true := by rfl) (hks : (backToKw pos (keywordEach kws X.env)).filterMap (·.1) = ks := by rfl) (hg : Gl X x := by rfl) (hdb : (x == ("__debug__" : Str)) = false := by decide)
    (he : starEach (e :: es) X.env = (false, eval e X.env) :: starEach es X.env := by rfl) (hpl : ((backTo pos (starEach (e :: es) X.env)).any (·.1) || (backToKw pos (keywordEach kws X.env)).any (·.1.isNone)) = false := by rfl) :
    PE X (.Call (.Name x p) (e :: es) kws pos) (lE X W (eCallD n ks.length ps.length ss ds mf fa fk)) := by
  obtain ⟨f, fd, dv, its, hm, hk, rd, hd, hb, F⟩ := G
  refine ⟨fun pins s σ H Q I o => wpAny_Call_Name_kw (ld_glob I hg hm ?_ hdb)⟩
  refine PySem.W.callWith_KW (h₀ := X.base) I.ok.mod.kin hk hall (thn (ha.run pos pins s σ H _ I (out_callD hd o)) fun us s1 ⟨vs, H1, I1, r, q⟩ => ?_) hpl he
  refine thn (hkw.run pos pins s1 σ H1 _ I1 q) fun ws s2 ⟨zs, H2, I2, rz, l1, l2, q2⟩ => ⟨I2.kIn, ?_⟩
  rw [hks]
  exact run_g (args := ⟨us, ks.zip ws⟩) F gd hr tk (hb s2 us ws I2.kIn (by rw [← r.length]; exact l1) (by rw [← rz.length]; exact l2)) I2 (srcD_vals r rd rz ss) (sp_len q2) q2
/-- f(k = v, ..) -/
theorem rCallDK0 (G : HasD X.prog X.w X.K X.mg X.base x k 0 ks ss ds ps mf) (gd : X.A.guards = some []) (hr : Room k X.A) (tk : Takes X W) (hkw : PK X kws (lA X W fk))
    (hall : (backToKw pos (keywordEach kws X.env)).all (·.1.isSome) = true := by rfl) (hks : (backToKw pos (keywordEach kws X.env)).filterMap (·.1) = ks := by rfl) (hg : Gl X x := by rfl) (hdb : (x == ("__debug__" : Str)) = false := by decide)
    (hpl : ((backTo pos (starEach [] X.env)).any (·.1) || (backToKw pos (keywordEach kws X.env)).any (·.1.isNone)) = false := by rfl) :
    PE X (.Call (.Name x p) [] kws pos) (lE X W (eCallD 0 ks.length ps.length ss ds mf aNil fk)) := by
  obtain ⟨f, fd, dv, its, hm, hk, rd, hd, hb, F⟩ := G
  refine ⟨fun pins s σ H Q I o => wpAny_Call_Name_kw (ld_glob I hg hm ?_ hdb)⟩
  refine PySem.W.callWith_KW0 (h₀ := X.base) I.ok.mod.kin hk hall (thn (hkw.run pos pins s σ H _ I (lK_nil (out_callD hd o))) fun ws s2 ⟨zs, H2, I2, rz, l1, l2, q2⟩ => ⟨I2.kIn, ?_⟩) hpl
  rw [hks]
  exact run_g (args := ⟨[], ks.zip ws⟩) F gd hr tk (hb s2 [] ws I2.kIn rfl (by rw [← rz.length]; exact l2)) I2 (srcD_vals .nil rd rz ss) (sp_len q2) q2
/-- C(e, ..), the rest by defaults -/
theorem rMakeD (G : HasMD X.prog X.w X.K X.mg X.base x k n [] ss ds ps mf) (gd : X.A.guards = some []) (hr : Room (k + 1) X.A) (tk : Takes X W) (ha : PA X (e :: es) (lA X W fa)) (hg : Gl X x := by rfl) (hdb : (x == ("__debug__" : Str)) = false := by decide)
    (he : starEach (e :: es) X.env = (false, eval e X.env) :: starEach es X.env := by rfl) (hpl : (backTo pos (starEach es X.env)).any (·.1) = false := by rfl) :
    PE X (.Call (.Name x p) (e :: es) [] pos) (lE X W (eCallD n 0 ps.length ss ds (mMake x mf) fa aNil)) := by
  obtain ⟨C, f, fd, s0, dv, its, hm, M, rd, hd, hb, F⟩ := G
  refine ⟨fun pins s σ H Q I o => wpAny_Call_Name_kw (ld_glob I hg hm ?_ hdb)⟩
  refine PySem.W.callWith_K (h₀ := X.base) I.ok.mod.kin M.kp (thn (ha.run pos pins s σ H _ I (out_callD hd o)) fun us s1 ⟨vs, H1, I1, r, q⟩ => ⟨I1.kIn, ?_⟩) he hpl
  obtain ⟨l1, _, q2⟩ := lK_nil q
  exact run_mk hm M F gd hr tk (fun s3 y K3 => hb s3 y us [] K3 (by rw [← r.length]; exact l1) rfl) I1 (srcD_vals r rd .nil ss) q2
theorem rMakeDK (G : HasMD X.prog X.w X.K X.mg X.base x k n ks ss ds ps mf) (gd : X.A.guards = some []) (hr : Room (k + 1) X.A) (tk : Takes X W) (ha : PA X (e :: es) (lA X W fa)) (hkw : PK X kws (lA X W fk))
    (hall : (backToKw pos (keywordEach kws X.env)).all (·.1.isSome) = true := by rfl) (hks : (backToKw pos (keywordEach kws X.env)).filterMap (·.1) = ks := by rfl) (hg : Gl X x := by rfl) (hdb : (x == ("__debug__" : Str)) = false := by decide)
    (he : starEach (e :: es) X.env = (false, eval e X.env) :: starEach es X.env := by rfl) (hpl : ((backTo pos (starEach (e :: es) X.env)).any (·.1) || (backToKw pos (keywordEach kws X.env)).any (·.1.isNone)) = false := by rfl) :
    PE X (.Call (.Name x p) (e :: es) kws pos) (lE X W (eCallD n ks.length ps.length ss ds (mMake x mf) fa fk)) := by
  obtain ⟨C, f, fd, s0, dv, its, hm, M, rd, hd, hb, F⟩ := G
  refine ⟨fun pins s σ H Q I o => wpAny_Call_Name_kw (ld_glob I hg hm ?_ hdb)⟩
  refine PySem.W.callWith_KW (h₀ := X.base) I.ok.mod.kin M.kp hall (thn (ha.run pos pins s σ H _ I (out_callD hd o)) fun us s1 ⟨vs, H1, I1, r, q⟩ => ?_) hpl he
  refine thn (hkw.run pos pins s1 σ H1 _ I1 q) fun ws s2 ⟨zs, H2, I2, rz, l1, l2, q2⟩ => ⟨I2.kIn, ?_⟩
  rw [hks]
  exact run_mk hm M F gd hr tk (fun s3 y K3 => hb s3 y us ws K3 (by rw [← r.length]; exact l1) (by rw [← rz.length]; exact l2)) I2 (srcD_vals r rd rz ss) q2
theorem rMakeDK0 (G : HasMD X.prog X.w X.K X.mg X.base x k 0 ks ss ds ps mf) (gd : X.A.guards = some []) (hr : Room (k + 1) X.A) (tk : Takes X W) (hkw : PK X kws (lA X W fk))
    (hall : (backToKw pos (keywordEach kws X.env)).all (·.1.isSome) = true := by rfl) (hks : (backToKw pos (keywordEach kws X.env)).filterMap (·.1) = ks := by rfl) (hg : Gl X x := by rfl) (hdb : (x == ("__debug__" : Str)) = false := by decide)
    (hpl : ((backTo pos (starEach [] X.env)).any (·.1) || (backToKw pos (keywordEach kws X.env)).any (·.1.isNone)) = false := by rfl) :
    PE X (.Call (.Name x p) [] kws pos) (lE X W (eCallD 0 ks.length ps.length ss ds (mMake x mf) aNil fk)) := by
  obtain ⟨C, f, fd, s0, dv, its, hm, M, rd, hd, hb, F⟩ := G
  refine ⟨fun pins s σ H Q I o => wpAny_Call_Name_kw (ld_glob I hg hm ?_ hdb)⟩
  refine PySem.W.callWith_KW0 (h₀ := X.base) I.ok.mod.kin M.kp hall (thn (hkw.run pos pins s σ H _ I (lK_nil (out_callD hd o))) fun ws s2 ⟨zs, H2, I2, rz, l1, l2, q2⟩ => ⟨I2.kIn, ?_⟩) hpl
  rw [hks]
  exact run_mk (us := []) hm M F gd hr tk (fun s3 y K3 => hb s3 y [] ws K3 rfl (by rw [← rz.length]; exact l2)) I2 (srcD_vals .nil rd rz ss) q2
end
/-- how a def without defaults binds -/
theorem bindsD0 {K : PySem.W.Frag} {x qual : Str} {params : Arguments} {body : List Stmt} {scope : Scope} {f : Addr} {fd : FuncData} {n m : Nat} {g : List Value → List Value → List (Str × Value)} {kw : List Value → List (Str × Value)} {kws : List (Str × V)} (F : FunD K x qual params body scope [] kws f fd)
    (h : ∀ (kV doc pm : Value) (an : Option Addr) (cdv ct : Value) (us ws : List Value), us.length = n → ws.length = m → bindArgs (PySem.W.fnOf x qual params body scope .none kV doc pm an cdv ct) ⟨us, kw ws⟩ = pure (g us ws)) :
    ∀ (s : Shared) (us ws : List Value), K.In s.heap → us.length = n → ws.length = m → BindsTo s fd ⟨us, kw ws⟩ (g us ws) := by
  obtain ⟨oc, od, dV, kV, doc, pm, an, cdv, ct, osl, rfl, lk, hcd, hD, hK⟩ := F.ex
  rcases hD with ⟨_, rfl⟩ | ⟨e, _⟩
  · exact fun s us ws _ l1 l2 => .of_eq (h kV doc pm an cdv ct us ws l1 l2)
  · exact absurd rfl e
/-- how a def with defaults binds -/
theorem bindsD1 {K : PySem.W.Frag} {x qual : Str} {params : Arguments} {body : List Stmt} {scope : Scope} {f : Addr} {fd : FuncData} {dvs : List V} {n m : Nat} {g : List Value → List Value → List Value → List (Str × Value)} {kw : List Value → List (Str × Value)} {kws : List (Str × V)} (F : FunD K x qual params body scope dvs kws f fd) (hd : dvs ≠ [])
    (h : ∀ (T : Addr) (kV doc pm : Value) (an : Option Addr) (cdv ct : Value) (us its ws : List Value), us.length = n → its.length = dvs.length → ws.length = m →
      ∃ k, bindArgs (PySem.W.fnOf x qual params body scope (.ref T) kV doc pm an cdv ct) ⟨us, kw ws⟩ = seqItems? (.ref T) >>= k ∧ k (some its.toArray) = pure (g us its ws)) :
    ∃ its, Vals dvs its ∧ ∀ (s : Shared) (us ws : List Value), K.In s.heap → us.length = n → ws.length = m → BindsTo s fd ⟨us, kw ws⟩ (g us its ws) := by
  obtain ⟨oc, od, dV, kV, doc, pm, an, cdv, ct, osl, rfl, lk, hcd, hD, hK⟩ := F.ex
  rcases hD with ⟨e, _⟩ | ⟨_, T, o, its, m', rfl, lT, oT, rT⟩
  · exact absurd e hd
  · refine ⟨its, rT, fun s us ws X l1 l2 => ?_⟩
    obtain ⟨k, e1, e2⟩ := h T kV doc pm an cdv ct us its ws l1 rT.length.symm l2
    refine BindsTo.of_looks fun M => ?_
    rw [e1]
    exact looks_items X lT oT (.of_pure e2)
end AVL

namespace AVL
open PySem PySem.Spec L2
/-! ### == and != by an own __eq__ -/
def tyA (h : AH) : AV → Option String
  | .non => some "NoneType"
  | .bl _ => some "bool"
  | .int _ => some "int"
  | .str _ => some "str"
  | .tup _ => some "tuple"
  | .lst _ => some "list"
  | .klst _ => some "list"
  | .dct _ _ => some "dict"
  | .ref k => match h[k]? with
    | some (.lst _) => some "list"
    | some (.dct _ _) => some "dict"
    | _ => none
  | _ => none
def okY (c : Str) (y : AV) (h : AH) : Bool := match y with
  | .obj c' _ _ => decide (c' = c)
  | y => (tyA h y).isSome
def eqBack (neg : Bool) : Res AV → Res AV
  | .ok (.bl b) h => .ok (.bl (if neg then !b else b)) h
  | _ => .stuck
def mEqO (neg : Bool) (t : Str → Option MF) : AV → AV → AH → Res AV := fun x y h => match x with
  | .obj c _ _ => match t c with
    | some mf => if okY c y h then eqBack neg (mf [x, y] h) else .stuck
    | none => .stuck
  | _ => mEq neg x y h
theorem mEqO_calm {neg t} : Calm (mEqO neg t) := fun x y h => by
  unfold mEqO
  split
  · split
    · split
      · unfold eqBack
        split <;> trivial
      · trivial
    · trivial
  · exact mEq_calm _ _ _
/-- the class c has an own __eq__ -/
def HasEq (P : Program) (w : World) (K : PySem.W.Frag) (mg : Str → Option Value) (base : Heap) (c : Str) (k : Nat) (mf : MF) : Prop :=
  ∃ C f fd s0 s1, mg c = some (.ref C) ∧ PySem.W.findIn K (.ref C) "__eq__" = some (some (.ref f)) ∧ PySem.W.isFn K (.ref f) = true ∧ PySem.W.findIn K (.ref C) "__ne__" = some (some (.builtin "object.__ne__")) ∧
    PySem.W.mroIn K C (.type "object") = some true ∧ Binds K fd [s0, s1] [] ∧ FnG P w K mg base k f fd [s0, s1] (spOf K mg 2 mf)
theorem notFirst_ty {K : PySem.W.Frag} {C : Addr} {T : String} {bm : List Value} (e : fastBuiltinMro T = some bm) (h : bm.contains (.ref C) = false) : PySem.W.notFirst K C (.type T) = true := by
  have q : PySem.W.subIn K (.type T) (.ref C) = some false := by
    show (fastBuiltinMro T).map (·.contains (.ref C)) = some false
    rw [e]
    simp only [Option.map_some]
    rw [h]
  unfold PySem.W.notFirst
  rw [q]; simp
section
variable {X : Cx} {ρ : List Addr} {F : Hp} {h : AH} {H : Hp} {pins : List (Addr × Obj)} {σ : L2.St} {s : Shared}
theorem looks_ty {M : Model} {u : Value} {T : String} (e : s.TypeIs u T) : PySem.W.Looks M s.heap (typeOf u) (.type T) := fun A Q E s' k q => by
  refine wpAny_typeOf (T := T) ?_ q
  unfold Shared.TypeIs at e ⊢
  split
  · rename_i a
    simp only at e
    obtain ⟨o, e1, e2⟩ := e
    exact ⟨o, k _ _ e1, e2⟩
  · rename_i hn
    split at e
    · rename_i a; exact absurd rfl (hn a)
    · exact e
theorem ty_is {y : AV} {v : V} {u : Value} {T : String} (I : L2.Inv X pins σ H s) (rh : RH X.K X.mg ρ F h H) (rv : RV X.K X.mg ρ F y v) (ru : RelV v u) (e : tyA h y = some T) : s.TypeIs u T := by
  have lst : ∀ {a : Addr} {vs : List V}, v = .ref a → SqL X.K H a vs → s.TypeIs u "list" := fun ev eh => by
    subst ev
    exact (tyV_is (T := "list") I ru (.inl ⟨rfl, _, eh⟩)).1
  have dct : ∀ {a : Addr} {vs : List (Key × V)}, v = .ref a → H a = some (.dK vs) → s.TypeIs u "dict" := fun ev eh => by
    subst ev
    exact (tyV_is (T := "dict") I ru (.inr (.inr (.inl ⟨rfl, .inl ⟨_, eh⟩⟩)))).1
  cases y with
  | non => cases e; rw [rv.non] at ru; cases ru; rfl
  | bl i => cases e; rw [rv.bl] at ru; cases ru; rfl
  | int i => cases e; rw [rv.int] at ru; exact (tyV_is (T := "int") I ru rfl).1
  | str i => cases e; rw [rv.str] at ru; exact (tyV_is (T := "str") I ru rfl).1
  | tup l =>
    cases e
    simp only [RV] at rv
    obtain ⟨a, vs, rfl, q, _⟩ := rv
    cases ru
    obtain ⟨its, _, z, _⟩ := I.tuple (SqT.mono rh.sub q)
    exact Heap.IsTuple.typeIs z
  | lst l =>
    cases e
    simp only [RV] at rv
    obtain ⟨a, vs, ev, q, _⟩ := rv
    exact lst ev (.inl (.inl (rh.sub _ _ q)))
  | klst l =>
    cases e
    simp only [RV] at rv
    obtain ⟨a, vs, ev, q, _⟩ := rv
    exact lst ev (SqL.mono rh.sub q)
  | dct ks l =>
    cases e
    simp only [RV] at rv
    obtain ⟨a, vs, ev, q, _⟩ := rv
    exact dct ev (rh.sub _ _ q)
  | ref k =>
    simp only [RV] at rv
    obtain ⟨a, ev, ea⟩ := rv
    simp only [tyA] at e
    split at e
    · rename_i l q
      cases e
      obtain ⟨o, e1, vs, rfl, _⟩ := rh.cell k _ q a ea
      exact lst ev (.inl (.inl e1))
    · rename_i l q
      cases e
      obtain ⟨o, e1, vs, rfl, _⟩ := rh.cell k _ q a ea
      exact dct ev e1
    · cases e
  | _ => simp [tyA] at e
theorem nf_ty {y : AV} {T : String} {C : Addr} (e : tyA h y = some T) : PySem.W.notFirst X.K C (.type T) = true := by
  have hT : T = "NoneType" ∨ T = "bool" ∨ T = "int" ∨ T = "str" ∨ T = "tuple" ∨ T = "list" ∨ T = "dict" := by
    cases y with
    | ref k =>
      simp only [tyA] at e
      split at e <;> simp at e <;> subst e <;> simp
    | _ => simp [tyA] at e <;> subst e <;> simp
  rcases hT with rfl | rfl | rfl | rfl | rfl | rfl | rfl
  · exact notFirst_ty (bm := [.type "NoneType", .type "object"]) (by decide +kernel) rfl
  · exact notFirst_ty (bm := [.type "bool", .type "int", .type "object"]) (by decide +kernel) rfl
  · exact notFirst_ty (bm := [.type "int", .type "object"]) (by decide +kernel) rfl
  · exact notFirst_ty (bm := [.type "str", .type "object"]) (by decide +kernel) rfl
  · exact notFirst_ty (bm := [.type "tuple", .type "object"]) (by decide +kernel) rfl
  · exact notFirst_ty (bm := [.type "list", .type "object"]) (by decide +kernel) rfl
  · exact notFirst_ty (bm := [.type "dict", .type "object"]) (by decide +kernel) rfl
end
section
variable {X : Cx}
/-- the call of the own __eq__, at A -/
theorem eq_call {pins : List (Addr × Obj)} {σ : L2.St} {H : Hp} {s : Shared} {A : Around} {Q : VK} {k : Nat} {f : Addr} {fd : FuncData} {s0 s1 : Str} {mf : MF} {a : Addr} {v : V} {u : Value} (hfr : A.frames = X.A.frames) (gd : A.guards = some []) (hr : Room k A) (hb : Binds X.K fd [s0, s1] [])
    (F : FnG X.prog X.w X.K X.mg X.base k f fd [s0, s1] (spOf X.K X.mg 2 mf)) (I : L2.Inv X pins σ H s) (r : RelV v u) (h : spOf X.K X.mg 2 mf [.ref a, v] H Q fun _ _ _ => False) :
    wpAny (model X.prog X.w) A (call (.ref f) [.ref a, u]) (EP X pins σ Q) X.xe s := by
  have e0 : Env0 X.prog X.w X.K X.mg X.base A X.stack s H := by
    have e := I.env0
    exact ⟨by rw [hfr]; exact e.frames, e.mod, e.bs, e.bsz, e.funs, e.frf, e.hok, e.bare⟩
  have b := hb s [.ref a, u] I.kIn rfl
  rw [List.append_nil] at b
  refine wpAny_call (codeAny_mono (F.run A X.stack s H ⟨[.ref a, u], []⟩ [.ref a, u] [.ref a, v] Q (fun _ _ _ => False) gd hr e0 b (.cons rfl (.cons r .nil)) rfl h) fun r s' hq => ?_)
  cases r with
  | error e => exact passAt (W := W0) AVL.takes0 σ pins H s e s' I hq
  | ok fl =>
    cases fl with
    | ret u => exact I.after hq
    | next => exact False.elim hq
    | brk => exact False.elim hq
    | cont => exact False.elim hq
/-- x != b by object.__ne__ and the own __eq__ -/
theorem ifBound_objNe {M : Model} {A : Around} {E : Value → Shared → Prop} {s : Shared} {K : PySem.W.Frag} {x C : Addr} {ox : Obj} {od : Option Obj} {args : List Value} {Q : Option Value → Shared → Prop} (X : K.In s.heap) (I : PySem.W.InstAt s.heap x ox C od) (hs : PySem.W.findIn K (.ref C) "__ne__" = some (some (.builtin "object.__ne__")))
    (h : wpAny M A (call (.builtin "object.__ne__") (.ref x :: args)) (fun v => Q (some v)) E s) : wpAny M A (callSpecialIfBound? (.ref x) "__ne__" args) Q E s := by
  simp only [callSpecialIfBound?, bindSpecialIfBound?]
  refine wpAny_holding (wpAny_bind (wpAny_bind (wpAny_bind (I.type.here ((PySem.W.looks_findIn X hs).here ?_)))))
  refine wpAny_bind (wpAny_askSetting (wpAny_ite ?_))
  have fin : wpAny M A (call (.builtin "object.__ne__") ([.ref x] ++ args) >>= fun v => pure (some v)) Q E s := wpAny_bind (wpAny_mono h (fun v s' h' => wpAny_pure h') fun _ _ h' => h')
  split
  · exact wpAny_bind (wpAny_of_eq (F.cmp_object.ne.bind _) (wpAny_pure (by exact fin)))
  · exact wpAny_tryCatch (wpAny_bind (wpAny_of_eq (F.cmp_object.ne.bind _) (wpAny_pure (by exact fin))))
theorem entry_ne {M : Model} {A : Around} {E : Value → Shared → Prop} {s : Shared} {K : PySem.W.Frag} {x C f : Addr} {ox : Obj} {od : Option Obj} {b : Value} {Q : Fin → Shared → Prop} (hu : A.units < cLine) (X : K.In s.heap) (I : PySem.W.InstAt s.heap x ox C od)
    (hs : PySem.W.findIn K (.ref C) "__eq__" = some (some (.ref f))) (hf : PySem.W.isFn K (.ref f) = true)
    (h : wpAny M A (call (.ref f) [.ref x, b]) (fun v s' => ∃ b, v = .bool b ∧ Q (.done (.ret (.bool (!b)))) s') E s) : wpAny M A (Builtin.«object.__ne__» ⟨[.ref x, b], []⟩) Q E s := by
  unfold Builtin.«object.__ne__»
  repeat (first
    | with_reducible refine wpAny_cRoomFor hu ?_
    | (refine wpAny_bind (m := callSpecialIfBound? (.ref x) (Str.ofString "__eq__") [b])
        (PySem.W.ifBound_K X I hs hf (wpAny_mono h (fun r s' hr => by
          obtain ⟨b, rfl, hq⟩ := hr
          repeat (first | exact hq | exact wpAny_pure hq | exact wpAny_truthy_bool hq | (refine wpAny_bind (m := truthy (.bool _)) (wpAny_truthy_bool ?_)) | wp_step)) fun _ _ e => e)))
    | wp_step)
theorem ne_own {A : Around} {E : Value → Shared → Prop} {prog : Program} {w : World} {s : Shared} {K : PySem.W.Frag} {x C f : Addr} {ox : Obj} {od : Option Obj} {b tb : Value} {Q : Value → Shared → Prop} (hu : A.units + 1 < cLine) (X : K.In s.heap) (I : PySem.W.InstAt s.heap x ox C od)
    (hb : PySem.W.Looks (model prog w) s.heap (typeOf b) tb) (hn : PySem.W.notFirst K C tb = true)
    (hs : PySem.W.findIn K (.ref C) "__eq__" = some (some (.ref f))) (hf : PySem.W.isFn K (.ref f) = true) (hne : PySem.W.findIn K (.ref C) "__ne__" = some (some (.builtin "object.__ne__"))) (hm : PySem.W.mroIn K C (.type "object") = some true)
    (h : wpAny (model prog w) A.in1 (call (.ref f) [.ref x, b]) (fun v s' => ∃ b, v = .bool b ∧ Q (.bool (!b)) s') E s) : wpAny (model prog w) A (richCompare .NotEq (.ref x) b) Q E s := by
  have one : wpAny (model prog w) A (tryCompare (.ref x) (cmpInfo .NotEq).2.1 b) (fun r s' => ∃ v, r = some v ∧ Q v s') E s := by
    unfold tryCompare
    refine wpAny_bind (ifBound_objNe X I hne (wpAny_call (codeAny_call_builtin F.cmp_object.ne.plain F.cmpEntry_ne (PySem.W.check_slot F.cmpKind_ne F.cmpSplit_ne (I.type.andThen (PySem.W.looks_mroIn X hm)) (F.cmpArgs_ne _ _)
      (entry_ne (A := A.in1) hu X I hs hf (wpAny_mono h (fun v s' hv => ?_) fun _ _ e => e))))))
    obtain ⟨b, rfl, hq⟩ := hv
    first | exact ⟨b, rfl, wpAny_pure ⟨_, rfl, hq⟩⟩ | exact ⟨b, rfl, ⟨_, rfl, hq⟩⟩
  unfold richCompare
  simp only [oneThing_ref]
  refine wpAny_holding (wpAny_bind (wpAny_cRoomFor (Nat.lt_of_succ_lt hu) ?_))
  refine wpAny_bind (I.type.here (wpAny_bind (hb.here ?_)))
  split
  · rename_i q
    have e : PySem.W.subIn K tb (.ref C) = some false := by
      rcases Bool.or_eq_true_iff.mp hn with e | e
      · rw [beq_iff_eq.mp e] at q; simp at q
      · exact beq_iff_eq.mp e
    refine wpAny_bind ((PySem.W.looks_subIn X e).here ?_)
    simp only [Bool.false_eq_true, if_false]
    refine wpAny_bind (wpAny_mono one (fun r s' z => ?_) fun _ _ e => e)
    obtain ⟨v, rfl, hq⟩ := z
    exact wpAny_pure hq
  · refine wpAny_bind (wpAny_pure ?_)
    simp only [Bool.false_eq_true, if_false]
    refine wpAny_bind (wpAny_mono one (fun r s' z => ?_) fun _ _ e => e)
    obtain ⟨v, rfl, hq⟩ := z
    exact wpAny_pure hq
end
section
variable {X : Cx} {t : Str → Option MF}
theorem mEqO_in {neg : Bool} {pins : List (Addr × Obj)} {σ : L2.St} {H : Hp} {s : Shared} {v w : V} {u u' : Value} {Q : VK} {ρ : List Addr} {F0 : Hp} {y : AV} {h : AH} {c : Str} {ks : List Str} {l : List AV}
    (ht : ∀ c mf, t c = some mf → ∃ k, HasEq X.prog X.w X.K X.mg X.base c k mf ∧ Room (k + 1) X.A) (gd : X.A.guards = some []) (I : L2.Inv X pins σ H s) (r1 : RelV v u) (r2 : RelV w u')
    (rv : RV X.K X.mg ρ F0 (.obj c ks l) v) (rw' : RV X.K X.mg ρ F0 y w) (rh : RH X.K X.mg ρ F0 h H) (o : Out X.K X.mg (RV X.K X.mg) ρ F0 H (mEqO neg t (.obj c ks l) y h) Q fun _ _ _ => False) :
    wpAny (model X.prog X.w) X.A (richCompare (if neg then .NotEq else .Eq) u u') (EP X pins σ Q) X.xe s := by
  simp only [mEqO] at o
  split at o
  case h_2 => exact o.elim
  rename_i mf hmf
  split at o
  case isFalse => exact o.elim
  rename_i hy
  obtain ⟨k, ⟨C, f, fd, s0, s1, hm, hs, hf, hne, hmro, hb, F⟩, hr⟩ := ht c mf hmf
  have rv0 := rv
  simp only [RV] at rv
  obtain ⟨a, C', dx, fs, rfl, em, q1, hks, rr⟩ := rv
  rw [hm] at em; cases em
  cases r1
  have qa := rh.sub _ _ q1
  obtain ⟨mA, J, _⟩ := ins_get I.hok qa
  obtain ⟨od, J, _⟩ := J.look
  obtain ⟨m, hF⟩ := I.fr
  have sp : spOf X.K X.mg 2 mf [.ref a, w] H (fun v H' => ∃ b, v = .bl b ∧ Q (.bl (if neg then !b else b)) H') fun _ _ _ => False := by
    refine ⟨ρ, F0, [.obj c ks l, y], h, ?_, rh, rfl, ?_⟩
    · simp only [RVs]
      exact ⟨_, _, rfl, rv0, _, _, rfl, rw', rfl⟩
    · cases q : mf [.obj c ks l, y] h with
      | stuck => rw [q] at o; exact o.elim
      | exc c' ks l h' => rw [q] at o; exact o.elim
      | ok z h' =>
        rw [q] at o
        cases z with
        | bl b => exact fun ρ' F' H' v e' rh' rv' => ⟨b, by simpa [RV] using rv', o ρ' F' H' _ e' rh' (by simp [RV])⟩
        | _ => exact o.elim
  have tyb : ∃ tb, PySem.W.Looks (model X.prog X.w) s.heap (typeOf u') tb ∧ PySem.W.notFirst X.K C tb = true := by
    cases y with
    | obj c' ks' l' =>
      have ec : c' = c := of_decide_eq_true hy
      subst ec
      simp only [RV] at rw'
      obtain ⟨a', C', dx', fs', rfl, em, q1, hks, rr⟩ := rw'
      rw [hm] at em; cases em
      cases r2
      obtain ⟨mA', J', _⟩ := ins_get I.hok (rh.sub _ _ q1)
      obtain ⟨od', J', _⟩ := J'.look
      exact ⟨_, J'.type, by simp [PySem.W.notFirst]⟩
    | _ =>
      have hy' := hy
      simp only [okY] at hy'
      obtain ⟨T, hT⟩ := Option.isSome_iff_exists.mp hy'
      exact ⟨_, looks_ty (ty_is I rh rw' r2 hT), nf_ty (X := X) hT⟩
  obtain ⟨tb, lb, nf⟩ := tyb
  cases neg with
  | false =>
    refine PySem.W.cmp_K (op := .Eq) (tb := tb) hr.units0 hF I.ok.mod.kin J lb nf hs hf ?_
    refine wpAny_mono (eq_call rfl gd (hr.mono (by omega)) hb F I r2 sp) (fun z s' hz => ?_) fun _ _ x => x
    obtain ⟨v, H', I', rz, b, rfl, q⟩ := hz
    cases rz
    exact ⟨.bl b, H', I', rfl, q⟩
  | true =>
    refine ne_own (tb := tb) (by have := hr.units; omega) I.kIn J lb nf hs hf hne hmro ?_
    refine wpAny_mono (eq_call (A := X.A.in1) rfl gd hr.in1 hb F I r2 sp) (fun z s' hz => ?_) fun _ _ x => x
    obtain ⟨v, H', I', rz, b, rfl, q⟩ := hz
    cases rz
    exact ⟨b, rfl, .bl (!b), H', I', rfl, q⟩
theorem mEqO_ok (hu : X.A.units + 64 < cLine) (ht : ∀ c mf, t c = some mf → ∃ k, HasEq X.prog X.w X.K X.mg X.base c k mf ∧ Room (k + 1) X.A) (gd : X.A.guards = some []) : OpOk X (compareOp .Eq) (mEqO false t) := by
  intro pins s σ H v w u u' Q I r1 r2 ⟨ρ, F, x, y, h, rv, rw', rh, o⟩
  cases x with
  | obj c ks l => exact mEqO_in (neg := false) ht gd I r1 r2 rv rw' rh o
  | _ => exact mEq_ok hu pins s σ H v w u u' Q I r1 r2 ⟨ρ, F, _, y, h, rv, rw', rh, o⟩
theorem mNeO_ok (hu : X.A.units + 64 < cLine) (ht : ∀ c mf, t c = some mf → ∃ k, HasEq X.prog X.w X.K X.mg X.base c k mf ∧ Room (k + 1) X.A) (gd : X.A.guards = some []) : OpOk X (compareOp .NotEq) (mEqO true t) := by
  intro pins s σ H v w u u' Q I r1 r2 ⟨ρ, F, x, y, h, rv, rw', rh, o⟩
  cases x with
  | obj c ks l => exact mEqO_in (neg := true) ht gd I r1 r2 rv rw' rh o
  | _ => exact mNe_ok hu pins s σ H v w u u' Q I r1 r2 ⟨ρ, F, _, y, h, rv, rw', rh, o⟩
end
end AVL

namespace AVL
open PySem PySem.Spec L2
/-! ### methods of lists and texts -/
abbrev MM := AV → List AV → AH → Res AV
def MtOk (X : Cx) (id : String) (m : MM) : Prop := MtR X id fun v ws H Q => ∃ ρ F x xs h, RV X.K X.mg ρ F x v ∧ RVs X.K X.mg ρ F xs ws ∧ RH X.K X.mg ρ F h H ∧ Out X.K X.mg (RV X.K X.mg) ρ F H (m x xs h) Q fun _ _ _ => False
def CalmM (m : MM) : Prop := ∀ x xs h, (m x xs h).calm
def okT (T : String) : Bool := T == "list" || (T == "str" || T == "dict")
def eMt (T : String) (m : MM) (fo : EM) (fa : AM) : EM := fun sl h => (fo sl h).bind fun x h1 => if tyA h1 x = some T then (fa sl h1).bind fun ys h2 => m x ys h2 else .stuck
theorem Out.mono' {α β : Type} {R : List Addr → Hp → α → β → Prop} {K : PySem.W.Frag} {mg : Str → Option Value} {ρ : List Addr} {F H : Hp} {r : Res α} {Q Q' : β → Hp → Prop} {E : XK} (o : Out K mg R ρ F H r Q E) (i : ∀ v H1, Q v H1 → Q' v H1) : Out K mg R ρ F H r Q' E := by
  cases r with
  | ok a h => exact fun ρ' F' H' v e rh rv => i _ _ (o ρ' F' H' v e rh rv)
  | exc c ks l h => exact o
  | stuck => exact o
section
variable {X : Cx} {W : WX} {fo : EM} {fa : AM} {o e : Expr} {es : List Expr} {name : Str} {apos cpos : Pos} {T id : String} {m : MM}
theorem tyV_of {ρ : List Addr} {F : Hp} {h : AH} {H : Hp} {x : AV} {v : V} (hT : okT T = true) (rh : RH X.K X.mg ρ F h H) (rv : RV X.K X.mg ρ F x v) (e : tyA h x = some T) : tyV X.K T v H := by
  cases x with
  | non => cases e; cases hT
  | bl i => cases e; cases hT
  | int i => cases e; cases hT
  | str i => cases e; rw [rv.str]; rfl
  | tup l => cases e; cases hT
  | lst l =>
    cases e
    simp only [RV] at rv
    obtain ⟨a, vs, rfl, q, _⟩ := rv
    exact .inl ⟨rfl, _, .inl (.inl (rh.sub _ _ q))⟩
  | klst l =>
    cases e
    simp only [RV] at rv
    obtain ⟨a, vs, rfl, q, _⟩ := rv
    exact .inl ⟨rfl, _, SqL.mono rh.sub q⟩
  | dct ks l =>
    cases e
    simp only [RV] at rv
    obtain ⟨a, vs, rfl, q, _⟩ := rv
    exact .inr (.inr (.inl ⟨rfl, .inl ⟨_, rh.sub _ _ q⟩⟩))
  | ref k =>
    simp only [RV] at rv
    obtain ⟨a, rfl, ea⟩ := rv
    simp only [tyA] at e
    split at e
    · rename_i l q
      cases e
      obtain ⟨o, e1, vs, rfl, _⟩ := rh.cell k _ q a ea
      exact .inl ⟨rfl, _, .inl (.inl e1)⟩
    · rename_i l q
      cases e
      obtain ⟨o, e1, vs, rfl, _⟩ := rh.cell k _ q a ea
      exact .inr (.inr (.inl ⟨rfl, .inl ⟨_, e1⟩⟩))
    · cases e
  | _ => simp [tyA] at e
theorem mt_in {σ : L2.St} {H : Hp} {Q : VK} (hT : okT T = true) (c : CalmM m) (o : lE X W (eMt T m fo fa) σ H Q) :
    lE X W fo σ H fun v H1 => tyV X.K T v H1 ∧ lA X W fa σ H1 fun ws H2 => ∃ ρ F x xs h, RV X.K X.mg ρ F x v ∧ RVs X.K X.mg ρ F xs ws ∧ RH X.K X.mg ρ F h H2 ∧ Out X.K X.mg (RV X.K X.mg) ρ F H2 (m x xs h) Q fun _ _ _ => False := by
  obtain ⟨ρ, F, sl, h, rs, rh, o⟩ := o
  refine ⟨ρ, F, sl, h, rs, rh, Out.bind (R := RV X.K X.mg) o fun x h1 ρ1 F1 H1 v ex rh1 rv o1 => ?_⟩
  split at o1
  case isFalse => exact o1.elim
  rename_i ht
  refine ⟨tyV_of hT rh1 rv ht, ρ1, F1, sl, h1, rs.ext ex, rh1, Out.bind (R := RVs X.K X.mg) o1 fun xs h2 ρ2 F2 H2 ws ex2 rh2 rw' o2 => ?_⟩
  exact ⟨ρ2, F2, x, xs, h2, rv.ext ex2, rw', rh2, Out.calm o2 (c x xs h2)⟩
theorem rMt (pa : PlainAttrs T) (slot : Slot T name id) (hty : typeOf (.builtin id) = pure (.type "method_descriptor")) (hm : MtOk X id m) (c : CalmM m) (ho : PE X o (lE X W fo)) (ha : PA X (e :: es) (lA X W fa)) (hT : okT T = true := by rfl)
    (hbase : attributeBase o name X.env (eval o X.env) = eval o X.env := by rfl)
    (hfew : ((backTo cpos (starEach (e :: es) X.env)).all (fun x => !x.1) && (backToKw cpos (keywordEach [] X.env)).all (fun x => x.1.isSome)
      && decide ((e :: es).length + ([] : List Keyword).length + (if ([] : List Keyword).isEmpty then 0 else 1) < 30)) = true := by rfl)
    (hline : (apos.endLine == cpos.line) = true := by rfl) (hs : starEach (e :: es) X.env = (false, eval e X.env) :: starEach es X.env := by rfl) (hplain : (backTo cpos (starEach es X.env)).any (·.1) = false := by rfl) :
    PE X (.Call (.Attribute o name apos) (e :: es) [] cpos) (lE X W (eMt T m fo fa)) :=
  pe_imp (pe_bm pa slot hty hm ho ha hbase hfew hline hs hplain) fun σ H Q o => mt_in hT c o
theorem rMt0 (pa : PlainAttrs T) (slot : Slot T name id) (hty : typeOf (.builtin id) = pure (.type "method_descriptor")) (hm : MtOk X id m) (c : CalmM m) (ho : PE X o (lE X W fo)) (hT : okT T = true := by rfl)
    (hbase : attributeBase o name X.env (eval o X.env) = eval o X.env := by rfl) (hline : (apos.endLine == cpos.line) = true := by rfl) :
    PE X (.Call (.Attribute o name apos) [] [] cpos) (lE X W (eMt T m fo aNil)) := by
  refine pe_imp (pe_bm0 pa slot hty hm ho hbase hline) fun σ H Q o => ?_
  obtain ⟨ρ, F, sl, h, rs, rh, z⟩ := mt_in hT c o
  exact ⟨ρ, F, sl, h, rs, rh, Out.mono' z fun v H1 ⟨t, q⟩ => ⟨t, lK_nil q⟩⟩
/-! lists -/
def mApp : MM := fun x ys h => match x, ys with
  | .ref n, [y] => match h[n]? with
    | some (.lst l) => if bnd (n + 1) y && decide (l.length < sizeLine) then .ok .non (h.set n (.lst (l ++ [y]))) else .stuck
    | _ => .stuck
  | _, _ => .stuck
theorem mApp_calm : CalmM mApp := fun x xs h => by
  unfold mApp
  split
  · split
    · split <;> trivial
    · trivial
  · trivial
theorem bnds_app {m : Nat} {l k : List AV} (a : bnds m l = true) (b : bnds m k = true) : bnds m (l ++ k) = true := by
  induction l with
  | nil => exact b
  | cons x r ih =>
    have a' : (bnd m x && bnds m r) = true := a
    rw [Bool.and_eq_true] at a'
    show (bnd m x && bnds m (r ++ k)) = true
    rw [a'.1, ih a'.2]; rfl
theorem mApp_ok : MtOk X "list.append" mApp := by
  intro pins s σ H v ws u us Q I r1 r2 ⟨ρ, F, x, xs, h, rv, rw', rh, o⟩
  refine mt_append pins s σ H v ws u us Q I r1 r2 ?_
  unfold mApp at o
  split at o
  case h_2 => exact o.elim
  rename_i n y
  split at o
  case h_2 => exact o.elim
  rename_i l hl
  split at o
  case isFalse => exact o.elim
  rename_i hb
  simp only [Bool.and_eq_true, decide_eq_true_eq] at hb
  simp only [RV] at rv
  obtain ⟨a, rfl, ea⟩ := rv
  obtain ⟨_, e1, vs, rfl, rr⟩ := rh.cell n _ hl a ea
  obtain ⟨w, rfl, ry⟩ := rw'.one
  have ob : bnds (n + 1) l = true := rh.old n _ hl
  have hm : a ∈ ρ := List.mem_of_getElem? ea
  refine ⟨a, vs, w, rfl, rfl, e1, by rw [← rr.length]; exact hb.2, ?_⟩
  exact o ρ F _ .non (ext_set rh hm e1 fun ps => by simp) (rh_set rh ea hl rfl (bnds_app ob (by simp [bnds, hb.1])) ⟨_, rfl, rr.append (.cons ry .nil)⟩) (by simp [RV])
def mExt : MM := fun x ys h => match x, ys with
  | .ref n, [y] => match h[n]?, itemsM h y with
    | some (.lst l), some k => if bnds (n + 1) k && decide (l.length + k.length ≤ sizeLine) then .ok .non (h.set n (.lst (l ++ k))) else .stuck
    | _, _ => .stuck
  | _, _ => .stuck
theorem mExt_calm : CalmM mExt := fun x xs h => by
  unfold mExt
  split
  · split
    · split <;> trivial
    · trivial
  · trivial
theorem mExt_ok : MtOk X "list.extend" mExt := by
  intro pins s σ H v ws u us Q I r1 r2 ⟨ρ, F, x, xs, h, rv, rw', rh, o⟩
  refine mt_extend pins s σ H v ws u us Q I r1 r2 ?_
  unfold mExt at o
  split at o
  case h_2 => exact o.elim
  rename_i n y
  split at o
  case h_2 => exact o.elim
  rename_i l k hl hk
  split at o
  case isFalse => exact o.elim
  rename_i hb
  simp only [Bool.and_eq_true, decide_eq_true_eq] at hb
  simp only [RV] at rv
  obtain ⟨a, rfl, ea⟩ := rv
  obtain ⟨_, e1, vs, rfl, rr⟩ := rh.cell n _ hl a ea
  obtain ⟨w, rfl, ry⟩ := rw'.one
  obtain ⟨b, zs, rfl, e2, rz⟩ := items_M rh ry hk
  have ob : bnds (n + 1) l = true := rh.old n _ hl
  have hm : a ∈ ρ := List.mem_of_getElem? ea
  refine ⟨a, b, vs, zs, rfl, rfl, e1, e2, by rw [← rr.length, ← rz.length]; exact hb.2, ?_⟩
  exact o ρ F _ .non (ext_set rh hm e1 fun ps => by simp) (rh_set rh ea hl rfl (bnds_app ob hb.1) ⟨_, rfl, rr.append rz⟩) (by simp [RV])
def mPop : MM := fun x ys h => match x, ys with
  | .ref n, [] => match h[n]? with
    | some (.lst l) => match l[l.length - 1]? with
      | some y => .ok y (h.set n (.lst l.dropLast))
      | none => .stuck
    | _ => .stuck
  | .ref n, [.int i] => match h[n]? with
    | some (.lst l) => if decide (-(2 ^ 63) ≤ i) && decide (i < 2 ^ 63) then match seqIndex? i l.length with
      | some k => match l[k]? with
        | some y => .ok y (h.set n (.lst (l.eraseIdx k)))
        | none => .stuck
      | none => .stuck
      else .stuck
    | _ => .stuck
  | _, _ => .stuck
theorem mPop_calm : CalmM mPop := fun x xs h => by
  unfold mPop
  split
  · split
    · split <;> trivial
    · trivial
  · split
    · split
      · split
        · split <;> trivial
        · trivial
      · trivial
    · trivial
  · trivial
theorem bnds_sub {m : Nat} {l k : List AV} (s : k.Sublist l) (b : bnds m l = true) : bnds m k = true := by
  have key : ∀ l : List AV, bnds m l = l.all (bnd m) := fun l => by
    induction l with
    | nil => rfl
    | cons x r ih => show (bnd m x && bnds m r) = _; rw [ih]; rfl
  rw [key] at b ⊢
  rw [List.all_eq_true] at b ⊢
  exact fun x hx => b x (s.subset hx)
theorem RVs.eraseIdx {K : PySem.W.Frag} {mg : Str → Option Value} {ρ : List Addr} {F : Hp} : ∀ {l : List AV} {vs : List V} (k : Nat), RVs K mg ρ F l vs → RVs K mg ρ F (l.eraseIdx k) (vs.eraseIdx k)
  | [], vs, k, r => by simp only [RVs] at r; subst r; simp [RVs]
  | x :: l, vs, 0, r => by
    simp only [RVs] at r
    obtain ⟨v, r', rfl, a, b⟩ := r
    simpa using b
  | x :: l, vs, k + 1, r => by
    simp only [RVs] at r
    obtain ⟨v, r', rfl, a, b⟩ := r
    simp only [List.eraseIdx_cons_succ, RVs]
    exact ⟨_, _, rfl, a, RVs.eraseIdx k b⟩
theorem dropLast_erase {α : Type} (l : List α) : l.dropLast = l.eraseIdx (l.length - 1) := by
  rw [List.eraseIdx_eq_take_drop_succ, List.dropLast_eq_take]
  cases l with
  | nil => rfl
  | cons a r => simp
theorem mPop_ok : MtOk X "list.pop" mPop := by
  intro pins s σ H v ws u us Q I r1 r2 ⟨ρ, F, x, xs, h, rv, rw', rh, o⟩
  unfold mPop at o
  split at o
  · rename_i n
    refine mt_pop pins s σ H v ws u us Q I r1 r2 ?_
    split at o
    case h_2 => exact o.elim
    rename_i l hl
    split at o
    case h_2 => exact o.elim
    rename_i y hy
    simp only [RV] at rv
    obtain ⟨a, rfl, ea⟩ := rv
    obtain ⟨_, e1, vs, rfl, rr⟩ := rh.cell n _ hl a ea
    obtain ⟨w, ew, ry⟩ := rr.get hy
    have ob : bnds (n + 1) l = true := rh.old n _ hl
    have hm : a ∈ ρ := List.mem_of_getElem? ea
    refine ⟨a, vs, w, rfl, by simpa [RVs] using rw', e1, by rw [← rr.length]; exact ew, ?_⟩
    have rd := RVs.eraseIdx (l.length - 1) rr
    refine o ρ F _ w (ext_set rh hm e1 fun ps => by simp) (rh_set rh ea hl rfl (bnds_sub (List.dropLast_sublist l) ob) ⟨_, rfl, ?_⟩) (ry.ext (ext_set (o := .lst vs.dropLast) rh hm e1 fun ps => by simp))
    rw [dropLast_erase, dropLast_erase, ← rr.length]; exact rd
  · rename_i n i
    refine mt_popAt pins s σ H v ws u us Q I r1 r2 ?_
    split at o
    case h_2 => exact o.elim
    rename_i l hl
    split at o
    case isFalse => exact o.elim
    rename_i hb
    simp only [Bool.and_eq_true, decide_eq_true_eq] at hb
    split at o
    case h_2 => exact o.elim
    rename_i k hk
    split at o
    case h_2 => exact o.elim
    rename_i y hy
    simp only [RV] at rv
    obtain ⟨a, rfl, ea⟩ := rv
    obtain ⟨_, e1, vs, rfl, rr⟩ := rh.cell n _ hl a ea
    obtain ⟨w, ew, ry⟩ := rr.get hy
    obtain ⟨w2, rfl, ri⟩ := rw'.one
    rw [ri.int]
    have ob : bnds (n + 1) l = true := rh.old n _ hl
    have hm : a ∈ ρ := List.mem_of_getElem? ea
    refine ⟨a, vs, i, k, w, rfl, rfl, e1, hb.1, hb.2, by rw [← rr.length]; exact hk, ew, ?_⟩
    exact o ρ F _ w (ext_set rh hm e1 fun ps => by simp) (rh_set rh ea hl rfl (bnds_sub (List.eraseIdx_sublist l k) ob) ⟨_, rfl, RVs.eraseIdx k rr⟩) (ry.ext (ext_set (o := .lst (vs.eraseIdx k)) rh hm e1 fun ps => by simp))
  · exact o.elim
end
end AVL

namespace AVL
open PySem PySem.Calls PyProof.Rows PySem.W PySem.SeqAt
/-! ### sorting alike data, tuples without items among them too -/
section
variable {prog : Program} {w : World} {A : Around} {E : Value → Shared → Prop} {s : Shared}
theorem call_tup_lt {Q : Value → Shared → Prop} {l b : Addr} {items items2 : Array Value} {e r : Nat → Bool} (hl : s.heap.IsTuple l items) (hb : s.heap.IsTuple b items2)
    (he : ∀ j (h1 : j < items.size) (h2 : j < items2.size), EqAt A.in1 s items[j] items2[j] (e j)) (hr : ∀ j (h1 : j < items.size) (h2 : j < items2.size), e j = false → RcLt A.in1 s items[j] items2[j] (r j))
    (h : Q (.bool (firstLt e r (decide (items.size < items2.size)) (List.range (min items.size items2.size)))) s) : wpAny (model prog w) A (call (.builtin "tuple.__lt__") [.ref l, .ref b]) Q E s := by
  obtain ⟨⟨cls, dd, data, sl⟩, ho, hc, n, hd⟩ := id hl
  obtain ⟨⟨cls2, dd2, data2, sl2⟩, ho2, hc2, n2, hd2⟩ := id hb
  simp only at hc hd hc2 hd2
  subst hc hd hc2 hd2
  exact call_meets F.slot_tuple_lt ⟨_, ho, rfl⟩ F.entry_tuple_lt (F.args_tuple_lt_2 _ _) (tuple_ltAt l b items items2 n n2 dd dd2 sl sl2 e r) ⟨ho, ho2, he, hr, h⟩
theorem oneLt_tup {f : Bool} {xs ys : List PyData} {a b : Value} {as bs : List Addr} {Q : Bool → Shared → Prop} (ra : Reads s.heap a (.tuple xs) as) (rb : Reads s.heap b (.tuple ys) bs) (h : alike (.tuple xs) (.tuple ys) = true)
    (hu : A.units + min (PyData.tuple xs).depth (PyData.tuple ys).depth < cLine) (hq : Q (dataLt (.tuple xs) (.tuple ys)) s) : wpAny (model prog w) A (oneLt' f a b) Q E s := by
  cases f with
  | false => exact oneLt_alike (fun z => by cases z) ra rb h (fun z => by cases z) hu hq
  | true =>
    have hal : alikeAll xs ys = true := by simpa [alike] using h
    cases ra with
    | @tuple l o vs n _ as₁ h1 h2 h3 h4 =>
      cases rb with
      | @tuple l' o' vs' n' _ bs₁ k1 k2 k3 k4 =>
        have n1 : vs.size = xs.length := by simpa using ReadsAll.length _ _ _ h4
        have n2 : vs'.size = ys.length := by simpa using ReadsAll.length _ _ _ k4
        rw [dataLt_tuple, ← firstLt_toks xs ys hal, ← n1, ← n2] at hq
        rw [oneLt'_eq]
        simp only [if_true]
        refine wpAny_bind (wpAny_cRoomFor (room_here hu) ?_)
        refine wpAny_bind (wpAny_callSpecialIfBound?_slot (T := "tuple") ⟨_, h1, h2⟩ F.slot_tuple_lt (call_tup_lt (e := pairEq xs ys) (r := fun j => dataLt (xs.getD j .none) (ys.getD j .none)) ⟨_, h1, h2, _, h3⟩ ⟨_, k1, k2, _, k3⟩ (fun j j1 j2 => ?_) (fun j j1 j2 hj => ?_) ?_))
        · have := eqAt_alikeAll xs ys A.in1 s vs.toList vs'.toList _ _ h4 k4 hal (room_in hu) j (by simpa using j1) (by simpa using j2)
          simpa using this
        · have := rcLt_alikeAll xs ys A.in1 s vs.toList vs'.toList _ _ h4 k4 hal (room_in hu) j (by simpa using j1) (by simpa using j2) hj
          simpa using this
        · exact wpAny_truthy_bool hq
/-- tuples, and their first items -/
def TupF (h : Heap) : List Value → List (Option Value) → Prop
  | [], [] => True
  | v :: vs, f :: fs => (∃ a o xs n, v = .ref a ∧ h.get? a = some o ∧ o.cls = .type "tuple" ∧ o.data = .seq xs n ∧ xs[0]? = f) ∧ TupF h vs fs
  | _, _ => False
theorem tup_firsts {M : Model} : ∀ (vs : List Value) (fs : List (Option Value)) {Q : List (Option Value) → Shared → Prop}, TupF s.heap vs fs → Q fs s → wpAny M A (vs.mapM firstOfTuple') Q E s
  | [], [], _, _, h => by rw [List.mapM_nil]; exact wpAny_pure h
  | [], _ :: _, _, t, _ => t.elim
  | _ :: _, [], _, t, _ => t.elim
  | v :: vs, f :: fs, Q, t, h => by
    obtain ⟨⟨a, o, xs, n, rfl, ho, hc, hd, hf⟩, t⟩ := t
    rw [List.mapM_cons]
    refine wpAny_bind ?_
    rw [kas_first_eq]
    refine wpAny_bind (Looks.here (show Looks M s.heap (typeOf (.ref a)) o.cls from (Looks.ld ho).andThen .now) ?_)
    rw [hc, if_neg (by first | decide | simp)]
    refine wpAny_bind (listItems_at ho hd (wpAny_pure ?_))
    rw [hf]
    exact wpAny_bind (tup_firsts vs fs (Q := fun bs s' => wpAny M A (pure (f :: bs)) Q E s') t (wpAny_pure h))
theorem tupF_of {h : Heap} : ∀ {vs : List Value} {ds : List PyData}, EachIs (fun v d => ∃ as, Reads h v d as) vs ds → (∀ d ∈ ds, ∃ l, d = .tuple l) → ∃ fs, TupF h vs fs ∧ fs.length = vs.length ∧ ∀ (i : Nat) l, ds[i]? = some (.tuple l) → ∃ f, fs[i]? = some f ∧ (f = none ↔ l = [])
  | _, _, .nil, _ => ⟨[], trivial, rfl, fun i l e => by simp at e⟩
  | _, _, .cons (b := d) ⟨as, r⟩ t, ht => by
    obtain ⟨fs, h1, h2, h3⟩ := tupF_of t fun d hd => ht d (List.mem_cons_of_mem _ hd)
    obtain ⟨l, rfl⟩ := ht d (List.mem_cons_self ..)
    cases r with
    | @tuple a o xs n _ _ ho hc hd hr =>
      refine ⟨xs[0]? :: fs, ⟨⟨a, o, xs, n, rfl, ho, hc, hd, rfl⟩, h1⟩, by simp [h2], fun i l' e => ?_⟩
      cases i with
      | zero =>
        simp only [List.getElem?_cons_zero, Option.some.injEq, PyData.tuple.injEq] at e
        subst e
        refine ⟨_, rfl, ?_⟩
        have hl : xs.toList.length = l.length := ReadsAll.length _ _ _ hr
        rw [Array.length_toList] at hl
        constructor
        · intro z
          have : xs.size = 0 := by
            rcases Nat.eq_zero_or_pos xs.size with q | q
            · exact q
            · rw [Array.getElem?_eq_getElem q] at z; cases z
          exact List.eq_nil_of_length_eq_zero (by omega)
        · rintro rfl
          exact Array.getElem?_eq_none (by simp at hl; simp [hl])
      | succ i =>
        simp only [List.getElem?_cons_succ] at e ⊢
        exact h3 i l' e
/-- tuples, one of them without items -/
theorem SortsAt_tup {vs : List Value} {ds : List PyData} (e : EachIs (fun v d => ∃ as, Reads s.heap v d as) vs ds) (hal : AllAlike ds) (ht : ∀ d ∈ ds, ∃ l, d = .tuple l) (he : .tuple [] ∈ ds) (hu : ∀ d, d ∈ ds → A.units + d.depth < cLine) : SortsAt prog w A s (dataKind s.heap ds) vs := by
  have room : ∀ {d d' : PyData}, d ∈ ds → A.units + min d.depth d'.depth < cLine := fun {d d'} hd => Nat.lt_of_le_of_lt (Nat.add_le_add_left (Nat.min_le_left _ _) _) (hu d hd)
  have ltA : ∀ (f : Bool) (E : Value → Shared → Prop) (x y : Value) (a b : (dataKind s.heap ds).α) (Q : Bool → Shared → Prop), (dataKind s.heap ds).keyOf x = some a → (dataKind s.heap ds).keyOf y = some b → Q ((dataKind s.heap ds).blt a b) s → wpAny (model prog w) A (oneLt' f x y) Q E s := by
    intro f E x y a b Q ha hb hq
    obtain ⟨d, as, hd, ra, rfl⟩ := dataKind_inv ha
    obtain ⟨d', as', hd', rb, rfl⟩ := dataKind_inv hb
    have hdd := hal d hd d' hd'
    have hroom := room (d' := d') hd
    obtain ⟨l, rfl⟩ := ht d hd
    obtain ⟨l', rfl⟩ := ht d' hd'
    exact oneLt_tup ra rb hdd hroom hq
  obtain ⟨fs, t1, t2, t3⟩ := tupF_of e ht
  refine ⟨fun v hv => ?_, ?_⟩
  · obtain ⟨d, hd, as, r⟩ := e.left v hv
    exact ⟨_, dataKind_some hal hd r⟩
  obtain ⟨i, hi⟩ := List.getElem?_of_mem he
  obtain ⟨f, hf, hfe⟩ := t3 i [] hi
  have hf0 : f = none := hfe.mpr rfl
  subst hf0
  have hall : ¬ ((fs.toArray.all fun x => x.isSome) = true) := by
    simp only [List.all_toArray, List.all_eq_true]
    intro z
    have := z none (List.mem_of_getElem? hf)
    cases this
  cases ds with
  | nil => simp at he
  | cons d₀ ds₀ =>
    obtain ⟨l₀, rfl⟩ := ht d₀ (List.mem_cons_self ..)
    obtain ⟨f₀, hf₀, hf₀e⟩ := t3 0 l₀ rfl
    by_cases hl : l₀ = []
    · have z : f₀ = none := hf₀e.mpr hl
      subst z
      refine ⟨oneType', fun E x y a b Q ha hb hq => by rw [keyLt'_oneType]; exact ltA true E x y a b Q ha hb hq, fun h2 E Q hq => ?_⟩
      rw [kat_kind_eq, List.mapM_toArray, map_eq_pure_bind]
      refine wpAny_bind (wpAny_bind (tup_firsts vs fs t1 (wpAny_pure ?_)))
      rw [if_neg hall]
      have h0 : ((fs.toArray[0]?.bind id).isSome) = false := by
        rw [List.getElem?_toArray, hf₀]; rfl
      rw [if_neg (by rw [h0]; simp)]
      rw [oneTypeOnly'_eq, List.mapM_toArray, map_eq_pure_bind]
      have hT : ∀ v ∈ vs, Looks (model prog w) s.heap (typeOf v) (.type "tuple") := fun v hv => by
        obtain ⟨d, hd, as, r⟩ := e.left v hv
        obtain ⟨l, rfl⟩ := ht d hd
        exact looks_reads r
      obtain ⟨v₁, rest, rfl⟩ : ∃ v₁ rest, vs = v₁ :: rest := by
        match vs, h2 with
        | [], h2 => simp at h2
        | v₁ :: rest, _ => exact ⟨v₁, rest, rfl⟩
      refine wpAny_bind (wpAny_bind (wpAny_bind (kas_mapM (r := Value.type "tuple") _ (fun v hv Q' hq => (hT v hv).here hq) (wpAny_pure ?_))))
      have hall2 : ((List.map (fun _ => Value.type "tuple") (v₁ :: rest)).toArray.all fun x => x == Value.type "tuple") = true := by
        simp only [List.all_toArray, List.all_map, List.all_eq_true]
        intro _ _
        exact beq_self_eq_true _
      have h0 : (List.map (fun _ => Value.type "tuple") (v₁ :: rest)).toArray[0]? = some (Value.type "tuple") := by simp
      rw [h0]
      simp only [hall2, if_true]
      exact wpAny_pure (wpAny_pure hq)
    · obtain ⟨g, rfl⟩ : ∃ g, f₀ = some g := by
        cases f₀ with
        | none => exact absurd (hf₀e.mp rfl) hl
        | some g => exact ⟨g, rfl⟩
      refine ⟨general', fun E x y a b Q ha hb hq => ltA false E x y a b Q ha hb hq, fun h2 E Q hq => ?_⟩
      rw [kat_kind_eq, List.mapM_toArray, map_eq_pure_bind]
      refine wpAny_bind (wpAny_bind (tup_firsts vs fs t1 (wpAny_pure ?_)))
      rw [if_neg hall]
      have h0 : ((fs.toArray[0]?.bind id).isSome) = true := by
        rw [List.getElem?_toArray, hf₀]; rfl
      rw [if_pos h0]
      exact wpAny_pure hq
end
section
variable {prog : Program} {w : World} {A : Around} {E : Value → Shared → Prop} {s : Shared}
theorem collect_tup {l : Addr} {vs : List Value} {Q : List Value → Shared → Prop} (hl : s.heap.IsTuple l vs.toArray)
    (h : Q vs { s with heap := (s.heap.push (seqObj "list" #[] 0)).update s.heap.objs.size (Obj.mapSeq (· ++ vs.toArray)) }) (hsz : vs.length ≤ sizeLine) :
    wpAny (model prog w) A (collect (.ref l)) Q E s := by
  obtain ⟨o, ho, hc, n, hd⟩ := id hl
  unfold collect
  refine wpAny_bind (wpAny_runValue (codeAny_builtin entry_proto_collect' ?_))
  show wpAny _ _ (do again (.builtin "list.__iadd__" ⟨[← newList [], .ref l], []⟩)) _ _ s
  refine wpAny_bind (wpAny_newList (wpAny_pure ⟨Code.quiet_builtin _ (by decide +kernel), codeAny_builtin entry_list_iadd' ?_⟩))
  show wpAny _ _ (Builtin.List.listExtendWith (.ref s.heap.objs.size) (.ref l) (.ref s.heap.objs.size)) _ _ { s with heap := s.heap.push (seqObj "list" #[] 0) }
  unfold Builtin.List.listExtendWith
  have ho' : (s.heap.push (seqObj "list" #[] 0)).get? l = some o := Heap.get?_push_of_some _ ho
  refine wpAny_bind (wpAny_typeOf (T := "tuple") ⟨o, ho', hc⟩ ?_)
  have ht : (Value.type "tuple" == Value.type "tuple") = true := by rfl
  rw [if_pos (by rw [ht]; simp)]
  refine wpAny_bind (listItems_at ho' hd ?_)
  refine wpAny_bind (listItems_at (xs := #[]) (n := 0) (Heap.get?_push_size _ rfl) rfl ?_)
  rw [if_neg (by simp)]
  refine wpAny_bind (listUpdate_at (xs := #[]) (n := 0) (Heap.get?_push_size _ rfl) rfl ?_ (Nat.zero_le _) (by show (#[] ++ vs.toArray).size ≤ sizeLine + 1; simp only [Array.size_append, List.size_toArray, List.length_nil]; omega))
  refine wpAny_pure ?_
  show wpAny (model prog w) A (do
      let o ← load s.heap.objs.size
      match o.data with
      | .seq xs _ => pure xs.toList
      | _ => unsupported "internal:collect") Q E { s with heap := (s.heap.push (seqObj "list" #[] 0)).update s.heap.objs.size (Obj.mapSeq (· ++ vs.toArray)) }
  refine wpAny_bind (wpAny_load (get?_update_seq (Heap.get?_push_size _ rfl) _) ?_)
  show wpAny _ _ (pure ((#[] : Array Value) ++ vs.toArray).toList) Q E _
  refine wpAny_pure ?_
  simpa using h
theorem sorted_seq {l : Addr} {vs : List Value} {κ : KeyKind} {Q : Value → Shared → Prop} (hl : s.heap.IsList l vs.toArray ∨ s.heap.IsTuple l vs.toArray) (S : SortsAt prog w A.in1.in1 { s with heap := sortingHeap (copyHeap s.heap vs) (s.heap.objs.size + 1) vs } κ vs) (hL : vs.length ≤ sizeLine)
    (h : Q (.ref (s.heap.objs.size + 1)) { s with heap := sortedAll s.heap vs (sortVals κ false vs vs).toArray }) : wpAny (model prog w) A (call (.builtin "sorted") [.ref l]) Q E s := by
  rcases hl with hl | hl
  · exact sorted_vals hl S hL h
  have body : ∀ E' : Value → Shared → Prop, wpAny (model prog w) A.in1.in1 (Builtin.«list.sort» ⟨[.ref (s.heap.objs.size + 1)], []⟩) (fun f s' => f = .done (.ret .none) ∧ Q (.ref (s.heap.objs.size + 1)) s') E' { s with heap := copyHeap s.heap vs } :=
    fun _ => list_sort_vals (s := { s with heap := copyHeap s.heap vs }) (copyHeap_at s.heap vs) S hL ⟨rfl, h⟩
  refine call_function_entry_kw kind_sorted plain_sorted entry_sorted (args_sorted1 _) ?_
  unfold Builtin.«sorted»
  refine wpAny_bind (m := checkCount "sorted" 1 1 _) (wpAny_pure ?_)
  refine wpAny_bind (collect_tup hl ?_ hL)
  refine wpAny_bind (wpAny_newList ?_ hL)
  have hsz : ((s.heap.push (seqObj "list" #[] 0)).update s.heap.objs.size (Obj.mapSeq (· ++ vs.toArray))).objs.size = s.heap.objs.size + 1 := by
    rw [Heap.size_update, size_push']
  show wpAny _ _ _ _ _ { s with heap := copyHeap s.heap vs }
  rw [hsz]
  refine wpAny_bind (wpAny_holding (wpAny_call_entry_kw slot_list_sort ⟨_, copyHeap_at s.heap vs, rfl⟩ entry_list_sort ?body (args_list_sort _)))
  case body =>
    show wpAny (model prog w) A.in1.in1 (Builtin.«list.sort» ⟨[.ref (s.heap.objs.size + 1)], []⟩) _ _ _
    refine wpAny_mono (body _) (fun f s' hf => ?_) fun _ _ e => e
    obtain ⟨rfl, hq⟩ := hf
    exact ⟨_, rfl, wpAny_pure ⟨_, rfl, hq⟩⟩
def SortT (ds : List PyData) : Prop := Sortable ds ∨ ∀ d ∈ ds, ∃ l, d = .tuple l
theorem sortsAt_T {vs : List Value} {ds : List PyData} (e : EachIs (fun v d => ∃ as, Reads s.heap v d as) vs ds) (hal : AllAlike ds) (hk : SortT ds) (hu : ∀ d, d ∈ ds → A.units + d.depth < cLine) : SortsAt prog w A s (dataKind s.heap ds) vs := by
  rcases hk with hk | hk
  · exact SortsAt.data e hal hk hu
  by_cases he : PyData.tuple [] ∈ ds
  · exact SortsAt_tup e hal hk he hu
  · refine SortsAt.data e hal (.inl fun d hd => ?_) hu
    obtain ⟨l, rfl⟩ := hk d hd
    cases l with
    | nil => exact absurd hd he
    | cons x r => exact ⟨x, r, rfl⟩
/-- sorted(xs) of a list or a tuple -/
theorem sorted_T {β : Type} {vs : List Value} {bs : List β} {enc : β → PyData} {R : Value → β → Prop} {l : Addr} {Q : Value → Shared → Prop} (hl : s.heap.IsList l vs.toArray ∨ s.heap.IsTuple l vs.toArray) (e : EachIs R vs bs) (er : EachIs (fun v b => ∃ as, Reads s.heap v (enc b) as) vs bs) (hal : AllAlike (bs.map enc)) (hk : SortT (bs.map enc)) (hL : bs.length ≤ sizeLine)
    (hu : ∀ b, b ∈ bs → A.units + 2 + (enc b).depth < cLine) (h : ∀ out, out.length = bs.length → EachIs R out (bs.mergeSort (dataLe false enc)) → Q (.ref (s.heap.objs.size + 1)) { s with heap := sortedAll s.heap vs (List.toArray out) }) :
    wpAny (model prog w) A (call (.builtin "sorted") [.ref l]) Q E s := by
  have er' : EachIs (fun v b => ∃ as, Reads (sortingHeap (copyHeap s.heap vs) (s.heap.objs.size + 1) vs) v (enc b) as) vs bs := er.mono fun _ _ ⟨as, r⟩ => ⟨as, PyProof.Rows.Reads.keeps (fun _ _ => sorting_copy_old) r⟩
  exact sorted_seq hl (sortsAt_T (s := { s with heap := sortingHeap (copyHeap s.heap vs) (s.heap.objs.size + 1) vs }) (each_map (R := fun v d => ∃ as, Reads (sortingHeap (copyHeap s.heap vs) (s.heap.objs.size + 1) vs) v d as) enc er') hal hk (bound_map hu)) (by rw [e.length]; exact hL)
    (h _ (by rw [sortVals_length false rfl]; exact e.length) (sortVals_data false e er' hal))
end
end AVL

namespace AVL
open PySem PySem.Spec L2
def pdD (h : AH) (x : AV) : PyData := (pd 60 h x).getD .none
def ltA (h : AH) (a b : AV) : Bool := PySem.W.dataLt (pdD h a) (pdD h b)
def alikeB (ds : List PyData) : Bool := ds.all fun d => ds.all fun e => PySem.W.alike d e
def isTupD : PyData → Bool
  | .tuple _ => true
  | _ => false
def isNonD : PyData → Bool
  | .none => true
  | _ => false
def sortB (ds : List PyData) : Bool := ds.all isTupD || ds.all fun d => !isTupD d && !isNonD d
def mSorted (nm : Bool) : List AV → AH → Res AV := fun xs h => match xs with
  | [x] => match items h x with
    | some l => match l.mapM (pd 60 h) with
      | some ds => if alikeB ds && (sortB ds && decide (l.length ≤ sizeLine)) then mkL nm (l.mergeSort fun a b => !ltA h b a) h else .stuck
      | none => .stuck
    | none => .stuck
  | _ => .stuck
theorem mSorted_calm {nm} : CalmA (mSorted nm) := fun xs h => by
  unfold mSorted
  split
  · split
    · split
      · split
        · exact mkL_calm
        · trivial
      · trivial
    · trivial
  · trivial
section
variable {X : Cx} {ρ : List Addr} {F : Hp} {h : AH} {H : Hp} {pins : List (Addr × Obj)} {σ : L2.St} {s : Shared}
theorem alikeB_ok {ds : List PyData} (e : alikeB ds = true) : PySem.W.AllAlike ds := fun d hd d' hd' => by
  unfold alikeB at e
  rw [List.all_eq_true] at e
  have z := e d hd
  rw [List.all_eq_true] at z
  exact z d' hd'
theorem sortB_ok {ds : List PyData} (e : sortB ds = true) : SortT ds := by
  unfold sortB at e
  rw [Bool.or_eq_true, List.all_eq_true, List.all_eq_true] at e
  rcases e with e | e
  · exact .inr fun d hd => by
      have z := e d hd
      cases d <;> simp [isTupD] at z
      exact ⟨_, rfl⟩
  · exact .inl (.inr fun d hd => by
      have z := e d hd
      rw [Bool.and_eq_true] at z
      refine ⟨fun q => ?_, fun xs q => ?_⟩
      · subst q; simp [isNonD] at z
      · subst q; simp [isTupD] at z)
theorem mapM_pdD : ∀ {l : List AV} {ds : List PyData}, l.mapM (pd 60 h) = some ds → ds = l.map (pdD h) ∧ ∀ x ∈ l, pd 60 h x = some (pdD h x)
  | [], ds, e => by simp at e; exact ⟨by simp [e], fun _ hx => by simp at hx⟩
  | x :: l, ds, e => by
    rw [List.mapM_cons] at e
    cases q : pd 60 h x with
    | none => rw [q] at e; cases e
    | some d =>
      rw [q] at e
      cases q2 : l.mapM (pd 60 h) with
      | none => rw [q2] at e; cases e
      | some ds' =>
        rw [q2] at e
        cases e
        obtain ⟨e1, e2⟩ := mapM_pdD q2
        have ed : pdD h x = d := by unfold pdD; rw [q]; rfl
        refine ⟨by rw [List.map_cons, ed, ← e1], fun y hy => ?_⟩
        rcases List.mem_cons.mp hy with rfl | hy
        · rw [ed]; exact q
        · exact e2 y hy
/-- what an item stands for -/
def Stand (K : PySem.W.Frag) (mg : Str → Option Value) (ρ : List Addr) (F : Hp) (u : Value) (x : AV) : Prop := ∃ v, RelV v u ∧ RV K mg ρ F x v
theorem each_stand {K : PySem.W.Frag} {mg : Str → Option Value} : ∀ {l : List AV} {vs : List V} {us : List Value}, RVs K mg ρ F l vs → Vals vs us → PySem.W.EachIs (Stand K mg ρ F) us l
  | [], vs, us, r, q => by
    simp only [RVs] at r
    subst r
    cases q
    exact .nil
  | x :: l, vs, us, r, q => by
    simp only [RVs] at r
    obtain ⟨v, r', rfl, a, b⟩ := r
    cases q with
    | cons q1 q2 => exact .cons ⟨v, q1, a⟩ (each_stand b q2)
theorem stand_each {K : PySem.W.Frag} {mg : Str → Option Value} : ∀ {l : List AV} {us : List Value}, PySem.W.EachIs (Stand K mg ρ F) us l → ∃ vs, RVs K mg ρ F l vs ∧ Vals vs us
  | _, _, .nil => ⟨[], by simp [RVs], .nil⟩
  | _, _, .cons ⟨v, q1, a⟩ t => by
    obtain ⟨vs, b, q2⟩ := stand_each t
    exact ⟨v :: vs, by simp only [RVs]; exact ⟨_, _, rfl, a, b⟩, .cons q1 q2⟩
theorem each_reads (I : L2.Inv X pins σ H s) (rh : RH X.K X.mg ρ F h H) : ∀ {l : List AV} {us : List Value}, (∀ x ∈ l, pd 60 h x = some (pdD h x)) → PySem.W.EachIs (Stand X.K X.mg ρ F) us l → PySem.W.EachIs (fun v b => ∃ as, Reads s.heap v (pdD h b) as) us l
  | [], _, _, .nil => .nil
  | x :: l, _, hx, .cons hs t => by
    obtain ⟨v, q1, a⟩ := hs
    obtain ⟨p1, _, p3⟩ := pd_ok rh 60 x v _ a (hx x List.mem_cons_self)
    obtain ⟨as, rd⟩ := Dp.reads I (pdD h x) v _ p1 q1
    exact .cons ⟨as, rd⟩ (each_reads I rh (fun y hy => hx y (List.mem_cons_of_mem _ hy)) t)
theorem pd_depth (I : L2.Inv X pins σ H s) (rh : RH X.K X.mg ρ F h H) : ∀ {l : List AV} {vs : List V}, RVs X.K X.mg ρ F l vs → (∀ x ∈ l, pd 60 h x = some (pdD h x)) → ∀ x ∈ l, (pdD h x).depth ≤ 60
  | [], _, _, _, x, hx => by simp at hx
  | y :: l, vs, r, e, x, hx => by
    simp only [RVs] at r
    obtain ⟨v, r', rfl, a, b⟩ := r
    rcases List.mem_cons.mp hx with rfl | hx
    · exact (pd_ok rh 60 x v _ a (e x List.mem_cons_self)).2.2
    · exact pd_depth I rh b (fun y hy => e y (List.mem_cons_of_mem _ hy)) x hx
/-- a list or a tuple, as the machine holds it -/
theorem items_is (I : L2.Inv X pins σ H s) (rh : RH X.K X.mg ρ F h H) {x : AV} {v : V} {u : Value} {l : List AV} (rv : RV X.K X.mg ρ F x v) (ru : RelV v u) (e : items h x = some l) :
    ∃ a its vs, u = .ref a ∧ (s.heap.IsList a its.toArray ∨ s.heap.IsTuple a its.toArray) ∧ RVs X.K X.mg ρ F l vs ∧ Vals vs its := by
  have go : itemsL h x = some l → ∃ a its vs, u = .ref a ∧ (s.heap.IsList a its.toArray ∨ s.heap.IsTuple a its.toArray) ∧ RVs X.K X.mg ρ F l vs ∧ Vals vs its := fun q => by
    obtain ⟨a, vs, rfl, q1, r⟩ := items_L rh rv q
    cases ru
    obtain ⟨its, r2, pl, _⟩ := I.list q1
    exact ⟨a, its, vs, rfl, .inl pl.isList, r, r2⟩
  cases x with
  | tup l' =>
    obtain ⟨a, vs, rfl, q1, r⟩ := items_T rh rv (show itemsT (.tup l') = some l from e)
    cases ru
    obtain ⟨its, r2, pl, _⟩ := I.tuple q1
    exact ⟨a, its, vs, rfl, .inr pl, r, r2⟩
  | _ => exact go e
theorem mSorted_ok {nm : Bool} {k : Nat} (hr : Room k X.A) : CallOk X (.builtin "sorted") (mSorted nm) := by
  intro pins s σ H vs us Q I r1 ⟨ρ, F, xs, h, rv, rh, o⟩
  unfold mSorted at o
  split at o
  case h_2 => exact o.elim
  rename_i x
  obtain ⟨v, rfl, rx⟩ := rv.one
  obtain ⟨u, rfl, ru⟩ := vals1 r1
  split at o
  case h_2 => exact o.elim
  rename_i l hl
  split at o
  case h_2 => exact o.elim
  rename_i ds hds
  split at o
  case isFalse => exact o.elim
  rename_i hc
  simp only [Bool.and_eq_true, decide_eq_true_eq] at hc
  obtain ⟨c1, c2, c3⟩ := hc
  obtain ⟨rfl, hpd⟩ := mapM_pdD hds
  obtain ⟨a, its, ws, rfl, hseq, rl, rits⟩ := items_is I rh rx ru hl
  have es := each_stand (K := X.K) (mg := X.mg) (ρ := ρ) (F := F) rl rits
  refine sorted_T (R := Stand X.K X.mg ρ F) (enc := pdD h) hseq es (each_reads I rh hpd es) (alikeB_ok c1) (sortB_ok c2) c3 (fun b hb => by have := pd_depth I rh rl hpd b hb; have := hr.units; omega) fun out hlen eo => ?_
  obtain ⟨vs', ro, rv'⟩ := stand_each eo
  obtain ⟨ep, he'⟩ := PyProof.Rows.sortedAll_at s.heap its out.toArray
  have hz : vs'.length ≤ sizeLine := by rw [rv'.length, hlen]; exact c3
  refine ⟨.ref _, upd H (s.heap.objs.size + 1) (.lst vs'), I.laid (t' := s.toks) (fun _ _ => PyProof.Rows.sortedAll_old) (Nat.le_succ _) ⟨hz, out, ep, rv', he'⟩, rfl, ?_⟩
  exact out_mkL rh ro (by
    have e : PySem.W.dataLe false (pdD h) = fun a b => !ltA h b a := by
      rw [PySem.W.dataLe_eq]; rfl
    rw [e]; exact o) (I.hok.fresh (Nat.le_succ _))
end
end AVL

namespace AVL
open PySem PySem.Spec L2
def noNonD (ds : List PyData) : Bool := ds.all fun d => !isNonD d
def foldMin (h : AH) (x : AV) (r : List AV) : AV := r.foldl (fun a y => if ltA h y a then y else a) x
def mMin : List AV → AH → Res AV := fun xs h => match xs with
  | [.int i, .int j] => .ok (.int (if j < i then j else i)) h
  | [x] => match itemsL h x with
    | some (y :: r) => match (y :: r).mapM (pd 60 h) with
      | some ds => if alikeB ds && noNonD ds then .ok (foldMin h y r) h else .stuck
      | none => .stuck
    | _ => .stuck
  | _ => .stuck
def mMax2 : List AV → AH → Res AV := fun xs h => match xs with
  | [.int i, .int j] => .ok (.int (if j > i then j else i)) h
  | _ => .stuck
theorem mMax2_calm : CalmA mMax2 := fun xs h => by
  unfold mMax2
  split <;> trivial
theorem mMin_calm : CalmA mMin := fun xs h => by
  unfold mMin
  split
  · trivial
  · split
    · split
      · split <;> trivial
      · trivial
    · trivial
  · trivial
section
variable {X : Cx} {ρ : List Addr} {F : Hp} {h : AH} {H : Hp} {pins : List (Addr × Obj)} {σ : L2.St} {s : Shared}
theorem mMax2_ok (hc : X.calm = true) : CallOk X (.builtin "max") mMax2 := by
  intro pins s σ H vs us Q I r1 ⟨ρ, F, xs, h, rv, rh, o⟩
  unfold mMax2 at o
  split at o
  case h_2 => exact o.elim
  rename_i i j
  obtain ⟨v, w, rfl, r, r2⟩ := rv.two
  rw [r.int, r2.int] at r1
  exact call_max2 hc pins s σ H _ us Q I r1 ⟨i, j, rfl, o.now rh (by simp [RV])⟩
theorem depthAll_le : ∀ {ds : List PyData} {n : Nat}, (∀ d ∈ ds, d.depth ≤ n) → PyData.depthAll ds ≤ n
  | [], n, _ => by simp [PyData.depthAll]
  | d :: ds, n, h => by
    have h1 := h d List.mem_cons_self
    have h2 := depthAll_le (ds := ds) (n := n) fun e he => h e (List.mem_cons_of_mem _ he)
    simp only [PyData.depthAll]
    omega
theorem getD_pd (l : List AV) (i : Nat) : (l.map (pdD h)).getD i .none = pdD h (l.getD i .non) := by
  rw [List.getD_eq_getElem?_getD, List.getD_eq_getElem?_getD, List.getElem?_map]
  cases l[i]? with
  | none => rfl
  | some x => rfl
theorem mMin_ok (hc : X.calm = true) {k : Nat} (hr : Room k X.A) : CallOk X (.builtin "min") mMin := by
  intro pins s σ H vs us Q I r1 ⟨ρ, F, xs, h, rv, rh, o⟩
  unfold mMin at o
  split at o
  · rename_i i j
    obtain ⟨v, w, rfl, r, r2⟩ := rv.two
    rw [r.int, r2.int] at r1
    exact call_min2 hc pins s σ H _ us Q I r1 ⟨i, j, rfl, o.now rh (by simp [RV])⟩
  · rename_i x
    split at o
    case h_2 => exact o.elim
    rename_i y r hl
    split at o
    case h_2 => exact o.elim
    rename_i ds hds
    split at o
    case isFalse => exact o.elim
    rename_i hcc
    rw [Bool.and_eq_true] at hcc
    obtain ⟨c1, c2⟩ := hcc
    obtain ⟨rfl, hpd⟩ := mapM_pdD hds
    obtain ⟨v, rfl, rx⟩ := rv.one
    obtain ⟨u, rfl, ru⟩ := vals1 r1
    obtain ⟨a, ws, rfl, q1, rl⟩ := items_L rh rx hl
    cases ru
    obtain ⟨its, rits, pl, _⟩ := I.list q1
    have es := each_stand (K := X.K) (mg := X.mg) (ρ := ρ) (F := F) rl rits
    obtain ⟨as, hra⟩ := PySem.W.each_readsAll (pdD h) (each_reads I rh hpd es)
    have hlen : its.length = r.length + 1 := by rw [es.length]; rfl
    have ha : PySem.W.AlikeAll ((y :: r).map (pdD h)) := ⟨fun d hd e he => alikeB_ok c1 d hd e he, fun d hd z => by
      unfold noNonD at c2
      rw [List.all_eq_true] at c2
      have := c2 d hd
      subst z; simp [isNonD] at this⟩
    have hdep : PyData.depthAll ((y :: r).map (pdD h)) ≤ 60 := depthAll_le fun d hd => by
      obtain ⟨x', hx', rfl⟩ := List.mem_map.mp hd
      exact pd_depth I rh rl hpd x' hx'
    have hu := hr.units
    refine PySem.call_min_walkH (PySem.W.iter_listW (A := X.A.in1) (I.ok.hd hc) pl.isList fun s₂ e W st hfp hw hk => ?_)
    refine ⟨_, _, _, _, _, _, _, s.heap, _, rfl, W, st, hfp, by simp; omega, hw, hk, PySem.W.cmpIn_lt (A := X.A.in1) (xs := (y :: r).map (pdD h)) (as := as) (by simpa using hra) ha (by show X.A.units + 1 + _ < _; omega), fun v' s' hP m => ?_⟩
    obtain ⟨h', tk, rfl, hk'⟩ := PySem.W.moved_old e rfl m
    have hsz : its.toArray.size - 1 = r.length := by simp; omega
    rw [hsz] at hP
    simp only [getD_pd] at hP
    have af := PySem.W.argBest_fold (fun a b => ltA h a b) AV.non y r r.length (Nat.le_refl _)
    rw [List.take_length] at af
    obtain ⟨af1, af2⟩ := af
    generalize hj : PySem.argBest (fun i j => ltA h ((y :: r).getD i AV.non) ((y :: r).getD j AV.non)) r.length = j at af1 af2
    have hP2 : its[j]? = some v' := by
      rw [← hj]
      simpa [ltA] using hP
    have hj2 : (y :: r)[j]? = some (foldMin h y r) := by
      unfold foldMin
      rw [← af2, List.getD_eq_getElem?_getD]
      have : j < (y :: r).length := by rw [List.length_cons]; omega
      rw [List.getElem?_eq_getElem this]; rfl
    obtain ⟨w1, ew1, rw1⟩ := rl.get hj2
    rcases vals_ix rits j with ⟨z, _⟩ | ⟨w2, u2, z1, z2, z3⟩
    · rw [ew1] at z; cases z
    · rw [ew1] at z1; cases z1
      rw [hP2] at z2; cases z2
      exact ⟨w1, H, I.kept hk', z3, o.now rh rw1⟩
  · exact o.elim
end
end AVL

namespace HT
open PySem PySem.Calls PyProof.Rows
section
variable {prog : Program} {w : World} {A : Around} {E : Value → Shared → Prop} {s : Shared}
theorem av_range_rev (l : List Value) : ((List.range l.length).filterMap fun (k : Nat) => l[(((l.length : Int) - 1) + (k : Int) * (-1)).toNat]?) = l.reverse := by
  have e : ∀ k ∈ List.range l.length, l[(((l.length : Int) - 1) + (k : Int) * (-1)).toNat]? = some (l.reverse.getD k .none) := fun k hk => by
    have hk' := List.mem_range.mp hk
    have : (((l.length : Int) - 1) + (k : Int) * (-1)).toNat = l.length - 1 - k := by omega
    rw [this, List.getD_eq_getElem?_getD, List.getElem?_reverse (by simpa using hk')]
    have h2 : l.length - 1 - k < l.length := by omega
    rw [List.getElem?_eq_getElem h2]; rfl
  have e2 : ((List.range l.length).filterMap fun (k : Nat) => l[(((l.length : Int) - 1) + (k : Int) * (-1)).toNat]?) = (List.range l.length).map fun k => l.reverse.getD k .none := by
    have key : ∀ (ks : List Nat), (∀ k ∈ ks, l[(((l.length : Int) - 1) + (k : Int) * (-1)).toNat]? = some (l.reverse.getD k .none)) → (ks.filterMap fun (k : Nat) => l[(((l.length : Int) - 1) + (k : Int) * (-1)).toNat]?) = ks.map fun k => l.reverse.getD k .none := fun ks => by
      induction ks with
      | nil => intro _; rfl
      | cons a r ih =>
        intro h
        rw [List.filterMap_cons, h a List.mem_cons_self, List.map_cons, ih fun k hk => h k (List.mem_cons_of_mem _ hk)]
    exact key _ e
  rw [e2]
  refine List.ext_getElem? fun i => ?_
  rw [List.getElem?_map]
  by_cases hi : i < l.length
  · rw [List.getElem?_range hi]
    have h3 : i < l.reverse.length := by simpa using hi
    rw [List.getElem?_eq_getElem h3]
    simp [List.getD_eq_getElem?_getD, List.getElem?_eq_getElem h3]
  · rw [List.getElem?_eq_none (by simpa using hi), List.getElem?_eq_none (by simpa using hi)]; rfl
theorem sliceApplied_rev {sl : Addr} {vl vu vs : Value} {n : Nat} {Q : Int × Int × Nat → Shared → Prop} (hs : s.heap.IsSliceOf sl vl vu vs) (pl : IsPart vl none) (pu : IsPart vu none) (ps : IsPart vs (some (-1)))
    (h : Q ((n : Int) - 1, -1, n) s) : wpAny (model prog w) A (Builtin.Slice.sliceApplied (.ref sl) (pure (n : Int))) Q E s := by
  obtain ⟨os, hos, hcs, hds⟩ := id hs
  unfold Builtin.Slice.sliceApplied Builtin.Slice.sliceFields
  refine wpAny_bind (wpAny_bind (wpAny_field hos hds (x := vl) rfl (wpAny_bind (wpAny_field hos hds (x := vu) rfl (wpAny_bind (wpAny_field hos hds (x := vs) rfl (wpAny_pure ?_)))))))
  refine wpAny_bind (slicePart_ ps ?_)
  show wpAny _ _ (if ((-1 : Int) == 0) = true then _ else _) _ _ s
  rw [if_neg (by decide)]
  refine wpAny_bind (slicePart_ pl (wpAny_bind (slicePart_ pu (wpAny_bind (wpAny_pure ?_)))))
  show wpAny _ _ (match Builtin.Slice.sliceAdjust none none (-1) (n : Int) with | (lo, hi) => pure (lo, (-1 : Int), Builtin.Slice.slicePlaces lo hi (-1))) _ _ s
  have ea : Builtin.Slice.sliceAdjust none none (-1) (n : Int) = ((n : Int) - 1, -1) := rfl
  rw [ea]
  have ep : Builtin.Slice.slicePlaces ((n : Int) - 1) (-1) (-1) = n := by
    unfold Builtin.Slice.slicePlaces
    have h1 : ¬ ((-1 : Int) > 0) := by decide
    have h2 : (- -1 : Int) = 1 := by decide
    simp only [h1, if_false, h2, Int.ediv_one]
    split <;> omega
  show wpAny _ _ (pure ((n : Int) - 1, (-1 : Int), Builtin.Slice.slicePlaces ((n : Int) - 1) (-1) (-1))) _ _ s
  rw [ep]
  exact wpAny_pure h
theorem getItem_tuple_rev {t sl : Addr} {items : Array Value} {vl vu vs : Value} {Q : Value → Shared → Prop} (ht : IsTup s.heap t items) (hs : s.heap.IsSliceOf sl vl vu vs) (pl : IsPart vl none) (pu : IsPart vu none) (ps : IsPart vs (some (-1)))
    (h : Q (.ref s.heap.objs.size) { s with heap := s.heap.push { cls := .type "tuple", data := .seq items.toList.reverse.toArray } })
    (hsz : items.size ≤ sizeLine) : wpAny (model prog w) A (getItem (.ref t) (.ref sl)) Q E s := by
  have htake : sizeOk (.seq items.toList.reverse.toArray) := by
    show items.toList.reverse.toArray.size ≤ sizeLine
    rw [List.size_toArray, List.length_reverse, Array.length_toList]
    exact hsz
  obtain ⟨os, hos, hcs, hds⟩ := id hs
  have hTs : s.TypeIs (.ref sl) "slice" := ⟨os, hos, hcs⟩
  unfold getItem
  try with_reducible refine wpAny_holding ?_
  first | refine wpAny_bind (wpAny_pure ?_) | skip
  refine wpAny_bind (wpAny_sequenceKey ht.typeIs (by decide) ?_)
  refine wpAny_bind (wpAny_callSpecial?_slot (name := Str.ofString "__getitem__") ht.typeIs PyProof.Rows.slot_tuple_getitem
    (wpAny_call_entry PyProof.Rows.slot_tuple_getitem ht.typeIs entry_tuple_getitem ?_ (args_tuple_getitem _ _)))
  show wpAny _ _ (Builtin.Tuple.tupleItemsOf (.ref t) >>= _) _ _ s
  refine wpAny_bind (tupleItemsOf_ ht ?_)
  refine wpAny_bind (wpAny_typeOf hTs ?_)
  rw [if_pos (by decide)]
  refine wpAny_bind (sliceApplied_rev hs pl pu ps ?_)
  have hno : ¬ ((((items.size : Int) - 1) == 0 && (-1 : Int) == 1 && items.size == items.size) = true) := by
    intro q
    rw [Bool.and_eq_true, Bool.and_eq_true] at q
    exact absurd q.1.2 (by decide)
  show wpAny _ _ (if (((items.size : Int) - 1) == 0 && (-1 : Int) == 1 && items.size == items.size) = true then _ else _) _ _ s
  have er : ((List.range items.size).filterMap fun (k : Nat) => items[(((items.size : Int) - 1) + (k : Int) * (-1)).toNat]?) = items.toList.reverse := by
    have := av_range_rev items.toList
    simpa using this
  rw [if_neg hno, er]
  first
    | exact wpAny_bind (m := Builtin.Tuple.tupleExact _) (wpAny_newObj_type (wpAny_pure ⟨_, rfl, wpAny_pure h⟩) htake)
    | exact wpAny_bind (m := Builtin.Tuple.tupleExact _) (wpAny_newObj_type (wpAny_bind (wpAny_pure (wpAny_pure ⟨_, rfl, wpAny_pure h⟩))) htake)
    | exact wpAny_bind (wpAny_bind (m := Builtin.Tuple.tupleExact _) (wpAny_newObj_type (wpAny_pure (wpAny_pure ⟨_, rfl, wpAny_pure h⟩)) htake))
    | exact wpAny_bind (wpAny_bind (m := Builtin.Tuple.tupleExact _) (wpAny_newObj_type (wpAny_pure ⟨_, rfl, wpAny_pure h⟩) htake))
end
end HT
namespace AVL
open PySem PySem.Spec L2 PyProof.Rows PySem.Calls
/-! ### xs[::-1] -/
def mRev (nm : Bool) (x : AV) (h : AH) : Res AV := match x with
  | .tup l => .ok (.tup l.reverse) h
  | x => match itemsL h x with
    | some l => mkL nm l.reverse h
    | none => .stuck
def eRev (nm : Bool) (f : EM) : EM := fun sl h => (f sl h).bind fun x h1 => mRev nm x h1
section
variable {X : Cx} {W : WX} {fa : EM} {e : Expr} {k : Nat} {p1 p2 p3 pos : Pos}
theorem RVs.reverse {K : PySem.W.Frag} {mg : Str → Option Value} {ρ : List Addr} {F : Hp} : ∀ {l : List AV} {vs : List V}, RVs K mg ρ F l vs → RVs K mg ρ F l.reverse vs.reverse
  | [], vs, r => by simp only [RVs] at r; subst r; simp [RVs]
  | x :: l, vs, r => by
    simp only [RVs] at r
    obtain ⟨v, r', rfl, a, b⟩ := r
    rw [List.reverse_cons, List.reverse_cons]
    exact (RVs.reverse b).append (.cons a .nil)
theorem rRev {nm : Bool} (he : PE X e (lE X W fa)) : PE X (.Subscript e (.Slice none none (some (.UnaryOp .USub (.Constant (.int 1) k p1) p2)) p3) pos) (lE X W (eRev nm fa)) := by
  refine ⟨fun pins s σ H Q I o => ?_⟩
  obtain ⟨ρ, F, sl, h, rs, rh, o⟩ := o
  refine Subscript_ (thn (he.run pins s σ H (fun v H1 => ∃ ρ1 F1 x h1, RH X.K X.mg ρ1 F1 h1 H1 ∧ RV X.K X.mg ρ1 F1 x v ∧ Out X.K X.mg (RV X.K X.mg) ρ1 F1 H1 (mRev nm x h1) Q (fun c d H' => W c d σ H')) I
    ⟨ρ, F, sl, h, rs, rh, Out.bind (R := RV X.K X.mg) o fun x h1 ρ1 F1 H1 v ex rh1 rv o1 => ⟨ρ1, F1, x, h1, rh1, rv, o1⟩⟩) fun v s1 hh => ?_)
  obtain ⟨vv, H1, I1, r1, ρ1, F1, x, h1, rh1, rv, o1⟩ := hh
  have hst : PO X (some (.UnaryOp .USub (.Constant (.int 1) k p1) p2)) (tPart (tUn (rU fun i => .int (-i)) (tC (.int 1)))) := po_some (pe_un un_neg pe_int)
  refine wpAny_Slice (thn (po_none.run pins s1 σ H1 (fun o H2 => o = none ∧ H2 = H1) I1 ⟨rfl, rfl⟩) fun vl s2 ⟨l, H2, I2, pl, el, e2⟩ => ?_)
  subst el e2
  refine thn (po_none.run pins s2 σ H2 (fun o H3 => o = none ∧ H3 = H2) I2 ⟨rfl, rfl⟩) fun vu s3 ⟨u, H3, I3, pu, eu, e3⟩ => ?_
  subst eu e3
  refine thn (hst.run pins s3 σ H3 (fun o H4 => o = some (-1) ∧ H4 = H3) I3 ⟨1, rfl, -1, rfl, rfl, rfl⟩) fun vs s4 ⟨o, H4, I4, ps, eo, e4⟩ => ?_
  subst eo e4
  have I5 : L2.Inv X pins σ H4 { s4 with heap := s4.heap.push { cls := .type "slice", data := .fields #[vl, vu, vs] } } := I4.kept (t' := s4.toks) fun b ob q => Heap.get?_push_of_some _ q
  have lst : ∀ {a : Addr} {l : List AV} {xs : List V}, vv = .ref a → SqL X.K H4 a xs → RVs X.K X.mg ρ1 F1 l xs → Out X.K X.mg (RV X.K X.mg) ρ1 F1 H4 (mkL nm l.reverse h1) Q (fun c d H' => W c d σ H') →
      wpAny (model X.prog X.w) X.A (subscriptTail e (.Slice none none (some (.UnaryOp .USub (.Constant (.int 1) k p1) p2)) p3) v (.ref s4.heap.objs.size)) (EP X pins σ Q) X.xe { s4 with heap := s4.heap.push { cls := .type "slice", data := .fields #[vl, vu, vs] } } := fun {a l xs} ev hx rl o2 => by
    subst ev
    cases r1
    obtain ⟨its, r, ht, hz⟩ := I5.list hx
    refine tail_any (ops := [.ref a, .ref s4.heap.objs.size]) ht.isList.typeIs (PySem.slot_list_getitem.lookup) ?_ (by with_unfolding_all rfl)
    refine wpAny_getItem_list_slice ht.isList (Heap.IsSliceOf.new _ vl vu vs) pl pu ps (by decide) ?_ (by rw [List.size_toArray, ← r.length]; exact hz)
    rw [PySem.W.krv_pick]
    refine ⟨.ref _, _, I5.laid (t' := s4.toks) (o := .lst xs.reverse) (fun b ob q => Heap.get?_push_of_some _ q) (Nat.le_refl _) ?_, rfl, out_mkL rh1 rl.reverse o2 (I5.hok.fresh (Nat.le_refl _))⟩
    exact ⟨by rw [List.length_reverse]; exact hz, _, 0, r.reverse, Heap.get?_push_size _ rfl⟩
  unfold mRev at o1
  split at o1
  · rename_i l
    simp only [RV] at rv
    obtain ⟨a, xs, rfl, q, rl⟩ := rv
    cases r1
    obtain ⟨its, r, ht, hz⟩ := I5.tuple (SqT.mono rh1.sub q)
    refine tail_any (ops := [.ref a, .ref s4.heap.objs.size]) ht.typeIs (PyProof.Rows.slot_tuple_getitem.lookup) ?_ (by with_unfolding_all rfl)
    refine HT.getItem_tuple_rev ht (Heap.IsSliceOf.new _ vl vu vs) pl pu ps ?_ (by rw [List.size_toArray, ← r.length]; exact hz)
    refine ⟨.ref _, _, I5.laid (t' := s4.toks) (o := .tup xs.reverse) (fun b ob q => Heap.get?_push_of_some _ q) (Nat.le_refl _) ?_, rfl, out_tup rh1 rl.reverse o1 (I5.hok.fresh (Nat.le_refl _))⟩
    exact ⟨by rw [List.length_reverse]; exact hz, _, r.reverse, ⟨_, Heap.get?_push_size _ rfl, rfl, _, rfl⟩⟩
  · split at o1
    case h_2 => exact o1.elim
    rename_i l hl
    obtain ⟨a, xs, ev, q, rl⟩ := items_L rh1 rv hl
    exact lst ev q rl o1
end
end AVL

namespace AVL
open PySem PySem.Spec L2
/-! ### [elt for a in x for b in y] -/
def compL2 (ok : AH → Bool) (g : GM) (t : TM) (it1 : IM) (g1 : GM) (t1 : TM) (fe : EM) (slw : SL) (vs1 : List Nat) : List AV → List AV → AH → Res (List AV)
  | [], acc, h => if ok h then .ok acc h else .stuck
  | y :: r, acc, h => if ok h then match g y slw h with
    | none => .stuck
    | some (sl2, h1) => (t sl2 h1).nx.bind fun b h2 => if b then (it1 sl2 h2).nx.bind fun p h3 =>
        if acc.length + p.1.length ≤ sizeLine then (compL p.2 g1 t1 fe (wipeA sl2 vs1) p.1 acc h3).nx.bind fun acc' h4 => compL2 ok g t it1 g1 t1 fe slw vs1 r acc' h4 else .stuck
      else compL2 ok g t it1 g1 t1 fe slw vs1 r acc h2
    else .stuck
def eComp2 (nm : Bool) (it : IM) (g : GM) (t : TM) (it1 : IM) (g1 : GM) (t1 : TM) (fe : EM) (vs vs1 : List Nat) : EM := fun sl h => (it sl h).bind fun p h1 =>
  (compL2 p.2 g t it1 g1 t1 fe (wipeA sl vs) vs1 p.1 [] h1).bind fun acc h2 => mkL nm acc h2
theorem RSl.mono' {K : PySem.W.Frag} {mg : Str → Option Value} {ρ ρ1 : List Addr} {F F1 : Hp} {sl : SL} {σ : L2.St} (f : ∀ a o, F a = some o → F1 a = some o) (p : ∃ t, ρ1 = ρ ++ t) (rs : RSl K mg ρ F sl σ) : RSl K mg ρ1 F1 sl σ := by
  obtain ⟨t, rfl⟩ := p
  refine ⟨rs.1, fun i x e => ?_⟩
  obtain ⟨v, a, b⟩ := rs.2 i x e
  exact ⟨v, a, RV.mono f (fun n a q => by rw [List.getElem?_append_left (List.getElem?_eq_some_iff.mp q).1]; exact q) x v b⟩
section
variable {X : Cx} {W : WX} {it it1 : IM} {gm gm1 : GM} {ft ft1 : TM} {fe : EM} {elt tg iter tg1 iter1 : Expr} {ifs ifs1 : List Expr} {scope : Scope} {own : List (Str × Nat)} {pos : Pos} {vs1 : List Nat}
theorem compL2_nil {ok : AH → Bool} {slw : SL} {acc : List AV} {h : AH} : compL2 ok gm ft it1 gm1 ft1 fe slw vs1 [] acc h = if ok h then .ok acc h else .stuck := rfl
theorem compL2_cons {ok : AH → Bool} {slw : SL} {acc r : List AV} {y : AV} {h : AH} : compL2 ok gm ft it1 gm1 ft1 fe slw vs1 (y :: r) acc h = if ok h then match gm y slw h with
    | none => .stuck
    | some (sl2, h1) => (ft sl2 h1).nx.bind fun b h2 => if b then (it1 sl2 h2).nx.bind fun p h3 =>
        if acc.length + p.1.length ≤ sizeLine then (compL p.2 gm1 ft1 fe (wipeA sl2 vs1) p.1 acc h3).nx.bind fun acc' h4 => compL2 ok gm ft it1 gm1 ft1 fe slw vs1 r acc' h4 else .stuck
      else compL2 ok gm ft it1 gm1 ft1 fe slw vs1 r acc h2
    else .stuck := rfl
theorem comp_in2 {g g1 : TG} {nm : Bool} {σ : L2.St} {H : Hp} {Q : VK} (hg : GOk X g gm (own.map (·.2))) (hg1 : GOk X g1 gm1 vs1) (o : lE X W (eComp2 nm it gm ft it1 gm1 ft1 fe (own.map (·.2)) vs1) σ H Q) :
    tLc2 (lI X W it) g (lT X W0 ft) (lI X W0 it1) g1 (lT X W0 ft1) (lE X W0 fe) (own.map (·.2)) vs1 σ H Q := by
  generalize own.map (·.2) = vs at *
  obtain ⟨ρ0, F0, sl, h0, rs0, rh0, o⟩ := o
  refine ⟨ρ0, F0, sl, h0, rs0, rh0, Out.bind (R := RI X) o fun p h1 ρ F H1 J ex rh wk o1 => ?_⟩
  obtain ⟨l, ok⟩ := p
  generalize hr0 : compL2 ok gm ft it1 gm1 ft1 fe (wipeA sl vs) vs1 l [] h1 = r0 at o1
  intro D hD
  have hDρ : D ∉ ρ := rh.notin hD
  have hDF : F D = none := rh.Fnone hD
  have rsw : RSl X.K X.mg ρ F (wipeA sl vs) (L2.wipe σ vs) := (rs0.ext ex).wipe vs
  refine ⟨fun i m H' => m = l.length - i ∧ i ≤ l.length ∧ ∃ ρ' F' h' acc accV, Ext ρ F H1 ρ' F' H' ∧ RH X.K X.mg ρ' F' h' H' ∧ D ∉ ρ' ∧ F' D = none ∧ H' D = some (.lst accV) ∧ RVs X.K X.mg ρ' F' acc accV ∧
      compL2 ok gm ft it1 gm1 ft1 fe (wipeA sl vs) vs1 (l.drop i) acc h' = r0,
    ⟨l.length, by simp, Nat.zero_le _, ρ, F, h1, [], [], ext_off (Ext.refl _ _ _) hD, rh_off rh hDρ hDF (soft_none hD), hDρ, hDF, upd_same, .nil, by rw [List.drop_zero]; exact hr0⟩, ?_⟩
  rintro i m H2 ⟨rfl, hi, ρ1, F1, h2, acc, accV, e1, rh1, d1, d2, d3, racc, eq⟩
  by_cases hlt : i < l.length
  · rw [List.drop_eq_getElem_cons hlt] at eq
    have n1 : r0 ≠ .stuck := fun z => by rw [z] at o1; exact o1
    rw [compL2_cons] at eq
    split at eq
    case isFalse => exact absurd eq.symm n1
    rename_i hok
    obtain ⟨hgo, hy⟩ := wk.go ρ1 F1 h2 H2 i l[i] e1.pre e1.fz rh1 hok (by simp [hlt])
    cases q : gm l[i] (wipeA sl vs) h2 with
    | none => rw [q] at eq; exact absurd eq.symm n1
    | some pp =>
      obtain ⟨sl3, h3⟩ := pp
      rw [q] at eq
      refine .inr ⟨hgo, fun H' => i + 1 ≤ l.length ∧ ∃ ρ' F' h' acc accV, Ext ρ F H1 ρ' F' H' ∧ RH X.K X.mg ρ' F' h' H' ∧ D ∉ ρ' ∧ F' D = none ∧ H' D = some (.lst accV) ∧ RVs X.K X.mg ρ' F' acc accV ∧
        compL2 ok gm ft it1 gm1 ft1 fe (wipeA sl vs) vs1 (l.drop (i + 1)) acc h' = r0, fun H' hN => ⟨l.length - (i + 1), by omega, rfl, hN⟩, fun v H'' yl => ?_⟩
      obtain ⟨ρ2, F2, e2, rh2, rv2⟩ := hy v H'' yl
      obtain ⟨d1', d2', d3'⟩ := e2.off d1 d2 d3 fun ps => by simp
      refine hg.run ρ2 F2 h2 H'' l[i] v (wipeA sl vs) (L2.wipe σ vs) sl3 h3 _ rv2 ((rsw.ext e1).ext e2) rh2 q fun eh σ2 rs2 hw => ⟨?_, ?_⟩
      · exact hw.trans (wipe_wipe vs)
      · subst eh
        refine ⟨ρ2, F2, sl3, h3, rs2, rh2, ?_⟩
        cases q2 : ft sl3 h3 with
        | exc _ _ _ _ => simp only [q2, Res.nx, Res.bind] at eq; exact absurd eq.symm n1
        | stuck => simp only [q2, Res.nx, Res.bind] at eq; exact absurd eq.symm n1
        | ok b h4 =>
          simp only [q2, Res.nx, Res.bind] at eq
          intro ρ3 F3 H3 b' e3 rh3 eb
          cases eb
          obtain ⟨d1'', d2'', d3''⟩ := e3.off d1' d2' d3' fun ps => by simp
          cases b with
          | false =>
            refine iteF ⟨hlt, ρ3, F3, h4, acc, accV, e1.trans (e2.trans e3), rh3, d1'', d2'', d3'', (racc.ext e2).ext e3, by simpa using eq⟩
          | true =>
            refine iteT ⟨ρ3, F3, sl3, h4, rs2.ext e3, rh3, ?_⟩
            simp only [if_true] at eq
            cases q3 : it1 sl3 h4 with
            | exc _ _ _ _ => simp only [q3, Res.nx, Res.bind] at eq; exact absurd eq.symm n1
            | stuck => simp only [q3, Res.nx, Res.bind] at eq; exact absurd eq.symm n1
            | ok p1 h5 =>
              simp only [q3, Res.nx, Res.bind] at eq
              obtain ⟨l1, ok1⟩ := p1
              intro ρ4 F4 H4 J1 e4 rh4 wk1
              obtain ⟨g1', g2', g3'⟩ := e4.off d1'' d2'' d3'' fun ps => by simp
              have racc4 := ((racc.ext e2).ext e3).ext e4
              have e14 := e1.trans (e2.trans (e3.trans e4))
              split at eq
              case isFalse => exact absurd eq.symm n1
              rename_i hsz
              dsimp only at hsz eq
              have rsw1 : RSl X.K X.mg ρ4 F4 (wipeA sl3 vs1) (L2.wipe σ2 vs1) := ((rs2.ext e3).ext e4).wipe vs1
              -- the inner loop
              refine ⟨fun j k H' => k = l1.length - j ∧ j ≤ l1.length ∧ ∃ ρ' F' h' acc' accV', Ext ρ F H1 ρ' F' H' ∧ (∃ t, ρ' = ρ4 ++ t) ∧ (∀ a o, F4 a = some o → F' a = some o) ∧ RH X.K X.mg ρ' F' h' H' ∧ D ∉ ρ' ∧ F' D = none ∧ H' D = some (.lst accV') ∧ RVs X.K X.mg ρ' F' acc' accV' ∧ acc'.length ≤ acc.length + j ∧
                  ((compL ok1 gm1 ft1 fe (wipeA sl3 vs1) (l1.drop j) acc' h').nx.bind fun acc' h4 => compL2 ok gm ft it1 gm1 ft1 fe (wipeA sl vs) vs1 (l.drop (i + 1)) acc' h4) = r0,
                ⟨l1.length, by simp, Nat.zero_le _, ρ4, F4, h5, acc, accV, e14, ⟨[], by simp⟩, fun _ _ z => z, rh4, g1', g2', g3', racc4, Nat.le_refl _, by rw [List.drop_zero]; exact eq⟩, ?_⟩
              rintro j k H5 ⟨rfl, hj, ρ5, F5, h6, acc5, accV5, e5, pre5, fz5, rh5, k1, k2, k3, racc5, hacc5, eq5⟩
              by_cases hlt1 : j < l1.length
              · rw [List.drop_eq_getElem_cons hlt1] at eq5
                rw [compL_cons] at eq5
                split at eq5
                case isFalse => exact absurd eq5.symm n1
                rename_i hok1
                obtain ⟨hgo1, hy1⟩ := wk1.go ρ5 F5 h6 H5 j l1[j] pre5 fz5 rh5 hok1 (by simp [hlt1])
                cases q4 : gm1 l1[j] (wipeA sl3 vs1) h6 with
                | none => rw [q4] at eq5; exact absurd eq5.symm n1
                | some pp1 =>
                  obtain ⟨sl5, h7⟩ := pp1
                  rw [q4] at eq5
                  refine .inr ⟨hgo1, fun H' => j + 1 ≤ l1.length ∧ ∃ ρ' F' h' acc' accV', Ext ρ F H1 ρ' F' H' ∧ (∃ t, ρ' = ρ4 ++ t) ∧ (∀ a o, F4 a = some o → F' a = some o) ∧ RH X.K X.mg ρ' F' h' H' ∧ D ∉ ρ' ∧ F' D = none ∧ H' D = some (.lst accV') ∧ RVs X.K X.mg ρ' F' acc' accV' ∧ acc'.length ≤ acc.length + (j + 1) ∧
                    ((compL ok1 gm1 ft1 fe (wipeA sl3 vs1) (l1.drop (j + 1)) acc' h').nx.bind fun acc' h4 => compL2 ok gm ft it1 gm1 ft1 fe (wipeA sl vs) vs1 (l.drop (i + 1)) acc' h4) = r0, fun H' hN => ⟨l1.length - (j + 1), by omega, rfl, hN⟩, fun v1 H6 yl1 => ?_⟩
                  obtain ⟨ρ6, F6, e6, rh6, rv6⟩ := hy1 v1 H6 yl1
                  obtain ⟨m1, m2, m3⟩ := e6.off k1 k2 k3 fun ps => by simp
                  have rsw5 := (RSl.mono' fz5 pre5 rsw1).ext e6
                  have pre6 : ∃ t, ρ6 = ρ4 ++ t := by
                    obtain ⟨t, rfl⟩ := pre5
                    obtain ⟨t', et⟩ := e6.pre
                    exact ⟨t ++ t', by rw [et, List.append_assoc]⟩
                  have fz6 : ∀ a o, F4 a = some o → F6 a = some o := fun a o z => e6.fz a o (fz5 a o z)
                  refine hg1.run ρ6 F6 h6 H6 l1[j] v1 (wipeA sl3 vs1) (L2.wipe σ2 vs1) sl5 h7 _ rv6 rsw5 rh6 q4 fun eh1 σ3 rs3 hw1 => ⟨hw1.trans (wipe_wipe vs1), ?_⟩
                  subst eh1
                  refine ⟨ρ6, F6, sl5, h7, rs3, rh6, ?_⟩
                  cases q5 : ft1 sl5 h7 with
                  | exc _ _ _ _ => simp only [q5, Res.nx, Res.bind] at eq5; exact absurd eq5.symm n1
                  | stuck => simp only [q5, Res.nx, Res.bind] at eq5; exact absurd eq5.symm n1
                  | ok b1 h8 =>
                    simp only [q5, Res.nx, Res.bind] at eq5
                    intro ρ7 F7 H7 b7 e7 rh7 eb7
                    cases eb7
                    obtain ⟨n1', n2', n3'⟩ := e7.off m1 m2 m3 fun ps => by simp
                    have pre7 : ∃ t, ρ7 = ρ4 ++ t := by
                      obtain ⟨t, rfl⟩ := pre6
                      obtain ⟨t', et⟩ := e7.pre
                      exact ⟨t ++ t', by rw [et, List.append_assoc]⟩
                    have fz7 : ∀ a o, F4 a = some o → F7 a = some o := fun a o z => e7.fz a o (fz6 a o z)
                    cases b1 with
                    | false =>
                      refine iteF ⟨hlt1, ρ7, F7, h8, acc5, accV5, e5.trans (e6.trans e7), pre7, fz7, rh7, n1', n2', n3', (racc5.ext e6).ext e7, by omega, ?_⟩
                      simp only [Bool.false_eq_true, if_false] at eq5
                      exact eq5
                    | true =>
                      refine iteT ⟨ρ7, F7, sl5, h8, rs3.ext e7, rh7, ?_⟩
                      simp only [if_true] at eq5
                      cases q6 : fe sl5 h8 with
                      | exc _ _ _ _ => simp only [q6, Res.nx, Res.bind] at eq5; exact absurd eq5.symm n1
                      | stuck => simp only [q6, Res.nx, Res.bind] at eq5; exact absurd eq5.symm n1
                      | ok z h9 =>
                        simp only [q6, Res.nx, Res.bind] at eq5
                        intro ρ8 F8 H8 y8 e8 rh8 ry8
                        obtain ⟨o1', o2', o3'⟩ := e8.off n1' n2' n3' fun ps => by simp
                        have racc8 := ((racc5.ext e6).ext e7).ext e8
                        have pre8 : ∃ t, ρ8 = ρ4 ++ t := by
                          obtain ⟨t, rfl⟩ := pre7
                          obtain ⟨t', et⟩ := e8.pre
                          exact ⟨t ++ t', by rw [et, List.append_assoc]⟩
                        refine ⟨accV5, o3', by rw [← racc5.length]; omega, hlt1, ρ8, F8, h9, acc5 ++ [z], accV5 ++ [y8], ext_off (e5.trans (e6.trans (e7.trans e8))) hD, pre8, fun a o z => e8.fz a o (fz7 a o z), rh_off rh8 o1' o2' (soft_lst o3'), o1', o2', upd_same, racc8.append (.cons ry8 .nil), by simp; omega, ?_⟩
                        exact eq5
              · have e : j = l1.length := by omega
                subst e
                rw [List.drop_length, compL_nil] at eq5
                split at eq5
                · rename_i hok1
                  exact .inl ⟨wk1.stop ρ5 F5 h6 H5 pre5 fz5 rh5 hok1, hlt, ρ5, F5, h6, acc5, accV5, e5, rh5, k1, k2, k3, racc5, eq5⟩
                · exact absurd eq5.symm n1
  · have e : i = l.length := by omega
    subst e
    rw [List.drop_length] at eq
    rw [compL2_nil] at eq
    split at eq
    · rename_i hok
      refine .inl ⟨wk.stop ρ1 F1 h2 H2 e1.pre e1.fz rh1 hok, ?_⟩
      rw [← eq] at o1
      exact out_mkL_at (show Out X.K X.mg (RV X.K X.mg) ρ F H1 (mkL nm acc h2) Q _ from o1) e1 rh1 racc d1 d2 d3 hD
    · rw [← eq] at o1; exact o1.elim
theorem li_blk {Y : Cx} (hK : Y.K = X.K) (hm : Y.mg = X.mg) {σ : L2.St} {H : Hp} {R : It → Hp → Prop} (o : lI X W0 it1 σ H R) : lI Y W0 it1 σ H R := by
  obtain ⟨ρ, F, sl, h, rs, rh, o⟩ := o
  refine ⟨ρ, F, sl, h, by rw [hK, hm]; exact rs, by rw [hK, hm]; exact rh, ?_⟩
  rw [hK, hm]
  cases q : it1 sl h with
  | stuck => rw [q] at o; exact o
  | exc c ks l h' => rw [q] at o; exact o
  | ok p h' =>
    rw [q] at o
    refine fun ρ' F' H' J e rh' w => o ρ' F' H' J e rh' ⟨fun a b c d i y pr fz r k z => ?_, fun a b c d pr fz r k => ?_⟩
    · have r' := r
      rw [← hK, ← hm] at r'
      obtain ⟨w1, w2⟩ := w.go a b c d i y pr fz r' k z
      exact ⟨w1, by rw [← hK, ← hm]; exact w2⟩
    · have r' := r
      rw [← hK, ← hm] at r'
      exact w.stop a b c d pr fz r' k
theorem rComp2 {g g1 : TG} {nm : Bool} (hN : X.N.Nodup) (hi : PI X tg iter (lI X W it)) (ok : BlkOk X.N X.env.scope scope own) (hv : ∀ i ∈ vs1, i ∈ own.map (·.2)) (hgo : GOk X g gm (own.map (·.2))) (hgo1 : GOk X g1 gm1 vs1)
    (hg : ∀ (s : Shared) (H : Hp) (C : Addr) (cl : List (Str × Addr)) (fp : List Addr), PG (X.blk s H scope (PySem.compEnvC scope cl C X.env) fp) tg g)
    (ht : ∀ (s : Shared) (H : Hp) (C : Addr) (cl : List (Str × Addr)) (fp : List Addr), PTs (X.blk s H scope (PySem.compEnvC scope cl C X.env) fp) ifs (lT (X.blk s H scope (PySem.compEnvC scope cl C X.env) fp) W0 ft))
    (hi1 : ∀ (s : Shared) (H : Hp) (C : Addr) (cl : List (Str × Addr)) (fp : List Addr), PI (X.blk s H scope (PySem.compEnvC scope cl C X.env) fp) tg1 iter1 (lI (X.blk s H scope (PySem.compEnvC scope cl C X.env) fp) W0 it1))
    (hg1 : ∀ (s : Shared) (H : Hp) (C : Addr) (cl : List (Str × Addr)) (fp : List Addr), PG (X.blk s H scope (PySem.compEnvC scope cl C X.env) fp) tg1 g1)
    (ht1 : ∀ (s : Shared) (H : Hp) (C : Addr) (cl : List (Str × Addr)) (fp : List Addr), PTs (X.blk s H scope (PySem.compEnvC scope cl C X.env) fp) ifs1 (lT (X.blk s H scope (PySem.compEnvC scope cl C X.env) fp) W0 ft1))
    (he : ∀ (s : Shared) (H : Hp) (C : Addr) (cl : List (Str × Addr)) (fp : List Addr), PE (X.blk s H scope (PySem.compEnvC scope cl C X.env) fp) elt (lE (X.blk s H scope (PySem.compEnvC scope cl C X.env) fp) W0 fe))
    (hc : X.calm = true := by rfl) (hs : ∀ x, foldedSetIterable iter X.env x = pure x := by intro _; rfl) (hs1 : ∀ env x, foldedSetIterable iter1 env x = pure x := by intro _ _; rfl) :
    PE X (.ListComp elt [⟨tg, iter, ifs, 0⟩, ⟨tg1, iter1, ifs1, 0⟩] scope pos) (lE X W (eComp2 nm it gm ft it1 gm1 ft1 fe (own.map (·.2)) vs1)) :=
  pe_imp (pe_lc2 (tt := lT X W0 ft) (te := lE X W0 fe) (wi1 := lI X W0 it1) (tt1 := lT X W0 ft1) hc hN hi ok hv hg (fun s H C cl fp => ht s H C cl fp) (fun s H C cl fp => pi_imp (hi1 s H C cl fp) fun σ H2 R o => li_blk (X := X) (Y := X.blk s H scope (PySem.compEnvC scope cl C X.env) fp) rfl rfl o) hg1 (fun s H C cl fp => ht1 s H C cl fp) (fun s H C cl fp => he s H C cl fp) hs hs1) fun σ H Q o => comp_in2 hgo hgo1 o
end
end AVL

namespace AVL
open PySem PySem.Spec L2
/-! ### *xs in a display -/
def aStar (fe : EM) (r : AM) : AM := fun sl h => (fe sl h).bind fun x h1 => match items h1 x with
  | some l => (r sl h1).bind fun ys h2 => .ok (l ++ ys) h2
  | none => .stuck
section
variable {X : Cx} {W : WX} {fe : EM} {fa : AM} {e : Expr} {es : List Expr} {p : Pos}
theorem raStar (he : PE X e (lE X W fe)) (hr : PA X es (lA X W fa)) (hs : starEach (.Starred e p :: es) X.env = (true, eval e X.env) :: starEach es X.env := by rfl) : PA X (.Starred e p :: es) (lA X W (aStar fe fa)) := by
  refine pa_imp (StX.pa_star he hr hs) fun σ H Q ⟨ρ, F, sl, h, rs, rh, o⟩ => ?_
  refine ⟨ρ, F, sl, h, rs, rh, Out.bind (R := RV X.K X.mg) o fun x h1 ρ1 F1 H1 v e1 rh1 rv1 o1 => ?_⟩
  split at o1
  case h_2 => exact o1.elim
  rename_i l hl
  have key : ∃ a vs, v = V.ref a ∧ (SqT X.K H1 a vs ∨ SqL X.K H1 a vs) ∧ RVs X.K X.mg ρ1 F1 l vs := by
    rcases items_cases hl with q | q
    · obtain ⟨a, vs, ev, q1, r⟩ := items_T rh1 rv1 q
      exact ⟨a, vs, ev, .inl q1, r⟩
    · obtain ⟨a, vs, ev, q1, r⟩ := items_L rh1 rv1 q
      exact ⟨a, vs, ev, .inr q1, r⟩
  obtain ⟨a, vs, ev, q1, r⟩ := key
  refine ⟨a, vs, ev, q1, ρ1, F1, sl, h1, rs.ext e1, rh1, Out.bind (R := RVs X.K X.mg) o1 fun ys h2 ρ2 F2 H2 ws e2 rh2 rw2 o2 => ?_⟩
  exact Out.now (R := RVs X.K X.mg) o2 rh2 ((r.ext e2).append rw2)
end
/-! ### texts -/
def mSplit (nm : Bool) : MM := fun x ys h => match x, ys with
  | .str a, [.str b] => if !(b.length == 0) && decide (a.length + 2 ≤ sizeLine) then mkL nm ((Txt.split a b).map .str) h else .stuck
  | _, _ => .stuck
theorem mSplit_calm {nm} : CalmM (mSplit nm) := fun x xs h => by
  unfold mSplit
  split
  · split
    · exact mkL_calm
    · trivial
  · trivial
def strsOf : List AV → Option (List Str)
  | [] => some []
  | .str a :: r => (strsOf r).map (a :: ·)
  | _ :: _ => none
def mJoin : MM := fun x ys h => match x, ys with
  | .str a, [y] => match items h y with
    | some l => match strsOf l with
      | some zs => if (zs.map (·.length)).sum + zs.length * a.length ≤ 16777216 then .ok (.str (Txt.join a zs)) h else .stuck
      | none => .stuck
    | none => .stuck
  | _, _ => .stuck
theorem mJoin_calm : CalmM mJoin := fun x xs h => by
  unfold mJoin
  split
  · split
    · split
      · split <;> trivial
      · trivial
    · trivial
  · trivial
def mIsDec : MM := fun x ys h => match x, ys with
  | .str a, [] => .ok (.bl (Txt.isdecimal a)) h
  | _, _ => .stuck
def mIsAsc : MM := fun x ys h => match x, ys with
  | .str a, [] => .ok (.bl (Txt.isascii a)) h
  | _, _ => .stuck
theorem mIsDec_calm : CalmM mIsDec := fun x xs h => by unfold mIsDec; split <;> trivial
theorem mIsAsc_calm : CalmM mIsAsc := fun x xs h => by unfold mIsAsc; split <;> trivial
def mStr : List AV → AH → Res AV := fun xs h => match xs with
  | [.int i] => if i.natAbs.log2 < 1920 then .ok (.str (toString i)) h else .stuck
  | [.str a] => .ok (.str a) h
  | _ => .stuck
theorem mStr_calm : CalmA mStr := fun xs h => by
  unfold mStr
  split
  · split <;> trivial
  · trivial
  · trivial
def mIntS : List AV → AH → Res AV := fun xs h => match xs with
  | [.int i] => .ok (.int i) h
  | [.bl k] => .ok (.int (if k then 1 else 0)) h
  | [.str a] => match PySem.intText? a with
    | some n => if a.length ≤ 640 then .ok (.int n) h else .stuck
    | none => .stuck
  | _ => .stuck
theorem mIntS_calm : CalmA mIntS := fun xs h => by
  unfold mIntS
  split
  · trivial
  · trivial
  · split
    · split <;> trivial
    · trivial
  · trivial
section
variable {X : Cx}
theorem mSplit_ok {nm : Bool} : MtOk X "str.split" (mSplit nm) := by
  intro pins s σ H v ws u us Q I r1 r2 ⟨ρ, F, x, xs, h, rv, rw', rh, o⟩
  refine mt_split pins s σ H v ws u us Q I r1 r2 ?_
  unfold mSplit at o
  split at o
  case h_2 => exact o.elim
  rename_i a b
  split at o
  case isFalse => exact o.elim
  rename_i hc
  simp only [Bool.and_eq_true, Bool.not_eq_true', decide_eq_true_eq] at hc
  obtain ⟨w, rfl, rb⟩ := rw'.one
  refine ⟨a, b, rv.str, by rw [rb.str], hc.1, hc.2, fun p hp => ?_⟩
  refine out_mkL rh ?_ o hp
  have key : ∀ l : List Str, RVs X.K X.mg ρ F (l.map .str) (l.map V.str) := fun l => by
    induction l with
    | nil => simp [RVs]
    | cons z r ih => simp only [List.map_cons, RVs]; exact ⟨_, _, rfl, by simp [RV], ih⟩
  exact key _
theorem strsOf_ok {K : PySem.W.Frag} {mg : Str → Option Value} {ρ : List Addr} {F : Hp} : ∀ {l : List AV} {vs : List V} {zs : List Str}, strsOf l = some zs → RVs K mg ρ F l vs → vs = zs.map V.str
  | [], vs, zs, e, r => by
    simp only [strsOf, Option.some.injEq] at e
    subst e
    simpa [RVs] using r
  | x :: l, vs, zs, e, r => by
    simp only [RVs] at r
    obtain ⟨v, r', rfl, a, b⟩ := r
    cases x with
    | str z =>
      simp only [strsOf, Option.map_eq_some_iff] at e
      obtain ⟨zs', e1, rfl⟩ := e
      rw [List.map_cons, a.str, strsOf_ok e1 b]
    | _ => simp [strsOf] at e
theorem mJoin_ok : MtOk X "str.join" mJoin := by
  intro pins s σ H v ws u us Q I r1 r2 ⟨ρ, F, x, xs, h, rv, rw', rh, o⟩
  refine mt_join pins s σ H v ws u us Q I r1 r2 ?_
  unfold mJoin at o
  split at o
  case h_2 => exact o.elim
  rename_i a y
  split at o
  case h_2 => exact o.elim
  rename_i l hl
  split at o
  case h_2 => exact o.elim
  rename_i zs hz
  split at o
  case isFalse => exact o.elim
  rename_i hc
  obtain ⟨w, rfl, ry⟩ := rw'.one
  rcases items_cases hl with q | q
  · obtain ⟨b, vs, rfl, q1, r⟩ := items_T rh ry q
    rw [strsOf_ok hz r] at q1
    exact ⟨a, b, zs, rv.str, rfl, .inr q1, hc, o.now rh (by simp [RV])⟩
  · obtain ⟨b, vs, rfl, q1, r⟩ := items_L rh ry q
    rw [strsOf_ok hz r] at q1
    exact ⟨a, b, zs, rv.str, rfl, .inl q1, hc, o.now rh (by simp [RV])⟩
theorem mIsDec_ok : MtOk X "str.isdecimal" mIsDec := by
  intro pins s σ H v ws u us Q I r1 r2 ⟨ρ, F, x, xs, h, rv, rw', rh, o⟩
  refine mt_isdecimal pins s σ H v ws u us Q I r1 r2 ?_
  unfold mIsDec at o
  split at o
  case h_2 => exact o.elim
  rename_i a
  exact ⟨a, rv.str, by simpa [RVs] using rw', trivial, o.now rh (by simp [RV])⟩
theorem mIsAsc_ok : MtOk X "str.isascii" mIsAsc := by
  intro pins s σ H v ws u us Q I r1 r2 ⟨ρ, F, x, xs, h, rv, rw', rh, o⟩
  refine mt_isascii pins s σ H v ws u us Q I r1 r2 ?_
  unfold mIsAsc at o
  split at o
  case h_2 => exact o.elim
  rename_i a
  exact ⟨a, rv.str, by simpa [RVs] using rw', trivial, o.now rh (by simp [RV])⟩
theorem mStr_ok : CallOk X (.type "str") mStr := by
  intro pins s σ H vs us Q I r1 ⟨ρ, F, xs, h, rv, rh, o⟩
  unfold mStr at o
  split at o
  · rename_i i
    split at o
    case isFalse => exact o.elim
    rename_i hi
    obtain ⟨v, rfl, r⟩ := rv.one
    rw [r.int] at r1
    exact call_str_int pins s σ H _ us Q I r1 ⟨i, rfl, hi, o.now rh (by simp [RV])⟩
  · rename_i a
    obtain ⟨v, rfl, r⟩ := rv.one
    rw [r.str] at r1
    exact SkE.call_str_str pins s σ H _ us Q I r1 ⟨a, rfl, o.now rh (by simp [RV])⟩
  · exact o.elim
theorem mIntS_ok : CallOk X (.type "int") mIntS := by
  intro pins s σ H vs us Q I r1 ⟨ρ, F, xs, h, rv, rh, o⟩
  unfold mIntS at o
  split at o
  · rename_i i
    obtain ⟨v, rfl, r⟩ := rv.one
    exact mInt_ok pins s σ H _ us Q I r1 ⟨ρ, F, [.int i], h, by simp only [RVs]; exact ⟨_, _, rfl, r, rfl⟩, rh, o⟩
  · rename_i i
    obtain ⟨v, rfl, r⟩ := rv.one
    exact mInt_ok pins s σ H _ us Q I r1 ⟨ρ, F, [.bl i], h, by simp only [RVs]; exact ⟨_, _, rfl, r, rfl⟩, rh, o⟩
  · rename_i a
    split at o
    case h_2 => exact o.elim
    rename_i n hn
    split at o
    case isFalse => exact o.elim
    rename_i hl
    obtain ⟨v, rfl, r⟩ := rv.one
    rw [r.str] at r1
    exact call_int_str pins s σ H _ us Q I r1 ⟨a, n, rfl, hn, hl, o.now rh (by simp [RV])⟩
  · exact o.elim
end
/-! ### constants of the module -/
def kintB (K : PySem.W.Frag) (n : Str) (i : Int) : Bool := match PySem.W.nsIn K mainGlobals n with
  | some (some (.int j _)) => decide (j = i)
  | _ => false
def kstrB (K : PySem.W.Frag) (n : Str) (z : Str) : Bool := match PySem.W.nsIn K mainGlobals n with
  | some (some (.str y _)) => decide (y = z)
  | _ => false
theorem kint_ok {K : PySem.W.Frag} {mg : Str → Option Value} {h : Heap} {n : Str} {i : Int} (X : K.In h) (G : h.Ns mainGlobals mg) (e : kintB K n i = true) : ∃ t, mg n = some (.int i t) := by
  unfold kintB at e
  split at e
  · rename_i j t q
    have := of_decide_eq_true e
    subst this
    exact ⟨t, PySem.W.mg_of X G q⟩
  · cases e
theorem kstr_ok {K : PySem.W.Frag} {mg : Str → Option Value} {h : Heap} {n z : Str} (X : K.In h) (G : h.Ns mainGlobals mg) (e : kstrB K n z = true) : ∃ t, mg n = some (.str z t) := by
  unfold kstrB at e
  split at e
  · rename_i j t q
    have := of_decide_eq_true e
    subst this
    exact ⟨t, PySem.W.mg_of X G q⟩
  · cases e
theorem rKonI {X : Cx} {W : WX} {n : Str} {i : Int} {pos : Pos} (h : ∃ t, X.mg n = some (.int i t)) (hg : Gl X n := by rfl) (hd : (n == ("__debug__" : Str)) = false := by decide) : PE X (.Name n pos) (lE X W (eC (.int i))) := by
  obtain ⟨t, hm⟩ := h
  exact ⟨fun pins s σ H Q I ⟨ρ, F, sl, h, rs, rh, o⟩ => ld_glob I hg hm ⟨.int i, H, I, ⟨t, rfl⟩, Out.now (R := RV X.K X.mg) o rh (by simp [RV])⟩ hd⟩
theorem rKonS {X : Cx} {W : WX} {n z : Str} {pos : Pos} (h : ∃ t, X.mg n = some (.str z t)) (hg : Gl X n := by rfl) (hd : (n == ("__debug__" : Str)) = false := by decide) : PE X (.Name n pos) (lE X W (eC (.str z))) := by
  obtain ⟨t, hm⟩ := h
  exact ⟨fun pins s σ H Q I ⟨ρ, F, sl, h, rs, rh, o⟩ => ld_glob I hg hm ⟨.str z, H, I, ⟨t, rfl⟩, Out.now (R := RV X.K X.mg) o rh (by simp [RV])⟩ hd⟩
/-! ### a comprehension within a comprehension -/
def relS (scope sc : Scope) : Scope := { scope with names := scope.names.map fun (n, k) => if (k == .free && sc.kind == .function && sc.names.lookup n == some .cell) then (n, .cell) else (n, k) }
theorem blkOk_nest {X : Cx} {s : Shared} {H : Hp} {SC1 scope sc : Scope} {cl : List (Str × Addr)} {C : Addr} {fp : List Addr} {own : List (Str × Nat)} {N : List Str} (hN : X.N = N) (hs : X.env.scope = sc) (h : blkC N (relS SC1 sc) scope own = true) :
    BlkOk (X.blk s H SC1 (compEnvC SC1 cl C X.env) fp).N (X.blk s H SC1 (compEnvC SC1 cl C X.env) fp).env.scope scope own := by
  subst hN hs
  exact blkOk_by h
/-- {} -/
theorem rDict0 {X : Cx} {W : WX} {pos : Pos} : PE X (.Dict [] [] pos) (lE X W (eC (.dct [] []))) := by
  refine pe_imp pe_dnewK fun σ H Q ⟨ρ, F, sl, h, rs, rh, o⟩ => fun p hp => ?_
  refine o ρ (upd F p (.dK [])) _ _ (ext_frz rh hp) (rh_frz rh hp) ?_
  simp only [RV, RVs]
  exact ⟨p, [], rfl, upd_same, rfl, rfl⟩
end AVL

/-! ### a list comprehension whose element may raise -/
namespace AVL
open PySem PySem.Spec PyProof.Rows L2
def postX (M : Model) (A : Around) (E : Value → Shared → Prop) (use : Option (Value → Sem Unit)) (Q : Value → Shared → Prop) (acc : Value) (ce : Env) (r : Result) (s' : Shared) : Prop :=
  match r, use with
  | .ok _, none => ∃ m, s'.heap.Ns ce.locals m ∧ ∀ h', Heap.SameBut ce.locals s'.heap h' → Q acc { s' with heap := h' }
  | .ok _, some u => wpAny M A (u acc) (fun _ s'' => ∃ m, s''.heap.Ns ce.locals m ∧ ∀ h', Heap.SameBut ce.locals s''.heap h' → Q .none { s'' with heap := h' }) E s'
  | .error x, _ => ∃ m, s'.heap.Ns ce.locals m ∧ ∀ h', Heap.SameBut ce.locals s'.heap h' → wpAny M A (passOn "comprehension.variables-let-go" x ce : Sem Value) (fun _ _ => False) E { s' with heap := h' }
theorem comprehension_freeX {M : Model} {A : Around} {E : Value → Shared → Prop} {s : Shared} {env : Env} {e : Expr} {scope : Scope} {pos : Pos} {newAcc first : Sem Value} {g : Comprehension} {gs : List Comprehension} {cl : List (Str × Addr)} {use : Option (Value → Sem Unit)}
    {Q : Value → Shared → Prop}
    (hcl : clausesOf e = g :: gs) (hs : ∀ x, foldedSetIterable g.iter env x = pure x) (hclos : closureFor scope env = pure cl)
    (hkind : scope.kind = .function) (hnames : ∀ x ∈ scope.names, x.2 = .local → scope.names.lookup x.1 = some .local)
    (h : wpAny M A first (fun x s₁ => wpAny M A (pyIter x) (fun it s₂ => wpAny M A newAcc (fun acc s₃ =>
      wpAny M A (newFunctionEnv scope env.globals cl [] env.qual none .none (some env)) (fun cenv s₄ =>
        codeAny M A (.compStart e 0 it acc { cenv with scope := relabel scope env }) (postX M A E use Q acc { cenv with scope := relabel scope env }) s₄) E s₃) E s₂) E s₁) E s) :
    wpAny M A (comprehension e scope env pos newAcc false first use) Q E s := by
  unfold comprehension
  rw [hclos, hcl]
  refine wpAny_bind (wpAny_mono h (fun x s₁ h₁ => wpAny_bind (wpAny_standAt (wpAny_bind (wpAny_of_eq (hs x) (wpAny_bind (wpAny_holding (wpAny_mono h₁ (fun it s₂ h₂ =>
    wpAny_standIf (wpAny_bind (wpAny_mono h₂ (fun acc s₃ h₃ => wpAny_bind (wpAny_pure (wpAny_bind (wpAny_mono h₃ (fun cenv s₄ h₄ => ?_) fun _ _ h' => h')))) fun _ _ h' => h')))
      fun _ _ h' => h'))))))) fun _ _ h' => h')
  dsimp only
  have hv : ∀ x ∈ (scope.names.filter fun x => (x.2 == .local || x.2 == .cell) && x.1 != (".0" : Str)).reverse, x.2 = .local →
      Env.kindOf { cenv with scope := relabel scope env } x.1 = some .local := fun x hx hl => lookup_relabel_local (hnames x (List.mem_filter.mp (List.mem_reverse.mp hx)).1 hl)
  have hv' : ∀ x ∈ (scope.names.filter fun x => (x.2 == .local || x.2 == .cell) && x.1 != (".0" : Str)).reverse.drop 1 ++ (scope.names.filter fun x => (x.2 == .local || x.2 == .cell) && x.1 != (".0" : Str)).reverse.take 1,
      x.2 = .local → Env.kindOf { cenv with scope := relabel scope env } x.1 = some .local := fun x hx hl => by
    rcases List.mem_append.mp hx with h1 | h1
    · exact hv x (List.mem_of_mem_drop h1) hl
    · exact hv x (List.mem_of_mem_take h1) hl
  refine wpAny_holding (wpAny_bind (wpAny_attempt (wpAny_holding (wpAny_run (codeAny_mono h₄ fun r s' hr => ?_)))))
  cases r with
  | ok f =>
    cases use with
    | none =>
      obtain ⟨m, hn, hr⟩ := hr
      exact wpAny_bind (wpAny_holding (wpAny_comp_letGo (cenv := { cenv with scope := relabel scope env }) hkind _ s' m hv hn fun h' m' _ hs' => wpAny_pure (hr h' hs')))
    | some u =>
      refine wpAny_bind (wpAny_rule (wpAny_bind (wpAny_holding (wpAny_mono hr (fun _ s'' hr' => ?_) fun _ _ h' => h'))))
      obtain ⟨m, hn, hr'⟩ := hr'
      exact wpAny_bind (wpAny_comp_letGo (cenv := { cenv with scope := relabel scope env }) hkind _ s'' m hv' hn fun h' m' _ hs' => wpAny_pure (hr' h' hs'))
  | error x =>
    have hr' : ∃ m, s'.heap.Ns cenv.locals m ∧ ∀ h', Heap.SameBut cenv.locals s'.heap h' → wpAny M A (passOn "comprehension.variables-let-go" x { cenv with scope := relabel scope env } : Sem Value) (fun _ _ => False) E { s' with heap := h' } := by cases use <;> exact hr
    obtain ⟨m, hn, hr⟩ := hr'
    exact wpAny_bind (wpAny_holding (wpAny_comp_letGo (cenv := { cenv with scope := relabel scope env }) hkind _ s' m hv hn fun h' m' _ hs' => wpAny_mono (hr h' hs') (fun _ _ f => f.elim) fun _ _ y => y))
/-- in flight by another frame's hand, noted here -/
theorem looks_anyZ {M : Model} {A : Around} {E : Value → Shared → Prop} {s : Shared} {Z : Obj → Prop} {base : Heap} {env : Env} {outer : List Env} {L e : Addr} {fl : Value} {Q : Unit → Shared → Prop} (hZ : HandSPX.Steady Z) (hfr : A.frames = some (env :: outer)) (hf : env.frame = some L) (hfl : (fl == rawInt L) = false)
    (hkb : base.StaysIn s.heap) (hen : base.get? e = none) (hl : s.heap.FunFrames base (env :: outer)) (ht : HandSPX.TracedZ s.heap base e Z fl)
    (hQ : ∀ h', HandSPX.HeldZ base (env :: outer) e Z L h' → s.heap.UpToSlots h' → Q () { s with heap := h' }) : wpAny M A (noteFrame (.ref e) env) Q E s := by
  obtain ⟨oe, vs, T, oT, ts, he, hz, hd, h1, hnT, hTe, hT, hdT, h3⟩ := ht
  unfold noteFrame
  simp only [hf]
  refine wpAny_bind (wpAny_field he hd h1 ?_)
  rw [if_pos (show (Value.ref T != Value.none) = true from by simp)]
  refine wpAny_bind (wpAny_field hT hdT h3 ?_)
  rw [if_neg (show ¬ ((fl == rawInt L) = true) from by rw [hfl]; simp)]
  refine wpAny_bind (wpAny_setField hT hdT (Array.getElem?_eq_some_iff.mp h3).1 ?_)
  have other : ∀ b, b ≠ T → (s.heap.update T (Obj.mapFields (·.setIfInBounds 3 Value.none))).get? b = s.heap.get? b := fun b hb => Heap.get?_update_other _ _ (Ne.symm hb)
  have noRecord : ∀ b o, s.heap.get? b = some o → (∀ vs, o.data ≠ .fields vs) → b ≠ T := fun b o hb hnf q => by
    rw [q, hT] at hb; injection hb with hb; subst hb; exact hnf ts hdT
  refine HandSPX.wpAny_entryZ hZ hfr (hl.of_keeps fun b o hb hnf => ⟨o, (other b (noRecord b o hb hnf)).trans hb, rfl⟩) hf ((other e (Ne.symm hTe)).trans he)
    (fun b o hbo => (other b fun q => by rw [q, hnT] at hbo; cases hbo).trans (hkb b o hbo)) hen hd (Array.getElem?_eq_some_iff.mp h1).1 hz fun h' hN => ?_
  obtain ⟨x1, x2, x3, x4⟩ := hN
  exact hQ h' ⟨x1, hen, x2, x3⟩ fun b o hb hnf => x4 b o ((other b (noRecord b o hb hnf)).trans hb) hnf
/-- the block's context: what raises there is wished for by Wb -/
abbrev blkX (X : Cx) (s : Shared) (H : Hp) (scope : Scope) (ce : Env) (fp : List Addr) (Wb : XK) : Cx := (X.blk s H scope ce fp).wish (XE (X.blk s H scope ce fp) fun c d _ H => Wb c d H)
theorem blkX_takes {X : Cx} {s : Shared} {H : Hp} {scope : Scope} {ce : Env} {fp : List Addr} {Wb : XK} : Takes (blkX X s H scope ce fp Wb) fun c d _ H => Wb c d H := fun u s' ⟨a, B, sI, pins, σ, H', cls, d, e, I, nb, up, sky, na, os, ag, w⟩ =>
  ⟨a, B, sI, pins, σ, H', cls, d, e, I.unwish, nb, up, sky, na, os, ag, w⟩
theorem note_same {e : Value} {a b : Env} (h : a.frame = b.frame) : noteFrame e a = noteFrame e b := by
  unfold noteFrame PySem.frameOf
  rw [h]
theorem err_ok {X : Cx} {W : WX} {s3 s4 s' : Shared} {H3 : Hp} {scope : Scope} {cl : List (Str × Addr)} {fp : List Addr} {pins : List (Addr × Obj)} {σ : L2.St} {u : Value} {use : Option (Value → Sem Unit)} {Q : Value → Shared → Prop} {acc : Value}
    (hs : X.stack = X.env :: X.outer) (hf : X.env.frame = some X.env.locals) (tk : Takes X W) (I3 : L2.Inv X pins σ H3 s3) (f3 : ∀ b ∈ fp, FpOk X pins H3 b ∧ b < s3.heap.objs.size)
    (x : XE (X.blk s3 H3 scope (PySem.compEnvC scope cl s3.heap.objs.size X.env) fp) (fun c d _ H => W c d σ H) u s') :
    notedBy (model X.prog X.w) X.A (PySem.compEnvC scope cl s3.heap.objs.size X.env) (fun e s' => postX (model X.prog X.w) X.A X.xe use Q acc (PySem.compEnvC scope cl s3.heap.objs.size X.env) (.error e) s') u s' := by
  generalize hC : s3.heap.objs.size = C at *
  obtain ⟨a, B, sI, pins', σ', H, cls, d, rfl, I, nb, up, sky, na, os, ag, w⟩ := x
  have hfr : X.A.frames = some (X.env :: X.outer) := by
    have e := I.ok.frames
    rw [← hs]; exact e
  have nC : H C = none := I.free
  have fC : FpOk X pins H C := I3.fpOk (Nat.le_of_eq hC) nC
  obtain ⟨_, cL, cfs, _, _, _⟩ := id fC
  have I7 : L2.Inv X pins σ H sI := I3.call' (ch := fp) I.os I.base I.hok I.bare fun b hb => ⟨(f3 b hb).1.2.2.2.1, (f3 b hb).1.2.1, (f3 b hb).1.2.2.2.2.1, (f3 b hb).1.2.2.2.2.2⟩
  obtain ⟨mI, hnI, _⟩ := I.loc
  have hnI : sI.heap.Ns C mI := hnI
  have cst : C ∉ frs X.stack := fun hm => by
    rw [hs] at hm
    unfold frs at hm
    rw [List.filterMap_cons, hf] at hm
    rcases List.mem_cons.mp hm with z | z
    · exact cL z
    · exact cfs z
  unfold notedBy
  rw [note_same (a := PySem.compEnvC scope cl C X.env) (b := X.env) rfl]
  -- noted by the def's own frame
  have fin : ∀ h1, HandSPX.HeldZ B (X.env :: X.outer) a (Zc cls d) X.env.locals h1 → s'.heap.UpToSlots h1 → postX (model X.prog X.w) X.A X.xe use Q acc (PySem.compEnvC scope cl C X.env) (.error (.ref a)) { s' with heap := h1 } := by
    intro h1 hh up1
    have go : ∃ m, h1.Ns C m ∧ ∀ h', Heap.SameBut C h1 h' → wpAny (model X.prog X.w) X.A (passOn "comprehension.variables-let-go" (.ref a) (PySem.compEnvC scope cl C X.env) : Sem Value) (fun _ _ => False) X.xe { s' with heap := h' } := by
      obtain ⟨o, es, ep, ho, hd, r⟩ := hnI
      have hnf : ∀ vs, o.data ≠ .fields vs := fun vs z => by rw [hd] at z; cases z
      obtain ⟨sl1, e1⟩ := up C o ho hnf
      obtain ⟨sl2, e2⟩ := up1 C _ e1 hnf
      refine ⟨mI, ⟨_, es, ep, e2, hd, r⟩, fun h' sb => ?_⟩
      obtain ⟨k1, k2, k3, oe, vs, T, oT, ts, he, hz, hdv, hv1, hnT, hTe, hT, hdT, h3⟩ := hh
      have aC : a ≠ C := fun z => by rw [z, e2] at he; cases he; exact hnf vs hdv
      have tC : T ≠ C := fun z => by rw [z, e2] at hT; cases hT; exact hnf ts hdT
      obtain ⟨B', b1, b2⟩ := restrict B fun b => decide (b ≠ C)
      obtain ⟨G, g1, g2⟩ := restrict sI.heap fun b => decide (b ≠ C)
      have b1' : ∀ b, b ≠ C → B'.get? b = B.get? b := fun b hb => b1 b (decide_eq_true hb)
      have g1' : ∀ b, b ≠ C → G.get? b = sI.heap.get? b := fun b hb => g1 b (decide_eq_true hb)
      have b2' : B'.get? C = none := b2 C (by simp)
      have g2' : G.get? C = none := g2 C (by simp)
      have sub : ∀ {b o}, B'.get? b = some o → b ≠ C ∧ B.get? b = some o := fun {b o} q => by
        have hb : b ≠ C := fun z => by rw [z, b2'] at q; cases q
        exact ⟨hb, by rw [← b1' b hb]; exact q⟩
      have none' : ∀ {b}, B.get? b = none → B'.get? b = none := fun {b} q => by
        by_cases hb : b = C
        · rw [hb]; exact b2'
        · rw [b1' b hb]; exact q
      have he' := (sb.2 a aC).trans he
      have hT' := (sb.2 T tC).trans hT
      have hh' : HandSPX.HeldZ B' (X.env :: X.outer) a (Zc cls d) X.env.locals h' := by
        refine ⟨fun b o q => ?_, none' k2, ?_, oe, vs, T, oT, ts, he', hz, hdv, hv1, none' hnT, hTe, hT', hdT, h3⟩
        · obtain ⟨hb, q'⟩ := sub q
          exact (sb.2 b hb).trans (k1 b o q')
        · have nd : ∀ l : List Env, (∀ b ∈ l.filterMap (·.frame), b ≠ C) → h1.FunFrames B l → h'.FunFrames B' l := by
            intro l
            induction l with
            | nil => intro _ _; trivial
            | cons e r ih =>
              intro hl ⟨q1, ⟨L, o, q2, q3, q4, q5⟩, q6⟩
              have hLC : L ≠ C := hl L (by rw [List.filterMap_cons, q2]; exact List.mem_cons_self)
              refine ⟨q1, ⟨L, o, q2, none' q3, (sb.2 L hLC).trans q4, q5⟩, ih (fun b hb => hl b ?_) q6⟩
              rw [List.filterMap_cons, q2]
              exact List.mem_cons_of_mem _ hb
          refine nd _ (fun b hb z => cst ?_) k3
          rw [hs, ← z]
          exact hb
      unfold PySem.passOn
      refine wpAny_bind (wpAny_field he' hdv hv1 ?_)
      rw [if_neg (show ¬ ((Value.ref T == Value.none) = true) from by simp)]
      have hfc : (PySem.compEnvC scope cl C X.env).frame = some X.env.locals := hf
      have finT : wpAny (model X.prog X.w) X.A (setFlight (.ref a) (PySem.compEnvC scope cl C X.env).frame) (fun _ s4 => wpAny (model X.prog X.w) X.A (throw (.ref a) : Sem Value) (fun _ _ => False) X.xe s4) X.xe { s' with heap := h' } := by
        rw [hfc]
        refine HandSPX.setFlight_onZ hh' fun h4 hh4 up4 => wpAny_throw (tk _ _ ?_)
        refine ⟨a, B', { sI with heap := G }, pins, σ, H, cls, d, rfl, ?_, fun b o q hb => ?_, fun b o q hq => ?_, .inr (.inr (by rw [hs]; exact hh4)), na, os, ag, w⟩
        · exact I7.turned (it := C) (t' := sI.toks) (fun b o hb q => by rw [g1' b hb]; exact q) nC cL fC.2.2.2.1 fC.2.2.2.2.1 fC.2.2.2.2.2
        · have hbC : b ≠ C := fun z => by rw [z, show ({ sI with heap := G } : Shared).heap = G from rfl, g2'] at q; cases q
          rw [b1' b hbC]
          exact nb b o (by rw [← g1' b hbC]; exact q) hb
        · have hbC : b ≠ C := fun z => by rw [z, show ({ sI with heap := G } : Shared).heap = G from rfl, g2'] at q; cases q
          obtain ⟨s1, q1⟩ := up b o (by rw [← g1' b hbC]; exact q) hq
          obtain ⟨s2, q2⟩ := up1 b _ q1 hq
          obtain ⟨s5, q5⟩ := up4 b _ ((sb.2 b hbC).trans q2) hq
          exact ⟨s5, q5⟩
      first
        | exact wpAny_bind (wpAny_pure (wpAny_bind finT))
        | exact wpAny_bind finT
    cases use <;> exact go
  have sky' : Sky B (X.env :: X.outer) a (Zc cls d) C s'.heap := by rw [← hs]; exact sky
  rcases sky' with ⟨hB, hn, hl, oe, vs, he, hz, hd, h1⟩ | fl | hh
  · exact HandSPX.look_newZ Zc.steady hfr hl hf he hB hn hd h1 hz fin
  · exact HandSPX.looks_onZ Zc.steady hfr hf fl fin
  · obtain ⟨k1, k2, k3, k4⟩ := hh
    refine looks_anyZ Zc.steady hfr hf ?_ k1 k2 k3 k4 fin
    have : (C : Int) ≠ (X.env.locals : Int) := fun z => cL (Int.ofNat.inj z)
    simp [rawInt]
    exact this
section
variable {X : Cx} {W : WX}
theorem lc_coreX {pins : List (Addr × Obj)} {s : Shared} {σ : L2.St} {H : Hp} {Q : VK} {elt tg iter : Expr} {ifs : List Expr} {scope : Scope} {own : List (Str × Nat)} {pos pos' : Pos} {wi : TI} {g : TG} {tt : TT} {te : XK → TE} {use : Option (Value → Sem Unit)} {Qf : Value → Shared → Prop}
    (hstk : X.stack = X.env :: X.outer) (hfm : X.env.frame = some X.env.locals) (tk : Takes X W)
    (hc : X.calm = true) (hN : X.N.Nodup) (I : L2.Inv X pins σ H s) (hi : PI X tg iter wi) (ok : BlkOk X.N X.env.scope scope own)
    (hg : ∀ (s : Shared) (H : Hp) (C : Addr) (cl : List (Str × Addr)) (fp : List Addr) (Wb : XK), PG (blkX X s H scope (PySem.compEnvC scope cl C X.env) fp Wb) tg g) (ht : ∀ (s : Shared) (H : Hp) (C : Addr) (cl : List (Str × Addr)) (fp : List Addr) (Wb : XK), PTs (blkX X s H scope (PySem.compEnvC scope cl C X.env) fp Wb) ifs tt)
    (he : ∀ (s : Shared) (H : Hp) (C : Addr) (cl : List (Str × Addr)) (fp : List Addr) (Wb : XK), PE (blkX X s H scope (PySem.compEnvC scope cl C X.env) fp Wb) elt (te Wb)) (hs : ∀ x, foldedSetIterable iter X.env x = pure x)
    (h : tLc wi g tt (te (WE W σ)) (own.map (·.2)) σ H Q)
    (hRR : ∀ D C s' m H', L2.Inv X pins σ H' s' → Q (.ref D) H' → s'.heap.Ns C m → FpOk X pins H' C → ∀ ce : Env, ce.locals = C → postX (model X.prog X.w) X.A X.xe use Qf (.ref D) ce (.ok .next) s') :
    wpAny (model X.prog X.w) X.A (comprehension (.ListComp elt [⟨tg, iter, ifs, 0⟩] scope pos) scope X.env pos' (newList []) false (eval iter X.env) use) Qf X.xe s := by
  have hfree : ∀ y ∈ scope.names, y.2 = .free → ∃ c, X.env.cells.lookup y.1 = some c := fun y hy e => by
    rcases ok.free y hy e with k | k
    · exact I.ok.has _ (.inl k)
    · exact I.ok.has _ (.inr k)
  refine comprehension_freeX (use := use) rfl hs (closure_ok hfree) ok.kind (fun y hy e => by rw [ok.uniq y hy, e])
    (thn (hi.run pins s σ H _ I h) fun xv s1 hx => thn hx fun itv s2 h2 => ?_)
  obtain ⟨it, fp, tn, J, H2, e, I2, T, st2, f2, q⟩ := h2
  subst e
  refine wpAny_newObj_type (newEnv_comp ?_) (by show 0 ≤ sizeLine; decide)
  generalize hD : s2.heap.objs.size = D
  have hDn : H2 D = none := I2.hok.fresh (Nat.le_of_eq hD)
  obtain ⟨Wm, ⟨m0, w0⟩, turn⟩ := q D hDn
  generalize hs3 : ({ s2 with heap := s2.heap.push { cls := .type "list", data := .seq ([] : List Value).toArray } } : Shared) = s3
  have I3 : L2.Inv X pins σ (upd H2 D (.lst [])) s3 := by
    rw [← hs3]
    refine I2.laid (t' := s2.toks) (fun b o e => Heap.get?_push_of_some _ e) (Nat.le_of_eq hD) ⟨Nat.zero_le _, [], 0, .nil, ?_⟩
    rw [← hD]
    exact Heap.get?_push_size _ rfl
  have h3 : s3.heap = s2.heap.push { cls := .type "list", data := .seq ([] : List Value).toArray } := by rw [← hs3]
  have sz : ∀ b ∈ fp, b < s2.heap.objs.size := fun b hb => by
    obtain ⟨o, e, _⟩ := T.obj _ _ st2 b hb
    exact Heap.lt_size e
  have f3 : ∀ b ∈ fp, FpOk X pins (upd H2 D (.lst [])) b ∧ b < s3.heap.objs.size := fun b hb => by
    have hlt := sz b hb
    refine ⟨⟨?_, (f2 b hb).2⟩, by rw [h3, Heap.size_push]; exact Nat.lt_succ_of_lt hlt⟩
    rw [upd_ne (by rw [← hD]; exact Nat.ne_of_lt hlt)]
    exact (f2 b hb).1
  have st3 : tn 0 s3.heap := T.keep _ _ _ st2 fun b _ o e => by rw [h3]; exact Heap.get?_push_of_some _ e
  have I4 := block_start I3 ok hN f3
  have pg := hg s3 (upd H2 D (.lst [])) s3.heap.objs.size (cellsFrom (s3.heap.objs.size + 1) scope.names (cloFrom X.env.cells scope.names [])) fp (WE W σ)
  have pt := ht s3 (upd H2 D (.lst [])) s3.heap.objs.size (cellsFrom (s3.heap.objs.size + 1) scope.names (cloFrom X.env.cells scope.names [])) fp (WE W σ)
  have pe := he s3 (upd H2 D (.lst [])) s3.heap.objs.size (cellsFrom (s3.heap.objs.size + 1) scope.names (cloFrom X.env.cells scope.names [])) fp (WE W σ)
  have er : ∀ u s', XE (X.blk s3 (upd H2 D (.lst [])) scope (PySem.compEnvC scope (cellsFrom (s3.heap.objs.size + 1) scope.names (cloFrom X.env.cells scope.names [])) s3.heap.objs.size X.env) fp) (fun c d _ H => W c d σ H) u s' →
      notedBy (model X.prog X.w) X.A (PySem.compEnvC scope (cellsFrom (s3.heap.objs.size + 1) scope.names (cloFrom X.env.cells scope.names [])) s3.heap.objs.size X.env)
        (fun e s' => postX (model X.prog X.w) X.A X.xe use Qf (.ref D) (PySem.compEnvC scope (cellsFrom (s3.heap.objs.size + 1) scope.names (cloFrom X.env.cells scope.names [])) s3.heap.objs.size X.env) (.error e) s') u s' :=
    fun u s' x => err_ok (s4 := s3) hstk hfm tk I3 f3 x
  show codeAny _ _ (.compStart (.ListComp elt [⟨tg, iter, ifs, 0⟩] scope pos) 0 (.ref it) (.ref D) (PySem.compEnvC scope (cellsFrom (s3.heap.objs.size + 1) scope.names (cloFrom X.env.cells scope.names [])) s3.heap.objs.size X.env))
    (postX (model X.prog X.w) X.A X.xe use Qf (.ref D) (PySem.compEnvC scope (cellsFrom (s3.heap.objs.size + 1) scope.names (cloFrom X.env.cells scope.names [])) s3.heap.objs.size X.env)) { s3 with heap := pushCells (s3.heap.push { cls := .type "dict", data := .dict #[] }) scope.names }
  have nfp : ∀ b ∈ fp, (upd H2 D (.lst [])) b = none := fun b hb => (f3 b hb).1.1
  generalize hce : PySem.compEnvC scope (cellsFrom (s3.heap.objs.size + 1) scope.names (cloFrom X.env.cells scope.names [])) s3.heap.objs.size X.env = ce at I4 pg pt pe er ⊢
  have cL : ce.locals = s3.heap.objs.size := by subst hce; rfl
  generalize hH3 : upd H2 D (.lst []) = H3 at I3 I4 pg pt pe er w0 nfp f3
  generalize hs4 : ({ s3 with heap := pushCells (s3.heap.push { cls := .type "dict", data := .dict #[] }) scope.names } : Shared) = s4 at I4 ⊢
  have st4 : tn 0 s4.heap := T.keep _ _ _ st3 fun b _ o e => by rw [← hs4]; exact pushCells_keeps _ _ _ _ (Heap.get?_push_of_some _ e)
  have stat : ∀ {σ' : L2.St} {H' : Hp} {s' : Shared}, L2.Inv (X.blk s3 H3 scope ce fp) [] σ' H' s' → (∀ b ∈ fp, H' b = none) → ∀ b ∈ fp, FpOk (X.blk s3 H3 scope ce fp) [] H' b := fun {σ' H' s'} I' hn b hb =>
    ⟨hn b hb, (I'.ok.exf b hb).1, I'.ok.exfs b hb, .inl hb, fun x c e => (I'.ok.exf b hb).2 x c e, fun p hp => absurd (show p ∈ ([] : List (Addr × Obj)) ++ [] from hp) (by simp)⟩
  have loop : codeAny (model X.prog X.w) X.A (.compLoop (.ListComp elt [⟨tg, iter, ifs, 0⟩] scope pos) 0 (.ref it) (.ref D) ce) (postX (model X.prog X.w) X.A X.xe use Qf (.ref D) ce) s4 := by
    refine compLoop_any (fun n s' => ∃ i H', L2.Inv (X.blk s3 H3 scope ce fp) [] (L2.wipe σ (own.map (·.2))) H' s' ∧ tn i s'.heap ∧ (∀ b ∈ fp, H' b = none) ∧ Wm i n H') ?_ m0 ⟨0, H3, I4, st4, nfp, w0⟩
    rintro n s5 ⟨i, H5, I5, st5, n5, w5⟩
    rcases turn i n H5 w5 with ⟨stop, qq⟩ | ⟨go, Nx, hNx, step⟩
    · have td := T.done (X.blk s3 H3 scope ce fp) rfl rfl rfl hc i [] s5 _ H5 (fun _ _ => False) I5 (stat I5 n5) st5 stop
      refine thnF td fun r s6 ⟨hr, I6⟩ => ?_
      subst hr
      have I7 : L2.Inv X pins σ H5 s6 := I3.call' (ch := fp) I6.os I6.base I6.hok I6.bare fun b hb => ⟨(f3 b hb).1.2.2.2.1, (f3 b hb).1.2.1, (f3 b hb).1.2.2.2.2.1, (f3 b hb).1.2.2.2.2.2⟩
      have nC : H5 s3.heap.objs.size = none := by
        have z : H5 ce.locals = none := I6.free
        rw [cL] at z
        exact z
      obtain ⟨m, hn, _⟩ := I6.loc
      have hn : s6.heap.Ns ce.locals m := hn
      rw [cL] at hn
      exact hRR D s3.heap.objs.size s6 m H5 I7 qq hn (I3.fpOk (Nat.le_refl _) nC) ce cL
    · have ti := T.item (X.blk s3 H3 scope ce fp) rfl rfl rfl hc i [] s5 _ H5 (fun _ _ => False) I5 (stat I5 n5) st5 go
      refine thnF ti fun r s6 ⟨u, hr, h6⟩ => ?_
      subst hr
      refine thnF h6 fun _ s7 ⟨x, H7, I7, r7, y7, st7, n7⟩ => ?_
      have I7' := I7.pinned (stat I7 n7) (T.obj _ _ st7)
      refine wpAny_mono (pg.run _ s7 _ H7 x u _ (I7'.wish _) r7 (step x H7 y7)) (fun _ s8 ⟨σ8, H8, I8, hw8, q8⟩ => ?_) er
      refine wpAny_mono (pt.run _ s8 σ8 H8 _ I8 q8) (fun b s9 ⟨H9, I9, q9⟩ => ?_) er
      have fin : ∀ {s' : Shared} {H' : Hp}, L2.Inv (X.blk s3 H3 scope ce fp) ([] ++ pinsAt fp s7.heap) σ8 H' s' → Nx H' → ∃ m, m < n ∧ ∃ i H', L2.Inv (X.blk s3 H3 scope ce fp) [] (L2.wipe σ (own.map (·.2))) H' s' ∧ tn i s'.heap ∧ (∀ b ∈ fp, H' b = none) ∧ Wm i m H' := fun {s' H'} I' nx => by
        obtain ⟨m', hm, w'⟩ := hNx H' nx
        have pin' : ∀ b ∈ fp, ∀ o, s7.heap.get? b = some o → s'.heap.get? b = some o ∧ H' b = none := fun b hb o e =>
          let z := I'.pin (b, o) (List.mem_append_right _ (List.mem_append_right _ (mem_pinsAt hb e)))
          ⟨z.1, z.2.1⟩
        have hl : (L2.wipe σ (own.map (·.2))).length = σ8.length := by rw [← hw8, wipe_length]
        refine ⟨m', hm, i + 1, H', (I'.unpinned (pins := [])).weak hl (fun j v e => ?_), T.keep _ _ _ st7 fun b hb o e => (pin' b hb o e).1, fun b hb => ?_, w'⟩
        · rw [← hw8] at e
          exact (wipe_some e).1
        · obtain ⟨o, e, _⟩ := T.obj _ _ st7 b hb
          exact (pin' b hb o e).2
      cases b with
      | false =>
        simp only [Bool.false_eq_true, if_false] at q9 ⊢
        exact fin I9.unwish q9
      | true =>
        simp only [if_true] at q9 ⊢
        refine wpAny_mono (pe.run _ s9 σ8 H9 _ I9 q9) (fun z s10 ⟨yv, H10, I10, r10, acc, hD10, hz10, nx⟩ => ?_) er
        exact app_ok (X := X.blk s3 H3 scope ce fp) I10.unwish hD10 hz10 r10 fun s11 I11 => fin I11 nx
  exact codeAny_compStart_list loop (T.self X.A 0 _ _ _ st4 loop)
def tLcX (wi : TI) (g : TG) (tt : TT) (te : XK → TE) (W : WX) (vs : List Nat) : TE := fun σ H Q => tLc wi g tt (te (WE W σ)) vs σ H Q
theorem pe_lcX {elt tg iter : Expr} {ifs : List Expr} {scope : Scope} {own : List (Str × Nat)} {pos : Pos} {wi : TI} {g : TG} {tt : TT} {te : XK → TE} (hstk : X.stack = X.env :: X.outer) (hfm : X.env.frame = some X.env.locals) (tk : Takes X W) (hc : X.calm = true) (hN : X.N.Nodup) (hi : PI X tg iter wi) (ok : BlkOk X.N X.env.scope scope own)
    (hg : ∀ (s : Shared) (H : Hp) (C : Addr) (cl : List (Str × Addr)) (fp : List Addr) (Wb : XK), PG (blkX X s H scope (PySem.compEnvC scope cl C X.env) fp Wb) tg g) (ht : ∀ (s : Shared) (H : Hp) (C : Addr) (cl : List (Str × Addr)) (fp : List Addr) (Wb : XK), PTs (blkX X s H scope (PySem.compEnvC scope cl C X.env) fp Wb) ifs tt)
    (he : ∀ (s : Shared) (H : Hp) (C : Addr) (cl : List (Str × Addr)) (fp : List Addr) (Wb : XK), PE (blkX X s H scope (PySem.compEnvC scope cl C X.env) fp Wb) elt (te Wb)) (hs : ∀ x, foldedSetIterable iter X.env x = pure x) :
    PE X (.ListComp elt [⟨tg, iter, ifs, 0⟩] scope pos) (tLcX wi g tt te W (own.map (·.2))) := by
  refine ⟨fun pins s σ H Q I h => ?_⟩
  rw [eval_ListComp]
  refine lc_coreX hstk hfm tk hc hN I hi ok hg ht he hs h fun D C s' m H' I' q hn f ce hce => ⟨m, by rw [hce]; exact hn, fun h'' sb => ?_⟩
  rw [hce] at sb
  obtain ⟨f0, f1, f2, f3, f4, f5⟩ := f
  exact ⟨.ref D, H', I'.turned (t' := s'.toks) (fun b o hb e => (sb.2 b hb).trans e) f0 f1 f3 f4 f5, rfl, q⟩
theorem ps_setLcX {i : Nat} {y : Str} {py : Pos} {elt tg iter : Expr} {ifs : List Expr} {scope : Scope} {own : List (Str × Nat)} {pos spos : Pos} {wi : TI} {g : TG} {tt : TT} {te : XK → TE} (hstk : X.stack = X.env :: X.outer) (hfm : X.env.frame = some X.env.locals) (tk : Takes X W) (hc : X.calm = true) (hN : X.N.Nodup) (hy : X.N[i]? = some y) (hyl : X.env.scope.names.lookup y = some .local)
    (hsw : swapsWith (.ListComp elt [⟨tg, iter, ifs, 0⟩] scope pos) (some (.Name y py)) spos.line X.env = pure true) (hi : PI X tg iter wi) (ok : BlkOk X.N X.env.scope scope own)
    (hg : ∀ (s : Shared) (H : Hp) (C : Addr) (cl : List (Str × Addr)) (fp : List Addr) (Wb : XK), PG (blkX X s H scope (PySem.compEnvC scope cl C X.env) fp Wb) tg g) (ht : ∀ (s : Shared) (H : Hp) (C : Addr) (cl : List (Str × Addr)) (fp : List Addr) (Wb : XK), PTs (blkX X s H scope (PySem.compEnvC scope cl C X.env) fp Wb) ifs tt)
    (he : ∀ (s : Shared) (H : Hp) (C : Addr) (cl : List (Str × Addr)) (fp : List Addr) (Wb : XK), PE (blkX X s H scope (PySem.compEnvC scope cl C X.env) fp Wb) elt (te Wb)) (hs : ∀ x, foldedSetIterable iter X.env x = pure x) :
    PS X (.Assign [.Name y py] (.ListComp elt [⟨tg, iter, ifs, 0⟩] scope pos) spos) (tAsg (tLcX wi g tt te W (own.map (·.2))) (L2.gName i)) := by
  refine ⟨fun pins s σ H D I h => ?_⟩
  rw [exec_Assign_Name_used _ _ _ _ hsw]
  refine wpAny_bind (wpAny_standAt (wpAny_bind ?_))
  show wpAny _ X.A (do let _ ← comprehension (.ListComp elt [⟨tg, iter, ifs, 0⟩] scope pos) scope X.env (firstIterPos [⟨tg, iter, ifs, 0⟩] pos) (newList []) false (eval iter X.env) (some (assign (.Name y py) X.env))) _ _ s
  have h : tLc wi g tt (te (WE W σ)) (own.map (·.2)) σ H (fun x H1 => L2.gName i x σ H1 D.nx) := h
  refine wpAny_bind (thn (lc_coreX (Qf := fun _ s' => SP X pins D .next s') hstk hfm tk hc hN I hi ok hg ht he hs h fun L C s' m H' I' q hn f ce hce => ?_) fun _ s' hq => wpAny_pure (wpAny_pure hq))
  show wpAny _ _ (assign (.Name y py) X.env (.ref L)) _ _ _
  refine wpAny_assign_Name (store_ok2 (v := V.ref L) I' hN hy (.inl hyl) rfl (fun s2 I2 ⟨a, sb, ha⟩ => ?_) (.inr hyl))
  obtain ⟨f0, f1, f2, f3, f4, f5⟩ := f
  have haC : C ≠ a := by
    rcases ha with z | z
    · rw [z]; exact f1
    · exact fun e => f4 y a z e.symm
  refine ⟨m, by rw [hce]; exact hn.sameBut sb haC, fun h3 sb3 => ?_⟩
  rw [hce] at sb3
  exact ⟨_, H', I2.turned (t' := s2.toks) (fun b o hb e => (sb3.2 b hb).trans e) f0 f1 f3 f4 f5, q⟩
end
/-! ### the plain function -/
def compLX (ok : AH → Bool) (g : GM) (t : TM) (fe : EM) (slw : SL) : List AV → List AV → AH → Res (List AV)
  | [], acc, h => if ok h then .ok acc h else .stuck
  | y :: r, acc, h => if ok h then match g y slw h with
    | none => .stuck
    | some (sl2, h1) => (t sl2 h1).nx.bind fun b h2 => if b then (fe sl2 h2).bind fun z h3 => compLX ok g t fe slw r (acc ++ [z]) h3 else compLX ok g t fe slw r acc h2
    else .stuck
def eCompX (nm : Bool) (it : IM) (g : GM) (t : TM) (fe : EM) (vs : List Nat) : EM := fun sl h => (it sl h).bind fun p h1 =>
  if lineOk p.1 then (compLX p.2 g t fe (wipeA sl vs) p.1 [] h1).bind fun acc h2 => mkL nm acc h2 else .stuck
section
variable {X : Cx} {W : WX} {it : IM} {gm : GM} {ft : TM} {fe : EM} {elt tg iter : Expr} {ifs : List Expr} {scope : Scope} {own : List (Str × Nat)} {pos : Pos}
theorem compLX_nil {ok : AH → Bool} {slw : SL} {acc : List AV} {h : AH} : compLX ok gm ft fe slw [] acc h = if ok h then .ok acc h else .stuck := rfl
theorem compLX_cons {ok : AH → Bool} {slw : SL} {acc r : List AV} {y : AV} {h : AH} : compLX ok gm ft fe slw (y :: r) acc h = if ok h then match gm y slw h with
    | none => .stuck
    | some (sl2, h1) => (ft sl2 h1).nx.bind fun b h2 => if b then (fe sl2 h2).bind fun z h3 => compLX ok gm ft fe slw r (acc ++ [z]) h3 else compLX ok gm ft fe slw r acc h2
    else .stuck := rfl
theorem comp_inX {g : TG} {nm : Bool} {σ : L2.St} {H : Hp} {Q : VK} (hg : GOk X g gm (own.map (·.2))) (o : lE X W (eCompX nm it gm ft fe (own.map (·.2))) σ H Q) :
    tLcX (lI X W it) g (lT X W0 ft) (fun Wb => lE X (fun c d _ H => Wb c d H) fe) W (own.map (·.2)) σ H Q := by
  unfold tLcX
  generalize own.map (·.2) = vs at *
  obtain ⟨ρ0, F0, sl, h0, rs0, rh0, o⟩ := o
  refine ⟨ρ0, F0, sl, h0, rs0, rh0, Out.bind (R := RI X) o fun p h1 ρ F H1 J ex rh wk o1 => ?_⟩
  obtain ⟨l, ok⟩ := p
  split at o1
  case isFalse => exact o1.elim
  rename_i hline
  have hll : l.length ≤ sizeLine := of_decide_eq_true hline
  generalize hr0 : compLX ok gm ft fe (wipeA sl vs) l [] h1 = r0 at o1
  intro D hD
  have hDρ : D ∉ ρ := rh.notin hD
  have hDF : F D = none := rh.Fnone hD
  have rsw : RSl X.K X.mg ρ F (wipeA sl vs) (L2.wipe σ vs) := (rs0.ext ex).wipe vs
  refine ⟨fun i m H' => m = l.length - i ∧ i ≤ l.length ∧ ∃ ρ' F' h' acc accV, Ext ρ F H1 ρ' F' H' ∧ RH X.K X.mg ρ' F' h' H' ∧ D ∉ ρ' ∧ F' D = none ∧ H' D = some (.lst accV) ∧ RVs X.K X.mg ρ' F' acc accV ∧ acc.length ≤ i ∧
      compLX ok gm ft fe (wipeA sl vs) (l.drop i) acc h' = r0,
    ⟨l.length, by simp, Nat.zero_le _, ρ, F, h1, [], [], ext_off (Ext.refl _ _ _) hD, rh_off rh hDρ hDF (soft_none hD), hDρ, hDF, upd_same, .nil, Nat.le_refl _, by rw [List.drop_zero]; exact hr0⟩, ?_⟩
  rintro i m H2 ⟨rfl, hi, ρ1, F1, h2, acc, accV, e1, rh1, d1, d2, d3, racc, hacc, eq⟩
  by_cases hlt : i < l.length
  · rw [List.drop_eq_getElem_cons hlt] at eq
    have n1 : r0 ≠ .stuck := fun z => by rw [z] at o1; exact o1
    rw [compLX_cons] at eq
    split at eq
    case isFalse => exact absurd eq.symm n1
    rename_i hok
    obtain ⟨hgo, hy⟩ := wk.go ρ1 F1 h2 H2 i l[i] e1.pre e1.fz rh1 hok (by simp [hlt])
    cases q : gm l[i] (wipeA sl vs) h2 with
    | none => rw [q] at eq; exact absurd eq.symm n1
    | some pp =>
      obtain ⟨sl3, h3⟩ := pp
      rw [q] at eq
      refine .inr ⟨hgo, fun H' => i + 1 ≤ l.length ∧ ∃ ρ' F' h' acc accV, Ext ρ F H1 ρ' F' H' ∧ RH X.K X.mg ρ' F' h' H' ∧ D ∉ ρ' ∧ F' D = none ∧ H' D = some (.lst accV) ∧ RVs X.K X.mg ρ' F' acc accV ∧ acc.length ≤ i + 1 ∧
        compLX ok gm ft fe (wipeA sl vs) (l.drop (i + 1)) acc h' = r0, fun H' hN => ⟨l.length - (i + 1), by omega, rfl, hN⟩, fun v H'' yl => ?_⟩
      obtain ⟨ρ2, F2, e2, rh2, rv2⟩ := hy v H'' yl
      obtain ⟨d1', d2', d3'⟩ := e2.off d1 d2 d3 fun ps => by simp
      refine hg.run ρ2 F2 h2 H'' l[i] v (wipeA sl vs) (L2.wipe σ vs) sl3 h3 _ rv2 ((rsw.ext e1).ext e2) rh2 q fun eh σ2 rs2 hw => ⟨?_, ?_⟩
      · exact hw.trans (wipe_wipe vs)
      · subst eh
        refine ⟨ρ2, F2, sl3, h3, rs2, rh2, ?_⟩
        cases q2 : ft sl3 h3 with
        | exc _ _ _ _ => simp only [q2, Res.nx, Res.bind] at eq; exact absurd eq.symm n1
        | stuck => simp only [q2, Res.nx, Res.bind] at eq; exact absurd eq.symm n1
        | ok b h4 =>
          simp only [q2, Res.nx, Res.bind] at eq
          intro ρ3 F3 H3 b' e3 rh3 eb
          cases eb
          obtain ⟨d1'', d2'', d3''⟩ := e3.off d1' d2' d3' fun ps => by simp
          cases b with
          | false =>
            refine iteF ⟨hlt, ρ3, F3, h4, acc, accV, e1.trans (e2.trans e3), rh3, d1'', d2'', d3'', (racc.ext e2).ext e3, by omega, by simpa using eq⟩
          | true =>
            refine iteT ⟨ρ3, F3, sl3, h4, rs2.ext e3, rh3, ?_⟩
            simp only [if_true] at eq
            cases q3 : fe sl3 h4 with
            | exc c' ks' l' h5 =>
              simp only [q3, Res.bind] at eq
              intro ρ4 F4 H4 C' d' e4 rh4 em rx
              rw [← eq] at o1
              exact o1 ρ4 F4 H4 C' d' (e1.trans (e2.trans (e3.trans e4))) rh4 em rx
            | stuck => simp only [q3, Res.bind] at eq; exact absurd eq.symm n1
            | ok z h5 =>
              simp only [q3, Res.bind] at eq
              intro ρ4 F4 H4 y e4 rh4 ry
              obtain ⟨g1, g2, g3⟩ := e4.off d1'' d2'' d3'' fun ps => by simp
              have racc4 := ((racc.ext e2).ext e3).ext e4
              refine ⟨accV, g3, by rw [← racc.length]; omega, hlt, ρ4, F4, h5, acc ++ [z], accV ++ [y], ext_off (e1.trans (e2.trans (e3.trans e4))) hD, rh_off rh4 g1 g2 (soft_lst g3), g1, g2, upd_same, racc4.append (.cons ry .nil), by simp; omega, eq⟩
  · have e : i = l.length := by omega
    subst e
    rw [List.drop_length] at eq
    rw [compLX_nil] at eq
    split at eq
    · rename_i hok
      refine .inl ⟨wk.stop ρ1 F1 h2 H2 e1.pre e1.fz rh1 hok, ?_⟩
      rw [← eq] at o1
      exact out_mkL_at (show Out X.K X.mg (RV X.K X.mg) ρ F H1 (mkL nm acc h2) Q _ from o1) e1 rh1 racc d1 d2 d3 hD
    · rw [← eq] at o1; exact o1.elim
theorem rCompX {g : TG} {nm : Bool} (tk : Takes X W) (hN : X.N.Nodup) (hi : PI X tg iter (lI X W it)) (ok : BlkOk X.N X.env.scope scope own) (hgo : GOk X g gm (own.map (·.2)))
    (hg : ∀ (s : Shared) (H : Hp) (C : Addr) (cl : List (Str × Addr)) (fp : List Addr) (Wb : XK), PG (blkX X s H scope (PySem.compEnvC scope cl C X.env) fp Wb) tg g)
    (ht : ∀ (s : Shared) (H : Hp) (C : Addr) (cl : List (Str × Addr)) (fp : List Addr) (Wb : XK), PTs (blkX X s H scope (PySem.compEnvC scope cl C X.env) fp Wb) ifs (lT (blkX X s H scope (PySem.compEnvC scope cl C X.env) fp Wb) W0 ft))
    (he : ∀ (s : Shared) (H : Hp) (C : Addr) (cl : List (Str × Addr)) (fp : List Addr) (Wb : XK), PE (blkX X s H scope (PySem.compEnvC scope cl C X.env) fp Wb) elt (lE (blkX X s H scope (PySem.compEnvC scope cl C X.env) fp Wb) (fun c d _ H => Wb c d H) fe))
    (hstk : X.stack = X.env :: X.outer := by rfl) (hfm : X.env.frame = some X.env.locals := by rfl) (hc : X.calm = true := by rfl) (hs : ∀ x, foldedSetIterable iter X.env x = pure x := by intro _; rfl) : PE X (.ListComp elt [⟨tg, iter, ifs, 0⟩] scope pos) (lE X W (eCompX nm it gm ft fe (own.map (·.2)))) :=
  pe_imp (pe_lcX (tt := lT X W0 ft) (te := fun Wb => lE X (fun c d _ H => Wb c d H) fe) hstk hfm tk hc hN hi ok hg (fun s H C cl fp Wb => ht s H C cl fp Wb) (fun s H C cl fp Wb => he s H C cl fp Wb) hs) fun σ H Q o => comp_inX hgo o
theorem rsSetCompX {g : TG} {nm : Bool} {i : Nat} {y : Str} {py spos : Pos} (tk : Takes X W) (hN : X.N.Nodup) (hi : PI X tg iter (lI X W it)) (ok : BlkOk X.N X.env.scope scope own) (hgo : GOk X g gm (own.map (·.2)))
    (hg : ∀ (s : Shared) (H : Hp) (C : Addr) (cl : List (Str × Addr)) (fp : List Addr) (Wb : XK), PG (blkX X s H scope (PySem.compEnvC scope cl C X.env) fp Wb) tg g)
    (ht : ∀ (s : Shared) (H : Hp) (C : Addr) (cl : List (Str × Addr)) (fp : List Addr) (Wb : XK), PTs (blkX X s H scope (PySem.compEnvC scope cl C X.env) fp Wb) ifs (lT (blkX X s H scope (PySem.compEnvC scope cl C X.env) fp Wb) W0 ft))
    (he : ∀ (s : Shared) (H : Hp) (C : Addr) (cl : List (Str × Addr)) (fp : List Addr) (Wb : XK), PE (blkX X s H scope (PySem.compEnvC scope cl C X.env) fp Wb) elt (lE (blkX X s H scope (PySem.compEnvC scope cl C X.env) fp Wb) (fun c d _ H => Wb c d H) fe))
    (hstk : X.stack = X.env :: X.outer := by rfl) (hfm : X.env.frame = some X.env.locals := by rfl) (hc : X.calm = true := by rfl) (hy : X.N[i]? = some y := by rfl) (hyl : X.env.scope.names.lookup y = some .local := by rfl)
    (hsw : swapsWith (.ListComp elt [⟨tg, iter, ifs, 0⟩] scope pos) (some (.Name y py)) spos.line X.env = pure true := by exact sw_true rfl rfl rfl (by decide +kernel)) (hs : ∀ x, foldedSetIterable iter X.env x = pure x := by intro _; rfl) :
    PS X (.Assign [.Name y py] (.ListComp elt [⟨tg, iter, ifs, 0⟩] scope pos) spos) (lS X W (sAsg (eCompX nm it gm ft fe (own.map (·.2))) (AVL.gName i))) := by
  refine ps_imp (ps_setLcX (tt := lT X W0 ft) (te := fun Wb => lE X (fun c d _ H => Wb c d H) fe) (W := W) hstk hfm tk hc hN hy hyl hsw hi ok hg (fun s H C cl fp Wb => ht s H C cl fp Wb) (fun s H C cl fp Wb => he s H C cl fp Wb) hs) fun D σ H ⟨ρ, F, sl, h, rs, rh, o⟩ => ?_
  refine comp_inX hgo ⟨ρ, F, sl, h, rs, rh, Out.bindS (R := RV X.K X.mg) o rs fun x h1 ρ1 F1 H1 v ex rh1 rv o1 => ?_⟩
  exact o1 ρ1 F1 H1 _ (Ext.refl _ _ _) rh1 ((rs.ext ex).set i rv)
end
end AVL

namespace Law
open PySem PySem.Spec L2 AVL
/-! ### the plain laws' common ground: the pen, small numbers, statements -/
def pen (C : AH) (c : List Int) (a g : Int) : AH := .lst [.lst (c.map .int), .int a, .int g] :: C
structure CellsOk (c : List Int) : Prop where
  len : c.length ≤ 63
  bits : ∀ z ∈ c, z.natAbs < 2 ^ 1048576
theorem mulOk_of {i j : Int} {a b : Nat} (ha : i.natAbs < 2 ^ a) (hb : j.natAbs < 2 ^ b) (h : a + b ≤ 134217728) : mulOk i j = true := decide_eq_true (mulx_ok ha hb h)
theorem powOk_of {i : Int} {n a : Nat} (ha : i.natAbs < 2 ^ a) (h : a * n ≤ 2 ^ 27) : powOk i n = true := by
  have x := PyProof.Rows.intBits_le ha
  unfold powOk
  simp only [Bool.and_eq_true, decide_eq_true_eq]
  refine ⟨by omega, ?_⟩
  have : Builtin.Int.intBits i * n ≤ a * n := Nat.mul_le_mul_right n x
  have z : Builtin.Int.intBits i * n ≤ 2 ^ 27 := Nat.le_trans this h
  exact_mod_cast z
theorem fmod_eq {i j : Int} (h : 0 < j) : i.fmod j = i % j := Int.fmod_eq_emod_of_nonneg i (by omega)
theorem fdiv_eq {i j : Int} (h : 0 < j) : i.fdiv j = i / j := Int.fdiv_eq_ediv_of_nonneg i (by omega)
theorem pd_ints {h : AH} {n : Nat} : ∀ c : List Int, (c.map AV.int).mapM (pd (n + 1) h) = some (c.map PyData.int)
  | [] => rfl
  | x :: r => by
    rw [List.map_cons, List.mapM_cons, pd_ints r]; rfl
theorem ne_nil {h : AH} {c : List Int} : mEq true (.lst (c.map .int)) (.lst []) h = .ok (.bl (!c.isEmpty)) h := by
  have e1 : pd 60 h (.lst (c.map .int)) = some (.list (c.map PyData.int)) := by
    show ((c.map AV.int).mapM (pd 59 h)).map PyData.list = _
    rw [pd_ints]; rfl
  unfold mEq
  rw [e1]
  cases c <;> rfl
theorem ix_ints {h : AH} {c : List Int} {i : Int} (h0 : 0 ≤ i) (h1 : i < c.length) : ∃ z ∈ c, mIx (.lst (c.map .int)) (.int i) h = .ok (.int z) h := by
  obtain ⟨k, rfl⟩ := Int.eq_ofNat_of_zero_le h0
  have hk : k < c.length := by omega
  refine ⟨c[k], List.getElem_mem hk, ?_⟩
  have e : L2.atI (c.map AV.int) (k : Int) = some (.int c[k]) := by
    unfold L2.atI L2.ixN
    simp [AVL.sNext, AVL.sSeq, AVL.sRet, AVL.sRetN, AVL.sExpr, AVL.sIf, AVL.sBrk, AVL.sCont, AVL.sOpt, AVL.sAsg, AVL.gName, AVL.gsNil, AVL.gsCons, AVL.gTup, AVL.setAll, AVL.sPar, AVL.SRes.seq, AVL.Res.toS, AVL.Res.bind, AVL.eVar, AVL.eC, AVL.eBin, AVL.eUn, AVL.tV, AVL.tAnd, AVL.tOr, AVL.tNot, AVL.eAnd, AVL.eOr, AVL.eNot, AVL.eIf, AVL.aNil, AVL.aCons, AVL.eBlt, hk]
  show (match L2.atI (c.map AV.int) (k : Int) with | some y => Res.ok y h | none => .stuck) = _
  rw [e]
theorem add_int {nm : Bool} {i j : Int} {h : AH} : mAdd nm (.int i) (.int j) h = .ok (.int (i + j)) h := rfl
theorem len_lst {l : List AV} {h : AH} : mLen [.lst l] h = .ok (.int (l.length : Nat)) h := rfl
theorem abs_int {i : Int} {h : AH} : mAbs [.int i] h = .ok (.int (if i < 0 then -i else i)) h := rfl
theorem mul_int' {nm : Bool} {i j : Int} {h : AH} (e : mulOk i j = true) : mMul nm (.int i) (.int j) h = .ok (.int (i * j)) h := by
  show (if mulOk i j = true then _ else _) = _
  rw [if_pos e]
theorem pow_int' {i : Int} {n : Nat} {h : AH} (e : powOk i n = true) : mPow (.int i) (.int n) h = .ok (.int (i ^ n)) h := by
  show (if powOk i n = true then _ else _) = _
  rw [if_pos e]; simp [AVL.sNext, AVL.sSeq, AVL.sRet, AVL.sRetN, AVL.sExpr, AVL.sIf, AVL.sBrk, AVL.sCont, AVL.sOpt, AVL.sAsg, AVL.gName, AVL.gsNil, AVL.gsCons, AVL.gTup, AVL.setAll, AVL.sPar, AVL.SRes.seq, AVL.Res.toS, AVL.Res.bind, AVL.eVar, AVL.eC, AVL.eBin, AVL.eUn, AVL.tV, AVL.tAnd, AVL.tOr, AVL.tNot, AVL.eAnd, AVL.eOr, AVL.eNot, AVL.eIf, AVL.aNil, AVL.aCons, AVL.eBlt]
theorem div_int' {i j : Int} {h : AH} (e : 0 < j) (l : j.natAbs.log2 < 9000) : mDiv (.int i) (.int j) h = .ok (.int (i / j)) h := by
  have z : divOk i j = true := by unfold divOk; simp [AVL.sNext, AVL.sSeq, AVL.sRet, AVL.sRetN, AVL.sExpr, AVL.sIf, AVL.sBrk, AVL.sCont, AVL.sOpt, AVL.sAsg, AVL.gName, AVL.gsNil, AVL.gsCons, AVL.gTup, AVL.setAll, AVL.sPar, AVL.SRes.seq, AVL.Res.toS, AVL.Res.bind, AVL.eVar, AVL.eC, AVL.eBin, AVL.eUn, AVL.tV, AVL.tAnd, AVL.tOr, AVL.tNot, AVL.eAnd, AVL.eOr, AVL.eNot, AVL.eIf, AVL.aNil, AVL.aCons, AVL.eBlt, l]; omega
  show (if divOk i j = true then _ else _) = _
  rw [if_pos z]
  show Res.ok (AV.int (i.fdiv j)) h = _
  rw [fdiv_eq e]
theorem mod_int' {i j : Int} {h : AH} (e : 0 < j) : mMod (.int i) (.int j) h = .ok (.int (i % j)) h := by
  show (if decide (j ≠ 0) = true then _ else _) = _
  rw [if_pos (by simp [AVL.sNext, AVL.sSeq, AVL.sRet, AVL.sRetN, AVL.sExpr, AVL.sIf, AVL.sBrk, AVL.sCont, AVL.sOpt, AVL.sAsg, AVL.gName, AVL.gsNil, AVL.gsCons, AVL.gTup, AVL.setAll, AVL.sPar, AVL.SRes.seq, AVL.Res.toS, AVL.Res.bind, AVL.eVar, AVL.eC, AVL.eBin, AVL.eUn, AVL.tV, AVL.tAnd, AVL.tOr, AVL.tNot, AVL.eAnd, AVL.eOr, AVL.eNot, AVL.eIf, AVL.aNil, AVL.aCons, AVL.eBlt]; omega)]
  show Res.ok (AV.int (i.fmod j)) h = _
  rw [fmod_eq e]
section
variable {i j : Int} {h : AH} {b : Bool}
theorem lt_int : mLt (.int i) (.int j) h = .ok (.bl (decide (i < j))) h := rfl
theorem le_int : mLe (.int i) (.int j) h = .ok (.bl (decide (i ≤ j))) h := rfl
theorem gt_int : mGt (.int i) (.int j) h = .ok (.bl (decide (j < i))) h := rfl
theorem ge_int : mGe (.int i) (.int j) h = .ok (.bl (decide (j ≤ i))) h := rfl
theorem sub_int : mSub (.int i) (.int j) h = .ok (.int (i - j)) h := rfl
theorem neg_int : mNeg (.int i) h = .ok (.int (-i)) h := rfl
theorem int_int : mInt [.int i] h = .ok (.int i) h := rfl
theorem int_bl : mInt [.bl b] h = .ok (.int (if b then 1 else 0)) h := rfl
theorem eq_int : mEq false (.int i) (.int j) h = .ok (.bl (decide (i = j))) h := by
  show Res.ok (AV.bl (PyData.eqv (.int i) (.int j) != false)) h = _
  have : PyData.eqv (.int i) (.int j) = decide (i = j) := by by_cases q : i = j <;> simp [AVL.sNext, AVL.sSeq, AVL.sRet, AVL.sRetN, AVL.sExpr, AVL.sIf, AVL.sBrk, AVL.sCont, AVL.sOpt, AVL.sAsg, AVL.gName, AVL.gsNil, AVL.gsCons, AVL.gTup, AVL.setAll, AVL.sPar, AVL.SRes.seq, AVL.Res.toS, AVL.Res.bind, AVL.eVar, AVL.eC, AVL.eBin, AVL.eUn, AVL.tV, AVL.tAnd, AVL.tOr, AVL.tNot, AVL.eAnd, AVL.eOr, AVL.eNot, AVL.eIf, AVL.aNil, AVL.aCons, AVL.eBlt, PyData.eqv, q]
  rw [this]; simp [AVL.sNext, AVL.sSeq, AVL.sRet, AVL.sRetN, AVL.sExpr, AVL.sIf, AVL.sBrk, AVL.sCont, AVL.sOpt, AVL.sAsg, AVL.gName, AVL.gsNil, AVL.gsCons, AVL.gTup, AVL.setAll, AVL.sPar, AVL.SRes.seq, AVL.Res.toS, AVL.Res.bind, AVL.eVar, AVL.eC, AVL.eBin, AVL.eUn, AVL.tV, AVL.tAnd, AVL.tOr, AVL.tNot, AVL.eAnd, AVL.eOr, AVL.eNot, AVL.eIf, AVL.aNil, AVL.aCons, AVL.eBlt]
theorem ne_int : mEq true (.int i) (.int j) h = .ok (.bl (!decide (i = j))) h := by
  show Res.ok (AV.bl (PyData.eqv (.int i) (.int j) != true)) h = _
  have : PyData.eqv (.int i) (.int j) = decide (i = j) := by by_cases q : i = j <;> simp [AVL.sNext, AVL.sSeq, AVL.sRet, AVL.sRetN, AVL.sExpr, AVL.sIf, AVL.sBrk, AVL.sCont, AVL.sOpt, AVL.sAsg, AVL.gName, AVL.gsNil, AVL.gsCons, AVL.gTup, AVL.setAll, AVL.sPar, AVL.SRes.seq, AVL.Res.toS, AVL.Res.bind, AVL.eVar, AVL.eC, AVL.eBin, AVL.eUn, AVL.tV, AVL.tAnd, AVL.tOr, AVL.tNot, AVL.eAnd, AVL.eOr, AVL.eNot, AVL.eIf, AVL.aNil, AVL.aCons, AVL.eBlt, PyData.eqv, q]
  rw [this]; simp [AVL.sNext, AVL.sSeq, AVL.sRet, AVL.sRetN, AVL.sExpr, AVL.sIf, AVL.sBrk, AVL.sCont, AVL.sOpt, AVL.sAsg, AVL.gName, AVL.gsNil, AVL.gsCons, AVL.gTup, AVL.setAll, AVL.sPar, AVL.SRes.seq, AVL.Res.toS, AVL.Res.bind, AVL.eVar, AVL.eC, AVL.eBin, AVL.eUn, AVL.tV, AVL.tAnd, AVL.tOr, AVL.tNot, AVL.eAnd, AVL.eOr, AVL.eNot, AVL.eIf, AVL.aNil, AVL.aCons, AVL.eBlt]
end
section
variable {i : Int} {h : AH}
theorem pow3 (e : powOk i 3 = true) : mPow (.int i) (.int 3) h = .ok (.int (i ^ 3)) h := by
  show (if powOk i 3 = true then _ else _) = _
  rw [if_pos e]; rfl
theorem pow5 (e : powOk i 5 = true) : mPow (.int i) (.int 5) h = .ok (.int (i ^ 5)) h := by
  show (if powOk i 5 = true then _ else _) = _
  rw [if_pos e]; rfl
theorem mod_a : mMod (.int i) (.int 2147483563) h = .ok (.int (i % 2147483563)) h := mod_int' (by decide)
theorem mod_b : mMod (.int i) (.int 2147483629) h = .ok (.int (i % 2147483629)) h := mod_int' (by decide)
theorem mod_c : mMod (.int i) (.int 2147483587) h = .ok (.int (i % 2147483587)) h := mod_int' (by decide)
theorem div_16 : mDiv (.int i) (.int 16) h = .ok (.int (i / 16)) h := div_int' (by decide) (by decide)
end
theorem ten18 {h : AH} : mPow (.int 10) (.int 18) h = .ok (.int 1000000000000000000) h := by rfl
section
variable {C : AH} {c : List Int} {a g y : Int}
theorem pen0 : mIx (.ref 0) (.int 0) (pen C c a g) = .ok (.lst (c.map .int)) (pen C c a g) := rfl
theorem pen1 : mIx (.ref 0) (.int 1) (pen C c a g) = .ok (.int a) (pen C c a g) := rfl
theorem pen2 : mIx (.ref 0) (.int 2) (pen C c a g) = .ok (.int g) (pen C c a g) := rfl
theorem pens2 : mSet (.ref 0) (.int 2) (.int y) (pen C c a g) = some (pen C c a y) := rfl
theorem pens1 : mSet (.ref 0) (.int 1) (.int y) (pen C c a g) = some (pen C c y g) := rfl
theorem pen_leave {x a' g' : Int} : leave (pen C c a g).length (.int x) (pen C c a' g') = .ok (.int x) (pen C c a' g') := by
  unfold leave
  show Res.ok (AV.int x) ((pen C c a' g').take (C.length + 1)) = _
  rw [List.take_of_length_le (by simp [AVL.sNext, AVL.sSeq, AVL.sRet, AVL.sRetN, AVL.sExpr, AVL.sIf, AVL.sBrk, AVL.sCont, AVL.sOpt, AVL.sAsg, AVL.gName, AVL.gsNil, AVL.gsCons, AVL.gTup, AVL.setAll, AVL.sPar, AVL.SRes.seq, AVL.Res.toS, AVL.Res.bind, AVL.eVar, AVL.eC, AVL.eBin, AVL.eUn, AVL.tV, AVL.tAnd, AVL.tOr, AVL.tNot, AVL.eAnd, AVL.eOr, AVL.eNot, AVL.eIf, AVL.aNil, AVL.aCons, AVL.eBlt, pen])]
end
/-- the constants of a pen -/
structure PenK (k1 k2 k3 k4 k5 k6 k7 : Int) : Prop where
  b1 : 0 ≤ k1 ∧ k1 < 1048576
  b2 : 0 ≤ k2 ∧ k2 < 1048576
  b3 : 0 ≤ k3 ∧ k3 < 1048576
  b4 : 0 ≤ k4 ∧ k4 < 1048576
  b5 : 0 ≤ k5 ∧ k5 < 1048576
  b6 : 0 ≤ k6 ∧ k6 < 1048576
  b7 : 0 ≤ k7 ∧ k7 < 1048576
theorem mul_bd {k a : Int} (h0 : 0 ≤ k) (h1 : k < 1048576) (a0 : 0 ≤ a) (a1 : a < 1000000) : 0 ≤ k * a ∧ k * a ≤ 1048576000000 := ⟨Int.mul_nonneg h0 a0, by
  have : k * a ≤ 1048576 * 1000000 := Int.mul_le_mul (by omega) (by omega) a0 (by decide)
  omega⟩
/-- the last rows of a draw -/
theorem mix_ok {k1 k2 k3 k4 k5 k6 k7 : Int} (K : PenK k1 k2 k3 k4 k5 k6 k7) {z a : Int} (a0 : 0 ≤ a) (a1 : a < 1000000) : ∃ m1 m2 : Int,
    powOk (z % 2147483563 + k3 * a + k4) 3 = true ∧ mulOk k3 a = true ∧ mulOk 2 a = true ∧ mulOk k6 a = true ∧ mulOk (k6 * a) a = true ∧
    m1 = (z % 2147483563 + k3 * a + k4) ^ 3 % 2147483629 ∧ mulOk m1 (2 * a + k5) = true ∧ powOk (m1 * (2 * a + k5) + k6 * a * a + k7) 5 = true ∧
    m2 = (m1 * (2 * a + k5) + k6 * a * a + k7) ^ 5 % 2147483587 := by
  have z0 := Int.emod_nonneg z (show (2147483563 : Int) ≠ 0 by decide)
  have z1 := Int.emod_lt_of_pos z (show (0 : Int) < 2147483563 by decide)
  have am : a.natAbs < 2 ^ 20 := by omega
  obtain ⟨q3, r3⟩ := mul_bd K.b3.1 K.b3.2 a0 a1
  obtain ⟨q6, r6⟩ := mul_bd K.b6.1 K.b6.2 a0 a1
  have b3 := K.b3
  have b4 := K.b4
  have b5 := K.b5
  have b6 := K.b6
  have b7 := K.b7
  have h1 := Int.emod_nonneg ((z % 2147483563 + k3 * a + k4) ^ 3) (show (2147483629 : Int) ≠ 0 by decide)
  have h2 := Int.emod_lt_of_pos ((z % 2147483563 + k3 * a + k4) ^ 3) (show (0 : Int) < 2147483629 by decide)
  refine ⟨_, _, powOk_of (a := 42) (by omega) (by decide), mulOk_of (a := 20) (b := 20) (by omega) am (by decide), mulOk_of (a := 2) (b := 20) (by decide) am (by decide), mulOk_of (a := 20) (b := 20) (by omega) am (by decide), mulOk_of (a := 41) (b := 20) (by omega) am (by decide), rfl, mulOk_of (a := 31) (b := 23) (by omega) (by omega) (by decide), ?_, rfl⟩
  generalize (z % 2147483563 + k3 * a + k4) ^ 3 % 2147483629 = m1 at *
  have p1 : 0 ≤ m1 * (2 * a + k5) := Int.mul_nonneg h1 (by omega)
  have p2 : m1 * (2 * a + k5) ≤ 2147483629 * (2 * 1000000 + 1048576) := Int.mul_le_mul (by omega) (by omega) (by omega) (by decide)
  have p3 : 0 ≤ k6 * a * a := Int.mul_nonneg (by omega) a0
  have p4 : k6 * a * a ≤ 1048576000000 * 1000000 := Int.mul_le_mul (by omega) (by omega) a0 (by decide)
  exact powOk_of (a := 62) (by omega) (by decide)
def drawB (I : MF) (k1 k2 k3 k4 k5 k6 k7 : Int) : SM := sSeq (sIf (tV (eBin mGt (eBin mIx (eVar 0) (eC (.int 2))) (eC (.int 0)))) (sSeq (sAsg (eBin mMod (eBlt I (aCons (eBin mIx (eVar 0) (eC (.int 2))) (aNil))) (eVar 1)) (AVL.gName 2))
  (sSeq (sAsg (eBin mDiv (eBlt I (aCons (eBin mIx (eVar 0) (eC (.int 2))) (aNil))) (eVar 1)) (AVL.gSub (eVar 0) (eC (.int 2))))
  (sRet (eVar 2)))) (sNext))
  (sSeq (sAsg (eBin mIx (eVar 0) (eC (.int 1))) (AVL.gName 3))
  (sSeq (sAsg (eBin (mAdd false) (eVar 3) (eC (.int 1))) (AVL.gSub (eVar 0) (eC (.int 1))))
  (sSeq (sAsg (eBin (mAdd false) (eBin (mMul false) (eC (.int k1)) (eVar 3)) (eC (.int k2))) (AVL.gName 4))
  (sSeq (sIf (tV (eBin (mEq true) (eBin mIx (eVar 0) (eC (.int 0))) (eLst false (aNil)))) (sAsg (eBin mIx (eBin mIx (eVar 0) (eC (.int 0))) (eBin mMod (eBlt I (aCons (eVar 3) (aNil))) (eBlt mLen (aCons (eBin mIx (eVar 0) (eC (.int 0))) (aNil))))) (AVL.gName 4)) (sNext))
  (sSeq (sIf (tAnd (tV (eBin mLt (eVar 3) (eBlt mLen (aCons (eBin mIx (eVar 0) (eC (.int 0))) (aNil))))) (tV (eBin mGe (eBlt mAbs (aCons (eVar 4) (aNil))) (eBin mPow (eC (.int 10)) (eC (.int 18)))))) (sSeq (sAsg (eBin (mAdd false) (eBin (mMul false) (eC (.int 2)) (eBin mSub (eBlt mAbs (aCons (eVar 4) (aNil))) (eBin mPow (eC (.int 10)) (eC (.int 18))))) (eBlt I (aCons (eBin mLt (eVar 4) (eC (.int 0))) (aNil)))) (AVL.gName 5))
  (sSeq (sAsg (eBin mDiv (eBlt I (aCons (eVar 5) (aNil))) (eVar 1)) (AVL.gSub (eVar 0) (eC (.int 2))))
  (sRet (eBin mMod (eBlt I (aCons (eVar 5) (aNil))) (eVar 1))))) (sNext))
  (sSeq (sAsg (eBin mMod (eBlt I (aCons (eBin mPow (eBin (mAdd false) (eBin (mAdd false) (eBin mMod (eBlt I (aCons (eVar 4) (aNil))) (eC (.int 2147483563))) (eBin (mMul false) (eC (.int k3)) (eVar 3))) (eC (.int k4))) (eC (.int 3))) (aNil))) (eC (.int 2147483629))) (AVL.gName 6))
  (sSeq (sAsg (eBin mMod (eBlt I (aCons (eBin mPow (eBin (mAdd false) (eBin (mAdd false) (eBin (mMul false) (eVar 6) (eBin (mAdd false) (eBin (mMul false) (eC (.int 2)) (eVar 3)) (eC (.int k5)))) (eBin (mMul false) (eBin (mMul false) (eC (.int k6)) (eVar 3)) (eVar 3))) (eC (.int k7))) (eC (.int 5))) (aNil))) (eC (.int 2147483587))) (AVL.gName 6))
  (sRet (eBin mMod (eBlt I (aCons (eBin mDiv (eVar 6) (eC (.int 16))) (aNil))) (eVar 1))))))))))
theorem drawB_ok {k1 k2 k3 k4 k5 k6 k7 : Int} (K : PenK k1 k2 k3 k4 k5 k6 k7) {I : MF} (hI : ∀ (i : Int) (h : AH), I [.int i] h = .ok (.int i) h) (hB : ∀ (b : Bool) (h : AH), I [.bl b] h = .ok (.int (if b then 1 else 0)) h) {C : AH} {c : List Int} (hc : CellsOk c) {a g many : Int} (a0 : 0 ≤ a) (a1 : a < 1000000) (g0 : 0 ≤ g) (g1 : g.natAbs < 2 ^ 1048600) (m0 : 0 < many) (m1 : many.natAbs.log2 < 9000) :
    ∃ d a' g', mkF 5 false (drawB I k1 k2 k3 k4 k5 k6 k7) [.ref 0, .int many] (pen C c a g) = .ok (.int d) (pen C c a' g') ∧ 0 ≤ d ∧ d < many ∧ 0 ≤ a' ∧ a' ≤ a + 1 ∧ 0 ≤ g' ∧ g'.natAbs < 2 ^ 1048600 := by
  by_cases hg : 0 < g
  · refine ⟨g % many, a, g / many, ?_, Int.emod_nonneg _ (by omega), Int.emod_lt_of_pos _ m0, a0, by omega, Int.ediv_nonneg g0 (by omega), ?_⟩
    · unfold mkF drawB
      simp [AVL.sNext, AVL.sSeq, AVL.sRet, AVL.sRetN, AVL.sExpr, AVL.sIf, AVL.sBrk, AVL.sCont, AVL.sOpt, AVL.sAsg, AVL.gName, AVL.gsNil, AVL.gsCons, AVL.gTup, AVL.setAll, AVL.sPar, AVL.SRes.seq, AVL.Res.toS, AVL.Res.bind, AVL.eVar, AVL.eC, AVL.eBin, AVL.eUn, AVL.tV, AVL.tAnd, AVL.tOr, AVL.tNot, AVL.eAnd, AVL.eOr, AVL.eNot, AVL.eIf, AVL.aNil, AVL.aCons, AVL.eBlt, lt_int, le_int, gt_int, ge_int, sub_int, add_int, neg_int, int_int, int_bl, eq_int, ne_int, len_lst, abs_int, ten18, pen0, pen1, pen2, pens1, pens2, AVL.gSub, AVL.eLst, AVL.lineOk, AVL.mkL, finF, AVL.eTup, hI, hB, hg, div_int' m0 m1, mod_int' m0, pen_leave]
    · refine Nat.lt_of_le_of_lt ?_ g1
      have h1 := Int.ediv_nonneg g0 (show 0 ≤ many by omega)
      have h2 := Int.ediv_le_self many g0
      omega
  · have g00 : g = 0 := by omega
    subst g00
    have mul1 : mulOk k1 a = true := mulOk_of (a := 20) (b := 20) (by have := K.b1; omega) (by omega) (by decide)
    -- the cell
    have cell : ∃ z : Int, z.natAbs < 2 ^ 1048576 ∧ (c = [] → z = k1 * a + k2) ∧ (c ≠ [] → mIx (.lst (c.map .int)) (.int (a % (c.length : Nat))) (pen C c (a + 1) 0) = .ok (.int z) (pen C c (a + 1) 0)) := by
      cases hn : c with
      | nil =>
        refine ⟨k1 * a + k2, ?_, fun _ => rfl, fun h => absurd rfl h⟩
        exact Nat.lt_of_lt_of_le (show (k1 * a + k2).natAbs < 2 ^ 42 by have := mul_bd K.b1.1 K.b1.2 a0 a1; have := K.b2; omega) (Nat.pow_le_pow_right (by decide) (by decide))
      | cons x r =>
        have hl : (0 : Int) < ((x :: r).length : Nat) := by simp [AVL.sNext, AVL.sSeq, AVL.sRet, AVL.sRetN, AVL.sExpr, AVL.sIf, AVL.sBrk, AVL.sCont, AVL.sOpt, AVL.sAsg, AVL.gName, AVL.gsNil, AVL.gsCons, AVL.gTup, AVL.setAll, AVL.sPar, AVL.SRes.seq, AVL.Res.toS, AVL.Res.bind, AVL.eVar, AVL.eC, AVL.eBin, AVL.eUn, AVL.tV, AVL.tAnd, AVL.tOr, AVL.tNot, AVL.eAnd, AVL.eOr, AVL.eNot, AVL.eIf, AVL.aNil, AVL.aCons, AVL.eBlt, lt_int, le_int, gt_int, ge_int, sub_int, add_int, neg_int, int_int, int_bl, eq_int, ne_int, len_lst, abs_int, ten18, pen0, pen1, pen2, pens1, pens2, AVL.gSub, AVL.eLst, AVL.lineOk, AVL.mkL, finF, AVL.eTup]
        obtain ⟨z, hz, e⟩ := ix_ints (h := pen C (x :: r) (a + 1) 0) (c := x :: r) (Int.emod_nonneg a (by omega)) (Int.emod_lt_of_pos a hl)
        exact ⟨z, hc.bits z (by rw [hn]; exact hz), (fun h => nomatch h), fun _ => e⟩
    obtain ⟨z, zb, z1, z2⟩ := cell
    by_cases big : a < (c.length : Nat) ∧ 1000000000000000000 ≤ (if z < 0 then -z else z)
    · let great : Int := 2 * ((if z < 0 then -z else z) - 1000000000000000000) + (if z < 0 then 1 else 0)
      have gr0 : 0 ≤ great := by show 0 ≤ 2 * ((if z < 0 then -z else z) - 1000000000000000000) + (if z < 0 then 1 else 0); split <;> omega
      have gr1 : great.natAbs < 2 ^ 1048578 := by
        have e : (2 : Nat) ^ 1048578 = 4 * 2 ^ 1048576 := by rw [show 1048578 = 2 + 1048576 from rfl, Nat.pow_add]
        have : great.natAbs ≤ 2 * z.natAbs + 1 := by
          show (2 * ((if z < 0 then -z else z) - 1000000000000000000) + (if z < 0 then 1 else 0)).natAbs ≤ _
          split <;> omega
        rw [e]
        generalize (2 : Nat) ^ 1048576 = T at *
        omega
      have mul2 : mulOk 2 ((if z < 0 then -z else z) - 1000000000000000000) = true := mulOk_of (a := 2) (b := 1048577) (by decide) (by
        have e : (2 : Nat) ^ 1048577 = 2 * 2 ^ 1048576 := by rw [show 1048577 = 1 + 1048576 from rfl, Nat.pow_add]
        rw [e]
        generalize (2 : Nat) ^ 1048576 = T at *
        split <;> omega) (by decide)
      refine ⟨great % many, a + 1, great / many, ?_, Int.emod_nonneg _ (by omega), Int.emod_lt_of_pos _ m0, by omega, by omega, Int.ediv_nonneg gr0 (by omega), ?_⟩
      · unfold mkF drawB
        have ce : (!c.isEmpty) = true := by cases c with | nil => have := big.1; simp [AVL.sNext, AVL.sSeq, AVL.sRet, AVL.sRetN, AVL.sExpr, AVL.sIf, AVL.sBrk, AVL.sCont, AVL.sOpt, AVL.sAsg, AVL.gName, AVL.gsNil, AVL.gsCons, AVL.gTup, AVL.setAll, AVL.sPar, AVL.SRes.seq, AVL.Res.toS, AVL.Res.bind, AVL.eVar, AVL.eC, AVL.eBin, AVL.eUn, AVL.tV, AVL.tAnd, AVL.tOr, AVL.tNot, AVL.eAnd, AVL.eOr, AVL.eNot, AVL.eIf, AVL.aNil, AVL.aCons, AVL.eBlt, lt_int, le_int, gt_int, ge_int, sub_int, add_int, neg_int, int_int, int_bl, eq_int, ne_int, len_lst, abs_int, ten18, pen0, pen1, pen2, pens1, pens2, AVL.gSub, AVL.eLst, AVL.lineOk, AVL.mkL, finF, AVL.eTup] at this; omega | cons x r => rfl
        have hl : (0 : Int) < (c.length : Nat) := by omega
        have w1 : mIx (.lst (c.map .int)) (.int (a % (c.length : Int))) (pen C c (a + 1) 0) = .ok (.int z) (pen C c (a + 1) 0) := z2 (by rintro rfl; simp [AVL.sNext, AVL.sSeq, AVL.sRet, AVL.sRetN, AVL.sExpr, AVL.sIf, AVL.sBrk, AVL.sCont, AVL.sOpt, AVL.sAsg, AVL.gName, AVL.gsNil, AVL.gsCons, AVL.gTup, AVL.setAll, AVL.sPar, AVL.SRes.seq, AVL.Res.toS, AVL.Res.bind, AVL.eVar, AVL.eC, AVL.eBin, AVL.eUn, AVL.tV, AVL.tAnd, AVL.tOr, AVL.tNot, AVL.eAnd, AVL.eOr, AVL.eNot, AVL.eIf, AVL.aNil, AVL.aCons, AVL.eBlt, lt_int, le_int, gt_int, ge_int, sub_int, add_int, neg_int, int_int, int_bl, eq_int, ne_int, len_lst, abs_int, ten18, pen0, pen1, pen2, pens1, pens2, AVL.gSub, AVL.eLst, AVL.lineOk, AVL.mkL, finF, AVL.eTup] at ce)
        have q := big.1
        have r := big.2
        have gg : great = 2 * ((if z < 0 then -z else z) - 1000000000000000000) + (if z < 0 then 1 else 0) := rfl
        simp [AVL.sNext, AVL.sSeq, AVL.sRet, AVL.sRetN, AVL.sExpr, AVL.sIf, AVL.sBrk, AVL.sCont, AVL.sOpt, AVL.sAsg, AVL.gName, AVL.gsNil, AVL.gsCons, AVL.gTup, AVL.setAll, AVL.sPar, AVL.SRes.seq, AVL.Res.toS, AVL.Res.bind, AVL.eVar, AVL.eC, AVL.eBin, AVL.eUn, AVL.tV, AVL.tAnd, AVL.tOr, AVL.tNot, AVL.eAnd, AVL.eOr, AVL.eNot, AVL.eIf, AVL.aNil, AVL.aCons, AVL.eBlt, lt_int, le_int, gt_int, ge_int, sub_int, add_int, neg_int, int_int, int_bl, eq_int, ne_int, len_lst, abs_int, ten18, pen0, pen1, pen2, pens1, pens2, AVL.gSub, AVL.eLst, AVL.lineOk, AVL.mkL, finF, AVL.eTup, hI, hB, mul_int' mul1, ne_nil, ce, mod_int' hl, w1, q, r, mul_int' mul2, div_int' m0 m1, mod_int' m0, pen_leave, gg]
      · have h1 := Int.ediv_nonneg gr0 (show 0 ≤ many by omega)
        have h2 := Int.ediv_le_self many gr0
        refine Nat.lt_of_le_of_lt (show (great / many).natAbs ≤ great.natAbs by omega) (Nat.lt_of_lt_of_le gr1 (Nat.pow_le_pow_right (by decide) (by decide)))
    · obtain ⟨k1, k2, p1, p2, p3, p4, p5, e1, p6, p7, e2⟩ := mix_ok K (z := z) (a := a) a0 a1
      refine ⟨k2 / 16 % many, a + 1, 0, ?_, Int.emod_nonneg _ (by omega), Int.emod_lt_of_pos _ m0, by omega, by omega, by omega, Nat.two_pow_pos _⟩
      unfold mkF drawB
      have ce : (!c.isEmpty) = true ∨ c = [] := by cases c <;> simp [AVL.sNext, AVL.sSeq, AVL.sRet, AVL.sRetN, AVL.sExpr, AVL.sIf, AVL.sBrk, AVL.sCont, AVL.sOpt, AVL.sAsg, AVL.gName, AVL.gsNil, AVL.gsCons, AVL.gTup, AVL.setAll, AVL.sPar, AVL.SRes.seq, AVL.Res.toS, AVL.Res.bind, AVL.eVar, AVL.eC, AVL.eBin, AVL.eUn, AVL.tV, AVL.tAnd, AVL.tOr, AVL.tNot, AVL.eAnd, AVL.eOr, AVL.eNot, AVL.eIf, AVL.aNil, AVL.aCons, AVL.eBlt, lt_int, le_int, gt_int, ge_int, sub_int, add_int, neg_int, int_int, int_bl, eq_int, ne_int, len_lst, abs_int, ten18, pen0, pen1, pen2, pens1, pens2, AVL.gSub, AVL.eLst, AVL.lineOk, AVL.mkL, finF, AVL.eTup]
      have p2' := p2
      rcases ce with ce | ce
      · have zz := z2 (by rintro rfl; simp [AVL.sNext, AVL.sSeq, AVL.sRet, AVL.sRetN, AVL.sExpr, AVL.sIf, AVL.sBrk, AVL.sCont, AVL.sOpt, AVL.sAsg, AVL.gName, AVL.gsNil, AVL.gsCons, AVL.gTup, AVL.setAll, AVL.sPar, AVL.SRes.seq, AVL.Res.toS, AVL.Res.bind, AVL.eVar, AVL.eC, AVL.eBin, AVL.eUn, AVL.tV, AVL.tAnd, AVL.tOr, AVL.tNot, AVL.eAnd, AVL.eOr, AVL.eNot, AVL.eIf, AVL.aNil, AVL.aCons, AVL.eBlt, lt_int, le_int, gt_int, ge_int, sub_int, add_int, neg_int, int_int, int_bl, eq_int, ne_int, len_lst, abs_int, ten18, pen0, pen1, pen2, pens1, pens2, AVL.gSub, AVL.eLst, AVL.lineOk, AVL.mkL, finF, AVL.eTup] at ce)
        have hl : (0 : Int) < (c.length : Nat) := by cases c with | nil => simp [AVL.sNext, AVL.sSeq, AVL.sRet, AVL.sRetN, AVL.sExpr, AVL.sIf, AVL.sBrk, AVL.sCont, AVL.sOpt, AVL.sAsg, AVL.gName, AVL.gsNil, AVL.gsCons, AVL.gTup, AVL.setAll, AVL.sPar, AVL.SRes.seq, AVL.Res.toS, AVL.Res.bind, AVL.eVar, AVL.eC, AVL.eBin, AVL.eUn, AVL.tV, AVL.tAnd, AVL.tOr, AVL.tNot, AVL.eAnd, AVL.eOr, AVL.eNot, AVL.eIf, AVL.aNil, AVL.aCons, AVL.eBlt, lt_int, le_int, gt_int, ge_int, sub_int, add_int, neg_int, int_int, int_bl, eq_int, ne_int, len_lst, abs_int, ten18, pen0, pen1, pen2, pens1, pens2, AVL.gSub, AVL.eLst, AVL.lineOk, AVL.mkL, finF, AVL.eTup] at ce | cons x r => simp [AVL.sNext, AVL.sSeq, AVL.sRet, AVL.sRetN, AVL.sExpr, AVL.sIf, AVL.sBrk, AVL.sCont, AVL.sOpt, AVL.sAsg, AVL.gName, AVL.gsNil, AVL.gsCons, AVL.gTup, AVL.setAll, AVL.sPar, AVL.SRes.seq, AVL.Res.toS, AVL.Res.bind, AVL.eVar, AVL.eC, AVL.eBin, AVL.eUn, AVL.tV, AVL.tAnd, AVL.tOr, AVL.tNot, AVL.eAnd, AVL.eOr, AVL.eNot, AVL.eIf, AVL.aNil, AVL.aCons, AVL.eBlt, lt_int, le_int, gt_int, ge_int, sub_int, add_int, neg_int, int_int, int_bl, eq_int, ne_int, len_lst, abs_int, ten18, pen0, pen1, pen2, pens1, pens2, AVL.gSub, AVL.eLst, AVL.lineOk, AVL.mkL, finF, AVL.eTup]
        subst e1
        subst e2
        have w1 : mIx (.lst (c.map .int)) (.int (a % (c.length : Int))) (pen C c (a + 1) 0) = .ok (.int z) (pen C c (a + 1) 0) := zz
        by_cases q : a < (c.length : Int)
        · have nb : ¬ 1000000000000000000 ≤ (if z < 0 then -z else z) := fun r => big ⟨q, r⟩
          simp [AVL.sNext, AVL.sSeq, AVL.sRet, AVL.sRetN, AVL.sExpr, AVL.sIf, AVL.sBrk, AVL.sCont, AVL.sOpt, AVL.sAsg, AVL.gName, AVL.gsNil, AVL.gsCons, AVL.gTup, AVL.setAll, AVL.sPar, AVL.SRes.seq, AVL.Res.toS, AVL.Res.bind, AVL.eVar, AVL.eC, AVL.eBin, AVL.eUn, AVL.tV, AVL.tAnd, AVL.tOr, AVL.tNot, AVL.eAnd, AVL.eOr, AVL.eNot, AVL.eIf, AVL.aNil, AVL.aCons, AVL.eBlt, lt_int, le_int, gt_int, ge_int, sub_int, add_int, neg_int, int_int, int_bl, eq_int, ne_int, len_lst, abs_int, ten18, pen0, pen1, pen2, pens1, pens2, AVL.gSub, AVL.eLst, AVL.lineOk, AVL.mkL, finF, AVL.eTup, hI, hB, mul_int' mul1, ne_nil, ce, mod_int' hl, w1, q, nb, mul_int' p2, mod_a, mod_b, mod_c, pow3 p1, mul_int' p3, mul_int' p4, mul_int' p5, mul_int' p6, pow5 p7, div_16, mod_int' m0, pen_leave]
        · simp [AVL.sNext, AVL.sSeq, AVL.sRet, AVL.sRetN, AVL.sExpr, AVL.sIf, AVL.sBrk, AVL.sCont, AVL.sOpt, AVL.sAsg, AVL.gName, AVL.gsNil, AVL.gsCons, AVL.gTup, AVL.setAll, AVL.sPar, AVL.SRes.seq, AVL.Res.toS, AVL.Res.bind, AVL.eVar, AVL.eC, AVL.eBin, AVL.eUn, AVL.tV, AVL.tAnd, AVL.tOr, AVL.tNot, AVL.eAnd, AVL.eOr, AVL.eNot, AVL.eIf, AVL.aNil, AVL.aCons, AVL.eBlt, lt_int, le_int, gt_int, ge_int, sub_int, add_int, neg_int, int_int, int_bl, eq_int, ne_int, len_lst, abs_int, ten18, pen0, pen1, pen2, pens1, pens2, AVL.gSub, AVL.eLst, AVL.lineOk, AVL.mkL, finF, AVL.eTup, hI, hB, mul_int' mul1, ne_nil, ce, mod_int' hl, w1, q, mul_int' p2, mod_a, mod_b, mod_c, pow3 p1, mul_int' p3, mul_int' p4, mul_int' p5, mul_int' p6, pow5 p7, div_16, mod_int' m0, pen_leave]
      · subst ce
        have zz := z1 rfl
        subst zz
        subst e1
        subst e2
        have q : ¬ a < 0 := by omega
        have w0 : mEq true (.lst []) (.lst []) (pen C [] (a + 1) 0) = .ok (.bl false) (pen C [] (a + 1) 0) := rfl
        simp [AVL.sNext, AVL.sSeq, AVL.sRet, AVL.sRetN, AVL.sExpr, AVL.sIf, AVL.sBrk, AVL.sCont, AVL.sOpt, AVL.sAsg, AVL.gName, AVL.gsNil, AVL.gsCons, AVL.gTup, AVL.setAll, AVL.sPar, AVL.SRes.seq, AVL.Res.toS, AVL.Res.bind, AVL.eVar, AVL.eC, AVL.eBin, AVL.eUn, AVL.tV, AVL.tAnd, AVL.tOr, AVL.tNot, AVL.eAnd, AVL.eOr, AVL.eNot, AVL.eIf, AVL.aNil, AVL.aCons, AVL.eBlt, lt_int, le_int, gt_int, ge_int, sub_int, add_int, neg_int, int_int, int_bl, eq_int, ne_int, len_lst, abs_int, ten18, pen0, pen1, pen2, pens1, pens2, AVL.gSub, AVL.eLst, AVL.lineOk, AVL.mkL, finF, AVL.eTup, hI, hB, mul_int' mul1, w0, q, mul_int' p2, mod_a, mod_b, mod_c, pow3 p1, mul_int' p3, mul_int' p4, mul_int' p5, mul_int' p6, pow5 p7, div_16, mod_int' m0, pen_leave]
end Law

namespace Law
open PySem PySem.Spec L2 AVL
/-! ### an expression, a statement and what it gives -/
section
variable {m : AV → AV → AH → Res AV} {fa fb fc : EM} {F : MF} {sl sl' : SL} {h h' h1 h2 h3 h4 : AH} {x y v z : AV} {xs ys : List AV} {A B : AM} {f g : SM} {t u : TM} {c b : Bool} {lo hi : Option Int} {n i : Nat}
theorem eBin_ok (ea : fa sl h = .ok x h1) (eb : fb sl h1 = .ok y h2) : eBin m fa fb sl h = m x y h2 := by
  unfold eBin
  rw [ea]
  show (fb sl h1).bind _ = _
  rw [eb]; rfl
theorem eBin_go (ea : fa sl h = .ok x h1) (eb : fb sl h1 = .ok y h2) (e : m x y h2 = .ok v h3) : eBin m fa fb sl h = .ok v h3 := (eBin_ok ea eb).trans e
theorem eUn_go {m : AV → AH → Res AV} (ea : fa sl h = .ok x h1) (e : m x h1 = .ok v h2) : eUn m fa sl h = .ok v h2 := by
  unfold eUn
  rw [ea]; exact e
theorem eVar_ok {i : Nat} (e : sl[i]? = some (some x)) : eVar i sl h = .ok x h := by
  unfold eVar
  rw [e]
theorem eC_ok : eC x sl h = .ok x h := rfl
theorem nil_ok : aNil sl h = .ok [] h := rfl
theorem cons_ok (a : fa sl h = .ok x h1) (b : A sl h1 = .ok xs h2) : aCons fa A sl h = .ok (x :: xs) h2 := by
  unfold aCons
  rw [a]
  show (A sl h1).bind _ = _
  rw [b]; rfl
theorem star_go (a : fa sl h = .ok x h1) (i : items h1 x = some ys) (b : A sl h1 = .ok xs h2) : aStar fa A sl h = .ok (ys ++ xs) h2 := by
  unfold aStar
  rw [a]
  show (match items h1 x with | some ys => (A sl h1).bind fun zs h2 => .ok (ys ++ zs) h2 | none => .stuck) = _
  rw [i]
  show (A sl h1).bind _ = _
  rw [b]; rfl
theorem eCall_go (a : A sl h = .ok xs h1) (l : xs.length = n) (e : F xs h1 = .ok v h2) : eCall n F A sl h = .ok v h2 := by
  unfold eCall
  rw [a]
  show (if xs.length = n then F xs h1 else .stuck) = _
  rw [if_pos l]; exact e
theorem eCallD_go {k pn : Nat} {ss : List ADs} {ds : List AV} (a : A sl h = .ok xs h1) (b : B sl h1 = .ok ys h2) (l : xs.length = n ∧ ys.length = k ∧ (srcD ss xs ds ys).length = pn) (e : F (srcD ss xs ds ys) h2 = .ok v h3) : eCallD n k pn ss ds F A B sl h = .ok v h3 := by
  unfold eCallD
  rw [a]
  show (B sl h1).bind _ = _
  rw [b]
  show (if xs.length = n ∧ ys.length = k ∧ (srcD ss xs ds ys).length = pn then F (srcD ss xs ds ys) h2 else .stuck) = _
  rw [if_pos l]; exact e
theorem eBlt_go (a : A sl h = .ok xs h1) (e : F xs h1 = .ok v h2) : eBlt F A sl h = .ok v h2 := by
  unfold eBlt
  rw [a]; exact e
theorem eTup_go (a : A sl h = .ok xs h1) (l : lineOk xs = true) : eTup A sl h = .ok (.tup xs) h1 := by
  unfold eTup
  rw [a]
  show (if lineOk xs then _ else _) = _
  rw [if_pos l]
theorem eLst_go (a : A sl h = .ok xs h1) (l : lineOk xs = true) : eLst false A sl h = .ok (.lst xs) h1 := by
  unfold eLst
  rw [a]
  show (if lineOk xs then _ else _) = _
  rw [if_pos l]; rfl
theorem eLstN_go (a : A sl h = .ok xs h1) (l : lineOk xs = true) : eLst true A sl h = .ok (.ref h1.length) (h1 ++ [.lst xs]) := by
  unfold eLst
  rw [a]
  show (if lineOk xs then _ else _) = _
  rw [if_pos l]; rfl
theorem eAnd_yes (a : fa sl h = .ok (.bl true) h1) (b : fb sl h1 = .ok v h2) : eAnd fa fb sl h = .ok v h2 := by
  unfold eAnd
  rw [a]; exact b
theorem eAnd_no (a : fa sl h = .ok (.bl false) h1) : eAnd fa fb sl h = .ok (.bl false) h1 := by
  unfold eAnd
  rw [a]; rfl
theorem tV_go (a : fa sl h = .ok (.bl b) h1) : tV fa sl h = .ok b h1 := by
  unfold tV
  rw [a]; rfl
theorem tOr_no (a : t sl h = .ok false h1) (b : u sl h1 = .ok c h2) : tOr t u sl h = .ok c h2 := by
  unfold AVL.tOr
  rw [a]; exact b
theorem tOr_yes (a : t sl h = .ok true h1) : tOr t u sl h = .ok true h1 := by
  unfold AVL.tOr
  rw [a]; rfl
theorem tAnd_yes (a : t sl h = .ok true h1) (b : u sl h1 = .ok c h2) : tAnd t u sl h = .ok c h2 := by
  unfold AVL.tAnd
  rw [a]; exact b
theorem tAnd_no (a : t sl h = .ok false h1) : tAnd t u sl h = .ok false h1 := by
  unfold AVL.tAnd
  rw [a]; rfl
theorem eIf_yes (a : t sl h = .ok true h1) (e : fa sl h1 = .ok v h2) : eIf t fa fb sl h = .ok v h2 := by
  unfold eIf
  rw [a]; exact e
theorem eIf_no (a : t sl h = .ok false h1) (e : fb sl h1 = .ok v h2) : eIf t fa fb sl h = .ok v h2 := by
  unfold eIf
  rw [a]; exact e
theorem oNo_ok : oNo sl h = .ok none h := rfl
theorem oPart_go {i : Int} (a : fa sl h = .ok (.int i) h1) : oPart fa sl h = .ok (some i) h1 := by
  unfold oPart
  rw [a]; rfl
theorem eSl_go {nm : Bool} {fl fh : OM} (a : fa sl h = .ok x h1) (b : fl sl h1 = .ok lo h2) (c : fh sl h2 = .ok hi h3) (e : mSl nm x lo hi h3 = .ok v h4) : eSl nm fa fl fh sl h = .ok v h4 := by
  unfold eSl
  rw [a]
  show (fl sl h1).bind _ = _
  rw [b]
  show (fh sl h2).bind _ = _
  rw [c]; exact e
theorem eRev_go {nm : Bool} (a : fa sl h = .ok x h1) (e : mRev nm x h1 = .ok v h2) : eRev nm fa sl h = .ok v h2 := by
  unfold eRev
  rw [a]; exact e
theorem eAttr_go {p q : Str → Bool} {s : Str} (a : fa sl h = .ok x h1) (e : mAttr p q s x h1 = .ok v h2) : eAttr p q s fa sl h = .ok v h2 := by
  unfold eAttr
  rw [a]; exact e
theorem eMt_go {T : String} {k : MM} (a : fa sl h = .ok x h1) (ty : tyA h1 x = some T) (b : A sl h1 = .ok ys h2) (e : k x ys h2 = .ok v h3) : eMt T k fa A sl h = .ok v h3 := by
  unfold eMt
  rw [a]
  show (if tyA h1 x = some T then _ else _) = _
  rw [if_pos ty, b]; exact e
theorem eChain_go {m' : AV → AV → AH → Res AV} (a : fa sl h = .ok x h1) (b : fb sl h1 = .ok y h2) (e : m x y h2 = .ok (.bl true) h2) (c : fc sl h2 = .ok z h3) (e2 : m' y z h3 = .ok v h4) : eChain m m' fa fb fc sl h = .ok v h4 := by
  unfold eChain
  rw [a]
  show (fb sl h1).bind _ = _
  rw [b]
  show (m x y h2).bind _ = _
  rw [e]
  show (fc sl h2).bind _ = _
  rw [c]; exact e2
theorem eChain_no {m' : AV → AV → AH → Res AV} (a : fa sl h = .ok x h1) (b : fb sl h1 = .ok y h2) (e : m x y h2 = .ok (.bl false) h2) : eChain m m' fa fb fc sl h = .ok (.bl false) h2 := by
  unfold eChain
  rw [a]
  show (fb sl h1).bind _ = _
  rw [b]
  show (m x y h2).bind _ = _
  rw [e]; rfl
/-! statements -/
theorem seq_next (e : f sl h = .next sl' h') : sSeq f g sl h = g sl' h' := by
  unfold sSeq
  rw [e]; rfl
theorem seq_go {r : SRes} (e : f sl h = .next sl' h') (e2 : g sl' h' = r) : sSeq f g sl h = r := (seq_next e).trans e2
theorem seq_ret (e : f sl h = .ret v h') : sSeq f g sl h = .ret v h' := by
  unfold sSeq
  rw [e]; rfl
theorem asg_ok (a : fa sl h = .ok v h1) : sAsg fa (AVL.gName i) sl h = .next (sl.set i (some v)) h1 := by
  unfold sAsg
  rw [a]; rfl
theorem expr_ok (a : fa sl h = .ok v h1) : sExpr fa sl h = .next sl h1 := by
  unfold sExpr
  rw [a]; rfl
theorem ret_ok (a : fa sl h = .ok v h1) : sRet fa sl h = .ret v h1 := by
  unfold sRet
  rw [a]; rfl
theorem if_yes {r : SRes} (a : t sl h = .ok true h1) (e : f sl h1 = r) : sIf t f g sl h = r := by
  unfold sIf
  rw [a]; exact e
theorem if_no {r : SRes} (a : t sl h = .ok false h1) (e : g sl h1 = r) : sIf t f g sl h = r := by
  unfold sIf
  rw [a]; exact e
theorem next_ok : sNext sl h = .next sl h := rfl
theorem for_ok {it : IM} {g : GM} {b : SM} {l : List AV} {ok : AH → Bool} (a : it sl h = .ok (l, ok) h1) (e : forL ok g b l sl h1 = .next sl' h2) : sFor it g b sl h = .next sl' h2 := by
  unfold sFor
  rw [a]; exact e
theorem par_ok {is : List Nat} (a : A sl h = .ok xs h1) (l : xs.length = is.length) : sPar is A sl h = .next (setAll is xs sl) h1 := by
  unfold sPar
  rw [a]
  show (if xs.length = is.length then _ else _) = _
  rw [if_pos l]
theorem range1_ok {k : Int} (a : A sl h = .ok [.int k] h1) (b : b62 k = true) : itRng1 A sl h = .ok (rangeL 0 k.toNat, okAll) h1 := by
  unfold itRng1
  rw [a]
  show (if b62 k then _ else _) = _
  rw [if_pos b]
end
/-! ### what stays as it is when a def is left -/
mutual
theorem frzV_low {g : Nat → Option AV} {m : Nat} (hg : ∀ k, k < m → g k = some (.ref k)) : ∀ x, bnd m x = true → frzV g x = some x
  | .non, _ => by simp [frzV]
  | .bl _, _ => by simp [frzV]
  | .int _, _ => by simp [frzV]
  | .str _, _ => by simp [frzV]
  | .ty _, _ => by simp [frzV]
  | .cls _, _ => by simp [frzV]
  | .tup l, b => by simp [frzV, frzVs_low hg l b]
  | .lst l, b => by simp [frzV, frzVs_low hg l b]
  | .klst l, b => by simp [frzV, frzVs_low hg l b]
  | .dct _ l, b => by simp [frzV, frzVs_low hg l b]
  | .obj _ _ l, b => by simp [frzV, frzVs_low hg l b]
  | .exc _ _ l, b => by simp [frzV, frzVs_low hg l b]
  | .ref k, b => by simpa [frzV] using hg k (by simpa [bnd] using b)
theorem frzVs_low {g : Nat → Option AV} {m : Nat} (hg : ∀ k, k < m → g k = some (.ref k)) : ∀ l, bnds m l = true → frzVs g l = some l
  | [], _ => by simp [frzVs]
  | x :: l, b => by
    have b' : (bnd m x && bnds m l) = true := b
    rw [Bool.and_eq_true] at b'
    simp [frzVs, frzV_low hg x b'.1, frzVs_low hg l b'.2]
end
theorem frzN_low {h : AH} {m f : Nat} : ∀ k, k < m → frzN h m (f + 1) k = some (.ref k) := fun k hk => by
  unfold frzN
  rw [if_pos hk]
theorem leave_low {h : AH} {m : Nat} {x : AV} (b : bnd m x = true) : leave m x h = .ok x (h.take m) := by
  unfold leave frz
  rw [frzV_low frzN_low x b]
theorem leave_lst {h : AH} {m k : Nat} {l : List AV} (hk : m ≤ k) (hl : k < h.length) (e : h[k]? = some (.lst l)) (b : bnds m l = true) : leave m (.ref k) h = .ok (.lst l) (h.take m) := by
  unfold leave frz
  have : frzV (frzN h m (h.length + 1)) (.ref k) = some (.lst l) := by
    simp only [frzV]
    obtain ⟨q, hq⟩ : ∃ q, h.length = q + 1 := ⟨h.length - 1, by omega⟩
    rw [hq]
    unfold frzN
    rw [if_neg (by omega), e]
    simp [frzVs_low frzN_low l b]
  rw [this]
theorem leaveK_lst {h : AH} {m k : Nat} {l : List AV} (hk : m ≤ k) (e : h[k]? = some (.lst l)) (b : bnds m l = true) (b2 : bnds k l = true) : leaveK m (.ref k) h = .ok (.ref m) (h.take m ++ [.lst l]) := by
  unfold leaveK
  show (if k < m then _ else match h[k]? with | some (.lst l) => if bnds k l then (match frzs h m l with | some l' => Res.ok (AV.ref m) (h.take m ++ [Cell.lst l']) | none => .stuck) else .stuck | _ => .stuck) = _
  rw [if_neg (by omega), e]
  show (if bnds k l then (match frzs h m l with | some l' => Res.ok (AV.ref m) (h.take m ++ [Cell.lst l']) | none => .stuck) else .stuck) = _
  rw [if_pos b2]
  have : frzs h m l = some l := frzVs_low frzN_low l b
  rw [this]
theorem bnds_of {m : Nat} : ∀ {l : List AV}, (∀ x ∈ l, bnd m x = true) → bnds m l = true
  | [], _ => rfl
  | x :: l, h => by
    show (bnd m x && bnds m l) = true
    rw [h x List.mem_cons_self, bnds_of fun y hy => h y (List.mem_cons_of_mem _ hy)]; rfl
theorem bnds_map {α : Type} {m : Nat} {f : α → AV} {l : List α} (h : ∀ x ∈ l, bnd m (f x) = true) : bnds m (l.map f) = true := bnds_of fun y hy => by
  obtain ⟨x, hx, rfl⟩ := List.mem_map.mp hy
  exact h x hx
theorem bnds_ints {m : Nat} {l : List Int} : bnds m (l.map AV.int) = true := bnds_map fun _ _ => rfl
def IT (l : List Int) : AV := .tup (l.map .int)
theorem bnd_IT {m : Nat} {l : List Int} : bnd m (IT l) = true := bnds_ints
theorem bnds_ITs {m : Nat} {l : List (List Int)} : bnds m (l.map IT) = true := bnds_map fun _ _ => bnd_IT
/-! ### the pen's state -/
def Pen (C : AH) (c : List Int) (N : Nat) (h : AH) : Prop := ∃ a g, h = pen C c a g ∧ 0 ≤ a ∧ a ≤ N ∧ 0 ≤ g ∧ g.natAbs < 2 ^ 1048600
section
variable {C : AH} {c : List Int} {N M : Nat} {h h' : AH}
theorem Pen.mono (p : Pen C c N h) (l : N ≤ M) : Pen C c M h := by
  obtain ⟨a, g, e, h1, h2, h3, h4⟩ := p
  exact ⟨a, g, e, h1, by omega, h3, h4⟩
theorem Pen.len (p : Pen C c N h) : h.length = C.length + 1 := by
  obtain ⟨a, g, rfl, _⟩ := p
  rfl
theorem Pen.take (p : Pen C c N h) : h.take (C.length + 1) = h := List.take_of_length_le (by rw [p.len]; omega)
theorem Pen.get (p : Pen C c N h) {k : Nat} : h[k + 1]? = C[k]? := by
  obtain ⟨a, g, rfl, _⟩ := p
  rfl
theorem Pen.put (p : Pen C c N h) (D : AH) : Pen (C ++ D) c N (h ++ D) := by
  obtain ⟨a, g, rfl, r⟩ := p
  exact ⟨a, g, rfl, r⟩
theorem Pen.cut {C D : AH} (p : Pen (C ++ D) c N h) : Pen C c N (h.take (C.length + 1)) := by
  obtain ⟨a, g, rfl, r⟩ := p
  exact ⟨a, g, by simp [pen], r⟩
/-- the cells behind the pen are others -/
theorem Pen.set (p : Pen C c N h) {k : Nat} {x : Cell} : Pen (C.set k x) c N (h.set (k + 1) x) := by
  obtain ⟨a, g, rfl, r⟩ := p
  exact ⟨a, g, rfl, r⟩
theorem Pen.leave (p : Pen C c N h) (p' : Pen C c M h') {x : AV} (b : bnd (C.length + 1) x = true) : leave h.length x h' = .ok x h' := by
  rw [p.len, leave_low b, p'.take]
end
theorem bnd_of {m : Nat} {x : AV} (b : bnd 0 x = true) : bnd m x = true := by
  have := b
  revert this
  exact fun _ => bndUp m x b
where
  bndUp (m : Nat) : ∀ x, bnd 0 x = true → bnd m x = true
  | .non, _ => rfl
  | .bl _, _ => rfl
  | .int _, _ => rfl
  | .str _, _ => rfl
  | .ty _, _ => rfl
  | .cls _, _ => rfl
  | .tup l, b => bndsUp m l b
  | .lst l, b => bndsUp m l b
  | .klst l, b => bndsUp m l b
  | .dct _ l, b => bndsUp m l b
  | .obj _ _ l, b => bndsUp m l b
  | .exc _ _ l, b => bndsUp m l b
  | .ref k, b => by simp [bnd] at b
  bndsUp (m : Nat) : ∀ l, bnds 0 l = true → bnds m l = true
  | [], _ => rfl
  | x :: l, b => by
    have b' : (bnd 0 x && bnds 0 l) = true := b
    rw [Bool.and_eq_true] at b'
    show (bnd m x && bnds m l) = true
    rw [bndUp m x b'.1, bndsUp m l b'.2]; rfl
def Draws (c : List Int) (F : MF) : Prop := ∀ (C : AH) (N : Nat) (h : AH) (many : Int), Pen C c N h → N < 900000 → 0 < many → many.natAbs.log2 < 9000 → ∃ d h', F [.ref 0, .int many] h = .ok (.int d) h' ∧ Pen C c (N + 1) h' ∧ 0 ≤ d ∧ d < many
theorem drawB_draws {k1 k2 k3 k4 k5 k6 k7 : Int} (K : PenK k1 k2 k3 k4 k5 k6 k7) {c : List Int} (hc : CellsOk c) {I : MF} (hI : ∀ (i : Int) (h : AH), I [.int i] h = .ok (.int i) h := by intro _ _; rfl) (hB : ∀ (b : Bool) (h : AH), I [.bl b] h = .ok (.int (if b then 1 else 0)) h := by intro _ _; rfl) : Draws c (mkF 5 false (drawB I k1 k2 k3 k4 k5 k6 k7)) := fun C N h many p hN m0 m1 => by
  obtain ⟨a, g, rfl, h1, h2, h3, h4⟩ := p
  obtain ⟨d, a', g', e, d0, d1, a0, a1, g0, g1⟩ := drawB_ok K hI hB (C := C) hc h1 (by omega) h3 h4 m0 m1
  exact ⟨d, _, e, ⟨a', g', rfl, a0, by omega, g0, g1⟩, d0, d1⟩
theorem log_of {j : Int} {n : Nat} (h0 : 0 < n) (h : j.natAbs < 2 ^ n) (l : n ≤ 9000) : j.natAbs.log2 < 9000 := Nat.lt_of_lt_of_le (PySem.Flt.log2_lt_of h0 h) l
theorem draw_small {c : List Int} {F : MF} (D : Draws c F) {C : AH} {N : Nat} {h : AH} {many : Int} (p : Pen C c N h) (hN : N < 900000) (m0 : 0 < many) (m1 : many < 100000) : ∃ d h', F [.ref 0, .int many] h = .ok (.int d) h' ∧ Pen C c (N + 1) h' ∧ 0 ≤ d ∧ d < many :=
  D C N h many p hN m0 (log_of (n := 20) (by decide) (by omega) (by decide))
def pickB (F : MF) : SM := sRet (eBin mIx (eVar 1) (eCall 2 F (aCons (eVar 0) (aCons (eBlt mLen (aCons (eVar 1) (aNil))) (aNil)))))
theorem ix_lst {l : List AV} {k : Nat} {h : AH} (hk : k < l.length) : mIx (.lst l) (.int (k : Int)) h = .ok l[k] h := by
  have e : L2.atI l (k : Int) = some l[k] := by
    unfold L2.atI L2.ixN
    simp [hk]
  show (match L2.atI l (k : Int) with | some y => Res.ok y h | none => .stuck) = _
  rw [e]
theorem ix_tup {l : List AV} {k : Nat} {h : AH} (hk : k < l.length) : mIx (.tup l) (.int (k : Int)) h = .ok l[k] h := by
  have e : L2.atI l (k : Int) = some l[k] := by
    unfold L2.atI L2.ixN
    simp [hk]
  show (match L2.atI l (k : Int) with | some y => Res.ok y h | none => .stuck) = _
  rw [e]
theorem fin_ret {m : Nat} {v : AV} {h : AH} : finF m false (.ret v h) = leave m v h := rfl
theorem fin_retK {m : Nat} {v : AV} {h : AH} : finF m true (.ret v h) = leaveK m v h := rfl
theorem pickB_ok {c : List Int} {F : MF} (D : Draws c F) {L : List AV} {C : AH} {N : Nat} {h : AH} (p : Pen C c N h) (hN : N < 800000) (l0 : 0 < L.length) (l1 : L.length < 1000) (fz : bnds (C.length + 1) L = true) :
    ∃ x h', mkF 0 false (pickB F) [.ref 0, .lst L] h = .ok x h' ∧ Pen C c (N + 1) h' ∧ x ∈ L := by
  obtain ⟨d, h1, e1, p1, d0, d1⟩ := draw_small D p (by omega) (many := (L.length : Nat)) (by omega) (by omega)
  obtain ⟨k, rfl⟩ := Int.eq_ofNat_of_zero_le d0
  have hk : k < L.length := by omega
  have bx : ∀ {l : List AV}, bnds (C.length + 1) l = true → ∀ x ∈ l, bnd (C.length + 1) x = true := fun {l} => by
    induction l with
    | nil => exact fun _ x hx => nomatch hx
    | cons y l ih =>
      intro b x hx
      have b' : (bnd (C.length + 1) y && bnds (C.length + 1) l) = true := b
      rw [Bool.and_eq_true] at b'
      rcases List.mem_cons.mp hx with rfl | hx
      · exact b'.1
      · exact ih b'.2 x hx
  refine ⟨L[k], h1, ?_, p1, List.getElem_mem hk⟩
  have st : pickB F [some (.ref 0), some (.lst L)] h = .ret L[k] h1 :=
    ret_ok (eBin_go (eVar_ok rfl) (eCall_go (cons_ok (eVar_ok rfl) (cons_ok (eBlt_go (cons_ok (eVar_ok rfl) nil_ok) rfl) nil_ok)) rfl e1) (ix_lst hk))
  show finF h.length false (pickB F [some (.ref 0), some (.lst L)] h) = _
  rw [st, fin_ret]
  exact p.leave p1 (bx fz _ (List.getElem_mem hk))
end Law

namespace Law
open PySem PySem.Spec L2 AVL
/-! ### numbers and rows of numbers, sorted; the least of them -/
section
variable {h : AH} {n : Nat}
theorem pd_IT {l : List Int} : pd (n + 2) h (IT l) = some (.tuple (l.map PyData.int)) := by
  show ((l.map AV.int).mapM (pd (n + 1) h)).map PyData.tuple = _
  rw [pd_ints]; rfl
theorem mapM_of {α : Type} {f : α → AV} {g : α → PyData} (e : ∀ x, pd n h (f x) = some (g x)) : ∀ l : List α, (l.map f).mapM (pd n h) = some (l.map g)
  | [] => rfl
  | x :: l => by
    rw [List.map_cons, List.mapM_cons, e, mapM_of e l]; rfl
theorem pd_ITs : ∀ l : List (List Int), (l.map IT).mapM (pd (n + 2) h) = some (l.map fun r => .tuple (r.map PyData.int)) := mapM_of fun _ => pd_IT
theorem ltA_int {i j : Int} : ltA h (.int i) (.int j) = decide (i < j) := PySem.W.dataLt_int i j
theorem ltA_IT {a b : List Int} : ltA h (IT a) (IT b) = decide (a < b) := by
  unfold ltA pdD
  rw [pd_IT (n := 58), pd_IT (n := 58)]
  show PySem.W.dataLt (.tuple _) (.tuple _) = _
  rw [PySem.W.dataLt_tuple]
  exact PySem.W.dataLt_ints a b
theorem alike_ints : ∀ a b : List Int, PySem.W.alikeAll (a.map PyData.int) (b.map PyData.int) = true
  | [], [] => by simp [PySem.W.alikeAll]
  | [], _ :: _ => by simp [PySem.W.alikeAll]
  | _ :: _, [] => by simp [PySem.W.alikeAll]
  | x :: a, y :: b => by
    have := alike_ints a b
    simp [PySem.W.alikeAll, PySem.W.alike, this]
theorem alikeB_ints {l : List Int} : alikeB (l.map PyData.int) = true := by
  unfold alikeB
  simp [PySem.W.alike]
theorem alikeB_ITs {l : List (List Int)} : alikeB (l.map fun r => .tuple (r.map PyData.int)) = true := by
  unfold alikeB
  simp [PySem.W.alike, alike_ints]
theorem sortB_ints {l : List Int} : sortB (l.map PyData.int) = true := by
  unfold sortB
  simp [isTupD, isNonD]
theorem sortB_ITs {l : List (List Int)} : sortB (l.map fun r => .tuple (r.map PyData.int)) = true := by
  unfold sortB
  simp [isTupD]
def sortI (l : List Int) : List Int := l.mergeSort fun a b => !decide (b < a)
def sortR (l : List (List Int)) : List (List Int) := l.mergeSort fun a b => !decide (b < a)
theorem sorted_ints {x : AV} {l : List Int} (e : items h x = some (l.map .int)) (hl : l.length ≤ 10000) : mSorted false [x] h = .ok (.lst ((sortI l).map .int)) h := by
  unfold mSorted
  simp only [e]
  rw [pd_ints (n := 59)]
  simp only [alikeB_ints, sortB_ints, Bool.true_and, List.length_map]
  rw [if_pos (by rw [sizeLine_eq]; simp; omega)]
  show Res.ok (AV.lst ((l.map AV.int).mergeSort fun a b => !ltA h b a)) h = _
  rw [show (l.map AV.int).mergeSort (fun a b => !ltA h b a) = (sortI l).map AV.int from (List.map_mergeSort (fun a _ b _ => by rw [ltA_int])).symm]
theorem sorted_ITs {x : AV} {l : List (List Int)} (e : items h x = some (l.map IT)) (hl : l.length ≤ 10000) : mSorted false [x] h = .ok (.lst ((sortR l).map IT)) h := by
  unfold mSorted
  simp only [e]
  rw [pd_ITs (n := 58)]
  simp only [alikeB_ITs, sortB_ITs, Bool.true_and, List.length_map]
  rw [if_pos (by rw [sizeLine_eq]; simp; omega)]
  show Res.ok (AV.lst ((l.map IT).mergeSort fun a b => !ltA h b a)) h = _
  rw [show (l.map IT).mergeSort (fun a b => !ltA h b a) = (sortR l).map IT from (List.map_mergeSort (fun a _ b _ => by rw [ltA_IT])).symm]
theorem ltL_tri {a b : List Int} (h1 : ¬ a < b) (h2 : ¬ b < a) : a = b := List.le_antisymm (List.not_lt.mp h2) (List.not_lt.mp h1)
theorem leI_trans (a b c : Int) : (!decide (b < a)) = true → (!decide (c < b)) = true → (!decide (c < a)) = true := by
  simp; omega
theorem leI_total (a b : Int) : ((!decide (b < a)) || !decide (a < b)) = true := by
  simp; omega
theorem leL_trans (a b c : List Int) : (!decide (b < a)) = true → (!decide (c < b)) = true → (!decide (c < a)) = true := by
  simp only [Bool.not_eq_true', decide_eq_false_iff_not]
  intro h1 h2 h3
  by_cases q : a < b
  · exact h2 (List.lt_trans h3 q)
  · have := ltL_tri q h1
    subst this
    exact h2 h3
theorem leL_total (a b : List Int) : ((!decide (b < a)) || !decide (a < b)) = true := by
  by_cases q : a < b
  · have : ¬ b < a := fun w => List.lt_irrefl _ (List.lt_trans q w)
    simp [this]
  · simp [q]
theorem sortI_perm {l m : List Int} (p : l.Perm m) : sortI l = sortI m := by
  refine List.Perm.eq_of_pairwise (le := fun a b => (!decide (b < a)) = true) (fun a b _ _ h1 h2 => ?_) (List.pairwise_mergeSort leI_trans leI_total l) (List.pairwise_mergeSort leI_trans leI_total m) ?_
  · simp at h1 h2; omega
  · exact (List.mergeSort_perm l _).trans (p.trans (List.mergeSort_perm m _).symm)
theorem sortR_perm {l m : List (List Int)} (p : l.Perm m) : sortR l = sortR m := by
  refine List.Perm.eq_of_pairwise (le := fun a b => (!decide (b < a)) = true) (fun a b _ _ h1 h2 => ?_) (List.pairwise_mergeSort leL_trans leL_total l) (List.pairwise_mergeSort leL_trans leL_total m) ?_
  · simp only [Bool.not_eq_true', decide_eq_false_iff_not] at h1 h2
    exact ltL_tri h2 h1
  · exact (List.mergeSort_perm l _).trans (p.trans (List.mergeSort_perm m _).symm)
theorem sortI_mem {l : List Int} {x : Int} : x ∈ sortI l ↔ x ∈ l := (List.mergeSort_perm l _).mem_iff
theorem sortR_mem {l : List (List Int)} {x : List Int} : x ∈ sortR l ↔ x ∈ l := (List.mergeSort_perm l _).mem_iff
theorem sortI_len {l : List Int} : (sortI l).length = l.length := List.length_mergeSort l
theorem sortR_len {l : List (List Int)} : (sortR l).length = l.length := List.length_mergeSort l
def minL (x : List Int) (r : List (List Int)) : List Int := r.foldl (fun a y => if y < a then y else a) x
theorem min_ITs {x : List Int} {r : List (List Int)} : mMin [.lst ((x :: r).map IT)] h = .ok (IT (minL x r)) h := by
  have fm : ∀ (r : List (List Int)) (x : List Int), foldMin h (IT x) (r.map IT) = IT (minL x r) := by
    intro r
    induction r with
    | nil => intro x; rfl
    | cons y r ih =>
      intro x
      have := ih (if y < x then y else x)
      unfold foldMin minL at this ⊢
      rw [List.map_cons, List.foldl_cons, List.foldl_cons, ltA_IT]
      rw [← this]
      congr 1
      by_cases q : y < x <;> simp [q]
  have pds := pd_ITs (h := h) (n := 58) (x :: r)
  have al := alikeB_ITs (l := x :: r)
  have nn : noNonD ((x :: r).map fun r => .tuple (r.map PyData.int)) = true := by
    unfold noNonD
    simp [isNonD]
  unfold mMin
  show (match some ((x :: r).map IT) with | some (y :: s) => (match (y :: s).mapM (pd 60 h) with | some ds => if alikeB ds && noNonD ds then Res.ok (foldMin h y s) h else .stuck | none => .stuck) | _ => .stuck) = _
  show (match ((x :: r).map IT).mapM (pd 60 h) with | some ds => if alikeB ds && noNonD ds then Res.ok (foldMin h (IT x) (r.map IT)) h else .stuck | none => .stuck) = _
  rw [pds]
  show (if alikeB _ && noNonD _ then Res.ok (foldMin h (IT x) (r.map IT)) h else .stuck) = _
  rw [al, nn, fm]; rfl
theorem minL_spec : ∀ (r : List (List Int)) (x : List Int), minL x r ∈ x :: r ∧ ∀ y ∈ x :: r, ¬ y < minL x r
  | [], x => ⟨List.mem_cons_self, fun y hy => by
    have : y = x := by simpa using hy
    subst this
    exact List.lt_irrefl _⟩
  | z :: r, x => by
    obtain ⟨h1, h2⟩ := minL_spec r (if z < x then z else x)
    have e : minL x (z :: r) = minL (if z < x then z else x) r := rfl
    rw [e]
    refine ⟨?_, fun y hy => ?_⟩
    · rcases List.mem_cons.mp h1 with q | q
      · rw [q]
        split
        · exact List.mem_cons_of_mem _ List.mem_cons_self
        · exact List.mem_cons_self
      · exact List.mem_cons_of_mem _ (List.mem_cons_of_mem _ q)
    · have hm := h2 _ List.mem_cons_self
      have le : ∀ w : List Int, ¬ w < (if z < x then z else x) → ¬ w < minL (if z < x then z else x) r := fun w hw hh => by
        by_cases q : minL (if z < x then z else x) r < (if z < x then z else x)
        · exact hw (List.lt_trans hh q)
        · rw [ltL_tri q hm] at hh
          exact hw hh
      rcases List.mem_cons.mp hy with rfl | hy
      · refine le _ ?_
        split
        · rename_i q
          exact fun w => List.lt_irrefl _ (List.lt_trans w q)
        · exact List.lt_irrefl _
      · rcases List.mem_cons.mp hy with rfl | hy
        · refine le _ ?_
          split
          · exact List.lt_irrefl _
          · rename_i q
            exact q
        · exact h2 _ (List.mem_cons_of_mem _ hy)
theorem minL_eq {x y : List Int} {r s : List (List Int)} (e : ∀ z, z ∈ x :: r ↔ z ∈ y :: s) : minL x r = minL y s := by
  obtain ⟨a1, a2⟩ := minL_spec r x
  obtain ⟨b1, b2⟩ := minL_spec s y
  exact ltL_tri (b2 _ ((e _).mp a1)) (a2 _ ((e _).mpr b1))
end
/-! ### rotations -/
def Rot (l r : List Int) : Prop := ∃ a b, l = a ++ b ∧ r = b ++ a
def Dih (l r : List Int) : Prop := Rot l r ∨ Rot l.reverse r
theorem Rot.refl (l : List Int) : Rot l l := ⟨l, [], by simp, by simp⟩
theorem Rot.symm {l r : List Int} : Rot l r → Rot r l := fun ⟨a, b, e, f⟩ => ⟨b, a, f, e⟩
theorem Rot.trans {l r s : List Int} (h1 : Rot l r) (h2 : Rot r s) : Rot l s := by
  obtain ⟨a, b, rfl, rfl⟩ := h1
  obtain ⟨c, d, e, rfl⟩ := h2
  rcases List.append_eq_append_iff.mp e with ⟨t, e1, e2⟩ | ⟨t, e1, e2⟩
  · -- c = b ++ t, a = t ++ d
    subst e1 e2
    exact ⟨t, d ++ b, by simp, by simp⟩
  · subst e1 e2
    exact ⟨a ++ c, t, by simp, by simp⟩
theorem Rot.rev {l r : List Int} : Rot l r → Rot l.reverse r.reverse := fun ⟨a, b, e, f⟩ => ⟨b.reverse, a.reverse, by rw [e, List.reverse_append], by rw [f, List.reverse_append]⟩
theorem Dih.symm {l r : List Int} : Dih l r → Dih r l
  | .inl h => .inl h.symm
  | .inr h => .inr (by simpa using h.symm.rev)
theorem Dih.trans {l r s : List Int} : Dih l r → Dih r s → Dih l s
  | .inl h, .inl g => .inl (h.trans g)
  | .inl h, .inr g => .inr (h.rev.trans g)
  | .inr h, .inl g => .inr (h.trans g)
  | .inr h, .inr g => .inl (by simpa using h.rev.trans g)
theorem Dih.refl (l : List Int) : Dih l l := .inl (.refl l)
theorem Dih.len {l r : List Int} : Dih l r → r.length = l.length := fun h => by
  rcases h with ⟨a, b, e, rfl⟩ | ⟨a, b, e, rfl⟩
  · rw [e]; simp; omega
  · have : l.length = l.reverse.length := by simp
    rw [this, e]; simp; omega
theorem Dih.mem {l r : List Int} (h : Dih l r) {x : Int} : x ∈ r ↔ x ∈ l := by
  rcases h with ⟨a, b, e, rfl⟩ | ⟨a, b, e, rfl⟩
  · rw [e]; simp [or_comm]
  · have : x ∈ l ↔ x ∈ l.reverse := by simp
    rw [this, e]; simp [or_comm]
def rotA (k : Nat) (l : List Int) : List Int := l.drop k ++ l.take k
theorem rotA_rot {k : Nat} {l : List Int} : Rot l (rotA k l) := ⟨l.take k, l.drop k, (List.take_append_drop k l).symm, rfl⟩
/-- each turning is one by less places than there are -/
theorem Rot.at_ {l r : List Int} (h : Rot l r) : ∃ k, k < max 1 l.length ∧ r = rotA k l := by
  obtain ⟨a, b, rfl, rfl⟩ := h
  cases b with
  | nil => exact ⟨0, by omega, by simp [rotA]⟩
  | cons x b => exact ⟨a.length, by simp; omega, by simp [rotA]⟩
end Law

namespace Law
open PySem PySem.Spec L2 AVL
/-! ### lists made of lists -/
section
variable {α β : Type} {ok : AH → Bool} {h h1 : AH} {i j : Nat} {fe : EM} {sl slw : SL} {f q : α → AV} {f1 : β → AV} {it it1 : IM} {vs vs1 : List Nat} {F : MF} {args : List AV} {b : SM} {n m : Nat} {v : AV} {r : Res AV}
theorem mk_go {n : Nat} (hs : args.map some ++ List.replicate n none = sl) (e : b sl h = .ret v h1) (l : leave h.length v h1 = r) : mkF n false b args h = r := by
  unfold mkF
  rw [hs, e]; exact l
theorem mkK_go {n : Nat} (hs : args.map some ++ List.replicate n none = sl) (e : b sl h = .ret v h1) (l : leaveK h.length v h1 = r) : mkF n true b args h = r := by
  unfold mkF
  rw [hs, e]; exact l
theorem lv_same {x : AV} (b : bnd 0 x = true) : leave h.length x h = .ok x h := by
  rw [leave_low (bnd_of b), List.take_length]
theorem lv_here {x : AV} (b : bnd h.length x = true) : leave h.length x h = .ok x h := by
  rw [leave_low b, List.take_length]
theorem compL_map (okh : ok h = true) : ∀ (l : List α) (acc : List AV), (∀ x ∈ l, fe (slw.set i (some (f x))) h = .ok (q x) h) → compL ok (AVL.gName i) tTrue fe slw (l.map f) acc h = .ok (acc ++ l.map q) h
  | [], acc, _ => by
    show (if ok h then Res.ok acc h else .stuck) = _
    rw [if_pos okh]; simp
  | x :: l, acc, e => by
    rw [List.map_cons, List.map_cons]
    show (if ok h then ((fe (slw.set i (some (f x))) h).nx.bind fun z h3 => compL ok (AVL.gName i) tTrue fe slw (l.map f) (acc ++ [z]) h3) else .stuck) = _
    rw [if_pos okh, e x List.mem_cons_self]
    show compL ok (AVL.gName i) tTrue fe slw (l.map f) (acc ++ [q x]) h = _
    rw [compL_map okh l _ fun y hy => e y (List.mem_cons_of_mem _ hy)]
    simp
theorem compLX_map (okh : ok h = true) : ∀ (l : List α) (acc : List AV), (∀ x ∈ l, fe (slw.set i (some (f x))) h = .ok (q x) h) → compLX ok (AVL.gName i) tTrue fe slw (l.map f) acc h = .ok (acc ++ l.map q) h
  | [], acc, _ => by
    show (if ok h then Res.ok acc h else .stuck) = _
    rw [if_pos okh]; simp
  | x :: l, acc, e => by
    rw [List.map_cons, List.map_cons]
    show (if ok h then ((fe (slw.set i (some (f x))) h).bind fun z h3 => compLX ok (AVL.gName i) tTrue fe slw (l.map f) (acc ++ [z]) h3) else .stuck) = _
    rw [if_pos okh, e x List.mem_cons_self]
    show compLX ok (AVL.gName i) tTrue fe slw (l.map f) (acc ++ [q x]) h = _
    rw [compLX_map okh l _ fun y hy => e y (List.mem_cons_of_mem _ hy)]
    simp
theorem compL2_map {m : α → List β} {q : α → β → AV} (okh : ok h = true) : ∀ (l : List α) (acc : List AV),
    (∀ x ∈ l, ∃ ok1, it1 (slw.set i (some (f x))) h = .ok ((m x).map f1, ok1) h ∧ ok1 h = true ∧ (m x).length ≤ 1000) → (∀ x ∈ l, ∀ y ∈ m x, fe ((wipeA (slw.set i (some (f x))) vs1).set j (some (f1 y))) h = .ok (q x y) h) → acc.length + l.length * 1000 ≤ 1000000 →
    compL2 ok (AVL.gName i) tTrue it1 (AVL.gName j) tTrue fe slw vs1 (l.map f) acc h = .ok (acc ++ l.flatMap fun x => (m x).map (q x)) h
  | [], acc, _, _, _ => by
    show (if ok h then Res.ok acc h else .stuck) = _
    rw [if_pos okh]; simp
  | x :: l, acc, e, e2, hl => by
    obtain ⟨ok1, a1, a2, a3⟩ := e x List.mem_cons_self
    rw [List.map_cons]
    show (if ok h then ((it1 (slw.set i (some (f x))) h).nx.bind fun p h3 => if acc.length + p.1.length ≤ sizeLine then (compL p.2 (AVL.gName j) tTrue fe (wipeA (slw.set i (some (f x))) vs1) p.1 acc h3).nx.bind fun acc' h4 => compL2 ok (AVL.gName i) tTrue it1 (AVL.gName j) tTrue fe slw vs1 (l.map f) acc' h4 else .stuck) else .stuck) = _
    rw [if_pos okh, a1]
    show (if acc.length + ((m x).map f1).length ≤ sizeLine then (compL ok1 (AVL.gName j) tTrue fe (wipeA (slw.set i (some (f x))) vs1) ((m x).map f1) acc h).nx.bind fun acc' h4 => compL2 ok (AVL.gName i) tTrue it1 (AVL.gName j) tTrue fe slw vs1 (l.map f) acc' h4 else .stuck) = _
    simp only [List.length_cons] at hl
    rw [if_pos (by rw [sizeLine_eq]; simp; omega), compL_map a2 (q := q x) (m x) acc (e2 x List.mem_cons_self)]
    show compL2 ok (AVL.gName i) tTrue it1 (AVL.gName j) tTrue fe slw vs1 (l.map f) (acc ++ (m x).map (q x)) h = _
    rw [compL2_map okh l _ (fun y hy => e y (List.mem_cons_of_mem _ hy)) (fun y hy => e2 y (List.mem_cons_of_mem _ hy)) (by simp; omega)]
    simp
theorem eComp_map {l : List α} (a : it sl h = .ok (l.map f, ok) h1) (okh : ok h1 = true) (hl : l.length ≤ 100000) (hw : wipeA sl vs = slw) (e : ∀ x ∈ l, fe (slw.set i (some (f x))) h1 = .ok (q x) h1) : eComp false it (AVL.gName i) tTrue fe vs sl h = .ok (.lst (l.map q)) h1 := by
  unfold eComp
  rw [a]
  show (if lineOk (l.map f) then (compL ok (AVL.gName i) tTrue fe (wipeA sl vs) (l.map f) [] h1).bind fun acc h2 => mkL false acc h2 else .stuck) = _
  rw [if_pos (by unfold lineOk; rw [sizeLine_eq]; simp; omega), hw, compL_map okh l [] e]
  rfl
theorem eCompN_map {l : List α} (a : it sl h = .ok (l.map f, ok) h1) (okh : ok h1 = true) (hl : l.length ≤ 100000) (hw : wipeA sl vs = slw) (e : ∀ x ∈ l, fe (slw.set i (some (f x))) h1 = .ok (q x) h1) : eComp true it (AVL.gName i) tTrue fe vs sl h = .ok (.ref h1.length) (h1 ++ [.lst (l.map q)]) := by
  unfold eComp
  rw [a]
  show (if lineOk (l.map f) then (compL ok (AVL.gName i) tTrue fe (wipeA sl vs) (l.map f) [] h1).bind fun acc h2 => mkL true acc h2 else .stuck) = _
  rw [if_pos (by unfold lineOk; rw [sizeLine_eq]; simp; omega), hw, compL_map okh l [] e]
  rfl
theorem eCompX_map {l : List α} (a : it sl h = .ok (l.map f, ok) h1) (okh : ok h1 = true) (hl : l.length ≤ 100000) (hw : wipeA sl vs = slw) (e : ∀ x ∈ l, fe (slw.set i (some (f x))) h1 = .ok (q x) h1) : eCompX false it (AVL.gName i) tTrue fe vs sl h = .ok (.lst (l.map q)) h1 := by
  unfold eCompX
  rw [a]
  show (if lineOk (l.map f) then (compLX ok (AVL.gName i) tTrue fe (wipeA sl vs) (l.map f) [] h1).bind fun acc h2 => mkL false acc h2 else .stuck) = _
  rw [if_pos (by unfold lineOk; rw [sizeLine_eq]; simp; omega), hw, compLX_map okh l [] e]
  rfl
theorem eComp2_map {l : List α} {m : α → List β} {q : α → β → AV} (a : it sl h = .ok (l.map f, ok) h1) (okh : ok h1 = true) (hl : l.length ≤ 1000) (hw : wipeA sl vs = slw)
    (e : ∀ x ∈ l, ∃ ok1, it1 (slw.set i (some (f x))) h1 = .ok ((m x).map f1, ok1) h1 ∧ ok1 h1 = true ∧ (m x).length ≤ 1000) (e2 : ∀ x ∈ l, ∀ y ∈ m x, fe ((wipeA (slw.set i (some (f x))) vs1).set j (some (f1 y))) h1 = .ok (q x y) h1) :
    eComp2 false it (AVL.gName i) tTrue it1 (AVL.gName j) tTrue fe vs vs1 sl h = .ok (.lst (l.flatMap fun x => (m x).map (q x))) h1 := by
  unfold eComp2
  rw [a]
  show (compL2 ok (AVL.gName i) tTrue it1 (AVL.gName j) tTrue fe (wipeA sl vs) vs1 (l.map f) [] h1).bind (fun acc h2 => mkL false acc h2) = _
  rw [hw, compL2_map okh l [] e e2 (by simp; omega)]
  simp [AVL.Res.bind, mkL]
theorem compL_cons {y z : AV} {r acc : List AV} {R : Res (List AV)} (okh : ok h = true) (e : fe (slw.set i (some y)) h = .ok z h1) (e2 : compL ok (AVL.gName i) tTrue fe slw r (acc ++ [z]) h1 = R) : compL ok (AVL.gName i) tTrue fe slw (y :: r) acc h = R := by
  show (if ok h then ((fe (slw.set i (some y)) h).nx.bind fun z h3 => compL ok (AVL.gName i) tTrue fe slw r (acc ++ [z]) h3) else .stuck) = _
  rw [if_pos okh, e]
  exact e2
theorem eComp_go {nm : Bool} {g : GM} {t : TM} {l acc : List AV} {h2 : AH} {R : Res AV} (a : it sl h = .ok (l, ok) h1) (hl : l.length ≤ 100000) (hw : wipeA sl vs = slw) (e : compL ok g t fe slw l [] h1 = .ok acc h2) (m : mkL nm acc h2 = R) : eComp nm it g t fe vs sl h = R := by
  unfold eComp
  rw [a]
  show (if lineOk l then (compL ok g t fe (wipeA sl vs) l [] h1).bind fun acc h2 => mkL nm acc h2 else .stuck) = _
  rw [if_pos (by unfold lineOk; rw [sizeLine_eq]; simp; omega), hw, e]
  exact m
theorem rangeL_map {n : Nat} : rangeL 0 n = (List.range n).map fun k : Nat => AV.int (k : Int) := by
  unfold rangeL
  refine List.map_congr_left fun k _ => ?_
  rw [Int.zero_add]
/-- a for that leaves the heap as it is -/
theorem forL_keep (okh : ok h = true) {b : SM} : ∀ (l : List α) (sl : SL) (P : SL → Prop), P sl → (∀ x ∈ l, ∀ sl, P sl → ∃ sl', b (sl.set i (some (f x))) h = .next sl' h ∧ P sl') → ∃ sl', forL ok (AVL.gName i) b (l.map f) sl h = .next sl' h ∧ P sl'
  | [], sl, P, p, _ => ⟨sl, by
    show (if ok h then SRes.next sl h else .stuck) = _
    rw [if_pos okh], p⟩
  | x :: l, sl, P, p, e => by
    obtain ⟨sl1, e1, p1⟩ := e x List.mem_cons_self sl p
    obtain ⟨sl2, e2, p2⟩ := forL_keep okh l sl1 P p1 fun y hy => e y (List.mem_cons_of_mem _ hy)
    refine ⟨sl2, ?_, p2⟩
    rw [List.map_cons]
    show (if ok h then (match b (sl.set i (some (f x))) h with | .next sl2 h2 => forL ok (AVL.gName i) b (l.map f) sl2 h2 | .cont sl2 h2 => forL ok (AVL.gName i) b (l.map f) sl2 h2 | .brk sl2 h2 => .next sl2 h2 | x => x) else .stuck) = _
    rw [if_pos okh, e1]
    exact e2
theorem forL_nil {g : GM} (okh : ok h = true) : forL ok g b [] sl h = .next sl h := by
  show (if ok h then SRes.next sl h else .stuck) = _
  rw [if_pos okh]
theorem forL_cons {y : AV} {r : List AV} {sl1 sl2 : SL} {h2 h3 : AH} {g : GM} {R : SRes} (okh : ok h = true) (eg : g y sl h = some (sl1, h2)) (e : b sl1 h2 = .next sl2 h3) (e2 : forL ok g b r sl2 h3 = R) : forL ok g b (y :: r) sl h = R := by
  show (if ok h then (match g y sl h with | none => .stuck | some (sl1, h1) => match b sl1 h1 with | .next sl2 h2 => forL ok g b r sl2 h2 | .cont sl2 h2 => forL ok g b r sl2 h2 | .brk sl2 h2 => .next sl2 h2 | x => x) else SRes.stuck) = _
  rw [if_pos okh, eg]
  show (match b sl1 h2 with | .next sl2 h2 => forL ok g b r sl2 h2 | .cont sl2 h2 => forL ok g b r sl2 h2 | .brk sl2 h2 => .next sl2 h2 | x => x) = _
  rw [e]
  exact e2
end
section
variable {sl : SL} {h h1 : AH} {t : TM} {x y : AV}
theorem tNot_no (a : t sl h = .ok true h1) : AVL.tNot t sl h = .ok false h1 := by
  unfold AVL.tNot
  rw [a]; rfl
theorem tNot_yes (a : t sl h = .ok false h1) : AVL.tNot t sl h = .ok true h1 := by
  unfold AVL.tNot
  rw [a]; rfl
theorem eNot_no {fa : EM} (a : fa sl h = .ok (.bl true) h1) : eNot fa sl h = .ok (.bl false) h1 := by
  unfold eNot
  rw [a]; rfl
theorem eNot_yes {fa : EM} (a : fa sl h = .ok (.bl false) h1) : eNot fa sl h = .ok (.bl true) h1 := by
  unfold eNot
  rw [a]; rfl
variable {i j : Int}
theorem lt_no (q : j ≤ i) : mLt (.int i) (.int j) h = .ok (.bl false) h := by
  show Res.ok (AV.bl (decide (i < j))) h = _
  rw [decide_eq_false (by omega)]
theorem lt_yes (q : i < j) : mLt (.int i) (.int j) h = .ok (.bl true) h := by
  show Res.ok (AV.bl (decide (i < j))) h = _
  rw [decide_eq_true q]
theorem gt_no (q : i ≤ j) : mGt (.int i) (.int j) h = .ok (.bl false) h := by
  show Res.ok (AV.bl (decide (j < i))) h = _
  rw [decide_eq_false (by omega)]
theorem gt_yes (q : j < i) : mGt (.int i) (.int j) h = .ok (.bl true) h := by
  show Res.ok (AV.bl (decide (j < i))) h = _
  rw [decide_eq_true q]
/-- one and the same datum -/
theorem eq_yes {d : PyData} (a : pd 60 h x = some d) (b : pd 60 h y = some d) (e : PyData.eqv d d = true) : mEq false x y h = .ok (.bl true) h := by
  unfold mEq
  rw [a, b]
  show Res.ok (AV.bl (PyData.eqv d d != false)) h = _
  rw [e]; rfl
theorem eq_no {d d' : PyData} (a : pd 60 h x = some d) (b : pd 60 h y = some d') (e : PyData.eqv d d' = false) : mEq false x y h = .ok (.bl false) h := by
  unfold mEq
  rw [a, b]
  show Res.ok (AV.bl (PyData.eqv d d' != false)) h = _
  rw [e]; rfl
theorem ne_yes {d d' : PyData} (a : pd 60 h x = some d) (b : pd 60 h y = some d') (e : PyData.eqv d d' = false) : mEq true x y h = .ok (.bl true) h := by
  unfold mEq
  rw [a, b]
  show Res.ok (AV.bl (PyData.eqv d d' != true)) h = _
  rw [e]; rfl
theorem ne_no {d : PyData} (a : pd 60 h x = some d) (b : pd 60 h y = some d) (e : PyData.eqv d d = true) : mEq true x y h = .ok (.bl false) h := by
  unfold mEq
  rw [a, b]
  show Res.ok (AV.bl (PyData.eqv d d != true)) h = _
  rw [e]; rfl
end
/-- without a dict -/
def noDict : PyData → Bool
  | .dict _ => false
  | .list l => noDicts l
  | .tuple l => noDicts l
  | _ => true
where noDicts : List PyData → Bool
  | [] => true
  | x :: l => noDict x && noDicts l
mutual
theorem eqv_rfl : ∀ d : PyData, noDict d = true → PyData.eqv d d = true
  | .none, _ => by simp [PyData.eqv]
  | .bool _, _ => by simp [PyData.eqv]
  | .int _, _ => by simp [PyData.eqv]
  | .str _, _ => by simp [PyData.eqv]
  | .list l, n => by simp only [PyData.eqv]; exact eqvs_rfl l (by simpa [noDict] using n)
  | .tuple l, n => by simp only [PyData.eqv]; exact eqvs_rfl l (by simpa [noDict] using n)
  | .dict l, n => by simp [noDict] at n
theorem eqvs_rfl : ∀ l : List PyData, noDict.noDicts l = true → PyData.eqvAll l l = true
  | [], _ => by simp [PyData.eqvAll]
  | x :: l, n => by
    have n' : (noDict x && noDict.noDicts l) = true := n
    rw [Bool.and_eq_true] at n'
    simp [PyData.eqvAll, eqv_rfl x n'.1, eqvs_rfl l n'.2]
end
theorem eqv_len : ∀ (a b : List PyData), a.length ≠ b.length → PyData.eqvAll a b = false
  | [], [], h => absurd rfl h
  | [], _ :: _, _ => by simp [PyData.eqvAll]
  | _ :: _, [], _ => by simp [PyData.eqvAll]
  | x :: a, y :: b, h => by
    have := eqv_len a b (by simpa using h)
    simp [PyData.eqvAll, this]
/-- a text is itself -/
theorem ne_str {s : Str} {h : AH} (z : PyData.strOk s = true) : mEq true (.str s) (.str s) h = .ok (.bl false) h := by
  have e : pd 60 h (.str s) = some (.str s) := by
    show (if PyData.strOk s then some (PyData.str s) else none) = _
    rw [if_pos z]
  exact ne_no e e (by simp [PyData.eqv])
theorem eq_str {s : Str} {h : AH} (z : PyData.strOk s = true) : mEq false (.str s) (.str s) h = .ok (.bl true) h := by
  have e : pd 60 h (.str s) = some (.str s) := by
    show (if PyData.strOk s then some (PyData.str s) else none) = _
    rw [if_pos z]
  exact eq_yes e e (by simp [PyData.eqv])
end Law

namespace Law
open PySem PySem.Spec L2 AVL
/-! ### data of numbers, rows of them: their texts -/
def numD : PyData → Bool
  | .none => true
  | .bool _ => true
  | .int i => decide (i.natAbs.log2 < 1920)
  | .list l => numDs l
  | .tuple l => numDs l
  | _ => false
where numDs : List PyData → Bool
  | [] => true
  | x :: l => numD x && numDs l
theorem strOk_iff {x : Str} : PyData.strOk x = true ↔ ∀ c ∈ x.cps.toList, c < 0x110000 := by
  unfold PyData.strOk
  simp [← Array.all_toList]
theorem strOk_app {a b : Str} (h1 : PyData.strOk a = true) (h2 : PyData.strOk b = true) : PyData.strOk (a ++ b) = true := by
  rw [strOk_iff] at *
  intro c hc
  rw [PyProof.Rows.mem_cps_append] at hc
  rcases hc with hc | hc
  · exact h1 c hc
  · exact h2 c hc
theorem strOk_of (s : String) : PyData.strOk (Str.ofString s) = true := by
  rw [strOk_iff]
  intro c hc
  rw [PyProof.Rows.signs_ofString] at hc
  obtain ⟨d, _, rfl⟩ := List.mem_map.mp hc
  have := d.valid
  show d.val.toNat < 1114112
  rcases this with h | h
  · exact Nat.lt_trans h (by decide)
  · exact h.2
theorem strOk_join {sep : Str} {ts : List Str} (h1 : PyData.strOk sep = true) (h : ∀ t ∈ ts, PyData.strOk t = true) : PyData.strOk (Str.join sep ts) = true := by
  rw [strOk_iff] at *
  intro c hc
  rw [PyProof.Rows.mem_join] at hc
  rcases hc with ⟨t, ht, hc⟩ | ⟨_, hc⟩
  · exact strOk_iff.mp (h t ht) c hc
  · exact h1 c hc
theorem strOk_from : ∀ (ts : List Str) (k : Nat) (acc : Str), PyData.strOk acc = true → (∀ t ∈ ts, PyData.strOk t = true) → PyData.strOk (textFrom k acc ts) = true
  | [], k, acc, h, _ => h
  | t :: ts, k, acc, h, h2 => strOk_from ts (k + 1) _ (strOk_app (strOk_app h (strOk_of _)) (h2 t List.mem_cons_self)) fun u hu => h2 u (List.mem_cons_of_mem _ hu)
mutual
theorem numD_text : ∀ d : PyData, numD d = true → PyData.strOk d.shown = true
  | .none, _ => by simp only [PyData.shown]; exact strOk_of _
  | .bool b, _ => by
    simp only [PyData.shown]
    cases b
    · exact strOk_of _
    · exact strOk_of _
  | .int i, _ => by simp only [PyData.shown]; exact strOk_of _
  | .list l, n => by
    simp only [PyData.shown]
    exact strOk_app (strOk_from _ _ _ (strOk_of _) (numDs_text l (by simpa [numD] using n))) (strOk_of _)
  | .tuple l, n => by
    simp only [PyData.shown]
    exact strOk_app (strOk_app (strOk_of _) (strOk_join (strOk_of _) (numDs_text l (by simpa [numD] using n)))) (strOk_of _)
  | .str _, n => by simp [numD] at n
  | .dict _, n => by simp [numD] at n
theorem numDs_text : ∀ l : List PyData, numD.numDs l = true → ∀ t ∈ PyData.shownAll l, PyData.strOk t = true
  | [], _ => fun t ht => by simp [PyData.shownAll] at ht
  | x :: l, n => by
    have n' : (numD x && numD.numDs l) = true := n
    rw [Bool.and_eq_true] at n'
    intro t ht
    simp only [PyData.shownAll, List.mem_cons] at ht
    rcases ht with rfl | ht
    · exact numD_text x n'.1
    · exact numDs_text l n'.2 t ht
end
mutual
theorem numD_show : ∀ d : PyData, numD d = true → d.showable = true ∧ d.hasDict = false ∧ d.leavesShort 1921 = true ∧ noDict d = true
  | .none, _ => ⟨by simp [PyData.showable], by simp [PyData.hasDict], by simp [PyData.leavesShort], by simp [noDict]⟩
  | .bool b, _ => ⟨by simp [PyData.showable], by simp [PyData.hasDict], by simp [PyData.leavesShort], by simp [noDict]⟩
  | .int i, n => by
    have n' : i.natAbs.log2 < 1920 := by simpa [numD] using n
    refine ⟨by simpa [PyData.showable] using n', by simp [PyData.hasDict], ?_, by simp [noDict]⟩
    simp only [PyData.leavesShort, PyData.shown]
    exact decide_eq_true (PyProof.Rows.int_text_len_1921 n')
  | .list l, n => by
    obtain ⟨a, b, c, d⟩ := numDs_show l (by simpa [numD] using n)
    exact ⟨by simpa [PyData.showable] using a, by simpa [PyData.hasDict] using b, by simpa [PyData.leavesShort] using c, by simpa [noDict] using d⟩
  | .tuple l, n => by
    obtain ⟨a, b, c, d⟩ := numDs_show l (by simpa [numD] using n)
    exact ⟨by simpa [PyData.showable] using a, by simpa [PyData.hasDict] using b, by simpa [PyData.leavesShort] using c, by simpa [noDict] using d⟩
  | .str _, n => by simp [numD] at n
  | .dict _, n => by simp [numD] at n
theorem numDs_show : ∀ l : List PyData, numD.numDs l = true → PyData.showableAll l = true ∧ PyData.hasDictAll l = false ∧ PyData.leavesShortAll 1921 l = true ∧ noDict.noDicts l = true
  | [], _ => ⟨by simp [PyData.showableAll], by simp [PyData.hasDictAll], by simp [PyData.leavesShortAll], by simp [noDict.noDicts]⟩
  | x :: l, n => by
    have n' : (numD x && numD.numDs l) = true := n
    rw [Bool.and_eq_true] at n'
    obtain ⟨a1, b1, c1, d1⟩ := numD_show x n'.1
    obtain ⟨a, b, c, d⟩ := numDs_show l n'.2
    exact ⟨by simp [PyData.showableAll, a1, a], by simp [PyData.hasDictAll, b1, b], by simp [PyData.leavesShortAll, c1, c], by simp [noDict.noDicts, d1, d]⟩
end
section
variable {h h' : AH} {x y : AV} {d : PyData}
theorem repr_num (e : pd 60 h x = some d) (n : numD d = true) (w : d.weight ≤ 8000) : mRepr [x] h = .ok (.str d.shown) h := by
  obtain ⟨a, b, c, _⟩ := numD_show d n
  have l := PyData.shown_le 1921 (by decide) d c
  unfold mRepr
  simp only [e]
  rw [a, b, if_pos]
  simp only [Bool.true_and, Bool.not_false, decide_eq_true_eq]
  rw [sizeLine_eq]
  omega
theorem eqv_num (n : numD d = true) : PyData.eqv d d = true := eqv_rfl d (numD_show d n).2.2.2
theorem ne_text (n : numD d = true) : mEq true (.str d.shown) (.str d.shown) h = .ok (.bl false) h := ne_str (numD_text d n)
theorem eq_text (n : numD d = true) : mEq false (.str d.shown) (.str d.shown) h = .ok (.bl true) h := eq_str (numD_text d n)
end
theorem numDs_map {α : Type} {f : α → PyData} {l : List α} (h : ∀ x ∈ l, numD (f x) = true) : numD.numDs (l.map f) = true := by
  induction l with
  | nil => rfl
  | cons x l ih =>
    show (numD (f x) && numD.numDs (l.map f)) = true
    rw [h x List.mem_cons_self, ih fun y hy => h y (List.mem_cons_of_mem _ hy)]; rfl
theorem weights_map {α : Type} {f : α → PyData} {B : Nat} {l : List α} (h : ∀ x ∈ l, (f x).weight ≤ B) : PyData.weightAll (l.map f) ≤ l.length * (B + 1) := by
  induction l with
  | nil => simp [PyData.weightAll]
  | cons x l ih =>
    have h1 := h x List.mem_cons_self
    have h2 := ih fun y hy => h y (List.mem_cons_of_mem _ hy)
    rw [List.map_cons]
    simp only [PyData.weightAll, List.length_cons]
    rw [Nat.succ_mul]
    omega
theorem weight_int {i : Int} {n : Nat} (h0 : 0 < n) (h : i.natAbs < 2 ^ n) : (PyData.int i).weight ≤ n := by
  simp only [PyData.weight]
  split
  · omega
  · have := PySem.Flt.log2_lt_of h0 h
    omega
theorem numD_int {i : Int} {n : Nat} (h0 : 0 < n) (h : i.natAbs < 2 ^ n) (hn : n ≤ 1920) : numD (.int i) = true := by
  have := PySem.Flt.log2_lt_of h0 h
  simp [numD]; omega
end Law

namespace Law
open PySem PySem.Spec L2 AVL
local macro_rules
  | `(tactic| decreasing_trivial_pre_omega) => `(tactic| repeat' (first | with_reducible assumption | exact eVar_ok rfl | exact eC_ok | exact nil_ok | exact oNo_ok | with_reducible apply cons_ok | with_reducible apply eBin_go | with_reducible apply eCall_go | with_reducible apply eBlt_go | with_reducible apply eTup_go | with_reducible apply eLst_go | with_reducible apply eLstN_go | with_reducible apply eAttr_go | with_reducible apply eSl_go | with_reducible apply oPart_go | with_reducible apply eRev_go | with_reducible apply eMt_go | with_reducible apply eUn_go | with_reducible apply eCallD_go | with_reducible apply star_go | with_reducible apply tV_go | exact rfl))
/-! ### lists that are written, stirred -/
theorem erase_perm {α : Type} : ∀ (l : List α) (i : Nat) (hi : i < l.length), (l[i] :: l.eraseIdx i).Perm l
  | x :: l, 0, _ => by simp
  | x :: l, i + 1, hi => by
    have := erase_perm l i (by simpa using hi)
    simp only [List.getElem_cons_succ, List.eraseIdx_cons_succ]
    exact (List.Perm.swap _ _ _).trans (this.cons x)
section
variable {C D : AH} {c : List Int} {N : Nat} {h : AH} {a b x : Cell} {l : List AV} {y : AV}
theorem Pen.at1 (p : Pen (C ++ a :: D) c N h) : h[C.length + 1]? = some a := by
  rw [p.get, List.getElem?_append_right (Nat.le_refl _), Nat.sub_self]; rfl
theorem Pen.at2 (p : Pen (C ++ a :: b :: D) c N h) : h[C.length + 2]? = some b := by
  rw [p.get (k := C.length + 1), List.getElem?_append_right (by omega), show C.length + 1 - C.length = 1 by omega]; rfl
theorem Pen.put1 (p : Pen (C ++ a :: D) c N h) : Pen (C ++ x :: D) c N (h.set (C.length + 1) x) := by
  have := p.set (k := C.length) (x := x)
  rw [List.set_append_right _ _ (Nat.le_refl _), Nat.sub_self] at this
  exact this
theorem Pen.put2 (p : Pen (C ++ a :: b :: D) c N h) : Pen (C ++ a :: x :: D) c N (h.set (C.length + 2) x) := by
  have := p.set (k := C.length + 1) (x := x)
  rw [List.set_append_right _ _ (by omega), show C.length + 1 - C.length = 1 by omega] at this
  exact this
theorem len_ref {n : Nat} (e : h[n]? = some (.lst l)) : mLen [.ref n] h = .ok (.int (l.length : Nat)) h := by
  unfold mLen lenA
  simp only [e]
theorem ty_ref {n : Nat} (e : h[n]? = some (.lst l)) : tyA h (.ref n) = some "list" := by
  unfold tyA
  simp only [e]
theorem app_ref {n : Nat} (e : h[n]? = some (.lst l)) (b : bnd (n + 1) y = true) (k : l.length < 100000) : mApp (.ref n) [y] h = .ok .non (h.set n (.lst (l ++ [y]))) := by
  unfold mApp
  simp only [e]
  rw [if_pos]
  rw [b, sizeLine_eq]
  simp; omega
theorem pop_ref {n k : Nat} (e : h[n]? = some (.lst l)) (hk : k < l.length) (hl : l.length < 100000) : mPop (.ref n) [.int (k : Int)] h = .ok l[k] (h.set n (.lst (l.eraseIdx k))) := by
  have s : seqIndex? (k : Int) l.length = some k := by
    unfold seqIndex?
    have : ¬ (k : Int) < 0 := by omega
    simp [this, hk]
  unfold mPop
  simp only [e, s]
  rw [if_pos (by simp; omega)]
  simp [hk]
theorem list_ok {x : AV} (i : items h x = some l) : mList true [x] h = .ok (.ref h.length) (h ++ [.lst l]) := by
  unfold mList
  simp only [i]
  rfl
theorem listF_ok {x : AV} (i : items h x = some l) : mList false [x] h = .ok (.lst l) h := by
  unfold mList
  simp only [i]
  rfl
theorem tuple_ok {x : AV} (i : items h x = some l) : mTuple [x] h = .ok (.tup l) h := by
  unfold mTuple
  simp only [i]
theorem bnd_at {m : Nat} : ∀ {l : List AV}, bnds m l = true → ∀ x ∈ l, bnd m x = true
  | [], _ => fun x hx => nomatch hx
  | y :: l, b => fun x hx => by
    have b' : (bnd m y && bnds m l) = true := b
    rw [Bool.and_eq_true] at b'
    rcases List.mem_cons.mp hx with rfl | hx
    · exact b'.1
    · exact bnd_at b'.2 x hx
theorem bnd_up {m k : Nat} {x : AV} (b : bnd m x = true) (hk : m ≤ k) : bnd k x = true := up x b
where
  up : ∀ x, bnd m x = true → bnd k x = true
  | .non, _ => rfl
  | .bl _, _ => rfl
  | .int _, _ => rfl
  | .str _, _ => rfl
  | .ty _, _ => rfl
  | .cls _, _ => rfl
  | .tup l, b => ups l b
  | .lst l, b => ups l b
  | .klst l, b => ups l b
  | .dct _ l, b => ups l b
  | .obj _ _ l, b => ups l b
  | .exc _ _ l, b => ups l b
  | .ref j, b => by
    have : j < m := by simpa [bnd] using b
    show decide (j < k) = true
    exact decide_eq_true (by omega)
  ups : ∀ l, bnds m l = true → bnds k l = true
  | [], _ => rfl
  | x :: l, b => by
    have b' : (bnd m x && bnds m l) = true := b
    rw [Bool.and_eq_true] at b'
    show (bnd k x && bnds k l) = true
    rw [up x b'.1, ups l b'.2]; rfl
end
def stirB (F : MF) : SM := sExpr (eMt "list" mApp (eVar 3) (aCons (eMt "list" mPop (eVar 2) (aCons (eCall 2 F (aCons (eVar 0) (aCons (eBlt mLen (aCons (eVar 2) (aNil))) (aNil)))) (aNil))) (aNil)))
theorem stir_loop {c : List Int} {F : MF} (D : Draws c F) {C : AH} {v1 : Option AV} : ∀ (l left found : List AV) (N : Nat) (h : AH) (o : Option AV), l.length = left.length → Pen (C ++ [.lst left, .lst found]) c N h → N + l.length < 800000 → left.length + found.length < 10000 → bnds (C.length + 1) left = true →
    ∃ o' h' found', forL okAll (AVL.gName 4) (stirB F) l [some (.ref 0), v1, some (.ref (C.length + 1)), some (.ref (C.length + 2)), o] h = .next [some (.ref 0), v1, some (.ref (C.length + 1)), some (.ref (C.length + 2)), o'] h' ∧ Pen (C ++ [.lst [], .lst found']) c (N + l.length) h' ∧ found'.Perm (found ++ left)
  | [], left, found, N, h, o, e, p, _, _, _ => by
    have : left = [] := List.length_eq_zero_iff.mp (by rw [← e]; rfl)
    subst this
    exact ⟨o, h, found, forL_nil rfl, p, by simp⟩
  | y :: r, left, found, N, h, o, e, p, hN, hl, b => by
    simp only [List.length_cons] at e hN ⊢
    obtain ⟨d, h1, e1, p1, d0, d1⟩ := draw_small D p (by omega) (many := (left.length : Nat)) (by omega) (by omega)
    obtain ⟨k, rfl⟩ := Int.eq_ofNat_of_zero_le d0
    have hk : k < left.length := by omega
    have g0 := p.at1
    have g1 := p1.at1
    have po := pop_ref g1 hk (by omega)
    have p2 : Pen (C ++ [.lst (left.eraseIdx k), .lst found]) c (N + 1) (h1.set (C.length + 1) (.lst (left.eraseIdx k))) := p1.put1
    have bx : bnd (C.length + 1) left[k] = true := bnd_at b _ (List.getElem_mem hk)
    have ap := app_ref (y := left[k]) p2.at2 (bnd_up bx (by omega)) (by omega)
    have p3 := p2.put2 (x := .lst (found ++ [left[k]]))
    have er : (left.eraseIdx k).length = r.length := by rw [List.length_eraseIdx, if_pos hk]; omega
    obtain ⟨o', h', found', f, q, pm⟩ := stir_loop D (C := C) (v1 := v1) r (left.eraseIdx k) (found ++ [left[k]]) (N + 1) _ (some y) er.symm p3 (by omega) (by simp; omega) (bnds_of fun x hx => bnd_at b x (List.mem_of_mem_eraseIdx hx))
    refine ⟨o', h', found', ?_, ?_, ?_⟩
    · refine forL_cons rfl rfl (?_ : stirB F [some (.ref 0), v1, some (.ref (C.length + 1)), some (.ref (C.length + 2)), some y] h = .next [some (.ref 0), v1, some (.ref (C.length + 1)), some (.ref (C.length + 2)), some y] _) f
      exact expr_ok (eMt_go (eVar_ok rfl) (ty_ref p.at2) (cons_ok (eMt_go (eVar_ok rfl) (ty_ref g0) (cons_ok (eCall_go (cons_ok (eVar_ok rfl) (cons_ok (eBlt_go (cons_ok (eVar_ok rfl) nil_ok) (len_ref g0)) nil_ok)) rfl e1) nil_ok) po) nil_ok) ap)
    · rw [show N + (r.length + 1) = N + 1 + r.length by omega]; exact q
    · refine pm.trans ?_
      rw [List.append_assoc]
      exact List.Perm.append_left found (erase_perm left k hk)
def stirredB (F : MF) : SM := sSeq (sPar [2, 3] (aCons (eBlt (mList true) (aCons (eVar 1) (aNil))) (aCons (eLst true (aNil)) (aNil)))) (sSeq (sFor (itRng1 (aCons (eBlt mLen (aCons (eVar 2) (aNil))) (aNil))) (AVL.gName 4) (stirB F)) (sRet (eVar 3)))
theorem stirred_ok {c : List Int} {F : MF} (D : Draws c F) {C : AH} {N : Nat} {h : AH} {x : AV} {l : List AV} (p : Pen C c N h) (i : items h x = some l) (hN : N + l.length < 800000) (hl : l.length < 1000) (b : bnds (C.length + 1) l = true) :
    ∃ l' h', mkF 3 false (stirredB F) [.ref 0, x] h = .ok (.lst l') h' ∧ Pen C c (N + l.length) h' ∧ l'.Perm l := by
  have p1 : Pen (C ++ [.lst l, .lst []]) c N (h ++ [.lst l] ++ [.lst []]) := by
    have := (p.put [.lst l]).put [.lst []]
    simpa using this
  obtain ⟨o', h', found', f, q, pm⟩ := stir_loop D (C := C) (v1 := some x) (rangeL 0 l.length) l [] N _ none (by simp [rangeL]) p1 (by simp [rangeL]; omega) (by simp; omega) b
  have rl : (rangeL 0 l.length).length = l.length := by simp [rangeL]
  rw [rl] at q
  refine ⟨found', h'.take (C.length + 1), ?_, q.cut, by simpa using pm⟩
  have hn := p.len
  refine mk_go (sl := [some (.ref 0), some x, none, none, none]) rfl (h1 := h') (v := .ref (C.length + 2)) ?_ ?_
  · unfold stirredB
    refine seq_go (sl' := [some (.ref 0), some x, some (.ref (C.length + 1)), some (.ref (C.length + 2)), none]) (h' := h ++ [.lst l] ++ [.lst []]) ?_ ?_
    · have this : sPar [2, 3] (aCons (eBlt (mList true) (aCons (eVar 1) (aNil))) (aCons (eLst true (aNil)) (aNil))) [some (.ref 0), some x, none, none, none] h = .next [some (.ref 0), some x, some (.ref h.length), some (.ref (h ++ [Cell.lst l]).length), none] (h ++ [.lst l] ++ [.lst []]) := par_ok (cons_ok (eBlt_go (cons_ok (eVar_ok rfl) nil_ok) (list_ok i)) (cons_ok (eLstN_go nil_ok rfl) nil_ok)) rfl
      rw [hn, show (h ++ [Cell.lst l]).length = C.length + 2 by simp; omega] at this
      exact this
    · refine seq_go (for_ok (range1_ok (k := (l.length : Nat)) (cons_ok (eBlt_go (cons_ok (eVar_ok rfl) nil_ok) (len_ref p1.at1)) nil_ok) (by unfold b62; simp; omega)) f) (ret_ok (eVar_ok rfl))
  · rw [hn]
    exact leave_lst (by omega) (by rw [q.len]; simp) q.at2 (bnds_of fun y hy => bnd_at b y (by
      have := pm.mem_iff.mp hy
      simpa using this))
end Law

namespace Law
open PySem PySem.Spec L2 AVL
local macro_rules
  | `(tactic| decreasing_trivial_pre_omega) => `(tactic| repeat' (first | with_reducible assumption | exact eVar_ok rfl | exact eC_ok | exact nil_ok | exact oNo_ok | with_reducible apply cons_ok | with_reducible apply eBin_go | with_reducible apply eCall_go | with_reducible apply eBlt_go | with_reducible apply eTup_go | with_reducible apply eLst_go | with_reducible apply eLstN_go | with_reducible apply eAttr_go | with_reducible apply eSl_go | with_reducible apply oPart_go | with_reducible apply eRev_go | with_reducible apply eMt_go | with_reducible apply eUn_go | with_reducible apply eCallD_go | with_reducible apply star_go | with_reducible apply tV_go | exact rfl))
section
variable {C : AH} {c : List Int} {T : Type} {enc : T → AV} {Q : T → Prop} {fe : EM} {slw : SL} {j B lim : Nat}
/-- a list of drawn things -/
theorem compL_draw (step : ∀ (y : AV) (N : Nat) (h : AH), Pen C c N h → N + B < lim → ∃ x h', fe (slw.set j (some y)) h = .ok (enc x) h' ∧ Pen C c (N + B) h' ∧ Q x) : ∀ (l acc : List AV) (N : Nat) (h : AH), Pen C c N h → N + B * l.length < lim →
    ∃ (xs : List T) (h' : AH), compL okAll (AVL.gName j) tTrue fe slw l acc h = .ok (acc ++ xs.map enc) h' ∧ Pen C c (N + B * l.length) h' ∧ xs.length = l.length ∧ ∀ x ∈ xs, Q x
  | [], acc, N, h, p, _ => ⟨[], h, by
    show (if okAll h then Res.ok acc h else .stuck) = _
    rw [if_pos (show okAll h = true from rfl)]; simp, p, rfl, fun x hx => nomatch hx⟩
  | y :: l, acc, N, h, p, hN => by
    simp only [List.length_cons, Nat.mul_succ] at hN ⊢
    obtain ⟨x, h1, e1, p1, q1⟩ := step y N h p (by omega)
    obtain ⟨xs, h2, e2, p2, l2, q2⟩ := compL_draw step l (acc ++ [enc x]) (N + B) h1 p1 (by omega)
    refine ⟨x :: xs, h2, compL_cons rfl e1 (by rw [e2]; simp), ?_, by simp [l2], fun z hz => ?_⟩
    · rw [show N + (B * l.length + B) = N + B + B * l.length by omega]; exact p2
    · rcases List.mem_cons.mp hz with rfl | hz
      · exact q1
      · exact q2 z hz
/-- [.. for x in range(draw(many))] -/
theorem eComp_draw {F : MF} (D : Draws c F) {sl : SL} {vs : List Nat} {many : Int} {A : EM} {N : Nat} {h : AH} (p : Pen C c N h) (hp : sl[0]? = some (some (.ref 0))) (m0 : 0 < many) (m1 : many < 1000) (hw : wipeA sl vs = slw) (lim9 : lim ≤ 900000)
    (step : ∀ (y : AV) (N : Nat) (h : AH), Pen C c N h → N + B < lim → ∃ x h', fe (slw.set j (some y)) h = .ok (enc x) h' ∧ Pen C c (N + B) h' ∧ Q x) (hN : N + 1 + B * many.toNat < lim) :
    ∃ (xs : List T) (h' : AH), eComp false (itRng1 (aCons (eCall 2 F (aCons (eVar 0) (aCons (eC (.int many)) (aNil)))) (aNil))) (AVL.gName j) tTrue fe vs sl h = .ok (.lst (xs.map enc)) h' ∧ Pen C c (N + 1 + B * many.toNat) h' ∧ xs.length < many.toNat ∧ ∀ x ∈ xs, Q x := by
  obtain ⟨d, h1, e1, p1, d0, d1⟩ := draw_small D p (by omega) m0 (by omega)
  have lr : (rangeL 0 d.toNat).length = d.toNat := by simp [rangeL]
  have le : B * d.toNat ≤ B * many.toNat := Nat.mul_le_mul_left _ (by omega)
  obtain ⟨xs, h2, e2, p2, l2, q2⟩ := compL_draw step (rangeL 0 d.toNat) [] (N + 1) h1 p1 (by rw [lr]; omega)
  rw [lr] at l2 p2
  refine ⟨xs, h2, eComp_go (range1_ok (k := d) (cons_ok (eCall_go (cons_ok (eVar_ok hp) (cons_ok eC_ok nil_ok)) rfl e1) nil_ok) ?_) (by rw [lr]; omega) hw e2 rfl, p2.mono (by omega), by omega, q2⟩
  unfold b62
  simp; omega
end
end Law

namespace Law
open PySem PySem.Spec L2 AVL
def topS (i : Nat) : Stmt := PySem.Challenge.pw_roundflatwild_k45_texts_of_signatures.main.body.getD i (.Pass ⟨0, 0, 0, 0⟩)
def isaL0 : List (Tag × Tag × Bool) := [(.ty "NoneType", .ty "bool", false), (.ty "NoneType", .ty "int", false), (.ty "NoneType", .ty "list", false), (.ty "NoneType", .ty "str", false), (.ty "NoneType", .ty "tuple", false), (.ty "NoneType", .own "BadNumber", false), (.ty "NoneType", .own "BadText", false), (.ty "NoneType", .own "BadValue", false), (.ty "NoneType", .own "Signature", false), (.ty "bool", .ty "bool", true), (.ty "bool", .ty "int", true), (.ty "bool", .ty "list", false), (.ty "bool", .ty "str", false), (.ty "bool", .ty "tuple", false), (.ty "bool", .own "BadNumber", false), (.ty "bool", .own "BadText", false), (.ty "bool", .own "BadValue", false), (.ty "bool", .own "Signature", false), (.ty "int", .ty "bool", false), (.ty "int", .ty "int", true)]
def isaL1 : List (Tag × Tag × Bool) := [(.ty "int", .ty "list", false), (.ty "int", .ty "str", false), (.ty "int", .ty "tuple", false), (.ty "int", .own "BadNumber", false), (.ty "int", .own "BadText", false), (.ty "int", .own "BadValue", false), (.ty "int", .own "Signature", false), (.ty "str", .ty "bool", false), (.ty "str", .ty "int", false), (.ty "str", .ty "list", false), (.ty "str", .ty "str", true), (.ty "str", .ty "tuple", false), (.ty "str", .own "BadNumber", false), (.ty "str", .own "BadText", false), (.ty "str", .own "BadValue", false), (.ty "str", .own "Signature", false), (.ty "tuple", .ty "bool", false), (.ty "tuple", .ty "int", false), (.ty "tuple", .ty "list", false), (.ty "tuple", .ty "str", false)]
def isaL2 : List (Tag × Tag × Bool) := [(.ty "tuple", .ty "tuple", true), (.ty "tuple", .own "BadNumber", false), (.ty "tuple", .own "BadText", false), (.ty "tuple", .own "BadValue", false), (.ty "tuple", .own "Signature", false), (.ty "list", .ty "bool", false), (.ty "list", .ty "int", false), (.ty "list", .ty "list", true), (.ty "list", .ty "str", false), (.ty "list", .ty "tuple", false), (.ty "list", .own "BadNumber", false), (.ty "list", .own "BadText", false), (.ty "list", .own "BadValue", false), (.ty "list", .own "Signature", false), (.ty "dict", .ty "bool", false), (.ty "dict", .ty "int", false), (.ty "dict", .ty "list", false), (.ty "dict", .ty "str", false), (.ty "dict", .ty "tuple", false), (.ty "dict", .own "BadNumber", false)]
def isaL3 : List (Tag × Tag × Bool) := [(.ty "dict", .own "BadText", false), (.ty "dict", .own "BadValue", false), (.ty "dict", .own "Signature", false), (.exn "BadValue", .ty "bool", false), (.exn "BadValue", .ty "int", false), (.exn "BadValue", .ty "list", false), (.exn "BadValue", .ty "str", false), (.exn "BadValue", .ty "tuple", false), (.exn "BadValue", .own "BadNumber", false), (.exn "BadValue", .own "BadText", false), (.exn "BadValue", .own "BadValue", true), (.exn "BadValue", .own "Signature", false), (.exn "BadNumber", .ty "bool", false), (.exn "BadNumber", .ty "int", false), (.exn "BadNumber", .ty "list", false), (.exn "BadNumber", .ty "str", false), (.exn "BadNumber", .ty "tuple", false), (.exn "BadNumber", .own "BadNumber", true), (.exn "BadNumber", .own "BadText", false), (.exn "BadNumber", .own "BadValue", false)]
def isaL4 : List (Tag × Tag × Bool) := [(.exn "BadNumber", .own "Signature", false), (.exn "BadText", .ty "bool", false), (.exn "BadText", .ty "int", false), (.exn "BadText", .ty "list", false), (.exn "BadText", .ty "str", false), (.exn "BadText", .ty "tuple", false), (.exn "BadText", .own "BadNumber", false), (.exn "BadText", .own "BadText", true), (.exn "BadText", .own "BadValue", false), (.exn "BadText", .own "Signature", false), (.own "Signature", .ty "bool", false), (.own "Signature", .ty "int", false), (.own "Signature", .ty "list", false), (.own "Signature", .ty "str", false), (.own "Signature", .ty "tuple", false), (.own "Signature", .own "BadNumber", false), (.own "Signature", .own "BadText", false), (.own "Signature", .own "BadValue", false), (.own "Signature", .own "Signature", true)]
def isaL : List (Tag × Tag × Bool) := isaL0 ++ isaL1 ++ isaL2 ++ isaL3 ++ isaL4
def clsL : List Str := ["BadNumber", "BadText", "BadValue", "Signature"]
abbrev isaT : IsaF := isaOf isaL
def under_FloorError (c : Str) : Bool := c == "BadValue" || c == "BadNumber" || c == "BadText"
def okx_caps (c : Str) : Bool := false
def oko_caps (c : Str) : Bool := c == "Signature"
def okx_cones (c : Str) : Bool := false
def oko_cones (c : Str) : Bool := c == "Signature"
def okx_handles (c : Str) : Bool := false
def oko_handles (c : Str) : Bool := c == "Signature"
def okx_item (c : Str) : Bool := c == "BadText"
def oko_item (c : Str) : Bool := false
def okx_mirrors (c : Str) : Bool := false
def oko_mirrors (c : Str) : Bool := c == "Signature"
def okx_part (c : Str) : Bool := c == "BadValue" || c == "BadNumber"
def oko_part (c : Str) : Bool := false
def okx_parts (c : Str) : Bool := false
def oko_parts (c : Str) : Bool := c == "Signature"
structure Txt (P : Program) (w : World) (K : PySem.W.Frag) (mg : Str → Option Value) (base : Heap) : Prop where
  isa : IsaOk K mg isaT
  k_CAP : ∃ t, mg "CAP" = some (.str "x" t)
  k_HANDLE : ∃ t, mg "HANDLE" = some (.str "o" t)
  k_MOST_MARKS : ∃ t, mg "MOST_MARKS" = some (.int 600 t)
  k_MOST_ORDER : ∃ t, mg "MOST_ORDER" = some (.int 120 t)
  k_NONE : ∃ t, mg "NONE" = some (.str "-" t)
  k_RING : ∃ t, mg "RING" = some (.str "*" t)
  n_abs : mg "abs" = none
  n_bool : mg "bool" = none
  n_enumerate : mg "enumerate" = none
  n_int : mg "int" = none
  n_isinstance : mg "isinstance" = none
  n_len : mg "len" = none
  n_list : mg "list" = none
  n_max : mg "max" = none
  n_min : mg "min" = none
  n_range : mg "range" = none
  n_repr : mg "repr" = none
  n_sorted : mg "sorted" = none
  n_str : mg "str" = none
  n_tuple : mg "tuple" = none
  d_is_integer : ∃ fd, mg "is_integer" = some (.ref (He.ga K "is_integer")) ∧ FunD K "is_integer" "is_integer" (defArgs (topS 6)) (defBody (topS 6)) (defScope (topS 6)) [] [] (He.ga K "is_integer") fd
  d_need_integer : ∃ fd, mg "need_integer" = some (.ref (He.ga K "need_integer")) ∧ FunD K "need_integer" "need_integer" (defArgs (topS 7)) (defBody (topS 7)) (defScope (topS 7)) [V.non] [] (He.ga K "need_integer") fd
  d_row_of : ∃ fd, mg "row_of" = some (.ref (He.ga K "row_of")) ∧ FunD K "row_of" "row_of" (defArgs (topS 8)) (defBody (topS 8)) (defScope (topS 8)) [] [] (He.ga K "row_of") fd
  d_need_orders : ∃ fd, mg "need_orders" = some (.ref (He.ga K "need_orders")) ∧ FunD K "need_orders" "need_orders" (defArgs (topS 13)) (defBody (topS 13)) (defScope (topS 13)) [] [] (He.ga K "need_orders") fd
  d_need_signature : ∃ fd, mg "need_signature" = some (.ref (He.ga K "need_signature")) ∧ FunD K "need_signature" "need_signature" (defArgs (topS 14)) (defBody (topS 14)) (defScope (topS 14)) [] [] (He.ga K "need_signature") fd
  d_least_ring : ∃ fd, mg "least_ring" = some (.ref (He.ga K "least_ring")) ∧ FunD K "least_ring" "least_ring" (defArgs (topS 15)) (defBody (topS 15)) (defScope (topS 15)) [] [] (He.ga K "least_ring") fd
  d_order_in : ∃ fd, mg "order_in" = some (.ref (He.ga K "order_in")) ∧ FunD K "order_in" "order_in" (defArgs (topS 21)) (defBody (topS 21)) (defScope (topS 21)) [] [] (He.ga K "order_in") fd
  d_taken : ∃ fd, mg "taken" = some (.ref (He.ga K "taken")) ∧ FunD K "taken" "taken" (defArgs (topS 22)) (defBody (topS 22)) (defScope (topS 22)) [] [] (He.ga K "taken") fd
  d_orders_from : ∃ fd, mg "orders_from" = some (.ref (He.ga K "orders_from")) ∧ FunD K "orders_from" "orders_from" (defArgs (topS 23)) (defBody (topS 23)) (defScope (topS 23)) [] [] (He.ga K "orders_from") fd
  d_sign_text : ∃ fd, mg "sign_text" = some (.ref (He.ga K "sign_text")) ∧ FunD K "sign_text" "sign_text" (defArgs (topS 24)) (defBody (topS 24)) (defScope (topS 24)) [] [] (He.ga K "sign_text") fd
  d_law_pen : ∃ fd, mg "_law_pen" = some (.ref (He.ga K "_law_pen")) ∧ FunD K "_law_pen" "_law_pen" (defArgs (topS 27)) (defBody (topS 27)) (defScope (topS 27)) [] [] (He.ga K "_law_pen") fd
  d_law_draw : ∃ fd, mg "_law_draw" = some (.ref (He.ga K "_law_draw")) ∧ FunD K "_law_draw" "_law_draw" (defArgs (topS 28)) (defBody (topS 28)) (defScope (topS 28)) [] [] (He.ga K "_law_draw") fd
  d_law_pick : ∃ fd, mg "_law_pick" = some (.ref (He.ga K "_law_pick")) ∧ FunD K "_law_pick" "_law_pick" (defArgs (topS 29)) (defBody (topS 29)) (defScope (topS 29)) [] [] (He.ga K "_law_pick") fd
  d_law_least : ∃ fd, mg "_law_least" = some (.ref (He.ga K "_law_least")) ∧ FunD K "_law_least" "_law_least" (defArgs (topS 30)) (defBody (topS 30)) (defScope (topS 30)) [] [] (He.ga K "_law_least") fd
  d_law_heard : ∃ fd, mg "_law_heard" = some (.ref (He.ga K "_law_heard")) ∧ FunD K "_law_heard" "_law_heard" (defArgs (topS 31)) (defBody (topS 31)) (defScope (topS 31)) [] [] (He.ga K "_law_heard") fd
  d_law_drawn_sign : ∃ fd, mg "_law_drawn_sign" = some (.ref (He.ga K "_law_drawn_sign")) ∧ FunD K "_law_drawn_sign" "_law_drawn_sign" (defArgs (topS 32)) (defBody (topS 32)) (defScope (topS 32)) [] [] (He.ga K "_law_drawn_sign") fd
  d_law_text : ∃ fd, mg "_law_text" = some (.ref (He.ga K "_law_text")) ∧ FunD K "_law_text" "_law_text" (defArgs (topS 33)) (defBody (topS 33)) (defScope (topS 33)) [] [] (He.ga K "_law_text") fd
  d_law_order : ∃ fd, mg "_law_order" = some (.ref (He.ga K "_law_order")) ∧ FunD K "_law_order" "_law_order" (defArgs (topS 34)) (defBody (topS 34)) (defScope (topS 34)) [] [] (He.ga K "_law_order") fd
  d_law_read : ∃ fd, mg "_law_read" = some (.ref (He.ga K "_law_read")) ∧ FunD K "_law_read" "_law_read" (defArgs (topS 35)) (defBody (topS 35)) (defScope (topS 35)) [] [] (He.ga K "_law_read") fd
  d_law_bent : ∃ fd, mg "_law_bent" = some (.ref (He.ga K "_law_bent")) ∧ FunD K "_law_bent" "_law_bent" (defArgs (topS 36)) (defBody (topS 36)) (defScope (topS 36)) [] [] (He.ga K "_law_bent") fd
  d_Signature___init__ : ∃ fd, FunD K "__init__" "Signature.__init__" (defArgs (inClass (topS 12) 0)) (defBody (inClass (topS 12) 0)) (defScope (inClass (topS 12) 0)) [] [] (He.ma K (He.ga K "Signature") "__init__") fd
  d_Signature___eq__ : ∃ fd, FunD K "__eq__" "Signature.__eq__" (defArgs (inClass (topS 12) 1)) (defBody (inClass (topS 12) 1)) (defScope (inClass (topS 12) 1)) [] [] (He.ma K (He.ga K "Signature") "__eq__") fd
  d_read_sign : ∃ fd, mg "read_sign" = some (.ref (He.ga K "read_sign")) ∧ FunD K "read_sign" "read_sign" (defArgs (topS 25)) (defBody (topS 25)) (defScope (topS 25)) [] [] (He.ga K "read_sign") fd
  d_law : ∃ fd, mg "law" = some (.ref (He.ga K "law")) ∧ FunD K "law" "law" (defArgs (topS 37)) (defBody (topS 37)) (defScope (topS 37)) [] [] (He.ga K "law") fd ∧ ∃ cA PA2, fd.code = .ref cA ∧ LamX.TabB base mg cA PA2 ∧ (PA2, (("law" : Str) ++ ".<locals>.") ++ "<lambda>") ∈ tabsOf K ∧ ∀ p ∈ tabsOf K, p.1 = PA2 → p.2 = (("law" : Str) ++ ".<locals>.") ++ "<lambda>"
  o_Signature : mg "Signature" = some (.ref (He.ga K "Signature")) ∧ Cls K (He.ga K "Signature")
  om_Signature : Mk K (He.ga K "Signature") (He.ma K (He.ga K "Signature") "__init__")
  oe_Signature : PySem.W.findIn K (.ref (He.ga K "Signature")) "__eq__" = some (some (.ref (He.ma K (He.ga K "Signature") "__eq__"))) ∧ PySem.W.isFn K (.ref (He.ma K (He.ga K "Signature") "__eq__")) = true ∧ PySem.W.findIn K (.ref (He.ga K "Signature")) "__ne__" = some (some (.builtin "object.__ne__")) ∧ PySem.W.mroIn K (He.ga K "Signature") (.type "object") = some true
  x_BadValue : mg "BadValue" = some (.ref (He.ga K "BadValue")) ∧ OexC K (He.ga K "BadValue") ∧ PySem.W.findIn K (.ref (He.ga K "BadValue")) "__init__" = some (some (.ref (He.ma K (He.ga K "BadValue") "__init__"))) ∧ PySem.W.typeIn K (.ref (He.ma K (He.ga K "BadValue") "__init__")) = some (.type "function") ∧ PySem.W.findIn K (.ref (He.ga K "BadValue")) "part" = some none ∧ ∃ fd, FunD K "__init__" "BadValue.__init__" (defArgs (inClass (topS 2) 0)) (defBody (inClass (topS 2) 0)) (defScope (inClass (topS 2) 0)) [] [] (He.ma K (He.ga K "BadValue") "__init__") fd
  x_BadNumber : mg "BadNumber" = some (.ref (He.ga K "BadNumber")) ∧ OexC K (He.ga K "BadNumber") ∧ PySem.W.findIn K (.ref (He.ga K "BadNumber")) "__init__" = some (some (.ref (He.ma K (He.ga K "BadNumber") "__init__"))) ∧ PySem.W.typeIn K (.ref (He.ma K (He.ga K "BadNumber") "__init__")) = some (.type "function") ∧ PySem.W.findIn K (.ref (He.ga K "BadNumber")) "part" = some none ∧ ∃ fd, FunD K "__init__" "BadNumber.__init__" (defArgs (inClass (topS 3) 0)) (defBody (inClass (topS 3) 0)) (defScope (inClass (topS 3) 0)) [] [] (He.ma K (He.ga K "BadNumber") "__init__") fd
  x_BadText : mg "BadText" = some (.ref (He.ga K "BadText")) ∧ OexC K (He.ga K "BadText") ∧ PySem.W.findIn K (.ref (He.ga K "BadText")) "__init__" = some (some (.ref (He.ma K (He.ga K "BadText") "__init__"))) ∧ PySem.W.typeIn K (.ref (He.ma K (He.ga K "BadText") "__init__")) = some (.type "function") ∧ PySem.W.findIn K (.ref (He.ga K "BadText")) "item" = some none ∧ ∃ fd, FunD K "__init__" "BadText.__init__" (defArgs (inClass (topS 4) 0)) (defBody (inClass (topS 4) 0)) (defScope (inClass (topS 4) 0)) [] [] (He.ma K (He.ga K "BadText") "__init__") fd
  c_BadNumber : ∃ C, mg "BadNumber" = some (.ref C)
  c_BadText : ∃ C, mg "BadText" = some (.ref C)
  c_BadValue : ∃ C, mg "BadValue" = some (.ref C)
  c_Signature : ∃ C, mg "Signature" = some (.ref C)
  g_FloorError : mg "FloorError" = some (.ref (He.ga K "FloorError"))
  under_FloorError : ∀ c C, under_FloorError c = true → mg c = some (.ref C) → PySem.W.exmOne K (.ref C) (.ref (He.ga K "FloorError")) = some true
  at_caps : ∀ c C, okx_caps c = true → mg c = some (.ref C) → XfC K C ∧ PySem.W.findIn K (.ref C) "caps" = some none
  ao_caps : ∀ c C, oko_caps c = true → mg c = some (.ref C) → Cls K C ∧ NoAttr K C "caps"
  at_cones : ∀ c C, okx_cones c = true → mg c = some (.ref C) → XfC K C ∧ PySem.W.findIn K (.ref C) "cones" = some none
  ao_cones : ∀ c C, oko_cones c = true → mg c = some (.ref C) → Cls K C ∧ NoAttr K C "cones"
  at_handles : ∀ c C, okx_handles c = true → mg c = some (.ref C) → XfC K C ∧ PySem.W.findIn K (.ref C) "handles" = some none
  ao_handles : ∀ c C, oko_handles c = true → mg c = some (.ref C) → Cls K C ∧ NoAttr K C "handles"
  at_item : ∀ c C, okx_item c = true → mg c = some (.ref C) → XfC K C ∧ PySem.W.findIn K (.ref C) "item" = some none
  ao_item : ∀ c C, oko_item c = true → mg c = some (.ref C) → Cls K C ∧ NoAttr K C "item"
  at_mirrors : ∀ c C, okx_mirrors c = true → mg c = some (.ref C) → XfC K C ∧ PySem.W.findIn K (.ref C) "mirrors" = some none
  ao_mirrors : ∀ c C, oko_mirrors c = true → mg c = some (.ref C) → Cls K C ∧ NoAttr K C "mirrors"
  at_part : ∀ c C, okx_part c = true → mg c = some (.ref C) → XfC K C ∧ PySem.W.findIn K (.ref C) "part" = some none
  ao_part : ∀ c C, oko_part c = true → mg c = some (.ref C) → Cls K C ∧ NoAttr K C "part"
  at_parts : ∀ c C, okx_parts c = true → mg c = some (.ref C) → XfC K C ∧ PySem.W.findIn K (.ref C) "parts" = some none
  ao_parts : ∀ c C, oko_parts c = true → mg c = some (.ref C) → Cls K C ∧ NoAttr K C "parts"
section
variable {P : Program} {w : World} {K : PySem.W.Frag} {mg : Str → Option Value} {base : Heap}
theorem sc_x_BadValue : FnScope ["self", "part"] ["self", "part"] (defScope (inClass (topS 2) 0)) := ⟨rfl, rfl, rfl, by decide +kernel, rfl, by decide +kernel, by decide +kernel⟩
theorem h_x_BadValue (T : Txt P w K mg base) : HasX P w K mg base "BadValue" ["part"] := by
  obtain ⟨hm, hx, hi, ht, n0, fd, F⟩ := T.x_BadValue
  exact ⟨_, _, fd, ["self", "part"], hm, hx, hi, ht, F.bindsN (ps := ["self", "part"]) fun _ _ _ _ _ _ us hl => match us, hl with | [_, _], _ => rfl, exc1_ok F sc_x_BadValue rfl hx n0 (Or.inl rfl) (Or.inl rfl)⟩
theorem sc_x_BadNumber : FnScope ["self", "part"] ["self", "part"] (defScope (inClass (topS 3) 0)) := ⟨rfl, rfl, rfl, by decide +kernel, rfl, by decide +kernel, by decide +kernel⟩
theorem h_x_BadNumber (T : Txt P w K mg base) : HasX P w K mg base "BadNumber" ["part"] := by
  obtain ⟨hm, hx, hi, ht, n0, fd, F⟩ := T.x_BadNumber
  exact ⟨_, _, fd, ["self", "part"], hm, hx, hi, ht, F.bindsN (ps := ["self", "part"]) fun _ _ _ _ _ _ us hl => match us, hl with | [_, _], _ => rfl, exc1_ok F sc_x_BadNumber rfl hx n0 (Or.inl rfl) (Or.inl rfl)⟩
theorem sc_x_BadText : FnScope ["self", "item"] ["self", "item"] (defScope (inClass (topS 4) 0)) := ⟨rfl, rfl, rfl, by decide +kernel, rfl, by decide +kernel, by decide +kernel⟩
theorem h_x_BadText (T : Txt P w K mg base) : HasX P w K mg base "BadText" ["item"] := by
  obtain ⟨hm, hx, hi, ht, n0, fd, F⟩ := T.x_BadText
  exact ⟨_, _, fd, ["self", "item"], hm, hx, hi, ht, F.bindsN (ps := ["self", "item"]) fun _ _ _ _ _ _ us hl => match us, hl with | [_, _], _ => rfl, exc1_ok F sc_x_BadText rfl hx n0 (Or.inl rfl) (Or.inl rfl)⟩
/-! is_integer -/
abbrev s_is_integer : Stmt := topS 6
abbrev N_is_integer : List Str := ["value"]
theorem sc_is_integer : FnScope N_is_integer ["value"] (defScope s_is_integer) := ⟨rfl, rfl, rfl, by decide +kernel, rfl, by decide +kernel, by decide +kernel⟩
def b_is_integer : SM := sRet (eAnd (eBlt (mIsi isaT) (aCons (eVar 0) (aCons (eC (.ty "int")) (aNil)))) (eNot (eBlt (mIsi isaT) (aCons (eVar 0) (aCons (eC (.ty "bool")) (aNil))))))
def m_is_integer : MF := mkF 0 false b_is_integer
theorem f_is_integer (T : Txt P w K mg base) {fd : FuncData} (F : FunD K "is_integer" "is_integer" (defArgs (s_is_integer)) (defBody (s_is_integer)) (defScope (s_is_integer)) [] [] (He.ga K "is_integer") fd) : FnG P w K mg base 1 (He.ga K "is_integer") fd ["value"] (spOf K mg 1 m_is_integer) :=
  fn_mk F sc_is_integer (n := 0) rfl fun cdv A outer s H E ecd gd hr => by
    have tk := takes_of (X := cxOf (L2.CX P w) P w K mg base N_is_integer "is_integer" (defScope s_is_integer) (He.ga K "is_integer") cdv A outer s H E) (E := E) rfl rfl rfl rfl
    have pw := passes_of (X := cxOf (L2.CX P w) P w K mg base N_is_integer "is_integer" (defScope s_is_integer) (He.ga K "is_integer") cdv A outer s H E) rfl
    exact rsOne (rsRet (rAnd (rBlt (mIsi_ok T.isa) mIsi_calm T.n_isinstance bb_isinstance (raCons (rVar 0) (raCons (rTyp T.n_int bb_int) (raNil)))) (rOne (rNot (rBlt (mIsi_ok T.isa) mIsi_calm T.n_isinstance bb_isinstance (raCons (rVar 0) (raCons (rTyp T.n_bool bb_bool) (raNil))))))))
theorem h_is_integer (T : Txt P w K mg base) : Has P w K mg base "is_integer" 1 ["value"] m_is_integer := by
  obtain ⟨fd, hm, F⟩ := T.d_is_integer
  exact ⟨_, fd, hm, F.kp, F.bindsN (ps := ["value"]) fun _ _ _ _ _ _ us hl => match us, hl with | [_], _ => rfl, f_is_integer T F⟩

/-! need_integer -/
abbrev s_need_integer : Stmt := topS 7
abbrev N_need_integer : List Str := ["part", "value", "least", "most"]
theorem sc_need_integer : FnScope N_need_integer ["part", "value", "least", "most"] (defScope s_need_integer) := ⟨rfl, rfl, rfl, by decide +kernel, rfl, by decide +kernel, by decide +kernel⟩
def b_need_integer : SM := sSeq (sIf (tOr (tNot (tV (eCall 1 m_is_integer (aCons (eVar 1) (aNil))))) (tOr (tV (eBin mLt (eVar 1) (eVar 2))) (tAnd (tV (eBin (mIs true) (eVar 3) (eC .non))) (tV (eBin mGt (eVar 1) (eVar 3)))))) (sRaise "BadNumber" ["part"] (aCons (eVar 0) (aNil))) (sNext))
  (sRet (eVar 1))
def m_need_integer : MF := mkF 0 false b_need_integer
theorem f_need_integer (T : Txt P w K mg base) {fd : FuncData} (F : FunD K "need_integer" "need_integer" (defArgs (s_need_integer)) (defBody (s_need_integer)) (defScope (s_need_integer)) [V.non] [] (He.ga K "need_integer") fd) : FnG P w K mg base 3 (He.ga K "need_integer") fd ["part", "value", "least", "most"] (spOf K mg 4 m_need_integer) :=
  fn_mk F sc_need_integer (n := 0) rfl fun cdv A outer s H E ecd gd hr => by
    have tk := takes_of (X := cxOf (L2.CX P w) P w K mg base N_need_integer "need_integer" (defScope s_need_integer) (He.ga K "need_integer") cdv A outer s H E) (E := E) rfl rfl rfl rfl
    have pw := passes_of (X := cxOf (L2.CX P w) P w K mg base N_need_integer "need_integer" (defScope s_need_integer) (He.ga K "need_integer") cdv A outer s H E) rfl
    exact rsCons (rsIf (PW.pt (rtOr (rtNot (rtV (rCall (h_is_integer T) gd (hr.mono (by decide)) tk (raCons (rVar 1) (raNil))))) (rtOr (rtCmp mLt_ok mI_calm (rVar 1) (rVar 2) (by exact nomark _)) (rtOr1 (PW.pt (rtAnd (rtCmp mIsNot_ok mIs_calm (rVar 3) (rNon) (by exact nomark _)) (rtAnd1 (rtCmp mGt_ok mI_calm (rVar 1) (rVar 3) (by exact nomark _))))))))) (rsOne (rsRaise (h_x_BadNumber T) (hr.mono (by decide)) tk (raCons (rVar 0) (raNil)))) (rsNil))
      (rsOne (rsRet (rVar 1)))

theorem hd0_need_integer (T : Txt P w K mg base) : HasD P w K mg base "need_integer" 3 4 [] [.p 0, .p 1, .p 2, .p 3] [.non] ["part", "value", "least", "most"] m_need_integer := by
  obtain ⟨fd, hm, F⟩ := T.d_need_integer
  obtain ⟨its, rT, hb⟩ := bindsD1 (n := 4) (m := 0) (kw := fun ws => ([] : List Str).zip ws) (g := fun us its ws => (["part", "value", "least", "most"] : List Str).zip (srcD [.p 0, .p 1, .p 2, .p 3] us its ws)) F (by simp) (fun T kV doc pm an cdv ct us its ws l1 l2 l3 => match us, its, ws, l1, l2, l3 with | [_, _, _, _], [_], [], _, _, _ => ⟨_, rfl, rfl⟩)
  exact ⟨_, fd, _, its, hm, F.kp, rT, (fun ρ F => by simp [RVs, RV]), hb, f_need_integer T F⟩
/-! row_of -/
abbrev s_row_of : Stmt := topS 8
abbrev N_row_of : List Str := ["part", "value"]
theorem sc_row_of : FnScope N_row_of ["part", "value"] (defScope s_row_of) := ⟨rfl, rfl, rfl, by decide +kernel, rfl, by decide +kernel, by decide +kernel⟩
def b_row_of : SM := sSeq (sIf (tNot (tV (eBlt (mIsi isaT) (aCons (eVar 1) (aCons (eTup (aCons (eC (.ty "list")) (aCons (eC (.ty "tuple")) (aNil)))) (aNil)))))) (sRaise "BadValue" ["part"] (aCons (eVar 0) (aNil))) (sNext))
  (sRet (eBlt mTuple (aCons (eVar 1) (aNil))))
def m_row_of : MF := mkF 0 false b_row_of
theorem f_row_of (T : Txt P w K mg base) {fd : FuncData} (F : FunD K "row_of" "row_of" (defArgs (s_row_of)) (defBody (s_row_of)) (defScope (s_row_of)) [] [] (He.ga K "row_of") fd) : FnG P w K mg base 3 (He.ga K "row_of") fd ["part", "value"] (spOf K mg 2 m_row_of) :=
  fn_mk F sc_row_of (n := 0) rfl fun cdv A outer s H E ecd gd hr => by
    have tk := takes_of (X := cxOf (L2.CX P w) P w K mg base N_row_of "row_of" (defScope s_row_of) (He.ga K "row_of") cdv A outer s H E) (E := E) rfl rfl rfl rfl
    have pw := passes_of (X := cxOf (L2.CX P w) P w K mg base N_row_of "row_of" (defScope s_row_of) (He.ga K "row_of") cdv A outer s H E) rfl
    exact rsCons (rsIf (rtNot (rtV (rBlt (mIsi_ok T.isa) mIsi_calm T.n_isinstance bb_isinstance (raCons (rVar 1) (raCons (rTup (raCons (rTyp T.n_list bb_list) (raCons (rTyp T.n_tuple bb_tuple) (raNil)))) (raNil)))))) (rsOne (rsRaise (h_x_BadValue T) (hr.mono (by decide)) tk (raCons (rVar 0) (raNil)))) (rsNil))
      (rsOne (rsRet (rBltTy mTuple_ok mTuple_calm T.n_tuple bb_tuple (raCons (rVar 1) (raNil)))))
theorem h_row_of (T : Txt P w K mg base) : Has P w K mg base "row_of" 3 ["part", "value"] m_row_of := by
  obtain ⟨fd, hm, F⟩ := T.d_row_of
  exact ⟨_, fd, hm, F.kp, F.bindsN (ps := ["part", "value"]) fun _ _ _ _ _ _ us hl => match us, hl with | [_, _], _ => rfl, f_row_of T F⟩

/-! need_orders -/
abbrev s_need_orders : Stmt := topS 13
abbrev N_need_orders : List Str := ["part", "value", "found", "order"]
theorem sc_need_orders : FnScope N_need_orders ["part", "value"] (defScope s_need_orders) := ⟨rfl, rfl, rfl, by decide +kernel, rfl, by decide +kernel, by decide +kernel⟩
def b_need_orders : SM := sSeq (sAsg (eCall 2 m_row_of (aCons (eVar 0) (aCons (eVar 1) (aNil)))) (AVL.gName 2))
  (sSeq (sFor (itSeq (eVar 2)) (AVL.gName 3) (sExpr (eCallD 4 0 4 [.p 0, .p 1, .p 2, .p 3] [.non] m_need_integer (aCons (eVar 0) (aCons (eVar 3) (aCons (eC (.int 2)) (aCons (eC (.int 120)) (aNil))))) (aNil))))
  (sRet (eVar 2)))
def m_need_orders : MF := mkF 2 false b_need_orders
theorem f_need_orders (T : Txt P w K mg base) {fd : FuncData} (F : FunD K "need_orders" "need_orders" (defArgs (s_need_orders)) (defBody (s_need_orders)) (defScope (s_need_orders)) [] [] (He.ga K "need_orders") fd) : FnG P w K mg base 4 (He.ga K "need_orders") fd ["part", "value"] (spOf K mg 2 m_need_orders) :=
  fn_mk F sc_need_orders (n := 2) rfl fun cdv A outer s H E ecd gd hr => by
    have tk := takes_of (X := cxOf (L2.CX P w) P w K mg base N_need_orders "need_orders" (defScope s_need_orders) (He.ga K "need_orders") cdv A outer s H E) (E := E) rfl rfl rfl rfl
    have pw := passes_of (X := cxOf (L2.CX P w) P w K mg base N_need_orders "need_orders" (defScope s_need_orders) (He.ga K "need_orders") cdv A outer s H E) rfl
    exact rsCons (rsAsg (rCall (h_row_of T) gd (hr.mono (by decide)) tk (raCons (rVar 0) (raCons (rVar 1) (raNil)))) (rgName 2 sc_need_orders.nd))
      (rsCons (rsFor pw (riSeq (rVar 2)) (rgName 3 sc_need_orders.nd) (rsOne (rsExpr (rCallD (hd0_need_integer T) gd (hr.mono (by decide)) tk (raCons (rVar 0) (raCons (rVar 3) (raCons (rInt) (raCons (rKonI T.k_MOST_ORDER) (raNil)))))))))
      (rsOne (rsRet (rVar 2))))
theorem h_need_orders (T : Txt P w K mg base) : Has P w K mg base "need_orders" 4 ["part", "value"] m_need_orders := by
  obtain ⟨fd, hm, F⟩ := T.d_need_orders
  exact ⟨_, fd, hm, F.kp, F.bindsN (ps := ["part", "value"]) fun _ _ _ _ _ _ us hl => match us, hl with | [_, _], _ => rfl, f_need_orders T F⟩

/-! need_signature -/
abbrev s_need_signature : Stmt := topS 14
abbrev N_need_signature : List Str := ["part", "value"]
theorem sc_need_signature : FnScope N_need_signature ["part", "value"] (defScope s_need_signature) := ⟨rfl, rfl, rfl, by decide +kernel, rfl, by decide +kernel, by decide +kernel⟩
def b_need_signature : SM := sSeq (sIf (tNot (tV (eBlt (mIsi isaT) (aCons (eVar 1) (aCons (eC (.cls "Signature")) (aNil)))))) (sRaise "BadValue" ["part"] (aCons (eVar 0) (aNil))) (sNext))
  (sRet (eVar 1))
def m_need_signature : MF := mkF 0 false b_need_signature
theorem f_need_signature (T : Txt P w K mg base) {fd : FuncData} (F : FunD K "need_signature" "need_signature" (defArgs (s_need_signature)) (defBody (s_need_signature)) (defScope (s_need_signature)) [] [] (He.ga K "need_signature") fd) : FnG P w K mg base 3 (He.ga K "need_signature") fd ["part", "value"] (spOf K mg 2 m_need_signature) :=
  fn_mk F sc_need_signature (n := 0) rfl fun cdv A outer s H E ecd gd hr => by
    have tk := takes_of (X := cxOf (L2.CX P w) P w K mg base N_need_signature "need_signature" (defScope s_need_signature) (He.ga K "need_signature") cdv A outer s H E) (E := E) rfl rfl rfl rfl
    have pw := passes_of (X := cxOf (L2.CX P w) P w K mg base N_need_signature "need_signature" (defScope s_need_signature) (He.ga K "need_signature") cdv A outer s H E) rfl
    exact rsCons (rsIf (rtNot (rtV (rBlt (mIsi_ok T.isa) mIsi_calm T.n_isinstance bb_isinstance (raCons (rVar 1) (raCons (rCls T.c_Signature) (raNil)))))) (rsOne (rsRaise (h_x_BadValue T) (hr.mono (by decide)) tk (raCons (rVar 0) (raNil)))) (rsNil))
      (rsOne (rsRet (rVar 1)))
theorem h_need_signature (T : Txt P w K mg base) : Has P w K mg base "need_signature" 3 ["part", "value"] m_need_signature := by
  obtain ⟨fd, hm, F⟩ := T.d_need_signature
  exact ⟨_, fd, hm, F.kp, F.bindsN (ps := ["part", "value"]) fun _ _ _ _ _ _ us hl => match us, hl with | [_, _], _ => rfl, f_need_signature T F⟩

/-! least_ring -/
abbrev s_least_ring : Stmt := topS 15
abbrev N_least_ring : List Str := ["orders", "rows", "row", "at"]
theorem sc_least_ring : FnScope N_least_ring ["orders"] (defScope s_least_ring) := ⟨rfl, rfl, rfl, by decide +kernel, rfl, by decide +kernel, by decide +kernel⟩
def b_least_ring : SM := sSeq (sAsg (eLst false (aCons (eVar 0) (aCons (eRev false (eVar 0)) (aNil)))) (AVL.gName 1))
  (sRet (eBlt mMin (aCons (eComp2 false (itSeq (eVar 1)) (AVL.gName 2) (tTrue) (itRng1 (aCons (eBlt mMax2 (aCons (eC (.int 1)) (aCons (eBlt mLen (aCons (eVar 0) (aNil))) (aNil)))) (aNil))) (AVL.gName 3) (tTrue) (eBin (mAdd false) (eSl false (eVar 2) (oPart (eVar 3)) (oNo)) (eSl false (eVar 2) (oNo) (oPart (eVar 3)))) [2, 3] [3]) (aNil))))
def m_least_ring : MF := mkF 3 false b_least_ring
theorem f_least_ring (T : Txt P w K mg base) {fd : FuncData} (F : FunD K "least_ring" "least_ring" (defArgs (s_least_ring)) (defBody (s_least_ring)) (defScope (s_least_ring)) [] [] (He.ga K "least_ring") fd) : FnG P w K mg base 1 (He.ga K "least_ring") fd ["orders"] (spOf K mg 1 m_least_ring) :=
  fn_mk F sc_least_ring (n := 3) rfl fun cdv A outer s H E ecd gd hr => by
    have tk := takes_of (X := cxOf (L2.CX P w) P w K mg base N_least_ring "least_ring" (defScope s_least_ring) (He.ga K "least_ring") cdv A outer s H E) (E := E) rfl rfl rfl rfl
    have pw := passes_of (X := cxOf (L2.CX P w) P w K mg base N_least_ring "least_ring" (defScope s_least_ring) (He.ga K "least_ring") cdv A outer s H E) rfl
    exact rsCons (rsAsg (rLst (raCons (rVar 0) (raCons (rRev (rVar 0)) (raNil)))) (rgName 1 sc_least_ring.nd))
      (rsOne (rsRet (rBlt (mMin_ok rfl hr) mMin_calm T.n_min bb_min (raCons (rComp2 (own := [("row", 2), ("at", 3)]) (vs1 := [3]) (g := L2.gName 2) (g1 := L2.gName 3) sc_least_ring.nd (riSeq (rVar 1)) (blkOk_by (own := [("row", 2), ("at", 3)]) (N := N_least_ring) (sc := defScope s_least_ring) (by decide +kernel)) (by decide) (gokName (by decide)) (gokName (by decide)) (fun _ _ _ _ _ => pg_name (i := 2) sc_least_ring.nd rfl (by first | exact Or.inl rfl | exact Or.inr rfl)) (fun _ _ _ _ _ => rtsNil) (fun _ _ _ _ _ => riRng1 T.n_range (raCons (rBlt (mMax2_ok rfl) mMax2_calm T.n_max bb_max (raCons (rInt) (raCons (rBlt mLen_ok mLen_calm T.n_len bb_len (raCons (rVar 0) (raNil))) (raNil)))) (raNil))) (fun _ _ _ _ _ => pg_name (i := 3) sc_least_ring.nd rfl (by first | exact Or.inl rfl | exact Or.inr rfl)) (fun _ _ _ _ _ => rtsNil) (fun _ _ _ _ _ => rBin mAdd_ok mAdd_calm (rSl (rVar 2) (roPart (rVar 3)) (roNo)) (rSl (rVar 2) (roNo) (roPart (rVar 3))))) (raNil)))))
theorem h_least_ring (T : Txt P w K mg base) : Has P w K mg base "least_ring" 1 ["orders"] m_least_ring := by
  obtain ⟨fd, hm, F⟩ := T.d_least_ring
  exact ⟨_, fd, hm, F.kp, F.bindsN (ps := ["orders"]) fun _ _ _ _ _ _ us hl => match us, hl with | [_], _ => rfl, f_least_ring T F⟩

/-! order_in -/
abbrev s_order_in : Stmt := topS 21
abbrev N_order_in : List Str := ["word"]
theorem sc_order_in : FnScope N_order_in ["word"] (defScope s_order_in) := ⟨rfl, rfl, rfl, by decide +kernel, rfl, by decide +kernel, by decide +kernel⟩
def b_order_in : SM := sSeq (sIf (tOr (tNot (tV (eMt "str" mIsDec (eVar 0) aNil))) (tOr (tNot (tV (eMt "str" mIsAsc (eVar 0) aNil))) (tOr (tV (eBin mGt (eBlt mLen (aCons (eVar 0) (aNil))) (eC (.int 3)))) (tV (eBin (mEq true) (eBlt mStr (aCons (eBlt mIntS (aCons (eVar 0) (aNil))) (aNil))) (eVar 0)))))) (sRet (eLst false (aNil))) (sNext))
  (sRet (eIf (tV (eChain mLe mLe (eC (.int 2)) (eBlt mIntS (aCons (eVar 0) (aNil))) (eC (.int 120)))) (eLst false (aCons (eBlt mIntS (aCons (eVar 0) (aNil))) (aNil))) (eLst false (aNil))))
def m_order_in : MF := mkF 0 false b_order_in
theorem f_order_in (T : Txt P w K mg base) {fd : FuncData} (F : FunD K "order_in" "order_in" (defArgs (s_order_in)) (defBody (s_order_in)) (defScope (s_order_in)) [] [] (He.ga K "order_in") fd) : FnG P w K mg base 1 (He.ga K "order_in") fd ["word"] (spOf K mg 1 m_order_in) :=
  fn_mk F sc_order_in (n := 0) rfl fun cdv A outer s H E ecd gd hr => by
    have tk := takes_of (X := cxOf (L2.CX P w) P w K mg base N_order_in "order_in" (defScope s_order_in) (He.ga K "order_in") cdv A outer s H E) (E := E) rfl rfl rfl rfl
    have pw := passes_of (X := cxOf (L2.CX P w) P w K mg base N_order_in "order_in" (defScope s_order_in) (He.ga K "order_in") cdv A outer s H E) rfl
    exact rsCons (rsIf (PW.pt (rtOr (rtNot (rtV (rMt0 PySem.F.plainAttrs_str PySem.F.slot_str_isdecimal PySem.F.type_str_isdecimal mIsDec_ok mIsDec_calm (rVar 0)))) (rtOr (rtNot (rtV (rMt0 PySem.F.plainAttrs_str PySem.F.slot_str_isascii PySem.F.type_str_isascii mIsAsc_ok mIsAsc_calm (rVar 0)))) (rtOr (rtCmp mGt_ok mI_calm (rBlt mLen_ok mLen_calm T.n_len bb_len (raCons (rVar 0) (raNil))) (rInt) (by exact nomark _)) (rtOr1 (rtCmp (mNe_ok hr.units) mEq_calm (rBltTy mStr_ok mStr_calm T.n_str bb_str (raCons (rBltTy mIntS_ok mIntS_calm T.n_int bb_int (raCons (rVar 0) (raNil))) (raNil))) (rVar 0) (by exact nomark _))))))) (rsOne (rsRet (rLst (raNil)))) (rsNil))
      (rsOne (rsRet (rIf (rtChain mLe_ok mI_calm mLe_ok mI_calm (rInt) (rBltTy mIntS_ok mIntS_calm T.n_int bb_int (raCons (rVar 0) (raNil))) (rKonI T.k_MOST_ORDER)) (rLst (raCons (rBltTy mIntS_ok mIntS_calm T.n_int bb_int (raCons (rVar 0) (raNil))) (raNil))) (rLst (raNil)))))
theorem h_order_in (T : Txt P w K mg base) : Has P w K mg base "order_in" 1 ["word"] m_order_in := by
  obtain ⟨fd, hm, F⟩ := T.d_order_in
  exact ⟨_, fd, hm, F.kp, F.bindsN (ps := ["word"]) fun _ _ _ _ _ _ us hl => match us, hl with | [_], _ => rfl, f_order_in T F⟩

/-! taken -/
abbrev s_taken : Stmt := topS 22
abbrev N_taken : List Str := ["words", "at", "mark"]
theorem sc_taken : FnScope N_taken ["words", "at", "mark"] (defScope s_taken) := ⟨rfl, rfl, rfl, by decide +kernel, rfl, by decide +kernel, by decide +kernel⟩
noncomputable def b_taken : SM := sSeq (sWhile (tAnd (tV (eBin mLt (eVar 1) (eBlt mLen (aCons (eVar 0) (aNil))))) (tV (eBin (mEq false) (eBin mIx (eVar 0) (eVar 1)) (eVar 2)))) (sAsg (eBin (mAdd false) (eVar 1) (eC (.int 1))) (AVL.gName 1)))
  (sRet (eVar 1))
noncomputable def m_taken : MF := mkF 0 false b_taken
theorem f_taken (T : Txt P w K mg base) {fd : FuncData} (F : FunD K "taken" "taken" (defArgs (s_taken)) (defBody (s_taken)) (defScope (s_taken)) [] [] (He.ga K "taken") fd) : FnG P w K mg base 1 (He.ga K "taken") fd ["words", "at", "mark"] (spOf K mg 3 m_taken) :=
  fn_mk F sc_taken (n := 0) rfl fun cdv A outer s H E ecd gd hr => by
    have tk := takes_of (X := cxOf (L2.CX P w) P w K mg base N_taken "taken" (defScope s_taken) (He.ga K "taken") cdv A outer s H E) (E := E) rfl rfl rfl rfl
    have pw := passes_of (X := cxOf (L2.CX P w) P w K mg base N_taken "taken" (defScope s_taken) (He.ga K "taken") cdv A outer s H E) rfl
    exact rsCons (rsWhile pw (PW.pt (rtAnd (rtCmp mLt_ok mI_calm (rVar 1) (rBlt mLen_ok mLen_calm T.n_len bb_len (raCons (rVar 0) (raNil))) (by exact nomark _)) (rtAnd1 (rtCmp (mEq_ok hr.units) mEq_calm (rIx (rVar 0) (rVar 1)) (rVar 2) (by exact nomark _))))) (rsOne (rsAsg (rBin mAdd_ok mAdd_calm (rVar 1) (rInt)) (rgName 1 sc_taken.nd))))
      (rsOne (rsRet (rVar 1)))
theorem h_taken (T : Txt P w K mg base) : Has P w K mg base "taken" 1 ["words", "at", "mark"] m_taken := by
  obtain ⟨fd, hm, F⟩ := T.d_taken
  exact ⟨_, fd, hm, F.kp, F.bindsN (ps := ["words", "at", "mark"]) fun _ _ _ _ _ _ us hl => match us, hl with | [_, _, _], _ => rfl, f_taken T F⟩

/-! orders_from -/
abbrev s_orders_from : Stmt := topS 23
abbrev N_orders_from : List Str := ["words", "at", "found"]
theorem sc_orders_from : FnScope N_orders_from ["words", "at"] (defScope s_orders_from) := ⟨rfl, rfl, rfl, by decide +kernel, rfl, by decide +kernel, by decide +kernel⟩
noncomputable def b_orders_from : SM := sSeq (sAsg (eLst true (aNil)) (AVL.gName 2))
  (sSeq (sWhile (tAnd (tV (eBin mLt (eVar 1) (eBlt mLen (aCons (eVar 0) (aNil))))) (tV (eBin (mEq true) (eCall 1 m_order_in (aCons (eBin mIx (eVar 0) (eVar 1)) (aNil))) (eLst false (aNil))))) (sSeq (sExpr (eMt "list" mExt (eVar 2) (aCons (eCall 1 m_order_in (aCons (eBin mIx (eVar 0) (eVar 1)) (aNil))) (aNil))))
  (sAsg (eBin (mAdd false) (eVar 1) (eC (.int 1))) (AVL.gName 1))))
  (sRet (eVar 2)))
noncomputable def m_orders_from : MF := mkF 1 false b_orders_from
theorem f_orders_from (T : Txt P w K mg base) {fd : FuncData} (F : FunD K "orders_from" "orders_from" (defArgs (s_orders_from)) (defBody (s_orders_from)) (defScope (s_orders_from)) [] [] (He.ga K "orders_from") fd) : FnG P w K mg base 2 (He.ga K "orders_from") fd ["words", "at"] (spOf K mg 2 m_orders_from) :=
  fn_mk F sc_orders_from (n := 1) rfl fun cdv A outer s H E ecd gd hr => by
    have tk := takes_of (X := cxOf (L2.CX P w) P w K mg base N_orders_from "orders_from" (defScope s_orders_from) (He.ga K "orders_from") cdv A outer s H E) (E := E) rfl rfl rfl rfl
    have pw := passes_of (X := cxOf (L2.CX P w) P w K mg base N_orders_from "orders_from" (defScope s_orders_from) (He.ga K "orders_from") cdv A outer s H E) rfl
    exact rsCons (rsAsg (rLst (raNil)) (rgName 2 sc_orders_from.nd))
      (rsCons (rsWhile pw (PW.pt (rtAnd (rtCmp mLt_ok mI_calm (rVar 1) (rBlt mLen_ok mLen_calm T.n_len bb_len (raCons (rVar 0) (raNil))) (by exact nomark _)) (rtAnd1 (rtCmp (mNe_ok hr.units) mEq_calm (rCall (h_order_in T) gd (hr.mono (by decide)) tk (raCons (rIx (rVar 0) (rVar 1)) (raNil))) (rLst (raNil)) (by exact nomark _))))) (rsCons (rsExpr (rMt PySem.F.plainAttrs_list PySem.F.slot_list_extend PySem.F.type_list_extend mExt_ok mExt_calm (rVar 2) (raCons (rCall (h_order_in T) gd (hr.mono (by decide)) tk (raCons (rIx (rVar 0) (rVar 1)) (raNil))) (raNil))))
      (rsOne (rsAsg (rBin mAdd_ok mAdd_calm (rVar 1) (rInt)) (rgName 1 sc_orders_from.nd)))))
      (rsOne (rsRet (rVar 2))))
theorem h_orders_from (T : Txt P w K mg base) : Has P w K mg base "orders_from" 2 ["words", "at"] m_orders_from := by
  obtain ⟨fd, hm, F⟩ := T.d_orders_from
  exact ⟨_, fd, hm, F.kp, F.bindsN (ps := ["words", "at"]) fun _ _ _ _ _ _ us hl => match us, hl with | [_, _], _ => rfl, f_orders_from T F⟩

/-! sign_text -/
abbrev s_sign_text : Stmt := topS 24
abbrev N_sign_text : List Str := ["signature", "words", "order", "ring"]
theorem sc_sign_text : FnScope N_sign_text ["signature"] (defScope s_sign_text) := ⟨rfl, rfl, rfl, by decide +kernel, rfl, by decide +kernel, by decide +kernel⟩
def b_sign_text : SM := sSeq (sExpr (eCall 2 m_need_signature (aCons (eC (.str "signature")) (aCons (eVar 0) (aNil)))))
  (sSeq (sAsg (eBin (mAdd false) (eBin (mMul false) (eLst false (aCons (eC (.str "o")) (aNil))) (eAttr okx_handles oko_handles "handles" (eVar 0))) (eComp false (itSeq (eAttr okx_cones oko_cones "cones" (eVar 0))) (AVL.gName 2) (tTrue) (eBlt mStr (aCons (eVar 2) (aNil))) [2])) (AVL.gName 1))
  (sSeq (sFor (itSeq (eAttr okx_mirrors oko_mirrors "mirrors" (eVar 0))) (AVL.gName 3) (sAsg (eBin (mAdd false) (eBin (mAdd false) (eVar 1) (eLst false (aCons (eC (.str "*")) (aNil)))) (eComp false (itSeq (eVar 3)) (AVL.gName 2) (tTrue) (eBlt mStr (aCons (eVar 2) (aNil))) [2])) (AVL.gName 1)))
  (sSeq (sAsg (eBin (mAdd false) (eVar 1) (eBin (mMul false) (eLst false (aCons (eC (.str "x")) (aNil))) (eAttr okx_caps oko_caps "caps" (eVar 0)))) (AVL.gName 1))
  (sRet (eIf (tV (eBin (mEq true) (eVar 1) (eLst false (aNil)))) (eMt "str" mJoin (eC (.str " ")) (aCons (eVar 1) (aNil))) (eC (.str "-")))))))
def m_sign_text : MF := mkF 3 false b_sign_text
theorem f_sign_text (T : Txt P w K mg base) {fd : FuncData} (F : FunD K "sign_text" "sign_text" (defArgs (s_sign_text)) (defBody (s_sign_text)) (defScope (s_sign_text)) [] [] (He.ga K "sign_text") fd) : FnG P w K mg base 4 (He.ga K "sign_text") fd ["signature"] (spOf K mg 1 m_sign_text) :=
  fn_mk F sc_sign_text (n := 3) rfl fun cdv A outer s H E ecd gd hr => by
    have tk := takes_of (X := cxOf (L2.CX P w) P w K mg base N_sign_text "sign_text" (defScope s_sign_text) (He.ga K "sign_text") cdv A outer s H E) (E := E) rfl rfl rfl rfl
    have pw := passes_of (X := cxOf (L2.CX P w) P w K mg base N_sign_text "sign_text" (defScope s_sign_text) (He.ga K "sign_text") cdv A outer s H E) rfl
    exact rsCons (rsExpr (rCall (h_need_signature T) gd (hr.mono (by decide)) tk (raCons (rStr) (raCons (rVar 0) (raNil)))))
      (rsCons (rsAsg (rBin mAdd_ok mAdd_calm (rBin mMul_ok mMul_calm (rLst (raCons (rKonS T.k_HANDLE) (raNil))) (rAttr T.at_handles T.ao_handles (rVar 0))) (rComp (own := [("order", 2)]) (g := L2.gName 2) sc_sign_text.nd (riSeq (rAttr T.at_cones T.ao_cones (rVar 0))) (blkOk_by (own := [("order", 2)]) (N := N_sign_text) (sc := defScope s_sign_text) (by decide +kernel)) (gokName (by decide)) (fun _ _ _ _ _ => pg_name (i := 2) sc_sign_text.nd rfl (by first | exact Or.inl rfl | exact Or.inr rfl)) (fun _ _ _ _ _ => rtsNil) (fun _ _ _ _ _ => rBltTy mStr_ok mStr_calm T.n_str bb_str (raCons (rVar 2) (raNil))))) (rgName 1 sc_sign_text.nd))
      (rsCons (rsFor pw (riSeq (rAttr T.at_mirrors T.ao_mirrors (rVar 0))) (rgName 3 sc_sign_text.nd) (rsOne (rsAsg (rBin mAdd_ok mAdd_calm (rBin mAdd_ok mAdd_calm (rVar 1) (rLst (raCons (rKonS T.k_RING) (raNil)))) (rComp (own := [("order", 2)]) (g := L2.gName 2) sc_sign_text.nd (riSeq (rVar 3)) (blkOk_by (own := [("order", 2)]) (N := N_sign_text) (sc := defScope s_sign_text) (by decide +kernel)) (gokName (by decide)) (fun _ _ _ _ _ => pg_name (i := 2) sc_sign_text.nd rfl (by first | exact Or.inl rfl | exact Or.inr rfl)) (fun _ _ _ _ _ => rtsNil) (fun _ _ _ _ _ => rBltTy mStr_ok mStr_calm T.n_str bb_str (raCons (rVar 2) (raNil))))) (rgName 1 sc_sign_text.nd))))
      (rsCons (rsAsg (rBin mAdd_ok mAdd_calm (rVar 1) (rBin mMul_ok mMul_calm (rLst (raCons (rKonS T.k_CAP) (raNil))) (rAttr T.at_caps T.ao_caps (rVar 0)))) (rgName 1 sc_sign_text.nd))
      (rsOne (rsRet (rIf (rtCmp (mNe_ok hr.units) mEq_calm (rVar 1) (rLst (raNil)) (by exact nomark _)) (rMt PySem.F.plainAttrs_str PySem.F.slot_str_join PySem.F.type_str_join mJoin_ok mJoin_calm (rStr) (raCons (rVar 1) (raNil))) (rKonS T.k_NONE)))))))
theorem h_sign_text (T : Txt P w K mg base) : Has P w K mg base "sign_text" 4 ["signature"] m_sign_text := by
  obtain ⟨fd, hm, F⟩ := T.d_sign_text
  exact ⟨_, fd, hm, F.kp, F.bindsN (ps := ["signature"]) fun _ _ _ _ _ _ us hl => match us, hl with | [_], _ => rfl, f_sign_text T F⟩

theorem hd2_sign_text (T : Txt P w K mg base) : HasD P w K mg base "sign_text" 4 0 ["signature"] [.k 0] [] ["signature"] m_sign_text := by
  obtain ⟨fd, hm, F⟩ := T.d_sign_text
  have hb := bindsD0 (n := 0) (m := 1) (kw := fun ws => (["signature"] : List Str).zip ws) (g := fun us ws => (["signature"] : List Str).zip (srcD [.k 0] us [] ws)) F (fun kV doc pm an cdv ct us ws l1 l2 => match us, ws, l1, l2 with | [], [_], _, _ => rfl)
  exact ⟨_, fd, _, [], hm, F.kp, .nil, (fun ρ F => by simp [RVs]), hb, f_sign_text T F⟩
/-! _law_pen -/
abbrev s_law_pen : Stmt := topS 27
abbrev N_law_pen : List Str := ["script"]
theorem sc_law_pen : FnScope N_law_pen ["script"] (defScope s_law_pen) := ⟨rfl, rfl, rfl, by decide +kernel, rfl, by decide +kernel, by decide +kernel⟩
def b_law_pen : SM := sRet (eLst true (aCons (eBlt (mList true) (aCons (eSl true (eVar 0) (oNo) (oPart (eC (.int 63)))) (aNil))) (aCons (eC (.int 0)) (aCons (eC (.int 0)) (aNil)))))
def m_law_pen : MF := mkF 0 true b_law_pen
theorem f_law_pen (T : Txt P w K mg base) {fd : FuncData} (F : FunD K "_law_pen" "_law_pen" (defArgs (s_law_pen)) (defBody (s_law_pen)) (defScope (s_law_pen)) [] [] (He.ga K "_law_pen") fd) : FnG P w K mg base 1 (He.ga K "_law_pen") fd ["script"] (spOf K mg 1 m_law_pen) :=
  fn_mk F sc_law_pen (n := 0) rfl fun cdv A outer s H E ecd gd hr => by
    have tk := takes_of (X := cxOf (L2.CX P w) P w K mg base N_law_pen "_law_pen" (defScope s_law_pen) (He.ga K "_law_pen") cdv A outer s H E) (E := E) rfl rfl rfl rfl
    have pw := passes_of (X := cxOf (L2.CX P w) P w K mg base N_law_pen "_law_pen" (defScope s_law_pen) (He.ga K "_law_pen") cdv A outer s H E) rfl
    exact rsOne (rsRet (rLst (raCons (rBltTy mList_ok mList_calm T.n_list bb_list (raCons (rSl (rVar 0) (roNo) (roPart (rInt))) (raNil))) (raCons (rInt) (raCons (rInt) (raNil))))))
theorem h_law_pen (T : Txt P w K mg base) : Has P w K mg base "_law_pen" 1 ["script"] m_law_pen := by
  obtain ⟨fd, hm, F⟩ := T.d_law_pen
  exact ⟨_, fd, hm, F.kp, F.bindsN (ps := ["script"]) fun _ _ _ _ _ _ us hl => match us, hl with | [_], _ => rfl, f_law_pen T F⟩

/-! _law_draw -/
abbrev s_law_draw : Stmt := topS 28
abbrev N_law_draw : List Str := ["pen", "many", "digit", "at", "cell", "great", "mixed"]
theorem sc_law_draw : FnScope N_law_draw ["pen", "many"] (defScope s_law_draw) := ⟨rfl, rfl, rfl, by decide +kernel, rfl, by decide +kernel, by decide +kernel⟩
def b_law_draw : SM := sSeq (sIf (tV (eBin mGt (eBin mIx (eVar 0) (eC (.int 2))) (eC (.int 0)))) (sSeq (sAsg (eBin mMod (eBlt mIntS (aCons (eBin mIx (eVar 0) (eC (.int 2))) (aNil))) (eVar 1)) (AVL.gName 2))
  (sSeq (sAsg (eBin mDiv (eBlt mIntS (aCons (eBin mIx (eVar 0) (eC (.int 2))) (aNil))) (eVar 1)) (AVL.gSub (eVar 0) (eC (.int 2))))
  (sRet (eVar 2)))) (sNext))
  (sSeq (sAsg (eBin mIx (eVar 0) (eC (.int 1))) (AVL.gName 3))
  (sSeq (sAsg (eBin (mAdd false) (eVar 3) (eC (.int 1))) (AVL.gSub (eVar 0) (eC (.int 1))))
  (sSeq (sAsg (eBin (mAdd false) (eBin (mMul false) (eC (.int 8369)) (eVar 3)) (eC (.int 2143))) (AVL.gName 4))
  (sSeq (sIf (tV (eBin (mEq true) (eBin mIx (eVar 0) (eC (.int 0))) (eLst false (aNil)))) (sAsg (eBin mIx (eBin mIx (eVar 0) (eC (.int 0))) (eBin mMod (eBlt mIntS (aCons (eVar 3) (aNil))) (eBlt mLen (aCons (eBin mIx (eVar 0) (eC (.int 0))) (aNil))))) (AVL.gName 4)) (sNext))
  (sSeq (sIf (tAnd (tV (eBin mLt (eVar 3) (eBlt mLen (aCons (eBin mIx (eVar 0) (eC (.int 0))) (aNil))))) (tV (eBin mGe (eBlt mAbs (aCons (eVar 4) (aNil))) (eBin mPow (eC (.int 10)) (eC (.int 18)))))) (sSeq (sAsg (eBin (mAdd false) (eBin (mMul false) (eC (.int 2)) (eBin mSub (eBlt mAbs (aCons (eVar 4) (aNil))) (eBin mPow (eC (.int 10)) (eC (.int 18))))) (eBlt mIntS (aCons (eBin mLt (eVar 4) (eC (.int 0))) (aNil)))) (AVL.gName 5))
  (sSeq (sAsg (eBin mDiv (eBlt mIntS (aCons (eVar 5) (aNil))) (eVar 1)) (AVL.gSub (eVar 0) (eC (.int 2))))
  (sRet (eBin mMod (eBlt mIntS (aCons (eVar 5) (aNil))) (eVar 1))))) (sNext))
  (sSeq (sAsg (eBin mMod (eBlt mIntS (aCons (eBin mPow (eBin (mAdd false) (eBin (mAdd false) (eBin mMod (eBlt mIntS (aCons (eVar 4) (aNil))) (eC (.int 2147483563))) (eBin (mMul false) (eC (.int 50131)) (eVar 3))) (eC (.int 2143))) (eC (.int 3))) (aNil))) (eC (.int 2147483629))) (AVL.gName 6))
  (sSeq (sAsg (eBin mMod (eBlt mIntS (aCons (eBin mPow (eBin (mAdd false) (eBin (mAdd false) (eBin (mMul false) (eVar 6) (eBin (mAdd false) (eBin (mMul false) (eC (.int 2)) (eVar 3)) (eC (.int 257)))) (eBin (mMul false) (eBin (mMul false) (eC (.int 50131)) (eVar 3)) (eVar 3))) (eC (.int 29))) (eC (.int 5))) (aNil))) (eC (.int 2147483587))) (AVL.gName 6))
  (sRet (eBin mMod (eBlt mIntS (aCons (eBin mDiv (eVar 6) (eC (.int 16))) (aNil))) (eVar 1))))))))))
def m_law_draw : MF := mkF 5 false b_law_draw
theorem f_law_draw (T : Txt P w K mg base) {fd : FuncData} (F : FunD K "_law_draw" "_law_draw" (defArgs (s_law_draw)) (defBody (s_law_draw)) (defScope (s_law_draw)) [] [] (He.ga K "_law_draw") fd) : FnG P w K mg base 1 (He.ga K "_law_draw") fd ["pen", "many"] (spOf K mg 2 m_law_draw) :=
  fn_mk F sc_law_draw (n := 5) rfl fun cdv A outer s H E ecd gd hr => by
    have tk := takes_of (X := cxOf (L2.CX P w) P w K mg base N_law_draw "_law_draw" (defScope s_law_draw) (He.ga K "_law_draw") cdv A outer s H E) (E := E) rfl rfl rfl rfl
    have pw := passes_of (X := cxOf (L2.CX P w) P w K mg base N_law_draw "_law_draw" (defScope s_law_draw) (He.ga K "_law_draw") cdv A outer s H E) rfl
    exact rsCons (rsIf (rtCmp mGt_ok mI_calm (rIx (rVar 0) (rInt)) (rInt) (by exact nomark _)) (rsCons (rsAsg (rBin mMod_ok mI_calm (rBltTy mIntS_ok mIntS_calm T.n_int bb_int (raCons (rIx (rVar 0) (rInt)) (raNil))) (rVar 1)) (rgName 2 sc_law_draw.nd))
      (rsCons (rsAsg (rBin mDiv_ok mI_calm (rBltTy mIntS_ok mIntS_calm T.n_int bb_int (raCons (rIx (rVar 0) (rInt)) (raNil))) (rVar 1)) (rgSub (W := W0) (rVar 0) (rInt)))
      (rsOne (rsRet (rVar 2))))) (rsNil))
      (rsCons (rsAsg (rIx (rVar 0) (rInt)) (rgName 3 sc_law_draw.nd))
      (rsCons (rsAsg (rBin mAdd_ok mAdd_calm (rVar 3) (rInt)) (rgSub (W := W0) (rVar 0) (rInt)))
      (rsCons (rsAsg (rBin mAdd_ok mAdd_calm (rBin mMul_ok mMul_calm (rInt) (rVar 3)) (rInt)) (rgName 4 sc_law_draw.nd))
      (rsCons (rsIf (rtCmp (mNe_ok hr.units) mEq_calm (rIx (rVar 0) (rInt)) (rLst (raNil)) (by exact nomark _)) (rsOne (rsAsg (rIx (rIx (rVar 0) (rInt)) (rBin mMod_ok mI_calm (rBltTy mIntS_ok mIntS_calm T.n_int bb_int (raCons (rVar 3) (raNil))) (rBlt mLen_ok mLen_calm T.n_len bb_len (raCons (rIx (rVar 0) (rInt)) (raNil))))) (rgName 4 sc_law_draw.nd))) (rsNil))
      (rsCons (rsIf (PW.pt (rtAnd (rtCmp mLt_ok mI_calm (rVar 3) (rBlt mLen_ok mLen_calm T.n_len bb_len (raCons (rIx (rVar 0) (rInt)) (raNil))) (by exact nomark _)) (rtAnd1 (rtCmp mGe_ok mI_calm (rBlt mAbs_ok mAbs_calm T.n_abs bb_abs (raCons (rVar 4) (raNil))) (rBin mPow_ok mI_calm (rInt) (rInt)) (by exact nomark _))))) (rsCons (rsAsg (rBin mAdd_ok mAdd_calm (rBin mMul_ok mMul_calm (rInt) (rBin mSub_ok mI_calm (rBlt mAbs_ok mAbs_calm T.n_abs bb_abs (raCons (rVar 4) (raNil))) (rBin mPow_ok mI_calm (rInt) (rInt)))) (rBltTy mIntS_ok mIntS_calm T.n_int bb_int (raCons (rCmp mLt_ok mI_calm (rVar 4) (rInt) (by exact nomark _)) (raNil)))) (rgName 5 sc_law_draw.nd))
      (rsCons (rsAsg (rBin mDiv_ok mI_calm (rBltTy mIntS_ok mIntS_calm T.n_int bb_int (raCons (rVar 5) (raNil))) (rVar 1)) (rgSub (W := W0) (rVar 0) (rInt)))
      (rsOne (rsRet (rBin mMod_ok mI_calm (rBltTy mIntS_ok mIntS_calm T.n_int bb_int (raCons (rVar 5) (raNil))) (rVar 1)))))) (rsNil))
      (rsCons (rsAsg (rBin mMod_ok mI_calm (rBltTy mIntS_ok mIntS_calm T.n_int bb_int (raCons (rBin mPow_ok mI_calm (rBin mAdd_ok mAdd_calm (rBin mAdd_ok mAdd_calm (rBin mMod_ok mI_calm (rBltTy mIntS_ok mIntS_calm T.n_int bb_int (raCons (rVar 4) (raNil))) (rInt)) (rBin mMul_ok mMul_calm (rInt) (rVar 3))) (rInt)) (rInt)) (raNil))) (rInt)) (rgName 6 sc_law_draw.nd))
      (rsCons (rsAsg (rBin mMod_ok mI_calm (rBltTy mIntS_ok mIntS_calm T.n_int bb_int (raCons (rBin mPow_ok mI_calm (rBin mAdd_ok mAdd_calm (rBin mAdd_ok mAdd_calm (rBin mMul_ok mMul_calm (rVar 6) (rBin mAdd_ok mAdd_calm (rBin mMul_ok mMul_calm (rInt) (rVar 3)) (rInt))) (rBin mMul_ok mMul_calm (rBin mMul_ok mMul_calm (rInt) (rVar 3)) (rVar 3))) (rInt)) (rInt)) (raNil))) (rInt)) (rgName 6 sc_law_draw.nd))
      (rsOne (rsRet (rBin mMod_ok mI_calm (rBltTy mIntS_ok mIntS_calm T.n_int bb_int (raCons (rBin mDiv_ok mI_calm (rVar 6) (rInt)) (raNil))) (rVar 1)))))))))))
theorem h_law_draw (T : Txt P w K mg base) : Has P w K mg base "_law_draw" 1 ["pen", "many"] m_law_draw := by
  obtain ⟨fd, hm, F⟩ := T.d_law_draw
  exact ⟨_, fd, hm, F.kp, F.bindsN (ps := ["pen", "many"]) fun _ _ _ _ _ _ us hl => match us, hl with | [_, _], _ => rfl, f_law_draw T F⟩

/-! _law_pick -/
abbrev s_law_pick : Stmt := topS 29
abbrev N_law_pick : List Str := ["pen", "some"]
theorem sc_law_pick : FnScope N_law_pick ["pen", "some"] (defScope s_law_pick) := ⟨rfl, rfl, rfl, by decide +kernel, rfl, by decide +kernel, by decide +kernel⟩
def b_law_pick : SM := sRet (eBin mIx (eVar 1) (eCall 2 m_law_draw (aCons (eVar 0) (aCons (eBlt mLen (aCons (eVar 1) (aNil))) (aNil)))))
def m_law_pick : MF := mkF 0 false b_law_pick
theorem f_law_pick (T : Txt P w K mg base) {fd : FuncData} (F : FunD K "_law_pick" "_law_pick" (defArgs (s_law_pick)) (defBody (s_law_pick)) (defScope (s_law_pick)) [] [] (He.ga K "_law_pick") fd) : FnG P w K mg base 2 (He.ga K "_law_pick") fd ["pen", "some"] (spOf K mg 2 m_law_pick) :=
  fn_mk F sc_law_pick (n := 0) rfl fun cdv A outer s H E ecd gd hr => by
    have tk := takes_of (X := cxOf (L2.CX P w) P w K mg base N_law_pick "_law_pick" (defScope s_law_pick) (He.ga K "_law_pick") cdv A outer s H E) (E := E) rfl rfl rfl rfl
    have pw := passes_of (X := cxOf (L2.CX P w) P w K mg base N_law_pick "_law_pick" (defScope s_law_pick) (He.ga K "_law_pick") cdv A outer s H E) rfl
    exact rsOne (rsRet (rIx (rVar 1) (rCall (h_law_draw T) gd (hr.mono (by decide)) tk (raCons (rVar 0) (raCons (rBlt mLen_ok mLen_calm T.n_len bb_len (raCons (rVar 1) (raNil))) (raNil))))))
theorem h_law_pick (T : Txt P w K mg base) : Has P w K mg base "_law_pick" 2 ["pen", "some"] m_law_pick := by
  obtain ⟨fd, hm, F⟩ := T.d_law_pick
  exact ⟨_, fd, hm, F.kp, F.bindsN (ps := ["pen", "some"]) fun _ _ _ _ _ _ us hl => match us, hl with | [_, _], _ => rfl, f_law_pick T F⟩

/-! _law_least -/
abbrev s_law_least : Stmt := topS 30
abbrev N_law_least : List Str := ["orders", "rows", "at", "row"]
theorem sc_law_least : FnScope N_law_least ["orders"] (defScope s_law_least) := ⟨rfl, rfl, rfl, by decide +kernel, rfl, by decide +kernel, by decide +kernel⟩
def b_law_least : SM := sSeq (sAsg (eLst false (aNil)) (AVL.gName 1))
  (sSeq (sFor (itRng1 (aCons (eBlt mMax2 (aCons (eC (.int 1)) (aCons (eBlt mLen (aCons (eVar 0) (aNil))) (aNil)))) (aNil))) (AVL.gName 2) (sSeq (sAsg (eBin (mAdd false) (eBlt (mList false) (aCons (eSl false (eVar 0) (oPart (eVar 2)) (oNo)) (aNil))) (eBlt (mList false) (aCons (eSl false (eVar 0) (oNo) (oPart (eVar 2))) (aNil)))) (AVL.gName 3))
  (sAsg (eBin (mAdd false) (eVar 1) (eLst false (aCons (eBlt mTuple (aCons (eVar 3) (aNil))) (aCons (eBlt mTuple (aCons (eRev false (eVar 3)) (aNil))) (aNil))))) (AVL.gName 1))))
  (sRet (eBlt mMin (aCons (eVar 1) (aNil)))))
def m_law_least : MF := mkF 3 false b_law_least
theorem f_law_least (T : Txt P w K mg base) {fd : FuncData} (F : FunD K "_law_least" "_law_least" (defArgs (s_law_least)) (defBody (s_law_least)) (defScope (s_law_least)) [] [] (He.ga K "_law_least") fd) : FnG P w K mg base 1 (He.ga K "_law_least") fd ["orders"] (spOf K mg 1 m_law_least) :=
  fn_mk F sc_law_least (n := 3) rfl fun cdv A outer s H E ecd gd hr => by
    have tk := takes_of (X := cxOf (L2.CX P w) P w K mg base N_law_least "_law_least" (defScope s_law_least) (He.ga K "_law_least") cdv A outer s H E) (E := E) rfl rfl rfl rfl
    have pw := passes_of (X := cxOf (L2.CX P w) P w K mg base N_law_least "_law_least" (defScope s_law_least) (He.ga K "_law_least") cdv A outer s H E) rfl
    exact rsCons (rsAsg (rLst (raNil)) (rgName 1 sc_law_least.nd))
      (rsCons (rsFor pw (riRng1 T.n_range (raCons (rBlt (mMax2_ok rfl) mMax2_calm T.n_max bb_max (raCons (rInt) (raCons (rBlt mLen_ok mLen_calm T.n_len bb_len (raCons (rVar 0) (raNil))) (raNil)))) (raNil))) (rgName 2 sc_law_least.nd) (rsCons (rsAsg (rBin mAdd_ok mAdd_calm (rBltTy mList_ok mList_calm T.n_list bb_list (raCons (rSl (rVar 0) (roPart (rVar 2)) (roNo)) (raNil))) (rBltTy mList_ok mList_calm T.n_list bb_list (raCons (rSl (rVar 0) (roNo) (roPart (rVar 2))) (raNil)))) (rgName 3 sc_law_least.nd))
      (rsOne (rsAsg (rBin mAdd_ok mAdd_calm (rVar 1) (rLst (raCons (rBltTy mTuple_ok mTuple_calm T.n_tuple bb_tuple (raCons (rVar 3) (raNil))) (raCons (rBltTy mTuple_ok mTuple_calm T.n_tuple bb_tuple (raCons (rRev (rVar 3)) (raNil))) (raNil))))) (rgName 1 sc_law_least.nd)))))
      (rsOne (rsRet (rBlt (mMin_ok rfl hr) mMin_calm T.n_min bb_min (raCons (rVar 1) (raNil))))))
theorem h_law_least (T : Txt P w K mg base) : Has P w K mg base "_law_least" 1 ["orders"] m_law_least := by
  obtain ⟨fd, hm, F⟩ := T.d_law_least
  exact ⟨_, fd, hm, F.kp, F.bindsN (ps := ["orders"]) fun _ _ _ _ _ _ us hl => match us, hl with | [_], _ => rfl, f_law_least T F⟩

/-! _law_heard -/
abbrev s_law_heard : Stmt := topS 31
abbrev N_law_heard : List Str := ["ask", "caught", "error", "found"]
theorem sc_law_heard : FnScope N_law_heard ["ask"] (defScope s_law_heard) := ⟨rfl, rfl, rfl, by decide +kernel, rfl, by decide +kernel, by decide +kernel⟩
def b_law_heard : SM := sSeq (sIf (tV (eBin (mIs false) (eVar 1) (eC .non))) (sRet (eC .non)) (sNext))
  (sSeq (sAsg (eLst true (aNil)) (AVL.gName 3))
  (sSeq (sIf (tV (eBlt (mIsi isaT) (aCons (eVar 1) (aCons (eC (.cls "BadNumber")) (aNil))))) (sExpr (eMt "list" mApp (eVar 3) (aCons (eTup (aCons (eC (.str "number")) (aCons (eAttr okx_part oko_part "part" (eVar 1)) (aNil)))) (aNil)))) (sNext))
  (sSeq (sIf (tV (eBlt (mIsi isaT) (aCons (eVar 1) (aCons (eC (.cls "BadText")) (aNil))))) (sExpr (eMt "list" mApp (eVar 3) (aCons (eTup (aCons (eC (.str "text")) (aCons (eAttr okx_item oko_item "item" (eVar 1)) (aNil)))) (aNil)))) (sNext))
  (sSeq (sIf (tV (eBlt (mIsi isaT) (aCons (eVar 1) (aCons (eC (.cls "BadValue")) (aNil))))) (sExpr (eMt "list" mApp (eVar 3) (aCons (eTup (aCons (eC (.str "value")) (aCons (eAttr okx_part oko_part "part" (eVar 1)) (aNil)))) (aNil)))) (sNext))
  (sRet (eIf (tV (eBin (mEq false) (eBlt mLen (aCons (eVar 3) (aNil))) (eC (.int 1)))) (eBin mIx (eVar 3) (eC (.int 0))) (eTup (aCons (eC (.str "odd")) (aCons (eC (.str "")) (aNil))))))))))
def m_law_heard : (AH → Res AV) → AH → Res AV := mGive under_FloorError 4 1 b_law_heard
theorem h_law_heard (T : Txt P w K mg base) : HasL P w K mg base "_law_heard" "ask" m_law_heard := by
  obtain ⟨fd, hm, F⟩ := T.d_law_heard
  refine gives (N := N_law_heard) (i := 2) (j := 1) (n := "error") (y := "caught") (cx := "FloorError") F hm sc_law_heard (F.bindsN (ps := ["ask"]) fun _ _ _ _ _ _ us hl => match us, hl with | [_], _ => rfl) rfl rfl rfl rfl (by decide) (by decide) (Or.inl rfl) rfl rfl rfl (by decide) T.g_FloorError T.under_FloorError fun cdv A outer s H gd hr => ?_
  exact rsCons (rsIf (rtCmp mIs_ok mIs_calm (rVar 1) (rNon) (by exact nomark _)) (rsOne (rsRet (rNon))) (rsNil))
      (rsCons (rsAsg (rLst (raNil)) (rgName 3 sc_law_heard.nd))
      (rsCons (rsIf (rtV (rBlt (mIsi_ok T.isa) mIsi_calm T.n_isinstance bb_isinstance (raCons (rVar 1) (raCons (rCls T.c_BadNumber) (raNil))))) (rsOne (rsExpr (rMt PySem.F.plainAttrs_list PySem.F.slot_list_append PySem.F.type_list_append mApp_ok mApp_calm (rVar 3) (raCons (rTup (raCons (rStr) (raCons (rAttr T.at_part T.ao_part (rVar 1)) (raNil)))) (raNil))))) (rsNil))
      (rsCons (rsIf (rtV (rBlt (mIsi_ok T.isa) mIsi_calm T.n_isinstance bb_isinstance (raCons (rVar 1) (raCons (rCls T.c_BadText) (raNil))))) (rsOne (rsExpr (rMt PySem.F.plainAttrs_list PySem.F.slot_list_append PySem.F.type_list_append mApp_ok mApp_calm (rVar 3) (raCons (rTup (raCons (rStr) (raCons (rAttr T.at_item T.ao_item (rVar 1)) (raNil)))) (raNil))))) (rsNil))
      (rsCons (rsIf (rtV (rBlt (mIsi_ok T.isa) mIsi_calm T.n_isinstance bb_isinstance (raCons (rVar 1) (raCons (rCls T.c_BadValue) (raNil))))) (rsOne (rsExpr (rMt PySem.F.plainAttrs_list PySem.F.slot_list_append PySem.F.type_list_append mApp_ok mApp_calm (rVar 3) (raCons (rTup (raCons (rStr) (raCons (rAttr T.at_part T.ao_part (rVar 1)) (raNil)))) (raNil))))) (rsNil))
      (rsOne (rsRet (rIf (rtCmp (mEq_ok hr.units) mEq_calm (rBlt mLen_ok mLen_calm T.n_len bb_len (raCons (rVar 3) (raNil))) (rInt) (by exact nomark _)) (rIx (rVar 3) (rInt)) (rTup (raCons (rStr) (raCons (rStr) (raNil)))))))))))

/-! _law_drawn_sign -/
abbrev s_law_drawn_sign : Stmt := topS 32
abbrev N_law_drawn_sign : List Str := ["pen", "handles", "caps", "cones", "turn", "mirrors", "spot"]
theorem sc_law_drawn_sign : FnScope N_law_drawn_sign ["pen"] (defScope s_law_drawn_sign) := ⟨rfl, rfl, rfl, by decide +kernel, rfl, by decide +kernel, by decide +kernel⟩
def b_law_drawn_sign : SM := sSeq (sAsg (eCall 2 m_law_pick (aCons (eVar 0) (aCons (eLst false (aCons (eTup (aCons (eC (.int 0)) (aCons (eC (.int 0)) (aNil)))) (aCons (eTup (aCons (eC (.int 0)) (aCons (eC (.int 0)) (aNil)))) (aCons (eTup (aCons (eC (.int 1)) (aCons (eC (.int 0)) (aNil)))) (aCons (eTup (aCons (eC (.int 3)) (aCons (eC (.int 0)) (aNil)))) (aCons (eTup (aCons (eC (.int 0)) (aCons (eC (.int 1)) (aNil)))) (aCons (eTup (aCons (eC (.int 0)) (aCons (eC (.int 4)) (aNil)))) (aNil)))))))) (aNil)))) (AVL.gTup 2 (AVL.gsCons (AVL.gName 1) (AVL.gsCons (AVL.gName 2) (AVL.gsNil)))))
  (sSeq (sAsg (eComp false (itRng1 (aCons (eCall 2 m_law_draw (aCons (eVar 0) (aCons (eC (.int 5)) (aNil)))) (aNil))) (AVL.gName 4) (tTrue) (eCall 2 m_law_pick (aCons (eVar 0) (aCons (eLst false (aCons (eC (.int 2)) (aCons (eC (.int 3)) (aCons (eC (.int 4)) (aCons (eC (.int 11)) (aCons (eC (.int 20)) (aCons (eC (.int 99)) (aCons (eC (.int 100)) (aCons (eC (.int 120)) (aNil)))))))))) (aNil)))) [4]) (AVL.gName 3))
  (sSeq (sAsg (eComp false (itRng1 (aCons (eCall 2 m_law_draw (aCons (eVar 0) (aCons (eC (.int 4)) (aNil)))) (aNil))) (AVL.gName 4) (tTrue) (eComp false (itRng1 (aCons (eCall 2 m_law_draw (aCons (eVar 0) (aCons (eC (.int 5)) (aNil)))) (aNil))) (AVL.gName 6) (tTrue) (eCall 2 m_law_pick (aCons (eVar 0) (aCons (eLst false (aCons (eC (.int 2)) (aCons (eC (.int 3)) (aCons (eC (.int 10)) (aCons (eC (.int 120)) (aNil)))))) (aNil)))) [6]) [4]) (AVL.gName 5))
  (sRet (eTup (aCons (eVar 1) (aCons (eVar 2) (aCons (eVar 3) (aCons (eVar 5) (aNil)))))))))
def m_law_drawn_sign : MF := mkF 6 false b_law_drawn_sign
theorem f_law_drawn_sign (T : Txt P w K mg base) {fd : FuncData} (F : FunD K "_law_drawn_sign" "_law_drawn_sign" (defArgs (s_law_drawn_sign)) (defBody (s_law_drawn_sign)) (defScope (s_law_drawn_sign)) [] [] (He.ga K "_law_drawn_sign") fd) : FnG P w K mg base 3 (He.ga K "_law_drawn_sign") fd ["pen"] (spOf K mg 1 m_law_drawn_sign) :=
  fn_mk F sc_law_drawn_sign (n := 6) rfl fun cdv A outer s H E ecd gd hr => by
    have tk := takes_of (X := cxOf (L2.CX P w) P w K mg base N_law_drawn_sign "_law_drawn_sign" (defScope s_law_drawn_sign) (He.ga K "_law_drawn_sign") cdv A outer s H E) (E := E) rfl rfl rfl rfl
    have pw := passes_of (X := cxOf (L2.CX P w) P w K mg base N_law_drawn_sign "_law_drawn_sign" (defScope s_law_drawn_sign) (He.ga K "_law_drawn_sign") cdv A outer s H E) rfl
    exact rsCons (rsAsg (rCall (h_law_pick T) gd (hr.mono (by decide)) tk (raCons (rVar 0) (raCons (rLst (raCons (rTup (raCons (rInt) (raCons (rInt) (raNil)))) (raCons (rTup (raCons (rInt) (raCons (rInt) (raNil)))) (raCons (rTup (raCons (rInt) (raCons (rInt) (raNil)))) (raCons (rTup (raCons (rInt) (raCons (rInt) (raNil)))) (raCons (rTup (raCons (rInt) (raCons (rInt) (raNil)))) (raCons (rTup (raCons (rInt) (raCons (rInt) (raNil)))) (raNil)))))))) (raNil)))) (rgTup (rgsCons (rgName 1 sc_law_drawn_sign.nd) (rgsCons (rgName 2 sc_law_drawn_sign.nd) (rgsNil)))))
      (rsCons (rsSetComp (i := 3) (own := [("turn", 4)]) (g := L2.gName 4) sc_law_drawn_sign.nd (riRng1 T.n_range (raCons (rCall (h_law_draw T) gd (hr.mono (by decide)) tk (raCons (rVar 0) (raCons (rInt) (raNil)))) (raNil))) (blkOk_by (own := [("turn", 4)]) (N := N_law_drawn_sign) (sc := defScope s_law_drawn_sign) (by decide +kernel)) (gokName (by decide)) (fun _ _ _ _ _ => pg_name (i := 4) sc_law_drawn_sign.nd rfl (by first | exact Or.inl rfl | exact Or.inr rfl)) (fun _ _ _ _ _ => rtsNil) (fun _ _ _ _ _ => rCall (h_law_pick T) gd (hr.mono (by decide)) AVL.takes0 (raCons (rVar 0) (raCons (rLst (raCons (rInt) (raCons (rInt) (raCons (rInt) (raCons (rInt) (raCons (rInt) (raCons (rInt) (raCons (rInt) (raCons (rInt) (raNil)))))))))) (raNil)))))
      (rsCons (rsSetComp (i := 5) (own := [("turn", 4)]) (g := L2.gName 4) sc_law_drawn_sign.nd (riRng1 T.n_range (raCons (rCall (h_law_draw T) gd (hr.mono (by decide)) tk (raCons (rVar 0) (raCons (rInt) (raNil)))) (raNil))) (blkOk_by (own := [("turn", 4)]) (N := N_law_drawn_sign) (sc := defScope s_law_drawn_sign) (by decide +kernel)) (gokName (by decide)) (fun _ _ _ _ _ => pg_name (i := 4) sc_law_drawn_sign.nd rfl (by first | exact Or.inl rfl | exact Or.inr rfl)) (fun _ _ _ _ _ => rtsNil) (fun _ _ _ _ _ => rComp (own := [("spot", 6)]) (g := L2.gName 6) sc_law_drawn_sign.nd (riRng1 T.n_range (raCons (rCall (h_law_draw T) gd (hr.mono (by decide)) AVL.takes0 (raCons (rVar 0) (raCons (rInt) (raNil)))) (raNil))) (blkOk_nest (own := [("spot", 6)]) (N := N_law_drawn_sign) (sc := defScope s_law_drawn_sign) rfl rfl (by decide +kernel)) (gokName (by decide)) (fun _ _ _ _ _ => pg_name (i := 6) sc_law_drawn_sign.nd rfl (by first | exact Or.inl rfl | exact Or.inr rfl)) (fun _ _ _ _ _ => rtsNil) (fun _ _ _ _ _ => rCall (h_law_pick T) gd (hr.mono (by decide)) AVL.takes0 (raCons (rVar 0) (raCons (rLst (raCons (rInt) (raCons (rInt) (raCons (rInt) (raCons (rInt) (raNil)))))) (raNil))))))
      (rsOne (rsRet (rTup (raCons (rVar 1) (raCons (rVar 2) (raCons (rVar 3) (raCons (rVar 5) (raNil))))))))))
theorem h_law_drawn_sign (T : Txt P w K mg base) : Has P w K mg base "_law_drawn_sign" 3 ["pen"] m_law_drawn_sign := by
  obtain ⟨fd, hm, F⟩ := T.d_law_drawn_sign
  exact ⟨_, fd, hm, F.kp, F.bindsN (ps := ["pen"]) fun _ _ _ _ _ _ us hl => match us, hl with | [_], _ => rfl, f_law_drawn_sign T F⟩

/-! _law_text -/
abbrev s_law_text : Stmt := topS 33
abbrev N_law_text : List Str := ["handles", "caps", "cones", "mirrors", "words", "order", "ring"]
theorem sc_law_text : FnScope N_law_text ["handles", "caps", "cones", "mirrors"] (defScope s_law_text) := ⟨rfl, rfl, rfl, by decide +kernel, rfl, by decide +kernel, by decide +kernel⟩
def b_law_text : SM := sSeq (sAsg (eBin (mAdd false) (eBin (mMul false) (eLst false (aCons (eC (.str "o")) (aNil))) (eVar 0)) (eComp false (itSeq (eVar 2)) (AVL.gName 5) (tTrue) (eBlt mStr (aCons (eVar 5) (aNil))) [5])) (AVL.gName 4))
  (sSeq (sFor (itSeq (eVar 3)) (AVL.gName 6) (sAsg (eBin (mAdd false) (eBin (mAdd false) (eVar 4) (eLst false (aCons (eC (.str "*")) (aNil)))) (eComp false (itSeq (eVar 6)) (AVL.gName 5) (tTrue) (eBlt mStr (aCons (eVar 5) (aNil))) [5])) (AVL.gName 4)))
  (sSeq (sAsg (eBin (mAdd false) (eVar 4) (eBin (mMul false) (eLst false (aCons (eC (.str "x")) (aNil))) (eVar 1))) (AVL.gName 4))
  (sRet (eIf (tV (eBin (mEq true) (eVar 4) (eLst false (aNil)))) (eMt "str" mJoin (eC (.str " ")) (aCons (eVar 4) (aNil))) (eC (.str "-"))))))
def m_law_text : MF := mkF 3 false b_law_text
theorem f_law_text (T : Txt P w K mg base) {fd : FuncData} (F : FunD K "_law_text" "_law_text" (defArgs (s_law_text)) (defBody (s_law_text)) (defScope (s_law_text)) [] [] (He.ga K "_law_text") fd) : FnG P w K mg base 1 (He.ga K "_law_text") fd ["handles", "caps", "cones", "mirrors"] (spOf K mg 4 m_law_text) :=
  fn_mk F sc_law_text (n := 3) rfl fun cdv A outer s H E ecd gd hr => by
    have tk := takes_of (X := cxOf (L2.CX P w) P w K mg base N_law_text "_law_text" (defScope s_law_text) (He.ga K "_law_text") cdv A outer s H E) (E := E) rfl rfl rfl rfl
    have pw := passes_of (X := cxOf (L2.CX P w) P w K mg base N_law_text "_law_text" (defScope s_law_text) (He.ga K "_law_text") cdv A outer s H E) rfl
    exact rsCons (rsAsg (rBin mAdd_ok mAdd_calm (rBin mMul_ok mMul_calm (rLst (raCons (rStr) (raNil))) (rVar 0)) (rComp (own := [("order", 5)]) (g := L2.gName 5) sc_law_text.nd (riSeq (rVar 2)) (blkOk_by (own := [("order", 5)]) (N := N_law_text) (sc := defScope s_law_text) (by decide +kernel)) (gokName (by decide)) (fun _ _ _ _ _ => pg_name (i := 5) sc_law_text.nd rfl (by first | exact Or.inl rfl | exact Or.inr rfl)) (fun _ _ _ _ _ => rtsNil) (fun _ _ _ _ _ => rBltTy mStr_ok mStr_calm T.n_str bb_str (raCons (rVar 5) (raNil))))) (rgName 4 sc_law_text.nd))
      (rsCons (rsFor pw (riSeq (rVar 3)) (rgName 6 sc_law_text.nd) (rsOne (rsAsg (rBin mAdd_ok mAdd_calm (rBin mAdd_ok mAdd_calm (rVar 4) (rLst (raCons (rStr) (raNil)))) (rComp (own := [("order", 5)]) (g := L2.gName 5) sc_law_text.nd (riSeq (rVar 6)) (blkOk_by (own := [("order", 5)]) (N := N_law_text) (sc := defScope s_law_text) (by decide +kernel)) (gokName (by decide)) (fun _ _ _ _ _ => pg_name (i := 5) sc_law_text.nd rfl (by first | exact Or.inl rfl | exact Or.inr rfl)) (fun _ _ _ _ _ => rtsNil) (fun _ _ _ _ _ => rBltTy mStr_ok mStr_calm T.n_str bb_str (raCons (rVar 5) (raNil))))) (rgName 4 sc_law_text.nd))))
      (rsCons (rsAsg (rBin mAdd_ok mAdd_calm (rVar 4) (rBin mMul_ok mMul_calm (rLst (raCons (rStr) (raNil))) (rVar 1))) (rgName 4 sc_law_text.nd))
      (rsOne (rsRet (rIf (rtCmp (mNe_ok hr.units) mEq_calm (rVar 4) (rLst (raNil)) (by exact nomark _)) (rMt PySem.F.plainAttrs_str PySem.F.slot_str_join PySem.F.type_str_join mJoin_ok mJoin_calm (rStr) (raCons (rVar 4) (raNil))) (rStr))))))
theorem h_law_text (T : Txt P w K mg base) : Has P w K mg base "_law_text" 1 ["handles", "caps", "cones", "mirrors"] m_law_text := by
  obtain ⟨fd, hm, F⟩ := T.d_law_text
  exact ⟨_, fd, hm, F.kp, F.bindsN (ps := ["handles", "caps", "cones", "mirrors"]) fun _ _ _ _ _ _ us hl => match us, hl with | [_, _, _, _], _ => rfl, f_law_text T F⟩

/-! _law_order -/
abbrev s_law_order : Stmt := topS 34
abbrev N_law_order : List Str := ["word", "sign"]
theorem sc_law_order : FnScope N_law_order ["word"] (defScope s_law_order) := ⟨rfl, rfl, rfl, by decide +kernel, rfl, by decide +kernel, by decide +kernel⟩
def b_law_order : SM := sSeq (sIf (tOr (tV (eBin (mEq false) (eVar 0) (eC (.str "")))) (tOr (tV (eBin mGt (eBlt mLen (aCons (eVar 0) (aNil))) (eC (.int 3)))) (tOr (tV (eBin (mEq false) (eBin mIx (eVar 0) (eC (.int 0))) (eC (.str "0")))) (tV (eBin (mEq true) (eComp false (itSeq (eVar 0)) (AVL.gName 1) (tV (eBin (mIn true) (eVar 1) (eC (.str "0123456789")))) (eVar 1) [1]) (eLst false (aNil))))))) (sRet (eC .non)) (sNext))
  (sRet (eIf (tV (eChain mLe mLe (eC (.int 2)) (eBlt mIntS (aCons (eVar 0) (aNil))) (eC (.int 120)))) (eBlt mIntS (aCons (eVar 0) (aNil))) (eC .non)))
def m_law_order : MF := mkF 1 false b_law_order
theorem f_law_order (T : Txt P w K mg base) {fd : FuncData} (F : FunD K "_law_order" "_law_order" (defArgs (s_law_order)) (defBody (s_law_order)) (defScope (s_law_order)) [] [] (He.ga K "_law_order") fd) : FnG P w K mg base 1 (He.ga K "_law_order") fd ["word"] (spOf K mg 1 m_law_order) :=
  fn_mk F sc_law_order (n := 1) rfl fun cdv A outer s H E ecd gd hr => by
    have tk := takes_of (X := cxOf (L2.CX P w) P w K mg base N_law_order "_law_order" (defScope s_law_order) (He.ga K "_law_order") cdv A outer s H E) (E := E) rfl rfl rfl rfl
    have pw := passes_of (X := cxOf (L2.CX P w) P w K mg base N_law_order "_law_order" (defScope s_law_order) (He.ga K "_law_order") cdv A outer s H E) rfl
    exact rsCons (rsIf (PW.pt (rtOr (rtCmp (mEq_ok hr.units) mEq_calm (rVar 0) (rStr) (by exact nomark _)) (rtOr (rtCmp mGt_ok mI_calm (rBlt mLen_ok mLen_calm T.n_len bb_len (raCons (rVar 0) (raNil))) (rInt) (by exact nomark _)) (rtOr (rtCmp (mEq_ok hr.units) mEq_calm (rIx (rVar 0) (rInt)) (rStr) (by exact nomark _)) (rtOr1 (rtCmp (mNe_ok hr.units) mEq_calm (rComp (own := [("sign", 1)]) (g := L2.gName 1) sc_law_order.nd (riSeq (rVar 0)) (blkOk_by (own := [("sign", 1)]) (N := N_law_order) (sc := defScope s_law_order) (by decide +kernel)) (gokName (by decide)) (fun _ _ _ _ _ => pg_name (i := 1) sc_law_order.nd rfl (by first | exact Or.inl rfl | exact Or.inr rfl)) (fun _ _ _ _ _ => rtsOne (rtCmp mNotIn_ok mIn_calm (rVar 1) (rStr) (by exact rfl))) (fun _ _ _ _ _ => rVar 1)) (rLst (raNil)) (by exact nomark _))))))) (rsOne (rsRet (rNon))) (rsNil))
      (rsOne (rsRet (rIf (rtChain mLe_ok mI_calm mLe_ok mI_calm (rInt) (rBltTy mIntS_ok mIntS_calm T.n_int bb_int (raCons (rVar 0) (raNil))) (rInt)) (rBltTy mIntS_ok mIntS_calm T.n_int bb_int (raCons (rVar 0) (raNil))) (rNon))))
theorem h_law_order (T : Txt P w K mg base) : Has P w K mg base "_law_order" 1 ["word"] m_law_order := by
  obtain ⟨fd, hm, F⟩ := T.d_law_order
  exact ⟨_, fd, hm, F.kp, F.bindsN (ps := ["word"]) fun _ _ _ _ _ _ us hl => match us, hl with | [_], _ => rfl, f_law_order T F⟩

/-! _law_read -/
abbrev s_law_read : Stmt := topS 35
abbrev N_law_read : List Str := ["text", "words", "place", "handles", "caps", "cones", "mirrors", "at", "word", "order", "ring"]
theorem sc_law_read : FnScope N_law_read ["text"] (defScope s_law_read) := ⟨rfl, rfl, rfl, by decide +kernel, rfl, by decide +kernel, by decide +kernel⟩
def b_law_read : SM := sSeq (sAsg (eTup (aCons (eMt "str" (mSplit false) (eVar 0) (aCons (eC (.str " ")) (aNil))) (aCons (eC (.str "handles")) (aCons (eC (.int 0)) (aCons (eC (.int 0)) (aCons (eLst false (aNil)) (aCons (eLst false (aNil)) (aNil)))))))) (AVL.gTup 6 (AVL.gsCons (AVL.gName 1) (AVL.gsCons (AVL.gName 2) (AVL.gsCons (AVL.gName 3) (AVL.gsCons (AVL.gName 4) (AVL.gsCons (AVL.gName 5) (AVL.gsCons (AVL.gName 6) (AVL.gsNil)))))))))
  (sSeq (sIf (tV (eBin (mEq false) (eBin mIx (eVar 1) (eC (.int 0))) (eC (.str "-")))) (sRet (eIf (tV (eBin (mEq false) (eBlt mLen (aCons (eVar 1) (aNil))) (eC (.int 1)))) (eTup (aCons (eC (.int 0)) (aCons (eC (.int 0)) (aCons (eTup (aNil)) (aCons (eTup (aNil)) (aNil)))))) (eC (.int 1)))) (sNext))
  (sSeq (sFor (itEnum (aCons (eVar 1) (aNil))) (AVL.gTup 2 (AVL.gsCons (AVL.gName 7) (AVL.gsCons (AVL.gName 8) (AVL.gsNil)))) (sSeq (sAsg (eCall 1 m_law_order (aCons (eVar 8) (aNil))) (AVL.gName 9))
  (sIf (tAnd (tV (eBin (mEq false) (eVar 8) (eC (.str "o")))) (tV (eBin (mEq false) (eVar 2) (eC (.str "handles"))))) (sAsg (eBin (mAdd false) (eVar 3) (eC (.int 1))) (AVL.gName 3)) (sIf (tAnd (tV (eBin (mIs true) (eVar 9) (eC .non))) (tV (eBin (mIn false) (eVar 2) (eTup (aCons (eC (.str "handles")) (aCons (eC (.str "cones")) (aNil))))))) (sPar [5, 2] (aCons (eBin (mAdd false) (eVar 5) (eLst false (aCons (eVar 9) (aNil)))) (aCons (eC (.str "cones")) (aNil)))) (sIf (tAnd (tV (eBin (mIs true) (eVar 9) (eC .non))) (tV (eBin (mEq false) (eVar 2) (eC (.str "rings"))))) (sExpr (eMt "list" mApp (eBin mIx (eVar 6) (eUn mNeg (eC (.int 1)))) (aCons (eVar 9) (aNil)))) (sIf (tAnd (tV (eBin (mEq false) (eVar 8) (eC (.str "*")))) (tV (eBin (mEq true) (eVar 2) (eC (.str "caps"))))) (sPar [6, 2] (aCons (eBin (mAdd true) (eVar 6) (eLst true (aCons (eLst true (aNil)) (aNil)))) (aCons (eC (.str "rings")) (aNil)))) (sIf (tAnd (tV (eBin (mEq false) (eVar 8) (eC (.str "x")))) (tV (eBin (mEq false) (eVar 3) (eC (.int 0))))) (sPar [4, 2] (aCons (eBin (mAdd false) (eVar 4) (eC (.int 1))) (aCons (eC (.str "caps")) (aNil)))) (sRet (eVar 7)))))))))
  (sRet (eTup (aCons (eVar 3) (aCons (eVar 4) (aCons (eBlt mTuple (aCons (eBlt (mSorted false) (aCons (eVar 5) (aNil))) (aNil))) (aCons (eBlt mTuple (aCons (eBlt (mSorted false) (aCons (eComp false (itSeq (eVar 6)) (AVL.gName 10) (tTrue) (eCall 1 m_law_least (aCons (eVar 10) (aNil))) [10]) (aNil))) (aNil))) (aNil)))))))))
def m_law_read : MF := mkF 10 false b_law_read
theorem f_law_read (T : Txt P w K mg base) {fd : FuncData} (F : FunD K "_law_read" "_law_read" (defArgs (s_law_read)) (defBody (s_law_read)) (defScope (s_law_read)) [] [] (He.ga K "_law_read") fd) : FnG P w K mg base 2 (He.ga K "_law_read") fd ["text"] (spOf K mg 1 m_law_read) :=
  fn_mk F sc_law_read (n := 10) rfl fun cdv A outer s H E ecd gd hr => by
    have tk := takes_of (X := cxOf (L2.CX P w) P w K mg base N_law_read "_law_read" (defScope s_law_read) (He.ga K "_law_read") cdv A outer s H E) (E := E) rfl rfl rfl rfl
    have pw := passes_of (X := cxOf (L2.CX P w) P w K mg base N_law_read "_law_read" (defScope s_law_read) (He.ga K "_law_read") cdv A outer s H E) rfl
    exact rsCons (rsAsg (rTup (raCons (rMt PySem.F.plainAttrs_str PySem.F.slot_str_split PySem.F.type_str_split mSplit_ok mSplit_calm (rVar 0) (raCons (rStr) (raNil))) (raCons (rStr) (raCons (rInt) (raCons (rInt) (raCons (rLst (raNil)) (raCons (rLst (raNil)) (raNil)))))))) (rgTup (rgsCons (rgName 1 sc_law_read.nd) (rgsCons (rgName 2 sc_law_read.nd) (rgsCons (rgName 3 sc_law_read.nd) (rgsCons (rgName 4 sc_law_read.nd) (rgsCons (rgName 5 sc_law_read.nd) (rgsCons (rgName 6 sc_law_read.nd) (rgsNil)))))))))
      (rsCons (rsIf (rtCmp (mEq_ok hr.units) mEq_calm (rIx (rVar 1) (rInt)) (rStr) (by exact nomark _)) (rsOne (rsRet (rIf (rtCmp (mEq_ok hr.units) mEq_calm (rBlt mLen_ok mLen_calm T.n_len bb_len (raCons (rVar 1) (raNil))) (rInt) (by exact nomark _)) (rTup (raCons (rInt) (raCons (rInt) (raCons (rTup (raNil)) (raCons (rTup (raNil)) (raNil)))))) (rInt)))) (rsNil))
      (rsCons (rsFor pw (riEnum T.n_enumerate (raCons (rVar 1) (raNil))) (rgTup (rgsCons (rgName 7 sc_law_read.nd) (rgsCons (rgName 8 sc_law_read.nd) (rgsNil)))) (rsCons (rsAsg (rCall (h_law_order T) gd (hr.mono (by decide)) tk (raCons (rVar 8) (raNil))) (rgName 9 sc_law_read.nd))
      (rsOne (rsIf (PW.pt (rtAnd (rtCmp (mEq_ok hr.units) mEq_calm (rVar 8) (rStr) (by exact nomark _)) (rtAnd1 (rtCmp (mEq_ok hr.units) mEq_calm (rVar 2) (rStr) (by exact nomark _))))) (rsOne (rsAsg (rBin mAdd_ok mAdd_calm (rVar 3) (rInt)) (rgName 3 sc_law_read.nd))) (rsOne (rsIf (PW.pt (rtAnd (rtCmp mIsNot_ok mIs_calm (rVar 9) (rNon) (by exact nomark _)) (rtAnd1 (rtCmp mIn_ok mIn_calm (rVar 2) (rTup (raCons (rStr) (raCons (rStr) (raNil)))) (by exact rfl))))) (rsOne (rsPar2 (i := 5) (j := 2) sc_law_read.nd (raCons (rBin mAdd_ok mAdd_calm (rVar 5) (rLst (raCons (rVar 9) (raNil)))) (raCons (rStr) (raNil))))) (rsOne (rsIf (PW.pt (rtAnd (rtCmp mIsNot_ok mIs_calm (rVar 9) (rNon) (by exact nomark _)) (rtAnd1 (rtCmp (mEq_ok hr.units) mEq_calm (rVar 2) (rStr) (by exact nomark _))))) (rsOne (rsExpr (rMt PySem.F.plainAttrs_list PySem.F.slot_list_append PySem.F.type_list_append mApp_ok mApp_calm (rIx (rVar 6) (rUn mNeg_ok mNeg_calm (rInt))) (raCons (rVar 9) (raNil))))) (rsOne (rsIf (PW.pt (rtAnd (rtCmp (mEq_ok hr.units) mEq_calm (rVar 8) (rStr) (by exact nomark _)) (rtAnd1 (rtCmp (mNe_ok hr.units) mEq_calm (rVar 2) (rStr) (by exact nomark _))))) (rsOne (rsPar2 (i := 6) (j := 2) sc_law_read.nd (raCons (rBin mAdd_ok mAdd_calm (rVar 6) (rLst (raCons (rLst (raNil)) (raNil)))) (raCons (rStr) (raNil))))) (rsOne (rsIf (PW.pt (rtAnd (rtCmp (mEq_ok hr.units) mEq_calm (rVar 8) (rStr) (by exact nomark _)) (rtAnd1 (rtCmp (mEq_ok hr.units) mEq_calm (rVar 3) (rInt) (by exact nomark _))))) (rsOne (rsPar2 (i := 4) (j := 2) sc_law_read.nd (raCons (rBin mAdd_ok mAdd_calm (rVar 4) (rInt)) (raCons (rStr) (raNil))))) (rsOne (rsRet (rVar 7)))))))))))))))
      (rsOne (rsRet (rTup (raCons (rVar 3) (raCons (rVar 4) (raCons (rBltTy mTuple_ok mTuple_calm T.n_tuple bb_tuple (raCons (rBlt (mSorted_ok hr) mSorted_calm T.n_sorted bb_sorted (raCons (rVar 5) (raNil))) (raNil))) (raCons (rBltTy mTuple_ok mTuple_calm T.n_tuple bb_tuple (raCons (rBlt (mSorted_ok hr) mSorted_calm T.n_sorted bb_sorted (raCons (rComp (own := [("ring", 10)]) (g := L2.gName 10) sc_law_read.nd (riSeq (rVar 6)) (blkOk_by (own := [("ring", 10)]) (N := N_law_read) (sc := defScope s_law_read) (by decide +kernel)) (gokName (by decide)) (fun _ _ _ _ _ => pg_name (i := 10) sc_law_read.nd rfl (by first | exact Or.inl rfl | exact Or.inr rfl)) (fun _ _ _ _ _ => rtsNil) (fun _ _ _ _ _ => rCall (h_law_least T) gd (hr.mono (by decide)) AVL.takes0 (raCons (rVar 10) (raNil)))) (raNil))) (raNil))) (raNil))))))))))
theorem h_law_read (T : Txt P w K mg base) : Has P w K mg base "_law_read" 2 ["text"] m_law_read := by
  obtain ⟨fd, hm, F⟩ := T.d_law_read
  exact ⟨_, fd, hm, F.kp, F.bindsN (ps := ["text"]) fun _ _ _ _ _ _ us hl => match us, hl with | [_], _ => rfl, f_law_read T F⟩

/-! _law_bent -/
abbrev s_law_bent : Stmt := topS 36
abbrev N_law_bent : List Str := ["pen", "words", "at", "way", "odd"]
theorem sc_law_bent : FnScope N_law_bent ["pen", "words"] (defScope s_law_bent) := ⟨rfl, rfl, rfl, by decide +kernel, rfl, by decide +kernel, by decide +kernel⟩
def b_law_bent : SM := sSeq (sPar [2, 3] (aCons (eCall 2 m_law_draw (aCons (eVar 0) (aCons (eBlt mLen (aCons (eVar 1) (aNil))) (aNil)))) (aCons (eCall 2 m_law_draw (aCons (eVar 0) (aCons (eC (.int 4)) (aNil)))) (aNil))))
  (sSeq (sAsg (eCall 2 m_law_pick (aCons (eVar 0) (aCons (eLst false (aCons (eC (.str "o")) (aCons (eC (.str "x")) (aCons (eC (.str "*")) (aCons (eC (.str "-")) (aCons (eC (.str "")) (aCons (eC (.str "2")) (aCons (eC (.str "02")) (aCons (eC (.str "1")) (aCons (eC (.str "121")) (aCons (eC (.str "120")) (aCons (eC (.str "+2")) (aCons (eC (.str "2.")) (aCons (eC (.str "O")) (aCons (eC (.str "**")) (aCons (eC (.str "1000")) (aCons (eC (.str "22 ")) (aCons (eC (.str "_2")) (aCons (eC (.str "a")) (aNil)))))))))))))))))))) (aNil)))) (AVL.gName 4))
  (sSeq (sIf (tV (eBin (mEq false) (eVar 3) (eC (.int 0)))) (sRet (eBin (mAdd false) (eSl false (eVar 1) (oNo) (oPart (eVar 2))) (eSl false (eVar 1) (oPart (eBin (mAdd false) (eVar 2) (eC (.int 1)))) (oNo)))) (sNext))
  (sRet (eBin (mAdd false) (eBin (mAdd false) (eSl false (eVar 1) (oNo) (oPart (eVar 2))) (eLst false (aCons (eVar 4) (aNil)))) (eSl false (eVar 1) (oPart (eBin (mAdd false) (eVar 2) (eBlt mIntS (aCons (eBin (mEq false) (eVar 3) (eC (.int 1))) (aNil))))) (oNo))))))
def m_law_bent : MF := mkF 3 false b_law_bent
theorem f_law_bent (T : Txt P w K mg base) {fd : FuncData} (F : FunD K "_law_bent" "_law_bent" (defArgs (s_law_bent)) (defBody (s_law_bent)) (defScope (s_law_bent)) [] [] (He.ga K "_law_bent") fd) : FnG P w K mg base 3 (He.ga K "_law_bent") fd ["pen", "words"] (spOf K mg 2 m_law_bent) :=
  fn_mk F sc_law_bent (n := 3) rfl fun cdv A outer s H E ecd gd hr => by
    have tk := takes_of (X := cxOf (L2.CX P w) P w K mg base N_law_bent "_law_bent" (defScope s_law_bent) (He.ga K "_law_bent") cdv A outer s H E) (E := E) rfl rfl rfl rfl
    have pw := passes_of (X := cxOf (L2.CX P w) P w K mg base N_law_bent "_law_bent" (defScope s_law_bent) (He.ga K "_law_bent") cdv A outer s H E) rfl
    exact rsCons (rsPar2 (i := 2) (j := 3) sc_law_bent.nd (raCons (rCall (h_law_draw T) gd (hr.mono (by decide)) tk (raCons (rVar 0) (raCons (rBlt mLen_ok mLen_calm T.n_len bb_len (raCons (rVar 1) (raNil))) (raNil)))) (raCons (rCall (h_law_draw T) gd (hr.mono (by decide)) tk (raCons (rVar 0) (raCons (rInt) (raNil)))) (raNil))))
      (rsCons (rsAsg (rCall (h_law_pick T) gd (hr.mono (by decide)) tk (raCons (rVar 0) (raCons (rLst (raCons (rStr) (raCons (rStr) (raCons (rStr) (raCons (rStr) (raCons (rStr) (raCons (rStr) (raCons (rStr) (raCons (rStr) (raCons (rStr) (raCons (rStr) (raCons (rStr) (raCons (rStr) (raCons (rStr) (raCons (rStr) (raCons (rStr) (raCons (rStr) (raCons (rStr) (raCons (rStr) (raNil)))))))))))))))))))) (raNil)))) (rgName 4 sc_law_bent.nd))
      (rsCons (rsIf (rtCmp (mEq_ok hr.units) mEq_calm (rVar 3) (rInt) (by exact nomark _)) (rsOne (rsRet (rBin mAdd_ok mAdd_calm (rSl (rVar 1) (roNo) (roPart (rVar 2))) (rSl (rVar 1) (roPart (rBin mAdd_ok mAdd_calm (rVar 2) (rInt))) (roNo))))) (rsNil))
      (rsOne (rsRet (rBin mAdd_ok mAdd_calm (rBin mAdd_ok mAdd_calm (rSl (rVar 1) (roNo) (roPart (rVar 2))) (rLst (raCons (rVar 4) (raNil)))) (rSl (rVar 1) (roPart (rBin mAdd_ok mAdd_calm (rVar 2) (rBltTy mIntS_ok mIntS_calm T.n_int bb_int (raCons (rCmp (mEq_ok hr.units) mEq_calm (rVar 3) (rInt) (by exact nomark _)) (raNil))))) (roNo)))))))
theorem h_law_bent (T : Txt P w K mg base) : Has P w K mg base "_law_bent" 3 ["pen", "words"] m_law_bent := by
  obtain ⟨fd, hm, F⟩ := T.d_law_bent
  exact ⟨_, fd, hm, F.kp, F.bindsN (ps := ["pen", "words"]) fun _ _ _ _ _ _ us hl => match us, hl with | [_, _], _ => rfl, f_law_bent T F⟩

/-! Signature.__init__ -/
abbrev s_Signature___init__ : Stmt := inClass (topS 12) 0
abbrev N_Signature___init__ : List Str := ["self", "handles", "caps", "cones", "mirrors", "rings", "ring"]
theorem sc_Signature___init__ : FnScope N_Signature___init__ ["self", "handles", "caps", "cones", "mirrors"] (defScope s_Signature___init__) := ⟨rfl, rfl, rfl, by decide +kernel, rfl, by decide +kernel, by decide +kernel⟩
def b_Signature___init__ : SM := sSeq (sFldS oko_handles "handles" (eCallD 4 0 4 [.p 0, .p 1, .p 2, .p 3] [.non] m_need_integer (aCons (eC (.str "handles")) (aCons (eVar 1) (aCons (eC (.int 0)) (aCons (eC (.int 600)) (aNil))))) (aNil)) (eVar 0))
  (sSeq (sFldS oko_caps "caps" (eCallD 4 0 4 [.p 0, .p 1, .p 2, .p 3] [.non] m_need_integer (aCons (eC (.str "caps")) (aCons (eVar 2) (aCons (eC (.int 0)) (aCons (eC (.int 600)) (aNil))))) (aNil)) (eVar 0))
  (sSeq (sIf (tAnd (tV (eBin mGt (eAttr okx_handles oko_handles "handles" (eVar 0)) (eC (.int 0)))) (tV (eBin mGt (eAttr okx_caps oko_caps "caps" (eVar 0)) (eC (.int 0))))) (sRaise "BadNumber" ["part"] (aCons (eC (.str "caps")) (aNil))) (sNext))
  (sSeq (sFldS oko_cones "cones" (eBlt mTuple (aCons (eBlt (mSorted false) (aCons (eCall 2 m_need_orders (aCons (eC (.str "cones")) (aCons (eVar 3) (aNil)))) (aNil))) (aNil))) (eVar 0))
  (sSeq (sAsg (eComp false (itSeq (eCall 2 m_row_of (aCons (eC (.str "mirrors")) (aCons (eVar 4) (aNil))))) (AVL.gName 6) (tTrue) (eCall 1 m_least_ring (aCons (eCall 2 m_need_orders (aCons (eC (.str "mirrors")) (aCons (eVar 6) (aNil)))) (aNil))) [6]) (AVL.gName 5))
  (sSeq (sFldS oko_mirrors "mirrors" (eBlt mTuple (aCons (eBlt (mSorted false) (aCons (eVar 5) (aNil))) (aNil))) (eVar 0))
  (sFldS oko_parts "parts" (eTup (aCons (eAttr okx_handles oko_handles "handles" (eVar 0)) (aCons (eAttr okx_caps oko_caps "caps" (eVar 0)) (aCons (eAttr okx_cones oko_cones "cones" (eVar 0)) (aCons (eAttr okx_mirrors oko_mirrors "mirrors" (eVar 0)) (aNil)))))) (eVar 0)))))))
def m_Signature___init__ : MF := mkF 2 false b_Signature___init__
theorem f_Signature___init__ (T : Txt P w K mg base) {fd : FuncData} (F : FunD K "__init__" "Signature.__init__" (defArgs (s_Signature___init__)) (defBody (s_Signature___init__)) (defScope (s_Signature___init__)) [] [] (He.ma K (He.ga K "Signature") "__init__") fd) : FnG P w K mg base 5 (He.ma K (He.ga K "Signature") "__init__") fd ["self", "handles", "caps", "cones", "mirrors"] (spOf K mg 5 m_Signature___init__) :=
  fn_mk F sc_Signature___init__ (n := 2) rfl fun cdv A outer s H E ecd gd hr => by
    have tk := takes_of (X := cxOf (L2.CX P w) P w K mg base N_Signature___init__ "Signature.__init__" (defScope s_Signature___init__) (He.ma K (He.ga K "Signature") "__init__") cdv A outer s H E) (E := E) rfl rfl rfl rfl
    have pw := passes_of (X := cxOf (L2.CX P w) P w K mg base N_Signature___init__ "Signature.__init__" (defScope s_Signature___init__) (He.ma K (He.ga K "Signature") "__init__") cdv A outer s H E) rfl
    exact rsCons (rsFldS T.ao_handles (rVar 0) (rCallD (hd0_need_integer T) gd (hr.mono (by decide)) tk (raCons (rStr) (raCons (rVar 1) (raCons (rInt) (raCons (rKonI T.k_MOST_MARKS) (raNil)))))))
      (rsCons (rsFldS T.ao_caps (rVar 0) (rCallD (hd0_need_integer T) gd (hr.mono (by decide)) tk (raCons (rStr) (raCons (rVar 2) (raCons (rInt) (raCons (rKonI T.k_MOST_MARKS) (raNil)))))))
      (rsCons (rsIf (PW.pt (rtAnd (rtCmp mGt_ok mI_calm (rAttr T.at_handles T.ao_handles (rVar 0)) (rInt) (by exact nomark _)) (rtAnd1 (rtCmp mGt_ok mI_calm (rAttr T.at_caps T.ao_caps (rVar 0)) (rInt) (by exact nomark _))))) (rsOne (rsRaise (h_x_BadNumber T) (hr.mono (by decide)) tk (raCons (rStr) (raNil)))) (rsNil))
      (rsCons (rsFldS T.ao_cones (rVar 0) (rBltTy mTuple_ok mTuple_calm T.n_tuple bb_tuple (raCons (rBlt (mSorted_ok hr) mSorted_calm T.n_sorted bb_sorted (raCons (rCall (h_need_orders T) gd (hr.mono (by decide)) tk (raCons (rStr) (raCons (rVar 3) (raNil)))) (raNil))) (raNil))))
      (rsCons (rsSetComp (i := 5) (own := [("ring", 6)]) (g := L2.gName 6) sc_Signature___init__.nd (riSeq (rCall (h_row_of T) gd (hr.mono (by decide)) tk (raCons (rStr) (raCons (rVar 4) (raNil))))) (blkOk_by (own := [("ring", 6)]) (N := N_Signature___init__) (sc := defScope s_Signature___init__) (by decide +kernel)) (gokName (by decide)) (fun _ _ _ _ _ => pg_name (i := 6) sc_Signature___init__.nd rfl (by first | exact Or.inl rfl | exact Or.inr rfl)) (fun _ _ _ _ _ => rtsNil) (fun _ _ _ _ _ => rCall (h_least_ring T) gd (hr.mono (by decide)) AVL.takes0 (raCons (rCall (h_need_orders T) gd (hr.mono (by decide)) AVL.takes0 (raCons (rStr) (raCons (rVar 6) (raNil)))) (raNil))))
      (rsCons (rsFldS T.ao_mirrors (rVar 0) (rBltTy mTuple_ok mTuple_calm T.n_tuple bb_tuple (raCons (rBlt (mSorted_ok hr) mSorted_calm T.n_sorted bb_sorted (raCons (rVar 5) (raNil))) (raNil))))
      (rsOne (rsFldS T.ao_parts (rVar 0) (rTup (raCons (rAttr T.at_handles T.ao_handles (rVar 0)) (raCons (rAttr T.at_caps T.ao_caps (rVar 0)) (raCons (rAttr T.at_cones T.ao_cones (rVar 0)) (raCons (rAttr T.at_mirrors T.ao_mirrors (rVar 0)) (raNil)))))))))))))
theorem h_Signature___init__ (T : Txt P w K mg base) : HasM P w K mg base "Signature" 5 ["handles", "caps", "cones", "mirrors"] m_Signature___init__ := by
  obtain ⟨fd, F⟩ := T.d_Signature___init__
  exact ⟨_, _, fd, _, T.o_Signature.1, T.om_Signature, F.bindsN (ps := ["self", "handles", "caps", "cones", "mirrors"]) fun _ _ _ _ _ _ us hl => match us, hl with | [_, _, _, _, _], _ => rfl, f_Signature___init__ T F⟩

/-! Signature.__eq__ -/
abbrev s_Signature___eq__ : Stmt := inClass (topS 12) 1
abbrev N_Signature___eq__ : List Str := ["self", "other"]
theorem sc_Signature___eq__ : FnScope N_Signature___eq__ ["self", "other"] (defScope s_Signature___eq__) := ⟨rfl, rfl, rfl, by decide +kernel, rfl, by decide +kernel, by decide +kernel⟩
def b_Signature___eq__ : SM := sRet (eAnd (eBlt (mIsi isaT) (aCons (eVar 1) (aCons (eC (.cls "Signature")) (aNil)))) (eBin (mEq false) (eAttr okx_parts oko_parts "parts" (eVar 0)) (eAttr okx_parts oko_parts "parts" (eVar 1))))
def m_Signature___eq__ : MF := mkF 0 false b_Signature___eq__
theorem f_Signature___eq__ (T : Txt P w K mg base) {fd : FuncData} (F : FunD K "__eq__" "Signature.__eq__" (defArgs (s_Signature___eq__)) (defBody (s_Signature___eq__)) (defScope (s_Signature___eq__)) [] [] (He.ma K (He.ga K "Signature") "__eq__") fd) : FnG P w K mg base 1 (He.ma K (He.ga K "Signature") "__eq__") fd ["self", "other"] (spOf K mg 2 m_Signature___eq__) :=
  fn_mk F sc_Signature___eq__ (n := 0) rfl fun cdv A outer s H E ecd gd hr => by
    have tk := takes_of (X := cxOf (L2.CX P w) P w K mg base N_Signature___eq__ "Signature.__eq__" (defScope s_Signature___eq__) (He.ma K (He.ga K "Signature") "__eq__") cdv A outer s H E) (E := E) rfl rfl rfl rfl
    have pw := passes_of (X := cxOf (L2.CX P w) P w K mg base N_Signature___eq__ "Signature.__eq__" (defScope s_Signature___eq__) (He.ma K (He.ga K "Signature") "__eq__") cdv A outer s H E) rfl
    exact rsOne (rsRet (rAnd (rBlt (mIsi_ok T.isa) mIsi_calm T.n_isinstance bb_isinstance (raCons (rVar 1) (raCons (rCls T.c_Signature) (raNil)))) (rOne (rCmp (mEq_ok hr.units) mEq_calm (rAttr T.at_parts T.ao_parts (rVar 0)) (rAttr T.at_parts T.ao_parts (rVar 1)) (by exact nomark _)))))
theorem h_Signature___eq__ (T : Txt P w K mg base) : HasEq P w K mg base "Signature" 1 m_Signature___eq__ := by
  obtain ⟨fd, F⟩ := T.d_Signature___eq__
  obtain ⟨e1, e2, e3, e4⟩ := T.oe_Signature
  exact ⟨_, _, fd, _, _, T.o_Signature.1, e1, e2, e3, e4, F.bindsN (ps := ["self", "other"]) fun _ _ _ _ _ _ us hl => match us, hl with | [_, _], _ => rfl, f_Signature___eq__ T F⟩

def eqT (c : Str) : Option MF := if c = "Signature" then some m_Signature___eq__ else none
theorem eqT_ok (T : Txt P w K mg base) : ∀ c mf, eqT c = some mf → ∃ k, HasEq P w K mg base c k mf ∧ k + 1 ≤ 2 := fun c mf e => by
  unfold eqT at e
  by_cases h0 : c = "Signature"
  · subst h0
    cases e
    exact ⟨_, h_Signature___eq__ T, by decide⟩
  rw [if_neg h0] at e
  cases e
/-! read_sign -/
abbrev s_read_sign : Stmt := topS 25
abbrev N_read_sign : List Str := ["text", "words", "handles", "cones", "at", "rings", "end"]
theorem sc_read_sign : FnScope N_read_sign ["text"] (defScope s_read_sign) := ⟨rfl, rfl, rfl, by decide +kernel, rfl, by decide +kernel, by decide +kernel⟩
noncomputable def b_read_sign : SM := sSeq (sIf (tNot (tV (eBlt (mIsi isaT) (aCons (eVar 0) (aCons (eC (.ty "str")) (aNil)))))) (sRaise "BadText" ["item"] (aCons (eC (.int 0)) (aNil))) (sNext))
  (sSeq (sAsg (eMt "str" (mSplit false) (eVar 0) (aCons (eC (.str " ")) (aNil))) (AVL.gName 1))
  (sSeq (sIf (tV (eBin (mEq false) (eBin mIx (eVar 1) (eC (.int 0))) (eC (.str "-")))) (sSeq (sIf (tV (eBin mGt (eBlt mLen (aCons (eVar 1) (aNil))) (eC (.int 1)))) (sRaise "BadText" ["item"] (aCons (eC (.int 1)) (aNil))) (sNext))
  (sRet (eCall 4 (mMake "Signature" m_Signature___init__) (aCons (eC (.int 0)) (aCons (eC (.int 0)) (aCons (eTup (aNil)) (aCons (eTup (aNil)) (aNil)))))))) (sNext))
  (sSeq (sAsg (eCall 3 m_taken (aCons (eVar 1) (aCons (eC (.int 0)) (aCons (eC (.str "o")) (aNil))))) (AVL.gName 2))
  (sSeq (sAsg (eCall 2 m_orders_from (aCons (eVar 1) (aCons (eVar 2) (aNil)))) (AVL.gName 3))
  (sSeq (sPar [4, 5] (aCons (eBin (mAdd true) (eVar 2) (eBlt mLen (aCons (eVar 3) (aNil)))) (aCons (eLst true (aNil)) (aNil))))
  (sSeq (sWhile (tAnd (tV (eBin mLt (eVar 4) (eBlt mLen (aCons (eVar 1) (aNil))))) (tV (eBin (mEq false) (eBin mIx (eVar 1) (eVar 4)) (eC (.str "*"))))) (sSeq (sExpr (eMt "list" mApp (eVar 5) (aCons (eCall 2 m_orders_from (aCons (eVar 1) (aCons (eBin (mAdd false) (eVar 4) (eC (.int 1))) (aNil)))) (aNil))))
  (sAsg (eBin (mAdd false) (eBin (mAdd false) (eVar 4) (eC (.int 1))) (eBlt mLen (aCons (eBin mIx (eVar 5) (eUn mNeg (eC (.int 1)))) (aNil)))) (AVL.gName 4))))
  (sSeq (sAsg (eIf (tV (eBin mGt (eVar 2) (eC (.int 0)))) (eVar 4) (eCall 3 m_taken (aCons (eVar 1) (aCons (eVar 4) (aCons (eC (.str "x")) (aNil)))))) (AVL.gName 6))
  (sSeq (sIf (tV (eBin mLt (eVar 6) (eBlt mLen (aCons (eVar 1) (aNil))))) (sRaise "BadText" ["item"] (aCons (eVar 6) (aNil))) (sNext))
  (sRet (eCall 4 (mMake "Signature" m_Signature___init__) (aCons (eVar 2) (aCons (eBin mSub (eVar 6) (eVar 4)) (aCons (eVar 3) (aCons (eVar 5) (aNil)))))))))))))))
noncomputable def m_read_sign : MF := mkF 6 false b_read_sign
theorem f_read_sign (T : Txt P w K mg base) {fd : FuncData} (F : FunD K "read_sign" "read_sign" (defArgs (s_read_sign)) (defBody (s_read_sign)) (defScope (s_read_sign)) [] [] (He.ga K "read_sign") fd) : FnG P w K mg base 7 (He.ga K "read_sign") fd ["text"] (spOf K mg 1 m_read_sign) :=
  fn_mk F sc_read_sign (n := 6) rfl fun cdv A outer s H E ecd gd hr => by
    have tk := takes_of (X := cxOf (L2.CX P w) P w K mg base N_read_sign "read_sign" (defScope s_read_sign) (He.ga K "read_sign") cdv A outer s H E) (E := E) rfl rfl rfl rfl
    have pw := passes_of (X := cxOf (L2.CX P w) P w K mg base N_read_sign "read_sign" (defScope s_read_sign) (He.ga K "read_sign") cdv A outer s H E) rfl
    exact rsCons (rsIf (rtNot (rtV (rBlt (mIsi_ok T.isa) mIsi_calm T.n_isinstance bb_isinstance (raCons (rVar 0) (raCons (rTyp T.n_str bb_str) (raNil)))))) (rsOne (rsRaise (h_x_BadText T) (hr.mono (by decide)) tk (raCons (rInt) (raNil)))) (rsNil))
      (rsCons (rsAsg (rMt PySem.F.plainAttrs_str PySem.F.slot_str_split PySem.F.type_str_split mSplit_ok mSplit_calm (rVar 0) (raCons (rStr) (raNil))) (rgName 1 sc_read_sign.nd))
      (rsCons (rsIf (rtCmp (mEq_ok hr.units) mEq_calm (rIx (rVar 1) (rInt)) (rKonS T.k_NONE) (by exact nomark _)) (rsCons (rsIf (rtCmp mGt_ok mI_calm (rBlt mLen_ok mLen_calm T.n_len bb_len (raCons (rVar 1) (raNil))) (rInt) (by exact nomark _)) (rsOne (rsRaise (h_x_BadText T) (hr.mono (by decide)) tk (raCons (rInt) (raNil)))) (rsNil))
      (rsOne (rsRet (rMake (h_Signature___init__ T) gd (hr.mono (by decide)) tk (raCons (rInt) (raCons (rInt) (raCons (rTup (raNil)) (raCons (rTup (raNil)) (raNil))))))))) (rsNil))
      (rsCons (rsAsg (rCall (h_taken T) gd (hr.mono (by decide)) tk (raCons (rVar 1) (raCons (rInt) (raCons (rKonS T.k_HANDLE) (raNil))))) (rgName 2 sc_read_sign.nd))
      (rsCons (rsAsg (rCall (h_orders_from T) gd (hr.mono (by decide)) tk (raCons (rVar 1) (raCons (rVar 2) (raNil)))) (rgName 3 sc_read_sign.nd))
      (rsCons (rsPar2 (i := 4) (j := 5) sc_read_sign.nd (raCons (rBin mAdd_ok mAdd_calm (rVar 2) (rBlt mLen_ok mLen_calm T.n_len bb_len (raCons (rVar 3) (raNil)))) (raCons (rLst (raNil)) (raNil))))
      (rsCons (rsWhile pw (PW.pt (rtAnd (rtCmp mLt_ok mI_calm (rVar 4) (rBlt mLen_ok mLen_calm T.n_len bb_len (raCons (rVar 1) (raNil))) (by exact nomark _)) (rtAnd1 (rtCmp (mEq_ok hr.units) mEq_calm (rIx (rVar 1) (rVar 4)) (rKonS T.k_RING) (by exact nomark _))))) (rsCons (rsExpr (rMt PySem.F.plainAttrs_list PySem.F.slot_list_append PySem.F.type_list_append mApp_ok mApp_calm (rVar 5) (raCons (rCall (h_orders_from T) gd (hr.mono (by decide)) tk (raCons (rVar 1) (raCons (rBin mAdd_ok mAdd_calm (rVar 4) (rInt)) (raNil)))) (raNil))))
      (rsOne (rsAsg (rBin mAdd_ok mAdd_calm (rBin mAdd_ok mAdd_calm (rVar 4) (rInt)) (rBlt mLen_ok mLen_calm T.n_len bb_len (raCons (rIx (rVar 5) (rUn mNeg_ok mNeg_calm (rInt))) (raNil)))) (rgName 4 sc_read_sign.nd)))))
      (rsCons (rsAsg (rIf (rtCmp mGt_ok mI_calm (rVar 2) (rInt) (by exact nomark _)) (rVar 4) (rCall (h_taken T) gd (hr.mono (by decide)) tk (raCons (rVar 1) (raCons (rVar 4) (raCons (rKonS T.k_CAP) (raNil)))))) (rgName 6 sc_read_sign.nd))
      (rsCons (rsIf (rtCmp mLt_ok mI_calm (rVar 6) (rBlt mLen_ok mLen_calm T.n_len bb_len (raCons (rVar 1) (raNil))) (by exact nomark _)) (rsOne (rsRaise (h_x_BadText T) (hr.mono (by decide)) tk (raCons (rVar 6) (raNil)))) (rsNil))
      (rsOne (rsRet (rMake (h_Signature___init__ T) gd (hr.mono (by decide)) tk (raCons (rVar 2) (raCons (rBin mSub_ok mI_calm (rVar 6) (rVar 4)) (raCons (rVar 3) (raCons (rVar 5) (raNil))))))))))))))))
theorem h_read_sign (T : Txt P w K mg base) : Has P w K mg base "read_sign" 7 ["text"] m_read_sign := by
  obtain ⟨fd, hm, F⟩ := T.d_read_sign
  exact ⟨_, fd, hm, F.kp, F.bindsN (ps := ["text"]) fun _ _ _ _ _ _ us hl => match us, hl with | [_], _ => rfl, f_read_sign T F⟩

theorem hd1_read_sign (T : Txt P w K mg base) : HasD P w K mg base "read_sign" 7 0 ["text"] [.k 0] [] ["text"] m_read_sign := by
  obtain ⟨fd, hm, F⟩ := T.d_read_sign
  have hb := bindsD0 (n := 0) (m := 1) (kw := fun ws => (["text"] : List Str).zip ws) (g := fun us ws => (["text"] : List Str).zip (srcD [.k 0] us [] ws)) F (fun kV doc pm an cdv ct us ws l1 l2 => match us, ws, l1, l2 with | [], [_], _, _ => rfl)
  exact ⟨_, fd, _, [], hm, F.kp, .nil, (fun ρ F => by simp [RVs]), hb, f_read_sign T F⟩
/-! law -/
abbrev s_law : Stmt := topS 37
abbrev N_law : List Str := ["script", "pen", "turn", "handles", "caps", "cones", "mirrors", "signature", "text", "plain", "words", "lap", "bent", "due", "heard", "mark", "part", "great", "wide", "odd"]
theorem sc_law : FnScope N_law ["script"] (defScope s_law) := ⟨rfl, rfl, rfl, by decide +kernel, rfl, by decide +kernel, by decide +kernel⟩
def b_law : SM := sSeq (sAsg (eCall 1 m_law_pen (aCons (eVar 0) (aNil))) (AVL.gName 1))
  (sSeq (sFor (itRng1 (aCons (eC (.int 8)) (aNil))) (AVL.gName 2) (sSeq (sAsg (eCall 1 m_law_drawn_sign (aCons (eVar 1) (aNil))) (AVL.gTup 4 (AVL.gsCons (AVL.gName 3) (AVL.gsCons (AVL.gName 4) (AVL.gsCons (AVL.gName 5) (AVL.gsCons (AVL.gName 6) (AVL.gsNil)))))))
  (sSeq (sPar [7, 8] (aCons (eCall 4 (mMake "Signature" m_Signature___init__) (aCons (eVar 3) (aCons (eVar 4) (aCons (eVar 5) (aCons (eVar 6) (aNil)))))) (aCons (eCall 4 m_law_text (aCons (eVar 3) (aCons (eVar 4) (aCons (eVar 5) (aCons (eVar 6) (aNil)))))) (aNil))))
  (sSeq (sAsg (eCall 4 m_law_text (aCons (eAttr okx_handles oko_handles "handles" (eVar 7)) (aCons (eAttr okx_caps oko_caps "caps" (eVar 7)) (aCons (eAttr okx_cones oko_cones "cones" (eVar 7)) (aCons (eAttr okx_mirrors oko_mirrors "mirrors" (eVar 7)) (aNil)))))) (AVL.gName 9))
  (sSeq (sIf (tOr (tV (eBin (mEq true) (eCall 1 m_sign_text (aCons (eVar 7) (aNil))) (eVar 9))) (tOr (tV (eBin (mEqO true eqT) (eCall 1 m_read_sign (aCons (eVar 9) (aNil))) (eVar 7))) (tOr (tV (eBin (mEqO true eqT) (eCallD 0 1 1 [.k 0] [] m_read_sign (aNil) (aCons (eVar 8) (aNil))) (eVar 7))) (tV (eBin (mEq true) (eCallD 0 1 1 [.k 0] [] m_sign_text (aNil) (aCons (eCall 1 m_read_sign (aCons (eVar 8) (aNil))) (aNil))) (eVar 9)))))) (sRet (eC (.bl false))) (sNext))
  (sSeq (sAsg (eMt "str" (mSplit false) (eVar 8) (aCons (eC (.str " ")) (aNil))) (AVL.gName 10))
  (sSeq (sFor (itRng1 (aCons (eBin (mAdd false) (eC (.int 1)) (eCall 2 m_law_draw (aCons (eVar 1) (aCons (eC (.int 2)) (aNil))))) (aNil))) (AVL.gName 11) (sAsg (eIf (tV (eBin (mEq true) (eVar 10) (eLst false (aNil)))) (eCall 2 m_law_bent (aCons (eVar 1) (aCons (eVar 10) (aNil)))) (eLst false (aCons (eC (.str "-")) (aNil)))) (AVL.gName 10)))
  (sSeq (sAsg (eMt "str" mJoin (eC (.str " ")) (aCons (eVar 10) (aNil))) (AVL.gName 12))
  (sSeq (sPar [13, 14] (aCons (eCall 1 m_law_read (aCons (eVar 12) (aNil))) (aCons (eLam m_law_heard (eCall 1 m_read_sign (aCons (eVar 12) (aNil)))) (aNil))))
  (sIf (tV (eBlt (mIsi isaT) (aCons (eVar 13) (aCons (eC (.ty "tuple")) (aNil))))) (sIf (tOr (tV (eBin (mIs true) (eVar 14) (eC .non))) (tV (eBin (mEq true) (eBlt mRepr (aCons (eAttr okx_parts oko_parts "parts" (eCall 1 m_read_sign (aCons (eVar 12) (aNil)))) (aNil))) (eBlt mRepr (aCons (eVar 13) (aNil)))))) (sRet (eC (.bl false))) (sNext)) (sIf (tV (eBin (mEq true) (eVar 14) (eTup (aCons (eC (.str "text")) (aCons (eVar 13) (aNil)))))) (sRet (eC (.bl false))) (sNext))))))))))))
  (sSeq (sAsg (eCall 2 m_law_pick (aCons (eVar 1) (aCons (eLst false (aCons (eC (.str "o")) (aCons (eC (.str "x")) (aNil)))) (aNil)))) (AVL.gName 15))
  (sSeq (sAsg (eIf (tV (eBin (mEq false) (eVar 15) (eC (.str "o")))) (eC (.str "handles")) (eC (.str "caps"))) (AVL.gName 16))
  (sSeq (sAsg (eCall 1 m_read_sign (aCons (eMt "str" mJoin (eC (.str " ")) (aCons (eBin (mMul false) (eLst false (aCons (eVar 15) (aNil))) (eC (.int 600))) (aNil))) (aNil))) (AVL.gName 17))
  (sSeq (sIf (tOr (tV (eBin (mEq true) (eAttr okx_parts oko_parts "parts" (eVar 17)) (eIf (tV (eBin (mEq false) (eVar 15) (eC (.str "o")))) (eTup (aCons (eC (.int 600)) (aCons (eC (.int 0)) (aCons (eTup (aNil)) (aCons (eTup (aNil)) (aNil)))))) (eTup (aCons (eC (.int 0)) (aCons (eC (.int 600)) (aCons (eTup (aNil)) (aCons (eTup (aNil)) (aNil))))))))) (tV (eBin (mEq true) (eCall 1 m_sign_text (aCons (eVar 17) (aNil))) (eMt "str" mJoin (eC (.str " ")) (aCons (eBin (mMul false) (eLst false (aCons (eVar 15) (aNil))) (eC (.int 600))) (aNil)))))) (sRet (eC (.bl false))) (sNext))
  (sSeq (sIf (tOr (tV (eBin (mEq true) (eLam m_law_heard (eCall 1 m_read_sign (aCons (eMt "str" mJoin (eC (.str " ")) (aCons (eBin (mMul false) (eLst false (aCons (eVar 15) (aNil))) (eC (.int 601))) (aNil))) (aNil)))) (eTup (aCons (eC (.str "number")) (aCons (eVar 16) (aNil)))))) (tV (eBin (mEq true) (eLam m_law_heard (eCall 1 m_read_sign (aCons (eMt "str" mJoin (eC (.str " ")) (aCons (eBin (mAdd false) (eBin (mMul false) (eLst false (aCons (eVar 15) (aNil))) (eC (.int 601))) (eLst false (aCons (eC (.str "a")) (aNil)))) (aNil))) (aNil)))) (eTup (aCons (eC (.str "text")) (aCons (eC (.int 601)) (aNil))))))) (sRet (eC (.bl false))) (sNext))
  (sSeq (sAsg (eCall 4 (mMake "Signature" m_Signature___init__) (aCons (eC (.int 0)) (aCons (eC (.int 0)) (aCons (eBin (mMul false) (eLst false (aCons (eC (.int 120)) (aNil))) (eC (.int 200))) (aCons (eLst false (aCons (eBin (mMul false) (eLst false (aCons (eC (.int 2)) (aNil))) (eC (.int 100))) (aCons (eLst false (aCons (eC (.int 3)) (aNil))) (aNil)))) (aNil)))))) (AVL.gName 18))
  (sSeq (sIf (tV (eBin (mEqO true eqT) (eCall 1 m_read_sign (aCons (eCall 1 m_sign_text (aCons (eVar 18) (aNil))) (aNil))) (eVar 18))) (sRet (eC (.bl false))) (sNext))
  (sSeq (sAsg (eCall 2 m_law_pick (aCons (eVar 1) (aCons (eLst false (aCons (eC .non) (aCons (eC (.int 5)) (aCons (eLst false (aCons (eC (.str "o")) (aNil))) (aCons (eTup (aCons (eC (.str "*")) (aNil))) (aCons (eC (.bl true)) (aCons (eVar 7) (aNil)))))))) (aNil)))) (AVL.gName 19))
  (sSeq (sAsg (eLst true (aCons (eLam m_law_heard (eCall 1 m_read_sign (aCons (eVar 19) (aNil)))) (aNil))) (AVL.gName 14))
  (sSeq (sExpr (eMt "list" mApp (eVar 14) (aCons (eLam m_law_heard (eCall 1 m_sign_text (aCons (eCall 2 m_law_pick (aCons (eVar 1) (aCons (eLst false (aCons (eC .non) (aCons (eC (.int 5)) (aCons (eC (.str "o")) (aCons (eTup (aCons (eC (.int 0)) (aCons (eC (.int 0)) (aCons (eTup (aNil)) (aCons (eTup (aNil)) (aNil)))))) (aNil)))))) (aNil)))) (aNil)))) (aNil))))
  (sSeq (sIf (tV (eBin (mEq true) (eLam m_law_heard (eCall 1 m_read_sign (aCons (eCall 2 m_law_pick (aCons (eVar 1) (aCons (eLst false (aCons (eC (.str "- 2")) (aCons (eC (.str "- -")) (aCons (eC (.str "- o")) (aCons (eC (.str "- ")) (aNil)))))) (aNil)))) (aNil)))) (eTup (aCons (eC (.str "text")) (aCons (eC (.int 1)) (aNil)))))) (sRet (eC (.bl false))) (sNext))
  (sRet (eAnd (eBin (mEq false) (eVar 14) (eLst false (aCons (eTup (aCons (eC (.str "text")) (aCons (eC (.int 0)) (aNil)))) (aCons (eTup (aCons (eC (.str "value")) (aCons (eC (.str "signature")) (aNil)))) (aNil))))) (eAnd (eBin (mEq false) (eAttr okx_parts oko_parts "parts" (eCall 1 m_read_sign (aCons (eC (.str "-")) (aNil)))) (eTup (aCons (eC (.int 0)) (aCons (eC (.int 0)) (aCons (eTup (aNil)) (aCons (eTup (aNil)) (aNil))))))) (eBin (mEq false) (eAttr okx_mirrors oko_mirrors "mirrors" (eCall 1 m_read_sign (aCons (eC (.str "*")) (aNil)))) (eTup (aCons (eTup (aNil)) (aNil)))))))))))))))))))
def m_law : MF := mkF 19 false b_law
theorem f_law (T : Txt P w K mg base) {fd : FuncData} (F : FunD K "law" "law" (defArgs (s_law)) (defBody (s_law)) (defScope (s_law)) [] [] (He.ga K "law") fd) {cA PA2 : Addr} (ec : fd.code = .ref cA) (TB : LamX.TabB base mg cA PA2) (tm : (PA2, (("law" : Str) ++ ".<locals>.") ++ "<lambda>") ∈ tabsOf K) (tu : ∀ p ∈ tabsOf K, p.1 = PA2 → p.2 = (("law" : Str) ++ ".<locals>.") ++ "<lambda>") : FnG P w K mg base 10 (He.ga K "law") fd ["script"] (spOf K mg 1 m_law) :=
  fn_mk F sc_law (n := 19) rfl fun cdv A outer s H E ecd gd hr => by
    have tk := takes_of (X := cxOf (L2.CX P w) P w K mg base N_law "law" (defScope s_law) (He.ga K "law") cdv A outer s H E) (E := E) rfl rfl rfl rfl
    have pw := passes_of (X := cxOf (L2.CX P w) P w K mg base N_law "law" (defScope s_law) (He.ga K "law") cdv A outer s H E) rfl
    exact rsCons (rsAsg (rCall (h_law_pen T) gd (hr.mono (by decide)) tk (raCons (rVar 0) (raNil))) (rgName 1 sc_law.nd))
      (rsCons (rsFor pw (riRng1 T.n_range (raCons (rInt) (raNil))) (rgName 2 sc_law.nd) (rsCons (rsAsg (rCall (h_law_drawn_sign T) gd (hr.mono (by decide)) tk (raCons (rVar 1) (raNil))) (rgTup (rgsCons (rgName 3 sc_law.nd) (rgsCons (rgName 4 sc_law.nd) (rgsCons (rgName 5 sc_law.nd) (rgsCons (rgName 6 sc_law.nd) (rgsNil)))))))
      (rsCons (rsPar2 (i := 7) (j := 8) sc_law.nd (raCons (rMake (h_Signature___init__ T) gd (hr.mono (by decide)) tk (raCons (rVar 3) (raCons (rVar 4) (raCons (rVar 5) (raCons (rVar 6) (raNil)))))) (raCons (rCall (h_law_text T) gd (hr.mono (by decide)) tk (raCons (rVar 3) (raCons (rVar 4) (raCons (rVar 5) (raCons (rVar 6) (raNil)))))) (raNil))))
      (rsCons (rsAsg (rCall (h_law_text T) gd (hr.mono (by decide)) tk (raCons (rAttr T.at_handles T.ao_handles (rVar 7)) (raCons (rAttr T.at_caps T.ao_caps (rVar 7)) (raCons (rAttr T.at_cones T.ao_cones (rVar 7)) (raCons (rAttr T.at_mirrors T.ao_mirrors (rVar 7)) (raNil)))))) (rgName 9 sc_law.nd))
      (rsCons (rsIf (PW.pt (rtOr (rtCmp (mNe_ok hr.units) mEq_calm (rCall (h_sign_text T) gd (hr.mono (by decide)) tk (raCons (rVar 7) (raNil))) (rVar 9) (by exact nomark _)) (rtOr (rtCmp (mNeO_ok hr.units (fun c mf e => (eqT_ok T c mf e).imp fun k z => ⟨z.1, hr.mono (Nat.le_trans z.2 (by decide))⟩) gd) mEqO_calm (rCall (h_read_sign T) gd (hr.mono (by decide)) tk (raCons (rVar 9) (raNil))) (rVar 7) (by exact nomark _)) (rtOr (rtCmp (mNeO_ok hr.units (fun c mf e => (eqT_ok T c mf e).imp fun k z => ⟨z.1, hr.mono (Nat.le_trans z.2 (by decide))⟩) gd) mEqO_calm (rCallDK0 (hd1_read_sign T) gd (hr.mono (by decide)) tk (rkCons (rVar 8) (rkNil))) (rVar 7) (by exact nomark _)) (rtOr1 (rtCmp (mNe_ok hr.units) mEq_calm (rCallDK0 (hd2_sign_text T) gd (hr.mono (by decide)) tk (rkCons (rCall (h_read_sign T) gd (hr.mono (by decide)) tk (raCons (rVar 8) (raNil))) (rkNil))) (rVar 9) (by exact nomark _))))))) (rsOne (rsRet (rBl))) (rsNil))
      (rsCons (rsAsg (rMt PySem.F.plainAttrs_str PySem.F.slot_str_split PySem.F.type_str_split mSplit_ok mSplit_calm (rVar 8) (raCons (rStr) (raNil))) (rgName 10 sc_law.nd))
      (rsCons (rsFor pw (riRng1 T.n_range (raCons (rBin mAdd_ok mAdd_calm (rInt) (rCall (h_law_draw T) gd (hr.mono (by decide)) tk (raCons (rVar 1) (raCons (rInt) (raNil))))) (raNil))) (rgName 11 sc_law.nd) (rsOne (rsAsg (rIf (rtCmp (mNe_ok hr.units) mEq_calm (rVar 10) (rLst (raNil)) (by exact nomark _)) (rCall (h_law_bent T) gd (hr.mono (by decide)) tk (raCons (rVar 1) (raCons (rVar 10) (raNil)))) (rLst (raCons (rStr) (raNil)))) (rgName 10 sc_law.nd))))
      (rsCons (rsAsg (rMt PySem.F.plainAttrs_str PySem.F.slot_str_join PySem.F.type_str_join mJoin_ok mJoin_calm (rStr) (raCons (rVar 10) (raNil))) (rgName 12 sc_law.nd))
      (rsCons (rsPar2 (i := 13) (j := 14) sc_law.nd (raCons (rCall (h_law_read T) gd (hr.mono (by decide)) tk (raCons (rVar 12) (raNil))) (raCons (rLam (k := 7) (h_law_heard T) TB (ecd.symm.trans ec) tm tu gd (hr.mono (by decide)) (lmS_by (N := N_law) (sc := defScope s_law) (by decide +kernel)) (Or.inl ⟨rfl, fun _ _ _ _ _ => rfl⟩) (fun A2 outer2 s2 H2 E2 f2 c2 gd hr => rCall (h_read_sign T) gd (hr.mono (by decide)) lam_takes (raCons (rVar 12) (raNil)))) (raNil))))
      (rsOne (rsIf (rtV (rBlt (mIsi_ok T.isa) mIsi_calm T.n_isinstance bb_isinstance (raCons (rVar 13) (raCons (rTyp T.n_tuple bb_tuple) (raNil))))) (rsOne (rsIf (PW.pt (rtOr (rtCmp mIsNot_ok mIs_calm (rVar 14) (rNon) (by exact nomark _)) (rtOr1 (rtCmp (mNe_ok hr.units) mEq_calm (rBlt (mRepr_ok gd hr) mRepr_calm T.n_repr bb_repr (raCons (rAttr T.at_parts T.ao_parts (rCall (h_read_sign T) gd (hr.mono (by decide)) tk (raCons (rVar 12) (raNil)))) (raNil))) (rBlt (mRepr_ok gd hr) mRepr_calm T.n_repr bb_repr (raCons (rVar 13) (raNil))) (by exact nomark _))))) (rsOne (rsRet (rBl))) (rsNil))) (rsOne (rsIf (rtCmp (mNe_ok hr.units) mEq_calm (rVar 14) (rTup (raCons (rStr) (raCons (rVar 13) (raNil)))) (by exact nomark _)) (rsOne (rsRet (rBl))) (rsNil))))))))))))))
      (rsCons (rsAsg (rCall (h_law_pick T) gd (hr.mono (by decide)) tk (raCons (rVar 1) (raCons (rLst (raCons (rStr) (raCons (rStr) (raNil)))) (raNil)))) (rgName 15 sc_law.nd))
      (rsCons (rsAsg (rIf (rtCmp (mEq_ok hr.units) mEq_calm (rVar 15) (rStr) (by exact nomark _)) (rStr) (rStr)) (rgName 16 sc_law.nd))
      (rsCons (rsAsg (rCall (h_read_sign T) gd (hr.mono (by decide)) tk (raCons (rMt PySem.F.plainAttrs_str PySem.F.slot_str_join PySem.F.type_str_join mJoin_ok mJoin_calm (rStr) (raCons (rBin mMul_ok mMul_calm (rLst (raCons (rVar 15) (raNil))) (rInt)) (raNil))) (raNil))) (rgName 17 sc_law.nd))
      (rsCons (rsIf (PW.pt (rtOr (rtCmp (mNe_ok hr.units) mEq_calm (rAttr T.at_parts T.ao_parts (rVar 17)) (rIf (rtCmp (mEq_ok hr.units) mEq_calm (rVar 15) (rStr) (by exact nomark _)) (rTup (raCons (rInt) (raCons (rInt) (raCons (rTup (raNil)) (raCons (rTup (raNil)) (raNil)))))) (rTup (raCons (rInt) (raCons (rInt) (raCons (rTup (raNil)) (raCons (rTup (raNil)) (raNil))))))) (by exact nomark _)) (rtOr1 (rtCmp (mNe_ok hr.units) mEq_calm (rCall (h_sign_text T) gd (hr.mono (by decide)) tk (raCons (rVar 17) (raNil))) (rMt PySem.F.plainAttrs_str PySem.F.slot_str_join PySem.F.type_str_join mJoin_ok mJoin_calm (rStr) (raCons (rBin mMul_ok mMul_calm (rLst (raCons (rVar 15) (raNil))) (rInt)) (raNil))) (by exact nomark _))))) (rsOne (rsRet (rBl))) (rsNil))
      (rsCons (rsIf (PW.pt (rtOr (rtCmp (mNe_ok hr.units) mEq_calm (rLam (k := 7) (h_law_heard T) TB (ecd.symm.trans ec) tm tu gd (hr.mono (by decide)) (lmS_by (N := N_law) (sc := defScope s_law) (by decide +kernel)) (Or.inl ⟨rfl, fun _ _ _ _ _ => rfl⟩) (fun A2 outer2 s2 H2 E2 f2 c2 gd hr => rCall (h_read_sign T) gd (hr.mono (by decide)) lam_takes (raCons (rMt PySem.F.plainAttrs_str PySem.F.slot_str_join PySem.F.type_str_join mJoin_ok mJoin_calm (rStr) (raCons (rBin mMul_ok mMul_calm (rLst (raCons (rVar 15) (raNil))) (rInt)) (raNil))) (raNil)))) (rTup (raCons (rStr) (raCons (rVar 16) (raNil)))) (by exact nomark _)) (rtOr1 (rtCmp (mNe_ok hr.units) mEq_calm (rLam (k := 7) (h_law_heard T) TB (ecd.symm.trans ec) tm tu gd (hr.mono (by decide)) (lmS_by (N := N_law) (sc := defScope s_law) (by decide +kernel)) (Or.inr ⟨_, _, _, "a1", rfl, rfl, fun _ _ _ _ _ _ _ => ⟨_, rfl, rfl⟩⟩) (fun A2 outer2 s2 H2 E2 f2 c2 gd hr => rCall (h_read_sign T) gd (hr.mono (by decide)) lam_takes (raCons (rMt PySem.F.plainAttrs_str PySem.F.slot_str_join PySem.F.type_str_join mJoin_ok mJoin_calm (rStr) (raCons (rBin mAdd_ok mAdd_calm (rBin mMul_ok mMul_calm (rLst (raCons (rVar 15) (raNil))) (rInt)) (rLst (raCons (rStr) (raNil)))) (raNil))) (raNil)))) (rTup (raCons (rStr) (raCons (rInt) (raNil)))) (by exact nomark _))))) (rsOne (rsRet (rBl))) (rsNil))
      (rsCons (rsAsg (rMake (h_Signature___init__ T) gd (hr.mono (by decide)) tk (raCons (rInt) (raCons (rInt) (raCons (rBin mMul_ok mMul_calm (rLst (raCons (rInt) (raNil))) (rInt)) (raCons (rLst (raCons (rBin mMul_ok mMul_calm (rLst (raCons (rInt) (raNil))) (rInt)) (raCons (rLst (raCons (rInt) (raNil))) (raNil)))) (raNil)))))) (rgName 18 sc_law.nd))
      (rsCons (rsIf (rtCmp (mNeO_ok hr.units (fun c mf e => (eqT_ok T c mf e).imp fun k z => ⟨z.1, hr.mono (Nat.le_trans z.2 (by decide))⟩) gd) mEqO_calm (rCall (h_read_sign T) gd (hr.mono (by decide)) tk (raCons (rCall (h_sign_text T) gd (hr.mono (by decide)) tk (raCons (rVar 18) (raNil))) (raNil))) (rVar 18) (by exact nomark _)) (rsOne (rsRet (rBl))) (rsNil))
      (rsCons (rsAsg (rCall (h_law_pick T) gd (hr.mono (by decide)) tk (raCons (rVar 1) (raCons (rLst (raCons (rNon) (raCons (rInt) (raCons (rLst (raCons (rStr) (raNil))) (raCons (rTup (raCons (rStr) (raNil))) (raCons (rBl) (raCons (rVar 7) (raNil)))))))) (raNil)))) (rgName 19 sc_law.nd))
      (rsCons (rsAsg (rLst (raCons (rLam (k := 7) (h_law_heard T) TB (ecd.symm.trans ec) tm tu gd (hr.mono (by decide)) (lmS_by (N := N_law) (sc := defScope s_law) (by decide +kernel)) (Or.inl ⟨rfl, fun _ _ _ _ _ => rfl⟩) (fun A2 outer2 s2 H2 E2 f2 c2 gd hr => rCall (h_read_sign T) gd (hr.mono (by decide)) lam_takes (raCons (rVar 19) (raNil)))) (raNil))) (rgName 14 sc_law.nd))
      (rsCons (rsExpr (rMt PySem.F.plainAttrs_list PySem.F.slot_list_append PySem.F.type_list_append mApp_ok mApp_calm (rVar 14) (raCons (rLam (k := 4) (h_law_heard T) TB (ecd.symm.trans ec) tm tu gd (hr.mono (by decide)) (lmS_by (N := N_law) (sc := defScope s_law) (by decide +kernel)) (Or.inl ⟨rfl, fun _ _ _ _ _ => rfl⟩) (fun A2 outer2 s2 H2 E2 f2 c2 gd hr => rCall (h_sign_text T) gd (hr.mono (by decide)) lam_takes (raCons (rCall (h_law_pick T) gd (hr.mono (by decide)) lam_takes (raCons (rVar 1) (raCons (rLst (raCons (rNon) (raCons (rInt) (raCons (rStr) (raCons (rTup (raCons (rInt) (raCons (rInt) (raCons (rTup (raNil)) (raCons (rTup (raNil)) (raNil)))))) (raNil)))))) (raNil)))) (raNil)))) (raNil))))
      (rsCons (rsIf (rtCmp (mNe_ok hr.units) mEq_calm (rLam (k := 7) (h_law_heard T) TB (ecd.symm.trans ec) tm tu gd (hr.mono (by decide)) (lmS_by (N := N_law) (sc := defScope s_law) (by decide +kernel)) (Or.inl ⟨rfl, fun _ _ _ _ _ => rfl⟩) (fun A2 outer2 s2 H2 E2 f2 c2 gd hr => rCall (h_read_sign T) gd (hr.mono (by decide)) lam_takes (raCons (rCall (h_law_pick T) gd (hr.mono (by decide)) lam_takes (raCons (rVar 1) (raCons (rLst (raCons (rStr) (raCons (rStr) (raCons (rStr) (raCons (rStr) (raNil)))))) (raNil)))) (raNil)))) (rTup (raCons (rStr) (raCons (rInt) (raNil)))) (by exact nomark _)) (rsOne (rsRet (rBl))) (rsNil))
      (rsOne (rsRet (rAnd (rCmp (mEq_ok hr.units) mEq_calm (rVar 14) (rLst (raCons (rTup (raCons (rStr) (raCons (rInt) (raNil)))) (raCons (rTup (raCons (rStr) (raCons (rStr) (raNil)))) (raNil)))) (by exact nomark _)) (rAnd (rCmp (mEq_ok hr.units) mEq_calm (rAttr T.at_parts T.ao_parts (rCall (h_read_sign T) gd (hr.mono (by decide)) tk (raCons (rStr) (raNil)))) (rTup (raCons (rInt) (raCons (rInt) (raCons (rTup (raNil)) (raCons (rTup (raNil)) (raNil)))))) (by exact nomark _)) (rOne (rCmp (mEq_ok hr.units) mEq_calm (rAttr T.at_mirrors T.ao_mirrors (rCall (h_read_sign T) gd (hr.mono (by decide)) tk (raCons (rStr) (raNil)))) (rTup (raCons (rTup (raNil)) (raNil))) (by exact nomark _)))))))))))))))))))
theorem h_law (T : Txt P w K mg base) : Has P w K mg base "law" 10 ["script"] m_law := by
  obtain ⟨fd, hm, F, cA, PA2, ec, TB, tm, tu⟩ := T.d_law
  exact ⟨_, fd, hm, F.kp, F.bindsN (ps := ["script"]) fun _ _ _ _ _ _ us hl => match us, hl with | [_], _ => rfl, f_law T F ec TB tm tu⟩

end
def fnL0 : List He.DefD := [⟨("is_integer", none), "is_integer", "is_integer", defArgs (topS 6), defBody (topS 6), defScope (topS 6), [], []⟩,
  ⟨("need_integer", none), "need_integer", "need_integer", defArgs (topS 7), defBody (topS 7), defScope (topS 7), [.non], []⟩,
  ⟨("row_of", none), "row_of", "row_of", defArgs (topS 8), defBody (topS 8), defScope (topS 8), [], []⟩,
  ⟨("need_orders", none), "need_orders", "need_orders", defArgs (topS 13), defBody (topS 13), defScope (topS 13), [], []⟩,
  ⟨("need_signature", none), "need_signature", "need_signature", defArgs (topS 14), defBody (topS 14), defScope (topS 14), [], []⟩,
  ⟨("least_ring", none), "least_ring", "least_ring", defArgs (topS 15), defBody (topS 15), defScope (topS 15), [], []⟩,
  ⟨("order_in", none), "order_in", "order_in", defArgs (topS 21), defBody (topS 21), defScope (topS 21), [], []⟩,
  ⟨("taken", none), "taken", "taken", defArgs (topS 22), defBody (topS 22), defScope (topS 22), [], []⟩,
  ⟨("orders_from", none), "orders_from", "orders_from", defArgs (topS 23), defBody (topS 23), defScope (topS 23), [], []⟩,
  ⟨("sign_text", none), "sign_text", "sign_text", defArgs (topS 24), defBody (topS 24), defScope (topS 24), [], []⟩,
  ⟨("_law_pen", none), "_law_pen", "_law_pen", defArgs (topS 27), defBody (topS 27), defScope (topS 27), [], []⟩,
  ⟨("_law_draw", none), "_law_draw", "_law_draw", defArgs (topS 28), defBody (topS 28), defScope (topS 28), [], []⟩,
  ⟨("_law_pick", none), "_law_pick", "_law_pick", defArgs (topS 29), defBody (topS 29), defScope (topS 29), [], []⟩,
  ⟨("_law_least", none), "_law_least", "_law_least", defArgs (topS 30), defBody (topS 30), defScope (topS 30), [], []⟩,
  ⟨("_law_heard", none), "_law_heard", "_law_heard", defArgs (topS 31), defBody (topS 31), defScope (topS 31), [], []⟩,
  ⟨("_law_drawn_sign", none), "_law_drawn_sign", "_law_drawn_sign", defArgs (topS 32), defBody (topS 32), defScope (topS 32), [], []⟩,
  ⟨("_law_text", none), "_law_text", "_law_text", defArgs (topS 33), defBody (topS 33), defScope (topS 33), [], []⟩,
  ⟨("_law_order", none), "_law_order", "_law_order", defArgs (topS 34), defBody (topS 34), defScope (topS 34), [], []⟩,
  ⟨("_law_read", none), "_law_read", "_law_read", defArgs (topS 35), defBody (topS 35), defScope (topS 35), [], []⟩,
  ⟨("_law_bent", none), "_law_bent", "_law_bent", defArgs (topS 36), defBody (topS 36), defScope (topS 36), [], []⟩]
def fnL1 : List He.DefD := [⟨("Signature", some "__init__"), "__init__", "Signature.__init__", defArgs (inClass (topS 12) 0), defBody (inClass (topS 12) 0), defScope (inClass (topS 12) 0), [], []⟩,
  ⟨("Signature", some "__eq__"), "__eq__", "Signature.__eq__", defArgs (inClass (topS 12) 1), defBody (inClass (topS 12) 1), defScope (inClass (topS 12) 1), [], []⟩,
  ⟨("read_sign", none), "read_sign", "read_sign", defArgs (topS 25), defBody (topS 25), defScope (topS 25), [], []⟩,
  ⟨("law", none), "law", "law", defArgs (topS 37), defBody (topS 37), defScope (topS 37), [], []⟩,
  ⟨("BadValue", some "__init__"), "__init__", "BadValue.__init__", defArgs (inClass (topS 2) 0), defBody (inClass (topS 2) 0), defScope (inClass (topS 2) 0), [], []⟩,
  ⟨("BadNumber", some "__init__"), "__init__", "BadNumber.__init__", defArgs (inClass (topS 3) 0), defBody (inClass (topS 3) 0), defScope (inClass (topS 3) 0), [], []⟩,
  ⟨("BadText", some "__init__"), "__init__", "BadText.__init__", defArgs (inClass (topS 4) 0), defBody (inClass (topS 4) 0), defScope (inClass (topS 4) 0), [], []⟩]
def fnL : List He.DefD := fnL0 ++ fnL1
def lamsL : List Str := ["law"]
def fbL0 (K : PySem.W.Frag) : List Bool := [isaB isaL clsL K,
  He.eqO (PySem.W.nsIn K mainGlobals "BadNumber") (some (some (.ref (He.ga K "BadNumber")))),
  He.eqO (PySem.W.nsIn K mainGlobals "BadText") (some (some (.ref (He.ga K "BadText")))),
  He.eqO (PySem.W.nsIn K mainGlobals "BadValue") (some (some (.ref (He.ga K "BadValue")))),
  He.eqO (PySem.W.nsIn K mainGlobals "Signature") (some (some (.ref (He.ga K "Signature")))),
  He.eqO (PySem.W.nsIn K mainGlobals "is_integer") (some (some (.ref (He.ga K "is_integer")))),
  He.eqO (PySem.W.nsIn K mainGlobals "need_integer") (some (some (.ref (He.ga K "need_integer")))),
  He.eqO (PySem.W.nsIn K mainGlobals "row_of") (some (some (.ref (He.ga K "row_of")))),
  He.eqO (PySem.W.nsIn K mainGlobals "need_orders") (some (some (.ref (He.ga K "need_orders")))),
  He.eqO (PySem.W.nsIn K mainGlobals "need_signature") (some (some (.ref (He.ga K "need_signature")))),
  He.eqO (PySem.W.nsIn K mainGlobals "least_ring") (some (some (.ref (He.ga K "least_ring")))),
  He.eqO (PySem.W.nsIn K mainGlobals "order_in") (some (some (.ref (He.ga K "order_in")))),
  He.eqO (PySem.W.nsIn K mainGlobals "taken") (some (some (.ref (He.ga K "taken")))),
  He.eqO (PySem.W.nsIn K mainGlobals "orders_from") (some (some (.ref (He.ga K "orders_from")))),
  He.eqO (PySem.W.nsIn K mainGlobals "sign_text") (some (some (.ref (He.ga K "sign_text")))),
  He.eqO (PySem.W.nsIn K mainGlobals "_law_pen") (some (some (.ref (He.ga K "_law_pen")))),
  He.eqO (PySem.W.nsIn K mainGlobals "_law_draw") (some (some (.ref (He.ga K "_law_draw")))),
  He.eqO (PySem.W.nsIn K mainGlobals "_law_pick") (some (some (.ref (He.ga K "_law_pick")))),
  He.eqO (PySem.W.nsIn K mainGlobals "_law_least") (some (some (.ref (He.ga K "_law_least")))),
  He.eqO (PySem.W.nsIn K mainGlobals "_law_heard") (some (some (.ref (He.ga K "_law_heard")))),
  He.eqO (PySem.W.nsIn K mainGlobals "_law_drawn_sign") (some (some (.ref (He.ga K "_law_drawn_sign")))),
  He.eqO (PySem.W.nsIn K mainGlobals "_law_text") (some (some (.ref (He.ga K "_law_text")))),
  He.eqO (PySem.W.nsIn K mainGlobals "_law_order") (some (some (.ref (He.ga K "_law_order")))),
  He.eqO (PySem.W.nsIn K mainGlobals "_law_read") (some (some (.ref (He.ga K "_law_read")))),
  He.eqO (PySem.W.nsIn K mainGlobals "_law_bent") (some (some (.ref (He.ga K "_law_bent")))),
  He.eqO (PySem.W.nsIn K mainGlobals "read_sign") (some (some (.ref (He.ga K "read_sign")))),
  He.eqO (PySem.W.nsIn K mainGlobals "law") (some (some (.ref (He.ga K "law")))),
  He.eqO (PySem.W.nsIn K mainGlobals "FloorError") (some (some (.ref (He.ga K "FloorError")))),
  clsB K (He.ga K "Signature"),
  He.eqO (PySem.W.findIn K (.ref (He.ga K "Signature")) "handles") (some none)]
def fbL1 (K : PySem.W.Frag) : List Bool := [He.eqO (PySem.W.findIn K (.ref (He.ga K "Signature")) "caps") (some none),
  He.eqO (PySem.W.findIn K (.ref (He.ga K "Signature")) "cones") (some none),
  He.eqO (PySem.W.findIn K (.ref (He.ga K "Signature")) "mirrors") (some none),
  He.eqO (PySem.W.findIn K (.ref (He.ga K "Signature")) "parts") (some none),
  (PySem.W.makesIn K (He.ga K "Signature") && PySem.W.keepIn K (.ref (He.ga K "Signature"))),
  He.eqO (PySem.W.findIn K (.ref (He.ga K "Signature")) "__init__") (some (some (.ref (He.ma K (He.ga K "Signature") "__init__")))),
  PySem.W.isFn K (.ref (He.ma K (He.ga K "Signature") "__init__")),
  He.eqO (PySem.W.findIn K (.ref (He.ga K "Signature")) "__eq__") (some (some (.ref (He.ma K (He.ga K "Signature") "__eq__")))),
  PySem.W.isFn K (.ref (He.ma K (He.ga K "Signature") "__eq__")),
  He.eqO (PySem.W.findIn K (.ref (He.ga K "Signature")) "__ne__") (some (some (.builtin "object.__ne__"))),
  decide (PySem.W.mroIn K (He.ga K "Signature") (.type "object") = some true),
  kstrB K "CAP" "x",
  kstrB K "HANDLE" "o",
  kintB K "MOST_MARKS" 600,
  kintB K "MOST_ORDER" 120,
  kstrB K "NONE" "-",
  kstrB K "RING" "*",
  He.eqO (PySem.W.nsIn K mainGlobals "abs") (some none),
  He.eqO (PySem.W.nsIn K mainGlobals "bool") (some none),
  He.eqO (PySem.W.nsIn K mainGlobals "enumerate") (some none),
  He.eqO (PySem.W.nsIn K mainGlobals "int") (some none),
  He.eqO (PySem.W.nsIn K mainGlobals "isinstance") (some none),
  He.eqO (PySem.W.nsIn K mainGlobals "len") (some none),
  He.eqO (PySem.W.nsIn K mainGlobals "list") (some none),
  He.eqO (PySem.W.nsIn K mainGlobals "max") (some none),
  He.eqO (PySem.W.nsIn K mainGlobals "min") (some none),
  He.eqO (PySem.W.nsIn K mainGlobals "range") (some none),
  He.eqO (PySem.W.nsIn K mainGlobals "repr") (some none),
  He.eqO (PySem.W.nsIn K mainGlobals "sorted") (some none),
  He.eqO (PySem.W.nsIn K mainGlobals "str") (some none)]
def fbL2 (K : PySem.W.Frag) : List Bool := [He.eqO (PySem.W.nsIn K mainGlobals "tuple") (some none),
  oexB K (He.ga K "BadValue"),
  He.eqO (PySem.W.findIn K (.ref (He.ga K "BadValue")) "__init__") (some (some (.ref (He.ma K (He.ga K "BadValue") "__init__")))),
  decide (PySem.W.typeIn K (.ref (He.ma K (He.ga K "BadValue") "__init__")) = some (.type "function")),
  xfB K (He.ga K "BadValue"),
  He.eqO (PySem.W.findIn K (.ref (He.ga K "BadValue")) "part") (some none),
  decide (PySem.W.exmOne K (.ref (He.ga K "BadValue")) (.ref (He.ga K "FloorError")) = some true),
  oexB K (He.ga K "BadNumber"),
  He.eqO (PySem.W.findIn K (.ref (He.ga K "BadNumber")) "__init__") (some (some (.ref (He.ma K (He.ga K "BadNumber") "__init__")))),
  decide (PySem.W.typeIn K (.ref (He.ma K (He.ga K "BadNumber") "__init__")) = some (.type "function")),
  xfB K (He.ga K "BadNumber"),
  He.eqO (PySem.W.findIn K (.ref (He.ga K "BadNumber")) "part") (some none),
  decide (PySem.W.exmOne K (.ref (He.ga K "BadNumber")) (.ref (He.ga K "FloorError")) = some true),
  oexB K (He.ga K "BadText"),
  He.eqO (PySem.W.findIn K (.ref (He.ga K "BadText")) "__init__") (some (some (.ref (He.ma K (He.ga K "BadText") "__init__")))),
  decide (PySem.W.typeIn K (.ref (He.ma K (He.ga K "BadText") "__init__")) = some (.type "function")),
  xfB K (He.ga K "BadText"),
  He.eqO (PySem.W.findIn K (.ref (He.ga K "BadText")) "item") (some none),
  decide (PySem.W.exmOne K (.ref (He.ga K "BadText")) (.ref (He.ga K "FloorError")) = some true)]
def fbL (K : PySem.W.Frag) : Bool := (fbL0 K).all id && (fbL1 K).all id && (fbL2 K).all id
section
variable {P : Program} {w : World} {K : PySem.W.Frag} {mg : Str → Option Value} {base h : Heap}
theorem txt_of (X : K.In h) (G : h.Ns mainGlobals mg) (fb : fbL K = true)
    (fd_ : ∀ (i : Nat) (d : He.DefD), fnL[i]? = some d → ∃ fd, FunD K d.name d.qual d.params d.body d.scope (d.dvs K) (d.kws K) (He.fAd K d.at_) fd)
    (tb_law : ∀ fd : FuncData, (∃ oc od osl, K.lookup (He.ga K "law") = some ⟨oc, od, .func fd, osl⟩) → ∃ cA PA2, fd.code = .ref cA ∧ LamX.TabB base mg cA PA2 ∧ (PA2, (("law" : Str) ++ ".<locals>.") ++ "<lambda>") ∈ tabsOf K ∧ ∀ p ∈ tabsOf K, p.1 = PA2 → p.2 = (("law" : Str) ++ ".<locals>.") ++ "<lambda>")
    : Txt P w K mg base := by
  unfold fbL at fb
  simp only [Bool.and_eq_true] at fb
  obtain ⟨⟨hf0, hf1⟩, hf2⟩ := fb
  have fc0 : ∀ (i : Nat) {b : Bool}, (fbL0 K)[i]? = some b → b = true := fun i b e => List.all_eq_true.mp hf0 b (List.mem_of_getElem? e)
  have fc1 : ∀ (i : Nat) {b : Bool}, (fbL1 K)[i]? = some b → b = true := fun i b e => List.all_eq_true.mp hf1 b (List.mem_of_getElem? e)
  have fc2 : ∀ (i : Nat) {b : Bool}, (fbL2 K)[i]? = some b → b = true := fun i b e => List.all_eq_true.mp hf2 b (List.mem_of_getElem? e)
  have g_BadNumber : mg "BadNumber" = some (.ref (He.ga K "BadNumber")) := PySem.W.mg_of X G (He.eqO_ok (fc0 1 rfl))
  have g_BadText : mg "BadText" = some (.ref (He.ga K "BadText")) := PySem.W.mg_of X G (He.eqO_ok (fc0 2 rfl))
  have g_BadValue : mg "BadValue" = some (.ref (He.ga K "BadValue")) := PySem.W.mg_of X G (He.eqO_ok (fc0 3 rfl))
  have g_FloorError : mg "FloorError" = some (.ref (He.ga K "FloorError")) := PySem.W.mg_of X G (He.eqO_ok (fc0 27 rfl))
  have g_Signature : mg "Signature" = some (.ref (He.ga K "Signature")) := PySem.W.mg_of X G (He.eqO_ok (fc0 4 rfl))
  have g__law_bent : mg "_law_bent" = some (.ref (He.ga K "_law_bent")) := PySem.W.mg_of X G (He.eqO_ok (fc0 24 rfl))
  have g__law_draw : mg "_law_draw" = some (.ref (He.ga K "_law_draw")) := PySem.W.mg_of X G (He.eqO_ok (fc0 16 rfl))
  have g__law_drawn_sign : mg "_law_drawn_sign" = some (.ref (He.ga K "_law_drawn_sign")) := PySem.W.mg_of X G (He.eqO_ok (fc0 20 rfl))
  have g__law_heard : mg "_law_heard" = some (.ref (He.ga K "_law_heard")) := PySem.W.mg_of X G (He.eqO_ok (fc0 19 rfl))
  have g__law_least : mg "_law_least" = some (.ref (He.ga K "_law_least")) := PySem.W.mg_of X G (He.eqO_ok (fc0 18 rfl))
  have g__law_order : mg "_law_order" = some (.ref (He.ga K "_law_order")) := PySem.W.mg_of X G (He.eqO_ok (fc0 22 rfl))
  have g__law_pen : mg "_law_pen" = some (.ref (He.ga K "_law_pen")) := PySem.W.mg_of X G (He.eqO_ok (fc0 15 rfl))
  have g__law_pick : mg "_law_pick" = some (.ref (He.ga K "_law_pick")) := PySem.W.mg_of X G (He.eqO_ok (fc0 17 rfl))
  have g__law_read : mg "_law_read" = some (.ref (He.ga K "_law_read")) := PySem.W.mg_of X G (He.eqO_ok (fc0 23 rfl))
  have g__law_text : mg "_law_text" = some (.ref (He.ga K "_law_text")) := PySem.W.mg_of X G (He.eqO_ok (fc0 21 rfl))
  have g_is_integer : mg "is_integer" = some (.ref (He.ga K "is_integer")) := PySem.W.mg_of X G (He.eqO_ok (fc0 5 rfl))
  have g_law : mg "law" = some (.ref (He.ga K "law")) := PySem.W.mg_of X G (He.eqO_ok (fc0 26 rfl))
  have g_least_ring : mg "least_ring" = some (.ref (He.ga K "least_ring")) := PySem.W.mg_of X G (He.eqO_ok (fc0 10 rfl))
  have g_need_integer : mg "need_integer" = some (.ref (He.ga K "need_integer")) := PySem.W.mg_of X G (He.eqO_ok (fc0 6 rfl))
  have g_need_orders : mg "need_orders" = some (.ref (He.ga K "need_orders")) := PySem.W.mg_of X G (He.eqO_ok (fc0 8 rfl))
  have g_need_signature : mg "need_signature" = some (.ref (He.ga K "need_signature")) := PySem.W.mg_of X G (He.eqO_ok (fc0 9 rfl))
  have g_order_in : mg "order_in" = some (.ref (He.ga K "order_in")) := PySem.W.mg_of X G (He.eqO_ok (fc0 11 rfl))
  have g_orders_from : mg "orders_from" = some (.ref (He.ga K "orders_from")) := PySem.W.mg_of X G (He.eqO_ok (fc0 13 rfl))
  have g_read_sign : mg "read_sign" = some (.ref (He.ga K "read_sign")) := PySem.W.mg_of X G (He.eqO_ok (fc0 25 rfl))
  have g_row_of : mg "row_of" = some (.ref (He.ga K "row_of")) := PySem.W.mg_of X G (He.eqO_ok (fc0 7 rfl))
  have g_sign_text : mg "sign_text" = some (.ref (He.ga K "sign_text")) := PySem.W.mg_of X G (He.eqO_ok (fc0 14 rfl))
  have g_taken : mg "taken" = some (.ref (He.ga K "taken")) := PySem.W.mg_of X G (He.eqO_ok (fc0 12 rfl))
  exact {
    isa := isa_ok (fc0 0 rfl) fun c hc => by
      have hm : c ∈ clsL := by simpa using hc
      simp only [clsL, List.mem_cons, List.not_mem_nil, or_false] at hm
      rcases hm with rfl | rfl | rfl | rfl
      · exact g_BadNumber
      · exact g_BadText
      · exact g_BadValue
      · exact g_Signature,
    k_CAP := kstr_ok X G (fc1 11 rfl),
    k_HANDLE := kstr_ok X G (fc1 12 rfl),
    k_MOST_MARKS := kint_ok X G (fc1 13 rfl),
    k_MOST_ORDER := kint_ok X G (fc1 14 rfl),
    k_NONE := kstr_ok X G (fc1 15 rfl),
    k_RING := kstr_ok X G (fc1 16 rfl),
    n_abs := PySem.W.mg_none_of X G (He.eqO_ok (fc1 17 rfl)),
    n_bool := PySem.W.mg_none_of X G (He.eqO_ok (fc1 18 rfl)),
    n_enumerate := PySem.W.mg_none_of X G (He.eqO_ok (fc1 19 rfl)),
    n_int := PySem.W.mg_none_of X G (He.eqO_ok (fc1 20 rfl)),
    n_isinstance := PySem.W.mg_none_of X G (He.eqO_ok (fc1 21 rfl)),
    n_len := PySem.W.mg_none_of X G (He.eqO_ok (fc1 22 rfl)),
    n_list := PySem.W.mg_none_of X G (He.eqO_ok (fc1 23 rfl)),
    n_max := PySem.W.mg_none_of X G (He.eqO_ok (fc1 24 rfl)),
    n_min := PySem.W.mg_none_of X G (He.eqO_ok (fc1 25 rfl)),
    n_range := PySem.W.mg_none_of X G (He.eqO_ok (fc1 26 rfl)),
    n_repr := PySem.W.mg_none_of X G (He.eqO_ok (fc1 27 rfl)),
    n_sorted := PySem.W.mg_none_of X G (He.eqO_ok (fc1 28 rfl)),
    n_str := PySem.W.mg_none_of X G (He.eqO_ok (fc1 29 rfl)),
    n_tuple := PySem.W.mg_none_of X G (He.eqO_ok (fc2 0 rfl)),
    d_is_integer := by
      obtain ⟨fd, F⟩ := fd_ 0 _ rfl
      exact ⟨fd, g_is_integer, F⟩,
    d_need_integer := by
      obtain ⟨fd, F⟩ := fd_ 1 _ rfl
      exact ⟨fd, g_need_integer, F⟩,
    d_row_of := by
      obtain ⟨fd, F⟩ := fd_ 2 _ rfl
      exact ⟨fd, g_row_of, F⟩,
    d_need_orders := by
      obtain ⟨fd, F⟩ := fd_ 3 _ rfl
      exact ⟨fd, g_need_orders, F⟩,
    d_need_signature := by
      obtain ⟨fd, F⟩ := fd_ 4 _ rfl
      exact ⟨fd, g_need_signature, F⟩,
    d_least_ring := by
      obtain ⟨fd, F⟩ := fd_ 5 _ rfl
      exact ⟨fd, g_least_ring, F⟩,
    d_order_in := by
      obtain ⟨fd, F⟩ := fd_ 6 _ rfl
      exact ⟨fd, g_order_in, F⟩,
    d_taken := by
      obtain ⟨fd, F⟩ := fd_ 7 _ rfl
      exact ⟨fd, g_taken, F⟩,
    d_orders_from := by
      obtain ⟨fd, F⟩ := fd_ 8 _ rfl
      exact ⟨fd, g_orders_from, F⟩,
    d_sign_text := by
      obtain ⟨fd, F⟩ := fd_ 9 _ rfl
      exact ⟨fd, g_sign_text, F⟩,
    d_law_pen := by
      obtain ⟨fd, F⟩ := fd_ 10 _ rfl
      exact ⟨fd, g__law_pen, F⟩,
    d_law_draw := by
      obtain ⟨fd, F⟩ := fd_ 11 _ rfl
      exact ⟨fd, g__law_draw, F⟩,
    d_law_pick := by
      obtain ⟨fd, F⟩ := fd_ 12 _ rfl
      exact ⟨fd, g__law_pick, F⟩,
    d_law_least := by
      obtain ⟨fd, F⟩ := fd_ 13 _ rfl
      exact ⟨fd, g__law_least, F⟩,
    d_law_heard := by
      obtain ⟨fd, F⟩ := fd_ 14 _ rfl
      exact ⟨fd, g__law_heard, F⟩,
    d_law_drawn_sign := by
      obtain ⟨fd, F⟩ := fd_ 15 _ rfl
      exact ⟨fd, g__law_drawn_sign, F⟩,
    d_law_text := by
      obtain ⟨fd, F⟩ := fd_ 16 _ rfl
      exact ⟨fd, g__law_text, F⟩,
    d_law_order := by
      obtain ⟨fd, F⟩ := fd_ 17 _ rfl
      exact ⟨fd, g__law_order, F⟩,
    d_law_read := by
      obtain ⟨fd, F⟩ := fd_ 18 _ rfl
      exact ⟨fd, g__law_read, F⟩,
    d_law_bent := by
      obtain ⟨fd, F⟩ := fd_ 19 _ rfl
      exact ⟨fd, g__law_bent, F⟩,
    d_Signature___init__ := fd_ 20 _ rfl,
    d_Signature___eq__ := fd_ 21 _ rfl,
    d_read_sign := by
      obtain ⟨fd, F⟩ := fd_ 22 _ rfl
      exact ⟨fd, g_read_sign, F⟩,
    d_law := by
      obtain ⟨fd, F⟩ := fd_ 23 _ rfl
      refine ⟨fd, g_law, F, tb_law fd ?_⟩
      obtain ⟨oc, od, dV, kV, doc, pm, an, cdv, ct, osl, rfl, lk, _⟩ := F.ex
      exact ⟨oc, od, osl, lk⟩,
    x_BadValue := by
      obtain ⟨fd, F⟩ := fd_ 24 _ rfl
      exact ⟨g_BadValue, oex_of (fc2 1 rfl), He.eqO_ok (fc2 2 rfl), of_decide_eq_true (fc2 3 rfl), He.eqO_ok (fc2 5 rfl), fd, F⟩,
    x_BadNumber := by
      obtain ⟨fd, F⟩ := fd_ 25 _ rfl
      exact ⟨g_BadNumber, oex_of (fc2 7 rfl), He.eqO_ok (fc2 8 rfl), of_decide_eq_true (fc2 9 rfl), He.eqO_ok (fc2 11 rfl), fd, F⟩,
    x_BadText := by
      obtain ⟨fd, F⟩ := fd_ 26 _ rfl
      exact ⟨g_BadText, oex_of (fc2 13 rfl), He.eqO_ok (fc2 14 rfl), of_decide_eq_true (fc2 15 rfl), He.eqO_ok (fc2 17 rfl), fd, F⟩,
    c_BadNumber := ⟨_, g_BadNumber⟩,
    c_BadText := ⟨_, g_BadText⟩,
    c_BadValue := ⟨_, g_BadValue⟩,
    c_Signature := ⟨_, g_Signature⟩,
    g_FloorError := g_FloorError,
    under_FloorError := fun c C hc hm => by
      simp only [under_FloorError, Bool.or_eq_true, beq_iff_eq] at hc
      rcases hc with (rfl | rfl) | rfl
      · rw [g_BadValue] at hm; cases hm; exact of_decide_eq_true (fc2 6 rfl)
      · rw [g_BadNumber] at hm; cases hm; exact of_decide_eq_true (fc2 12 rfl)
      · rw [g_BadText] at hm; cases hm; exact of_decide_eq_true (fc2 18 rfl),
    at_caps := fun c C hc hm => (by cases hc),
    ao_caps := fun c C hc hm => by
      simp only [oko_caps, Bool.or_eq_true, beq_iff_eq] at hc
      rcases hc with rfl
      · rw [g_Signature] at hm; cases hm; exact ⟨cls_of (fc0 28 rfl), He.eqO_ok (fc1 0 rfl)⟩,
    at_cones := fun c C hc hm => (by cases hc),
    ao_cones := fun c C hc hm => by
      simp only [oko_cones, Bool.or_eq_true, beq_iff_eq] at hc
      rcases hc with rfl
      · rw [g_Signature] at hm; cases hm; exact ⟨cls_of (fc0 28 rfl), He.eqO_ok (fc1 1 rfl)⟩,
    at_handles := fun c C hc hm => (by cases hc),
    ao_handles := fun c C hc hm => by
      simp only [oko_handles, Bool.or_eq_true, beq_iff_eq] at hc
      rcases hc with rfl
      · rw [g_Signature] at hm; cases hm; exact ⟨cls_of (fc0 28 rfl), He.eqO_ok (fc0 29 rfl)⟩,
    at_item := fun c C hc hm => by
      simp only [okx_item, Bool.or_eq_true, beq_iff_eq] at hc
      rcases hc with rfl
      · rw [g_BadText] at hm; cases hm; exact ⟨xfB_ok (fc2 16 rfl), He.eqO_ok (fc2 17 rfl)⟩,
    ao_item := fun c C hc hm => (by cases hc),
    at_mirrors := fun c C hc hm => (by cases hc),
    ao_mirrors := fun c C hc hm => by
      simp only [oko_mirrors, Bool.or_eq_true, beq_iff_eq] at hc
      rcases hc with rfl
      · rw [g_Signature] at hm; cases hm; exact ⟨cls_of (fc0 28 rfl), He.eqO_ok (fc1 2 rfl)⟩,
    at_part := fun c C hc hm => by
      simp only [okx_part, Bool.or_eq_true, beq_iff_eq] at hc
      rcases hc with rfl | rfl
      · rw [g_BadValue] at hm; cases hm; exact ⟨xfB_ok (fc2 4 rfl), He.eqO_ok (fc2 5 rfl)⟩
      · rw [g_BadNumber] at hm; cases hm; exact ⟨xfB_ok (fc2 10 rfl), He.eqO_ok (fc2 11 rfl)⟩,
    ao_part := fun c C hc hm => (by cases hc),
    at_parts := fun c C hc hm => (by cases hc),
    ao_parts := fun c C hc hm => by
      simp only [oko_parts, Bool.or_eq_true, beq_iff_eq] at hc
      rcases hc with rfl
      · rw [g_Signature] at hm; cases hm; exact ⟨cls_of (fc0 28 rfl), He.eqO_ok (fc1 3 rfl)⟩,
    o_Signature := ⟨g_Signature, cls_of (fc0 28 rfl)⟩,
    om_Signature := ⟨((Bool.and_eq_true _ _).mp (fc1 4 rfl)).1, He.eqO_ok (fc1 5 rfl), (fc1 6 rfl), ((Bool.and_eq_true _ _).mp (fc1 4 rfl)).2⟩,
    oe_Signature := ⟨He.eqO_ok (fc1 7 rfl), (fc1 8 rfl), He.eqO_ok (fc1 9 rfl), of_decide_eq_true (fc1 10 rfl)⟩ }
end
def looseL : List PySem.Str := (["FloorError", "BadValue", "BadNumber", "BadText", "is_integer", "need_integer", "row_of", "MOST_ORDER", "MOST_MARKS", "Signature", "need_orders", "need_signature", "least_ring", "HANDLE", "RING", "CAP", "NONE", "order_in", "taken", "orders_from", "sign_text", "read_sign", "_law_pen", "_law_draw", "_law_pick", "_law_least", "_law_heard", "_law_drawn_sign", "_law_text", "_law_order", "_law_read", "_law_bent"] : List PySem.Str)
abbrev R : PySem.W.OpenRow := PySem.W.OpenLaw.row PySem.Challenge.rw_roundflatwild_k45_texts_of_signatures
abbrev hk : PySem.W.Hook := hookB 6 lamsL fbL fnL
def ob (s : PySem.W.SharedT) : He.AlD := obsBG 6 lamsL fbL fnL (HandSHeadRun.getT s)
theorem ob_eq (s : PySem.W.SharedT) : ob s = hk.obs s.abs := obsBG_eq (HandSHeadRun.getT_eq s)

set_option maxHeartbeats 0
theorem run (w : World) : HandSHeadRun.RunEq R (PySem.W.view R.prog [37]) hk ob 20000 looseL w := by
  intro os
  kernel_rfl
theorem facts {w : World} {h : Heap} {mg : Str → Option Value} {fa : Addr} (Y : hk.says w h) (G : h.Ns mainGlobals mg) (hm : mg "law" = some (.ref fa)) :
    ∃ (K : PySem.W.Frag) (fd : FuncData) (cs : List (Addr × Addr)), K.In h ∧ (∀ p ∈ cs, h.get? p.2 = some { cls := .none, data := .fields #[] }) ∧ (∀ p ∈ cs, K.lookup p.2 = none) ∧ (∀ p ∈ cs, PySem.W.CodeHd h p.1 p.2) ∧ (∀ q ∈ tabsOf K, ∃ p ∈ cs, p.2 = q.1) ∧ (∀ (s : Shared) (u : Value), BindsTo s fd ⟨[u], []⟩ [("script", u)]) ∧
      ∀ base : Heap, K.In base → base.Ns mainGlobals mg → (∀ p ∈ cs, LamX.TabB base mg p.1 p.2) → FnG (PySem.Challenge.rw_roundflatwild_k45_texts_of_signatures).prog w K mg base 10 fa fd ["script"] (spOf K mg 1 m_law) := by
  obtain ⟨K0, X0, c⟩ := Y
  have X := mkK_in X0 c.head
  have fb := c.fact
  have hh := c.head
  unfold headB at hh
  simp only [Bool.and_eq_true, List.all_eq_true, decide_eq_true_eq] at hh
  obtain ⟨_, hh⟩ := hh
  obtain ⟨fd, F⟩ := c.def_ 23 rfl
  have e : fa = He.ga (mkK lamsL K0) "law" := by
    have z := PySem.W.mg_of X G (He.eqO_ok (show He.eqO (PySem.W.nsIn (mkK lamsL K0) mainGlobals "law") (some (some (.ref (He.ga (mkK lamsL K0) "law")))) = true from by
      have fb2 := fb
      unfold fbL at fb2
      simp only [Bool.and_eq_true] at fb2
      obtain ⟨⟨hf0, hf1⟩, hf2⟩ := fb2
      exact List.all_eq_true.mp hf0 _ (List.mem_of_getElem? (i := 26) rfl)))
    rw [hm] at z
    cases z; rfl
  subst e
  refine ⟨mkK lamsL K0, fd, lamsL.map (lamAt K0), X, fun p hp => ?_, fun p hp => ?_, fun p hp => ?_, fun q hq => ?_, fun s u => (FunD.bindsA (ps := ["script"]) F fun _ _ _ _ _ _ us hl => match us, hl with | [_], _ => rfl) s [u] rfl, fun base B1 B2 TB => ?_⟩
  · obtain ⟨x, hx, rfl⟩ := List.mem_map.mp hp
    exact empty_of X0 (hh x hx).2.1
  · obtain ⟨x, hx, rfl⟩ := List.mem_map.mp hp
    exact (hh x hx).2.2.1
  · obtain ⟨x, hx, rfl⟩ := List.mem_map.mp hp
    exact codeH_of X0 (hh x hx).1
  · rw [tabs_mkK] at hq
    obtain ⟨x, hx, rfl⟩ := List.mem_map.mp hq
    exact ⟨_, List.mem_map.mpr ⟨x, hx, rfl⟩, rfl⟩
  · have T : Txt (PySem.Challenge.rw_roundflatwild_k45_texts_of_signatures).prog w (mkK lamsL K0) mg base := txt_of B1 B2 fb (fun i d hi => c.def_ i hi) (fun fd lk => lam_fact (x := "law") (by decide) c.head TB fd lk)
    have lk : ∃ oc od osl, (mkK lamsL K0).lookup (He.ga (mkK lamsL K0) "law") = some ⟨oc, od, .func fd, osl⟩ := by
      obtain ⟨oc, od, dV, kV, doc, pm, an, cdv, ct, osl, rfl, lk, _⟩ := F.ex
      exact ⟨oc, od, osl, lk⟩
    obtain ⟨cA, PA2, ec, TB2, tm, tu⟩ := lam_fact (x := "law") (by decide) c.head TB fd lk
    exact f_law T F ec TB2 tm tu
theorem law_holds (tr : ∀ ns : List Int, ns.length ≤ 63 → (∀ z ∈ ns, Builtin.Int.intBits z ≤ 1048576) → ∃ h, m_law [.klst (ns.map .int)] [] = .ok (.bl true) h) :
    PySem.W.WalkO (PySem.W.view R.prog [37]) looseL (PySem.W.XL (PySem.W.view R.prog [37]) []) hk.says R.toRowW (HandSHeadRun.topDef R.prog 37) [] (fun f vs => PySem.call f vs) := by
  refine walk_g (l := PySem.Challenge.rw_roundflatwild_k45_texts_of_signatures) (n := 63) (k := 10) (x := "script") (mf := m_law) rfl (by decide) (by kernel_rfl) ⟨rfl, by decide, by decide⟩ (fun w mg fa h Y G hm => ?_) tr
  exact facts Y G (by
    have e : (HandSHeadRun.topDef R.prog 37).name = ("law" : PySem.Str) := by kernel_rfl
    rw [← e]; exact hm)
end Law

namespace Law
open PySem PySem.Spec L2 AVL
local macro_rules
  | `(tactic| decreasing_trivial_pre_omega) => `(tactic| repeat' (first | with_reducible assumption | exact eVar_ok rfl | exact eC_ok | exact nil_ok | exact oNo_ok | with_reducible apply cons_ok | with_reducible apply eBin_go | with_reducible apply eCall_go | with_reducible apply eBlt_go | with_reducible apply eTup_go | with_reducible apply eLst_go | with_reducible apply eLstN_go | with_reducible apply eAttr_go | with_reducible apply eSl_go | with_reducible apply oPart_go | with_reducible apply eRev_go | with_reducible apply eMt_go | with_reducible apply eUn_go | with_reducible apply eCallD_go | with_reducible apply star_go | with_reducible apply tV_go | exact rfl))
section
variable {h : AH} {x y : Int} {b : Bool}
theorem isi_ii : mIsi isaT [.int x, .ty "int"] h = .ok (.bl true) h := by rfl
theorem isi_ib : mIsi isaT [.int x, .ty "bool"] h = .ok (.bl false) h := by rfl
theorem isi_tup {l : List AV} : mIsi isaT [.tup l, .tup [.ty "list", .ty "tuple"]] h = .ok (.bl true) h := by rfl
theorem isi_lst {l : List AV} : mIsi isaT [.lst l, .tup [.ty "list", .ty "tuple"]] h = .ok (.bl true) h := by rfl
theorem lv_bl : leave h.length (.bl b) h = .ok (.bl b) h := lv_same rfl
theorem lv_int : leave h.length (.int x) h = .ok (.int x) h := lv_same rfl
theorem lv_two : leave h.length (.tup [.int x, .int y]) h = .ok (.tup [.int x, .int y]) h := lv_same rfl
theorem is_integer_int : m_is_integer [.int x] h = .ok (.bl true) h := by
  refine mk_go (sl := [some (.int x)]) rfl (h1 := h) (v := .bl true) ?_ lv_bl
  unfold b_is_integer
  have a := isi_ii (x := x) (h := h)
  have b := isi_ib (x := x) (h := h)
  exact ret_ok (eAnd_yes (by decreasing_trivial_pre_omega) (eNot_yes (by decreasing_trivial_pre_omega)))
theorem need_integer_ok {s : Str} {v lo hi : Int} (h1 : lo ≤ v) (h2 : v ≤ hi) : m_need_integer [.str s, .int v, .int lo, .int hi] h = .ok (.int v) h := by
  have ii := is_integer_int (x := v) (h := h)
  have a := lt_no (h := h) h1
  have b : mIs true (.int hi) .non h = .ok (.bl true) h := rfl
  have d := gt_no (h := h) h2
  refine mk_go (sl := [some (.str s), some (.int v), some (.int lo), some (.int hi)]) rfl (h1 := h) (v := .int v) ?_ lv_int
  unfold b_need_integer
  generalize m_is_integer = F at *
  exact seq_go (if_no (tOr_no (tNot_no (by decreasing_trivial_pre_omega)) (tOr_no (by decreasing_trivial_pre_omega) (tAnd_yes (by decreasing_trivial_pre_omega) (by decreasing_trivial_pre_omega)))) next_ok) (ret_ok (by decreasing_trivial_pre_omega))
/-- a row that may be read -/
def Row (h : AH) (x : AV) (l : List AV) : Prop := x = .tup l ∨ x = .lst l ∨ ∃ k, x = .ref k ∧ h[k]? = some (.lst l)
theorem Row.items {x : AV} {l : List AV} (r : Row h x l) : items h x = some l := by
  rcases r with rfl | rfl | ⟨k, rfl, e⟩
  · rfl
  · rfl
  · show (match h[k]? with | some (.lst l) => some l | _ => none) = _
    rw [e]
theorem Row.isi {x : AV} {l : List AV} (r : Row h x l) : mIsi isaT [x, .tup [.ty "list", .ty "tuple"]] h = .ok (.bl true) h := by
  rcases r with rfl | rfl | ⟨k, rfl, e⟩
  · rfl
  · rfl
  · have : tagOf h (.ref k) = some (.ty "list") := by
      show (match h[k]? with | some (.lst _) => some (Tag.ty "list") | some (.dct _ _) => some (.ty "dict") | some (.ins c _ _) => some (.own c) | _ => none) = _
      rw [e]
    unfold mIsi
    simp only [this]
    rfl
theorem Row.put {x : AV} {l : List AV} (r : Row h x l) {D : AH} : Row (h ++ D) x l := by
  rcases r with rfl | rfl | ⟨k, rfl, e⟩
  · exact .inl rfl
  · exact .inr (.inl rfl)
  · exact .inr (.inr ⟨k, rfl, by rw [List.getElem?_append_left (List.getElem?_eq_some_iff.mp e).1]; exact e⟩)
theorem Row.set {x : AV} {l : List AV} (r : Row h x l) {n : Nat} {c c' : Cell} (hn : h[n]? = some c) (hc : ∀ l, c ≠ .lst l) : Row (h.set n c') x l := by
  rcases r with rfl | rfl | ⟨k, rfl, e⟩
  · exact .inl rfl
  · exact .inr (.inl rfl)
  · refine .inr (.inr ⟨k, rfl, ?_⟩)
    by_cases q : n = k
    · subst q
      rw [hn] at e
      cases e
      exact absurd rfl (hc l)
    · rw [List.getElem?_set_ne q]; exact e
theorem row_of_ok {s : Str} {x : AV} {l : List AV} (r : Row h x l) (b : bnds h.length l = true) : m_row_of [.str s, x] h = .ok (.tup l) h := by
  have i := r.isi
  have mt : mTuple [x] h = .ok (.tup l) h := by
    show (match items h x with | some l => Res.ok (AV.tup l) h | none => .stuck) = _
    rw [r.items]
  refine mk_go (sl := [some (.str s), some x]) rfl (h1 := h) (v := .tup l) ?_ (lv_here b)
  unfold b_row_of
  generalize mIsi isaT = II at *
  exact seq_go (if_no (tNot_no (tV_go (eBlt_go (cons_ok (eVar_ok rfl) (cons_ok (eTup_go (by decreasing_trivial_pre_omega) rfl) nil_ok)) i))) next_ok) (ret_ok (by decreasing_trivial_pre_omega))
theorem need_orders_ok {s : Str} {x : AV} {l : List Int} (r : Row h x (l.map .int)) (hl : ∀ z ∈ l, 2 ≤ z ∧ z ≤ 120) : m_need_orders [.str s, x] h = .ok (IT l) h := by
  have ro := row_of_ok (s := s) r bnds_ints
  have fl : ∀ sl : SL, sl.length = 4 ∧ sl[0]? = some (some (.str s)) ∧ sl[2]? = some (some (IT l)) → ∃ sl', forL okAll (AVL.gName 3) (sExpr (eCallD 4 0 4 [.p 0, .p 1, .p 2, .p 3] [.non] m_need_integer (aCons (eVar 0) (aCons (eVar 3) (aCons (eC (.int 2)) (aCons (eC (.int 120)) (aNil))))) (aNil))) (l.map .int) sl h = .next sl' h ∧ sl'.length = 4 ∧ sl'[0]? = some (some (.str s)) ∧ sl'[2]? = some (some (IT l)) := by
    intro sl p
    refine forL_keep (ok := okAll) rfl l sl (fun sl => sl.length = 4 ∧ sl[0]? = some (some (.str s)) ∧ sl[2]? = some (some (IT l))) p fun z hz sl p => ?_
    have ni := need_integer_ok (h := h) (s := s) (hl z hz).1 (hl z hz).2
    refine ⟨sl.set 3 (some (.int z)), expr_ok (eCallD_go (xs := [.str s, .int z, .int 2, .int 120]) (ys := []) (cons_ok (eVar_ok ?_) (cons_ok (eVar_ok ?_) (by decreasing_trivial_pre_omega))) nil_ok ⟨rfl, rfl, rfl⟩ ni), ?_⟩
    · rw [List.getElem?_set_ne (by decide)]; exact p.2.1
    · rw [List.getElem?_set_self (by omega)]
    · exact ⟨by simp [p.1], by rw [List.getElem?_set_ne (by decide)]; exact p.2.1, by rw [List.getElem?_set_ne (by decide)]; exact p.2.2⟩
  obtain ⟨sl', e, _, _, e2⟩ := fl [some (.str s), some x, some (IT l), none] ⟨rfl, rfl, rfl⟩
  refine mk_go (sl := [some (.str s), some x, none, none]) rfl (h1 := h) (v := IT l) ?_ (lv_same bnd_IT)
  unfold b_need_orders
  generalize m_row_of = F at *
  refine seq_go (asg_ok (by decreasing_trivial_pre_omega)) ?_
  refine seq_go (for_ok (l := l.map .int) (ok := okAll) (h1 := h) ?_ e) (ret_ok (eVar_ok e2))
  unfold itSeq
  rw [eVar_ok (x := IT l) rfl]
  rfl
end
end Law

namespace Law
open PySem PySem.Spec L2 AVL
local macro_rules
  | `(tactic| decreasing_trivial_pre_omega) => `(tactic| repeat' (first | with_reducible assumption | exact eVar_ok rfl | exact eC_ok | exact nil_ok | exact oNo_ok | with_reducible apply cons_ok | with_reducible apply eBin_go | with_reducible apply eCall_go | with_reducible apply eBlt_go | with_reducible apply eTup_go | with_reducible apply eLst_go | with_reducible apply eLstN_go | with_reducible apply eAttr_go | with_reducible apply eSl_go | with_reducible apply oPart_go | with_reducible apply eRev_go | with_reducible apply eMt_go | with_reducible apply eUn_go | with_reducible apply eCallD_go | with_reducible apply star_go | with_reducible apply tV_go | exact rfl))
/-! the least of a ring -/
theorem cut_from {l : List Int} {k : Nat} (hk : k ≤ l.length) : cutA (l.map AV.int) (some (k : Int)) none = (l.drop k).map .int := by
  unfold cutA
  rw [HT.sIx_none, HT.sIx_nat]
  simp only [List.length_map]
  rw [Nat.min_eq_left hk, List.take_of_length_le (by simp), List.map_drop]
theorem cut_to {l : List Int} {k : Nat} (hk : k ≤ l.length) : cutA (l.map AV.int) none (some (k : Int)) = (l.take k).map .int := by
  unfold cutA
  rw [HT.sIx_none, HT.sIx_nat]
  simp only [List.length_map, List.drop_zero, Nat.sub_zero]
  rw [Nat.min_eq_left hk, List.map_take]
def leastL : List (List Int) → List Int
  | [] => []
  | x :: r => minL x r
theorem leastL_eq {a b : List (List Int)} (ha : a ≠ []) (hb : b ≠ []) (e : ∀ z, z ∈ a ↔ z ∈ b) : leastL a = leastL b := by
  cases a with
  | nil => exact absurd rfl ha
  | cons x r => cases b with
    | nil => exact absurd rfl hb
    | cons y s => exact minL_eq e
theorem leastL_mem {a : List (List Int)} (ha : a ≠ []) : leastL a ∈ a := by
  cases a with
  | nil => exact absurd rfl ha
  | cons x r => exact (minL_spec r x).1
theorem min_rows {h : AH} {a : List (List Int)} (ha : a ≠ []) : mMin [.lst (a.map IT)] h = .ok (IT (leastL a)) h := by
  cases a with
  | nil => exact absurd rfl ha
  | cons x r => exact min_ITs
def rowsP (l : List Int) : List (List Int) := [l, l.reverse].flatMap fun x => (List.range (max 1 l.length)).map fun k => rotA k x
theorem rowsP_ne {l : List Int} : rowsP l ≠ [] := by
  intro e
  have := congrArg List.length e
  simp [rowsP] at this
theorem rowsP_mem {l z : List Int} : z ∈ rowsP l ↔ Dih l z := by
  unfold rowsP
  simp only [List.flatMap_cons, List.flatMap_nil, List.append_nil, List.mem_append, List.mem_map, List.mem_range]
  refine ⟨fun h => ?_, fun h => ?_⟩
  · rcases h with ⟨k, _, rfl⟩ | ⟨k, _, rfl⟩
    · exact .inl rotA_rot
    · exact .inr rotA_rot
  · rcases h with h | h
    · obtain ⟨k, hk, rfl⟩ := h.at_
      exact .inl ⟨k, hk, rfl⟩
    · obtain ⟨k, hk, rfl⟩ := h.at_
      exact .inr ⟨k, by simpa using hk, rfl⟩
def least (l : List Int) : List Int := leastL (rowsP l)
theorem least_dih {l : List Int} : Dih l (least l) := rowsP_mem.mp (leastL_mem rowsP_ne)
theorem least_eq {l r : List Int} (h : Dih l r) : least l = least r := leastL_eq rowsP_ne rowsP_ne fun z => by
  rw [rowsP_mem, rowsP_mem]
  exact ⟨fun q => h.symm.trans q, fun q => h.trans q⟩
theorem okL_lst {l : List AV} {h : AH} : okL (.lst l) l h = true := by
  unfold okL
  exact beqVs_refl l
theorem seq_lst {fe : EM} {sl : SL} {h h1 : AH} {l : List AV} (a : fe sl h = .ok (.lst l) h1) : itSeq fe sl h = .ok (l, okL (.lst l) l) h1 := by
  unfold itSeq
  rw [a]; rfl
theorem seq_tup {fe : EM} {sl : SL} {h h1 : AH} {l : List AV} (a : fe sl h = .ok (.tup l) h1) : itSeq fe sl h = .ok (l, okAll) h1 := by
  unfold itSeq
  rw [a]; rfl
theorem max_len {n : Nat} {h : AH} : mMax2 [.int 1, .int (n : Int)] h = .ok (.int ((max 1 n : Nat) : Int)) h := by
  show Res.ok (AV.int (if (n : Int) > 1 then (n : Int) else 1)) h = _
  have : (if (n : Int) > 1 then (n : Int) else 1) = ((max 1 n : Nat) : Int) := by split <;> omega
  rw [this]
theorem least_ring_ok {h : AH} {l : List Int} (hl : l.length ≤ 500) : m_least_ring [IT l] h = .ok (IT (least l)) h := by
  have rv : mRev false (IT l) h = .ok (IT l.reverse) h := by
    show Res.ok (AV.tup (l.map AV.int).reverse) h = _
    rw [← List.map_reverse]; rfl
  have ln : mLen [IT l] h = .ok (.int (l.length : Nat)) h := by
    show Res.ok (AV.int ((l.map AV.int).length : Nat)) h = _
    rw [List.length_map]
  have mx := max_len (n := l.length) (h := h)
  have cp : eComp2 false (itSeq (eVar 1)) (AVL.gName 2) (tTrue) (itRng1 (aCons (eBlt mMax2 (aCons (eC (.int 1)) (aCons (eBlt mLen (aCons (eVar 0) (aNil))) (aNil)))) (aNil))) (AVL.gName 3) (tTrue) (eBin (mAdd false) (eSl false (eVar 2) (oPart (eVar 3)) (oNo)) (eSl false (eVar 2) (oNo) (oPart (eVar 3)))) [2, 3] [3] [some (IT l), some (.lst [IT l, IT l.reverse]), none, none] h = .ok (.lst ((rowsP l).map IT)) h := by
    have q : (rowsP l).map IT = [l, l.reverse].flatMap fun x => (List.range (max 1 l.length)).map fun k => IT (rotA k x) := by
      unfold rowsP
      simp [Function.comp_def]
    rw [q]
    refine eComp2_map (f := IT) (l := [l, l.reverse]) (f1 := fun k : Nat => .int (k : Int)) (m := fun _ => List.range (max 1 l.length)) (q := fun x k => IT (rotA k x)) (slw := [some (IT l), some (.lst [IT l, IT l.reverse]), none, none]) (seq_lst (eVar_ok rfl)) okL_lst (by simp) rfl (fun x hx => ⟨okAll, ?_, rfl, by simp; omega⟩) (fun x hx k hk => ?_)
    · rw [← rangeL_map]
      refine range1_ok (k := ((max 1 l.length : Nat) : Int)) ?_ (by unfold b62; simp; omega)
      generalize mMax2 = MX at *
      generalize mLen = ML at *
      exact cons_ok (eBlt_go (cons_ok eC_ok (cons_ok (eBlt_go (cons_ok (eVar_ok rfl) nil_ok) ln) nil_ok)) mx) nil_ok
    · have xl : x.length = l.length := by
        rcases List.mem_cons.mp hx with rfl | hx
        · rfl
        · have : x = l.reverse := by simpa using hx
          subst this; simp
      have hk' : k ≤ x.length ∨ x.length = 0 := by
        have := List.mem_range.mp hk
        omega
      by_cases hz : x.length = 0
      · have : x = [] := List.length_eq_zero_iff.mp hz
        subst this
        have k0 : k = 0 := by
          have := List.mem_range.mp hk
          simp at xl
          omega
        subst k0
        rfl
      · have hk : k ≤ x.length := by omega
        have s1 : mSl false (IT x) (some (k : Int)) none h = .ok (IT (x.drop k)) h := by
          show Res.ok (AV.tup (cutA (x.map AV.int) (some (k : Int)) none)) h = _
          rw [cut_from hk]; rfl
        have s2 : mSl false (IT x) none (some (k : Int)) h = .ok (IT (x.take k)) h := by
          show Res.ok (AV.tup (cutA (x.map AV.int) none (some (k : Int)))) h = _
          rw [cut_to hk]; rfl
        have ad : mAdd false (IT (x.drop k)) (IT (x.take k)) h = .ok (IT (rotA k x)) h := by
          show (if ((x.drop k).map AV.int).length + ((x.take k).map AV.int).length ≤ sizeLine then Res.ok (AV.tup ((x.drop k).map AV.int ++ (x.take k).map AV.int)) h else .stuck) = _
          rw [if_pos (by rw [sizeLine_eq]; simp; omega), ← List.map_append]
          rfl
        exact eBin_go (eSl_go (eVar_ok rfl) (oPart_go (eVar_ok rfl)) oNo_ok s1) (eSl_go (eVar_ok rfl) oNo_ok (oPart_go (eVar_ok rfl)) s2) ad
  have mn := min_rows (h := h) (rowsP_ne (l := l))
  refine mk_go (sl := [some (IT l), none, none, none]) rfl (h1 := h) (v := IT (least l)) ?_ (lv_same bnd_IT)
  unfold b_least_ring
  exact seq_go (sl' := [some (IT l), some (.lst [IT l, IT l.reverse]), none, none]) (asg_ok (by decreasing_trivial_pre_omega)) (ret_ok (eBlt_go (cons_ok cp nil_ok) mn))
end Law

namespace Law
open PySem PySem.Spec L2 AVL
local macro_rules
  | `(tactic| decreasing_trivial_pre_omega) => `(tactic| repeat' (first | with_reducible assumption | exact eVar_ok rfl | exact eC_ok | exact nil_ok | exact oNo_ok | with_reducible apply cons_ok | with_reducible apply eBin_go | with_reducible apply eCall_go | with_reducible apply eBlt_go | with_reducible apply eTup_go | with_reducible apply eLst_go | with_reducible apply eLstN_go | with_reducible apply eAttr_go | with_reducible apply eSl_go | with_reducible apply oPart_go | with_reducible apply eRev_go | with_reducible apply eMt_go | with_reducible apply eUn_go | with_reducible apply eCallD_go | with_reducible apply star_go | with_reducible apply tV_go | exact rfl))
/-! an instance is made -/
section
variable {h : AH} {sl : SL} {c f s : Str} {ks : List Str} {l : List AV} {y v : AV} {fv fo : EM}
theorem set_last {a b : Cell} : (h ++ [a]).set h.length b = h ++ [b] := by
  rw [List.set_append_right _ _ (Nat.le_refl _), Nat.sub_self]; rfl
theorem get_last {a : Cell} : (h ++ [a])[h.length]? = some a := by
  rw [List.getElem?_append_right (Nat.le_refl _), Nat.sub_self]; rfl
theorem fld_ok {okc : Str → Bool} {h1 : AH} {ks' : List Str} {l' : List AV} (ev : fv sl h1 = .ok y (h ++ [.ins c ks l])) (eo : fo sl (h ++ [.ins c ks l]) = .ok (.ref h.length) (h ++ [.ins c ks l])) (k : okc c = true) (b : bnd 0 y = true) (hl : l.length < 900) (ep : putA f y ks l = (ks', l')) :
    sFldS okc f fv fo sl h1 = .next sl (h ++ [.ins c ks' l']) := by
  unfold sFldS
  rw [ev]
  show (fo sl (h ++ [.ins c ks l])).toS sl _ = _
  rw [eo]
  simp only [AVL.Res.toS, get_last]
  rw [if_pos (by rw [k, bnd_of b, decide_eq_true hl]; rfl), set_last, ep]
theorem attr_ref {p q : Str → Bool} (k : q c = true) (e : (ks.zip l).lookup s = some v) : mAttr p q s (.ref h.length) (h ++ [.ins c ks l]) = .ok v (h ++ [.ins c ks l]) := by
  unfold mAttr
  simp only [get_last]
  rw [if_pos k]
  unfold lookR
  rw [e]
theorem attr_obj {p q : Str → Bool} (k : q c = true) (e : (ks.zip l).lookup s = some v) : mAttr p q s (.obj c ks l) h = .ok v h := by
  show (if q c then lookR ks l s h else AVL.Res.stuck) = _
  rw [if_pos k]
  unfold lookR
  rw [e]
theorem leave_ins (b : bnds 0 l = true) : leave h.length (.ref h.length) (h ++ [.ins c ks l]) = .ok (.obj c ks l) h := by
  unfold leave frz
  have : frzV (frzN (h ++ [.ins c ks l]) h.length ((h ++ [Cell.ins c ks l]).length + 1)) (.ref h.length) = some (.obj c ks l) := by
    simp only [frzV]
    rw [show (h ++ [Cell.ins c ks l]).length + 1 = (h.length + 1) + 1 by simp]
    unfold frzN
    rw [if_neg (by omega), get_last]
    have : frzVs (frzN (h ++ [.ins c ks l]) h.length (h.length + 1)) l = some l := frzVs_low frzN_low l (by
      have : bnd h.length (.tup l) = true := bnd_of (x := .tup l) b
      exact this)
    simp [this]
  rw [this]
  show Res.ok _ ((h ++ [Cell.ins c ks l]).take h.length) = _
  rw [List.take_append_of_le_length (Nat.le_refl _), List.take_length]
end
theorem mk_next {n : Nat} {sl sl' : SL} {h h1 : AH} {args : List AV} {b : SM} {r : Res AV} (hs : args.map some ++ List.replicate n none = sl) (e : b sl h = .next sl' h1) (l : leave h.length .non h1 = r) : mkF n false b args h = r := by
  unfold mkF
  rw [hs, e]; exact l
def Ring (h : AH) (p : AV × List Int) : Prop := Row h p.1 (p.2.map .int) ∧ bnd h.length p.1 = true ∧ (∀ z ∈ p.2, 2 ≤ z ∧ z ≤ 120) ∧ p.2.length ≤ 500
def parts (hd cp : Int) (cs : List Int) (rs : List (List Int)) : AV := .tup [.int hd, .int cp, IT cs, .tup (rs.map IT)]
def sig (hd cp : Int) (cs : List Int) (rs : List (List Int)) : AV := .obj "Signature" ["handles", "caps", "cones", "mirrors", "parts"] [.int hd, .int cp, IT cs, .tup (rs.map IT), parts hd cp cs rs]
section
variable {a b c d e : AV}
theorem put2 : putA "caps" b ["handles"] [a] = ((["handles", "caps"] : List Str), [a, b]) := by kernel_rfl
theorem put3 : putA "cones" c ["handles", "caps"] [a, b] = ((["handles", "caps", "cones"] : List Str), [a, b, c]) := by kernel_rfl
theorem put4 : putA "mirrors" d ["handles", "caps", "cones"] [a, b, c] = ((["handles", "caps", "cones", "mirrors"] : List Str), [a, b, c, d]) := by kernel_rfl
theorem put5 : putA "parts" e ["handles", "caps", "cones", "mirrors"] [a, b, c, d] = ((["handles", "caps", "cones", "mirrors", "parts"] : List Str), [a, b, c, d, e]) := by kernel_rfl
theorem lk2h : ((["handles", "caps"] : List Str).zip [a, b]).lookup ("handles" : Str) = some a := by kernel_rfl
theorem lk2c : ((["handles", "caps"] : List Str).zip [a, b]).lookup ("caps" : Str) = some b := by kernel_rfl
theorem lk4h : ((["handles", "caps", "cones", "mirrors"] : List Str).zip [a, b, c, d]).lookup ("handles" : Str) = some a := by kernel_rfl
theorem lk4c : ((["handles", "caps", "cones", "mirrors"] : List Str).zip [a, b, c, d]).lookup ("caps" : Str) = some b := by kernel_rfl
theorem lk4o : ((["handles", "caps", "cones", "mirrors"] : List Str).zip [a, b, c, d]).lookup ("cones" : Str) = some c := by kernel_rfl
theorem lk4m : ((["handles", "caps", "cones", "mirrors"] : List Str).zip [a, b, c, d]).lookup ("mirrors" : Str) = some d := by kernel_rfl
theorem lk5h : ((["handles", "caps", "cones", "mirrors", "parts"] : List Str).zip [a, b, c, d, e]).lookup ("handles" : Str) = some a := by kernel_rfl
theorem lk5c : ((["handles", "caps", "cones", "mirrors", "parts"] : List Str).zip [a, b, c, d, e]).lookup ("caps" : Str) = some b := by kernel_rfl
theorem lk5o : ((["handles", "caps", "cones", "mirrors", "parts"] : List Str).zip [a, b, c, d, e]).lookup ("cones" : Str) = some c := by kernel_rfl
theorem lk5m : ((["handles", "caps", "cones", "mirrors", "parts"] : List Str).zip [a, b, c, d, e]).lookup ("mirrors" : Str) = some d := by kernel_rfl
theorem lk5p : ((["handles", "caps", "cones", "mirrors", "parts"] : List Str).zip [a, b, c, d, e]).lookup ("parts" : Str) = some e := by kernel_rfl
theorem oks : oko_handles "Signature" = true ∧ oko_caps "Signature" = true ∧ oko_cones "Signature" = true ∧ oko_mirrors "Signature" = true ∧ oko_parts "Signature" = true := ⟨by kernel_rfl, by kernel_rfl, by kernel_rfl, by kernel_rfl, by kernel_rfl⟩
end
section
variable {h : AH} {hd cp : Int} {X Y : AV} {cs : List Int} {rs : List (AV × List Int)} {o5 o6 : Option AV} {ks : List Str} {l : List AV}
theorem in1 {s : Str} {v : Int} {H : AH} {sl : SL} (i : Nat) (g : sl[i]? = some (some (.int v))) (h1 : 0 ≤ v) (h2 : v ≤ 600) : eCallD 4 0 4 [.p 0, .p 1, .p 2, .p 3] [.non] m_need_integer (aCons (eC (.str s)) (aCons (eVar i) (aCons (eC (.int 0)) (aCons (eC (.int 600)) (aNil))))) (aNil) sl H = .ok (.int v) H :=
  eCallD_go (xs := [.str s, .int v, .int 0, .int 600]) (ys := []) (cons_ok eC_ok (cons_ok (eVar_ok g) (cons_ok eC_ok (cons_ok eC_ok nil_ok)))) nil_ok ⟨rfl, rfl, rfl⟩ (need_integer_ok h1 h2)
theorem in4 {H : AH} {sl : SL} (g : sl[3]? = some (some X)) (r : Row H X (cs.map .int)) (hl : ∀ z ∈ cs, 2 ≤ z ∧ z ≤ 120) (len : cs.length ≤ 500) : eBlt mTuple (aCons (eBlt (mSorted false) (aCons (eCall 2 m_need_orders (aCons (eC (.str "cones")) (aCons (eVar 3) (aNil)))) (aNil))) (aNil)) sl H = .ok (IT (sortI cs)) H := by
  have no := need_orders_ok (s := "cones") r hl
  have so : mSorted false [IT cs] H = .ok (.lst ((sortI cs).map .int)) H := sorted_ints rfl (by omega)
  have tu : mTuple [.lst ((sortI cs).map .int)] H = .ok (IT (sortI cs)) H := rfl
  exact eBlt_go (cons_ok (eBlt_go (cons_ok (eCall_go (cons_ok eC_ok (cons_ok (eVar_ok g) nil_ok)) rfl no) nil_ok) so) nil_ok) tu
theorem in5 {H : AH} {s0 s1 s2 s3 : Option AV} (r : Row H Y (rs.map (·.1))) (hr : ∀ p ∈ rs, Ring H p) (len : rs.length ≤ 500) : eComp false (itSeq (eCall 2 m_row_of (aCons (eC (.str "mirrors")) (aCons (eVar 4) (aNil))))) (AVL.gName 6) (tTrue) (eCall 1 m_least_ring (aCons (eCall 2 m_need_orders (aCons (eC (.str "mirrors")) (aCons (eVar 6) (aNil)))) (aNil))) [6] [s0, s1, s2, s3, some Y, o5, o6] H = .ok (.lst (rs.map fun p => IT (least p.2))) H := by
  have ro := row_of_ok (s := "mirrors") r (bnds_map fun p hp => (hr p hp).2.1)
  refine eComp_map (f := fun p : AV × List Int => p.1) (l := rs) (ok := okAll) (slw := [s0, s1, s2, s3, some Y, o5, none]) (seq_tup (eCall_go (cons_ok eC_ok (cons_ok (eVar_ok rfl) nil_ok)) rfl ro)) rfl (by omega) rfl fun p hp => ?_
  obtain ⟨a, b, c, d⟩ := hr p hp
  exact eCall_go (cons_ok (eCall_go (cons_ok eC_ok (cons_ok (eVar_ok rfl) nil_ok)) rfl (need_orders_ok a c)) nil_ok) rfl (least_ring_ok d)
theorem make_ok (h1 : 0 ≤ hd) (h2 : hd ≤ 600) (c1 : 0 ≤ cp) (c2 : cp ≤ 600) (z : hd = 0 ∨ cp = 0) (r : Row h X (cs.map .int)) (hl : ∀ z ∈ cs, 2 ≤ z ∧ z ≤ 120) (len : cs.length ≤ 500) (r2 : Row h Y (rs.map (·.1))) (hr : ∀ p ∈ rs, Ring h p) (len2 : rs.length ≤ 500) :
    mMake "Signature" m_Signature___init__ [.int hd, .int cp, X, Y] h = .ok (sig hd cp (sortI cs) (sortR (rs.map fun p => least p.2))) h := by
  have rn : ∀ D, ∀ p ∈ rs, Ring (h ++ D) p := fun D p hp => by
    obtain ⟨a, b, c, d⟩ := hr p hp
    exact ⟨a.put, bnd_up b (by simp), c, d⟩
  have w : b_Signature___init__ [some (.ref h.length), some (.int hd), some (.int cp), some X, some Y, none, none] (h ++ [.ins "Signature" [] []]) = .next [some (.ref h.length), some (.int hd), some (.int cp), some X, some Y, some (.lst (rs.map fun p => IT (least p.2))), none] (h ++ [.ins "Signature" ["handles", "caps", "cones", "mirrors", "parts"] [.int hd, .int cp, IT (sortI cs), .tup ((sortR (rs.map fun p => least p.2)).map IT), parts hd cp (sortI cs) (sortR (rs.map fun p => least p.2))]]) := by
    unfold b_Signature___init__
    obtain ⟨k1, k2, k3, k4, k5⟩ := oks
    refine seq_go (fld_ok (in1 1 rfl h1 h2) (eVar_ok rfl) k1 rfl (by decide) rfl) ?_
    refine seq_go (fld_ok (in1 2 rfl c1 c2) (eVar_ok rfl) k2 rfl (by simp) put2) ?_
    have ah : eAttr okx_handles oko_handles "handles" (eVar 0) [some (.ref h.length), some (.int hd), some (.int cp), some X, some Y, none, none] (h ++ [.ins "Signature" ["handles", "caps"] [.int hd, .int cp]]) = .ok (.int hd) (h ++ [.ins "Signature" ["handles", "caps"] [.int hd, .int cp]]) := eAttr_go (eVar_ok rfl) (attr_ref k1 lk2h)
    have ac : eAttr okx_caps oko_caps "caps" (eVar 0) [some (.ref h.length), some (.int hd), some (.int cp), some X, some Y, none, none] (h ++ [.ins "Signature" ["handles", "caps"] [.int hd, .int cp]]) = .ok (.int cp) (h ++ [.ins "Signature" ["handles", "caps"] [.int hd, .int cp]]) := eAttr_go (eVar_ok rfl) (attr_ref k2 lk2c)
    refine seq_go (sl' := [some (.ref h.length), some (.int hd), some (.int cp), some X, some Y, none, none]) (h' := h ++ [.ins "Signature" ["handles", "caps"] [.int hd, .int cp]]) ?_ ?_
    · rcases z with z | z
      · exact if_no (tAnd_no (tV_go (eBin_go ah eC_ok (gt_no (by omega))))) next_ok
      · by_cases q : 0 < hd
        · exact if_no (tAnd_yes (tV_go (eBin_go ah eC_ok (gt_yes q))) (tV_go (eBin_go ac eC_ok (gt_no (by omega))))) next_ok
        · exact if_no (tAnd_no (tV_go (eBin_go ah eC_ok (gt_no (by omega))))) next_ok
    refine seq_go (fld_ok (in4 rfl r.put hl len) (eVar_ok rfl) k3 bnd_IT (by simp) put3) ?_
    refine seq_go (sl' := [some (.ref h.length), some (.int hd), some (.int cp), some X, some Y, some (.lst (rs.map fun p => IT (least p.2))), none]) (asg_ok (in5 r2.put (rn _) len2)) ?_
    have so : mSorted false [.lst (rs.map fun p => IT (least p.2))] (h ++ [.ins "Signature" ["handles", "caps", "cones"] [.int hd, .int cp, IT (sortI cs)]]) = .ok (.lst ((sortR (rs.map fun p => least p.2)).map IT)) (h ++ [.ins "Signature" ["handles", "caps", "cones"] [.int hd, .int cp, IT (sortI cs)]]) := sorted_ITs (by
      show some _ = _
      simp [Function.comp_def]) (by simp; omega)
    have tu : ∀ H, mTuple [.lst ((sortR (rs.map fun p => least p.2)).map IT)] H = .ok (.tup ((sortR (rs.map fun p => least p.2)).map IT)) H := fun _ => rfl
    refine seq_go (fld_ok (eBlt_go (cons_ok (eBlt_go (cons_ok (eVar_ok rfl) nil_ok) so) nil_ok) (tu _)) (eVar_ok rfl) k4 bnds_ITs (by simp) put4) ?_
    refine fld_ok (eTup_go (cons_ok (eAttr_go (eVar_ok rfl) (attr_ref k1 lk4h)) (cons_ok (eAttr_go (eVar_ok rfl) (attr_ref k2 lk4c)) (cons_ok (eAttr_go (eVar_ok rfl) (attr_ref k3 lk4o)) (cons_ok (eAttr_go (eVar_ok rfl) (attr_ref k4 lk4m)) nil_ok)))) rfl) (eVar_ok rfl) k5 ?_ (by simp) put5
    show (bnd 0 (.int hd) && (bnd 0 (.int cp) && (bnd 0 (IT (sortI cs)) && (bnds 0 ((sortR (rs.map fun p => least p.2)).map IT) && true)))) = true
    rw [bnd_IT, bnds_ITs]; rfl
  have b : bnds 0 [.int hd, .int cp, IT (sortI cs), .tup ((sortR (rs.map fun p => least p.2)).map IT), parts hd cp (sortI cs) (sortR (rs.map fun p => least p.2))] = true := by
    show (bnd 0 (.int hd) && (bnd 0 (.int cp) && (bnd 0 (IT (sortI cs)) && (bnds 0 ((sortR (rs.map fun p => least p.2)).map IT) && ((bnd 0 (.int hd) && (bnd 0 (.int cp) && (bnd 0 (IT (sortI cs)) && (bnds 0 ((sortR (rs.map fun p => least p.2)).map IT) && true)))) && true))))) = true
    rw [bnd_IT, bnds_ITs]; rfl
  unfold mMake
  have e : m_Signature___init__ (.ref h.length :: [.int hd, .int cp, X, Y]) (h ++ [.ins "Signature" [] []]) = .ok .non (h ++ [.ins "Signature" ["handles", "caps", "cones", "mirrors", "parts"] [.int hd, .int cp, IT (sortI cs), .tup ((sortR (rs.map fun p => least p.2)).map IT), parts hd cp (sortI cs) (sortR (rs.map fun p => least p.2))]]) := by
    refine mk_next rfl w ?_
    rw [leave_low rfl, List.take_of_length_le (by simp)]
  rw [e]
  exact leave_ins b
end
end Law

namespace Law
open PySem PySem.Spec L2 AVL
local macro_rules
  | `(tactic| decreasing_trivial_pre_omega) => `(tactic| repeat' (first | with_reducible assumption | exact eVar_ok rfl | exact eC_ok | exact nil_ok | exact oNo_ok | with_reducible apply cons_ok | with_reducible apply eBin_go | with_reducible apply eCall_go | with_reducible apply eBlt_go | with_reducible apply eTup_go | with_reducible apply eLst_go | with_reducible apply eLstN_go | with_reducible apply eAttr_go | with_reducible apply eSl_go | with_reducible apply oPart_go | with_reducible apply eRev_go | with_reducible apply eMt_go | with_reducible apply eUn_go | with_reducible apply eCallD_go | with_reducible apply star_go | with_reducible apply tV_go | exact rfl))
/-! the pen, drawn orders -/
theorem k45_pen : PenK 8369 2143 50131 2143 257 50131 29 := ⟨by decide, by decide, by decide, by decide, by decide, by decide, by decide⟩
theorem draws {c : List Int} (hc : CellsOk c) : Draws c m_law_draw := drawB_draws k45_pen hc
theorem pick_eq : m_law_pick = mkF 0 false (pickB m_law_draw) := rfl
theorem bnds_intL {m : Nat} : ∀ {l : List AV}, (∀ x ∈ l, ∃ i, x = .int i) → bnds m l = true
  | [], _ => rfl
  | x :: l, h => by
    obtain ⟨i, rfl⟩ := h x List.mem_cons_self
    show (true && bnds m l) = true
    rw [bnds_intL fun y hy => h y (List.mem_cons_of_mem _ hy)]; rfl
theorem pick_ints {c : List Int} (hc : CellsOk c) {L : List Int} {C : AH} {N : Nat} {h : AH} (p : Pen C c N h) (hN : N < 800000) (l0 : 0 < L.length) (l1 : L.length < 1000) :
    ∃ i h', m_law_pick [.ref 0, .lst (L.map .int)] h = .ok (.int i) h' ∧ Pen C c (N + 1) h' ∧ i ∈ L := by
  obtain ⟨x, h', e, p', hx⟩ := pickB_ok (draws hc) (L := L.map .int) p hN (by simpa using l0) (by simpa using l1) bnds_ints
  obtain ⟨i, hi, rfl⟩ := List.mem_map.mp hx
  exact ⟨i, h', e, p', hi⟩
def Good (z : Int) : Prop := 2 ≤ z ∧ z ≤ 120
/-! two signatures -/
def partsD (hd cp : Int) (cs : List Int) (rs : List (List Int)) : PyData := .tuple [.int hd, .int cp, .tuple (cs.map .int), .tuple (rs.map fun r => .tuple (r.map .int))]
section
variable {h : AH} {hd cp hd' cp' : Int} {cs cs' : List Int} {rs rs' : List (List Int)}
theorem pd_parts : pd 60 h (parts hd cp cs rs) = some (partsD hd cp cs rs) := by
  have e1 : pd 59 h (IT cs) = some (.tuple (cs.map PyData.int)) := pd_IT (n := 57)
  have e2 : pd 59 h (.tup (rs.map IT)) = some (.tuple (rs.map fun r => .tuple (r.map .int))) := by
    show ((rs.map IT).mapM (pd 58 h)).map PyData.tuple = _
    rw [pd_ITs (n := 56)]; rfl
  show (([.int hd, .int cp, IT cs, .tup (rs.map IT)] : List AV).mapM (pd 59 h)).map PyData.tuple = _
  simp only [List.mapM_cons, List.mapM_nil]
  rw [e1, e2]
  rfl
theorem numD_parts (h1 : hd.natAbs < 1000) (h2 : cp.natAbs < 1000) (h3 : ∀ z ∈ cs, Good z) (h4 : ∀ r ∈ rs, ∀ z ∈ r, Good z) : numD (partsD hd cp cs rs) = true := by
  have a : numD.numDs (cs.map PyData.int) = true := numDs_map fun z hz => numD_int (n := 10) (by decide) (by have := h3 z hz; unfold Good at this; omega) (by decide)
  have b : numD.numDs (rs.map fun r => .tuple (r.map PyData.int)) = true := numDs_map fun r hr => numDs_map fun z hz => numD_int (n := 10) (by decide) (by have := h4 r hr z hz; unfold Good at this; omega) (by decide)
  show (numD (.int hd) && (numD (.int cp) && (numD.numDs (cs.map PyData.int) && (numD.numDs (rs.map fun r => .tuple (r.map PyData.int)) && true)))) = true
  rw [a, b, numD_int (n := 10) (by decide) (by omega) (by decide), numD_int (n := 10) (by decide) (by omega) (by decide)]
  rfl
theorem weight_parts (h1 : hd.natAbs < 1000) (h2 : cp.natAbs < 1000) (h3 : ∀ z ∈ cs, Good z) (h4 : ∀ r ∈ rs, ∀ z ∈ r, Good z) (l1 : cs.length ≤ 10) (l2 : rs.length ≤ 10) (l3 : ∀ r ∈ rs, r.length ≤ 10) : (partsD hd cp cs rs).weight ≤ 8000 := by
  have a := weights_map (f := PyData.int) (B := 10) (l := cs) fun z hz => weight_int (by decide) (by have := h3 z hz; unfold Good at this; omega)
  have b := weights_map (f := fun r : List Int => PyData.tuple (r.map PyData.int)) (B := 110) (l := rs) fun r hr => by
    have c := weights_map (f := PyData.int) (B := 10) (l := r) fun z hz => weight_int (by decide) (by have := h4 r hr z hz; unfold Good at this; omega)
    have := l3 r hr
    show PyData.weightAll (r.map PyData.int) ≤ 110
    omega
  have w1 : (PyData.int hd).weight ≤ 10 := weight_int (by decide) (by omega)
  have w2 : (PyData.int cp).weight ≤ 10 := weight_int (by decide) (by omega)
  show (PyData.int hd).weight + 1 + ((PyData.int cp).weight + 1 + (PyData.weightAll (cs.map PyData.int) + 1 + (PyData.weightAll (rs.map fun r => .tuple (r.map PyData.int)) + 1 + 0))) ≤ 8000
  have c1 : cs.length * (10 + 1) ≤ 110 := by omega
  have c2 : rs.length * (110 + 1) ≤ 1110 := by omega
  omega
theorem eqv_parts : PyData.eqv (partsD hd cp cs rs) (partsD hd' cp' cs' rs') = ((hd == hd') && ((cp == cp') && (PyData.eqvAll (cs.map .int) (cs'.map .int) && (PyData.eqvAll (rs.map fun r => .tuple (r.map .int)) (rs'.map fun r => .tuple (r.map .int)) && true)))) := by
  unfold partsD
  simp only [PyData.eqv, PyData.eqvAll]
theorem at_parts : mAttr okx_parts oko_parts "parts" (sig hd cp cs rs) h = .ok (parts hd cp cs rs) h := attr_obj oks.2.2.2.2 lk5p
theorem isi_sig : mIsi isaT [sig hd cp cs rs, .cls "Signature"] h = .ok (.bl true) h := by kernel_rfl
theorem isi_sigt {l : List AV} : mIsi isaT [.tup l, .cls "Signature"] h = .ok (.bl false) h := by kernel_rfl
theorem isi_sign : mIsi isaT [.non, .cls "Signature"] h = .ok (.bl false) h := by kernel_rfl
theorem seq_sig {b : Bool} (e : mEq false (parts hd cp cs rs) (parts hd' cp' cs' rs') h = .ok (.bl b) h) : m_Signature___eq__ [sig hd cp cs rs, sig hd' cp' cs' rs'] h = .ok (.bl b) h :=
  mk_go (sl := [some (sig hd cp cs rs), some (sig hd' cp' cs' rs')]) rfl (h1 := h) (v := .bl b) (ret_ok (eAnd_yes (eBlt_go (cons_ok (eVar_ok rfl) (cons_ok eC_ok nil_ok)) isi_sig) (eBin_go (eAttr_go (eVar_ok rfl) at_parts) (eAttr_go (eVar_ok rfl) at_parts) e))) lv_bl
theorem seq_not {y : AV} (e : mIsi isaT [y, .cls "Signature"] h = .ok (.bl false) h) : m_Signature___eq__ [sig hd cp cs rs, y] h = .ok (.bl false) h :=
  mk_go (sl := [some (sig hd cp cs rs), some y]) rfl (h1 := h) (v := .bl false) (ret_ok (eAnd_no (eBlt_go (cons_ok (eVar_ok rfl) (cons_ok eC_ok nil_ok)) e))) lv_bl
theorem eqT_sig : eqT "Signature" = some m_Signature___eq__ := rfl
theorem eqO_sig {neg b : Bool} {y : AV} (k : okY "Signature" y h = true) (e : m_Signature___eq__ [sig hd cp cs rs, y] h = .ok (.bl b) h) : mEqO neg eqT (sig hd cp cs rs) y h = .ok (.bl (if neg then !b else b)) h := by
  show (match eqT "Signature" with | some mf => if okY "Signature" y h then eqBack neg (mf [sig hd cp cs rs, y] h) else AVL.Res.stuck | none => .stuck) = _
  rw [eqT_sig]
  show (if okY "Signature" y h then eqBack neg (m_Signature___eq__ [sig hd cp cs rs, y] h) else AVL.Res.stuck) = _
  rw [if_pos k, e]
  rfl
end
end Law

namespace Law
open PySem PySem.Spec L2 AVL
local macro_rules
  | `(tactic| decreasing_trivial_pre_omega) => `(tactic| repeat' (first | with_reducible assumption | exact eVar_ok rfl | exact eC_ok | exact nil_ok | exact oNo_ok | with_reducible apply cons_ok | with_reducible apply eBin_go | with_reducible apply eCall_go | with_reducible apply eBlt_go | with_reducible apply eTup_go | with_reducible apply eLst_go | with_reducible apply eLstN_go | with_reducible apply eAttr_go | with_reducible apply eSl_go | with_reducible apply oPart_go | with_reducible apply eRev_go | with_reducible apply eMt_go | with_reducible apply eUn_go | with_reducible apply eCallD_go | with_reducible apply star_go | with_reducible apply tV_go | exact rfl))
/-! the least of a ring, by the law -/
theorem sl_row {h : AH} {x : AV} {l : List Int} (r : Row h x (l.map .int)) (nt : ∀ l, x ≠ .tup l) {lo hi : Option Int} : mSl false x lo hi h = .ok (.lst (cutA (l.map .int) lo hi)) h := by
  rcases r with rfl | rfl | ⟨k, rfl, e⟩
  · exact absurd rfl (nt _)
  · rfl
  · have : itemsL h (.ref k) = some (l.map .int) := by
      show (match h[k]? with | some (.lst l) => some l | _ => none) = _
      rw [e]
    unfold mSl
    simp only [this]
    rfl
theorem add_lst {h : AH} {a b : List AV} (hl : a.length + b.length ≤ 100000) : mAdd false (.lst a) (.lst b) h = .ok (.lst (a ++ b)) h := by
  show (if a.length + b.length ≤ sizeLine then Res.ok (AV.lst (a ++ b)) h else .stuck) = _
  rw [if_pos (by rw [sizeLine_eq]; omega)]
theorem len_row {h : AH} {x : AV} {l : List AV} (r : Row h x l) : mLen [x] h = .ok (.int (l.length : Nat)) h := by
  rcases r with rfl | rfl | ⟨k, rfl, e⟩
  · rfl
  · rfl
  · exact len_ref e
def lrowsB : SM := sSeq (sAsg (eBin (mAdd false) (eBlt (mList false) (aCons (eSl false (eVar 0) (oPart (eVar 2)) (oNo)) (aNil))) (eBlt (mList false) (aCons (eSl false (eVar 0) (oNo) (oPart (eVar 2))) (aNil)))) (AVL.gName 3))
  (sAsg (eBin (mAdd false) (eVar 1) (eLst false (aCons (eBlt mTuple (aCons (eVar 3) (aNil))) (aCons (eBlt mTuple (aCons (eRev false (eVar 3)) (aNil))) (aNil))))) (AVL.gName 1))
def rowsL (l : List Int) (ks : List Nat) : List (List Int) := ks.flatMap fun k => [rotA k l, (rotA k l).reverse]
theorem lrows_loop {h : AH} {x : AV} {l : List Int} (r : Row h x (l.map .int)) (nt : ∀ l, x ≠ .tup l) (hl : l.length ≤ 500) : ∀ (ks : List Nat) (acc : List (List Int)) (o2 o3 : Option AV), (∀ k ∈ ks, k ≤ l.length) → acc.length + 2 * ks.length ≤ 10000 →
    ∃ w2 w3, forL okAll (AVL.gName 2) lrowsB (ks.map fun k : Nat => AV.int (k : Int)) [some x, some (.lst (acc.map IT)), o2, o3] h = .next [some x, some (.lst ((acc ++ rowsL l ks).map IT)), w2, w3] h
  | [], acc, o2, o3, _, _ => ⟨o2, o3, by rw [show acc ++ rowsL l [] = acc by simp [rowsL]]; exact forL_nil rfl⟩
  | k :: ks, acc, o2, o3, hk, ha => by
    simp only [List.length_cons] at ha
    have hk0 := hk k List.mem_cons_self
    have s1 : mSl false x (some (k : Int)) none h = .ok (.lst ((l.drop k).map .int)) h := by rw [sl_row r nt, cut_from hk0]
    have s2 : mSl false x none (some (k : Int)) h = .ok (.lst ((l.take k).map .int)) h := by rw [sl_row r nt, cut_to hk0]
    have l1 : ∀ y : List AV, mList false [.lst y] h = .ok (.lst y) h := fun _ => rfl
    have a1 : mAdd false (.lst ((l.drop k).map .int)) (.lst ((l.take k).map .int)) h = .ok (.lst ((rotA k l).map .int)) h := by
      rw [add_lst (by simp; omega), ← List.map_append]; rfl
    have t1 : ∀ y : List Int, mTuple [.lst (y.map .int)] h = .ok (IT y) h := fun _ => rfl
    have v1 : mRev false (.lst ((rotA k l).map .int)) h = .ok (.lst ((rotA k l).reverse.map .int)) h := by
      show Res.ok (AV.lst ((rotA k l).map AV.int).reverse) h = _
      rw [← List.map_reverse]
    have a2 : mAdd false (.lst (acc.map IT)) (.lst [IT (rotA k l), IT (rotA k l).reverse]) h = .ok (.lst ((acc ++ [rotA k l, (rotA k l).reverse]).map IT)) h := by
      rw [add_lst (by simp; omega), List.map_append]; rfl
    obtain ⟨w2, w3, f⟩ := lrows_loop r nt hl ks (acc ++ [rotA k l, (rotA k l).reverse]) (some (.int k)) (some (.lst ((rotA k l).map .int))) (fun j hj => hk j (List.mem_cons_of_mem _ hj)) (by simp; omega)
    refine ⟨w2, w3, ?_⟩
    rw [List.map_cons, show acc ++ rowsL l (k :: ks) = acc ++ [rotA k l, (rotA k l).reverse] ++ rowsL l ks by simp [rowsL]]
    refine forL_cons rfl rfl (?_ : lrowsB [some x, some (.lst (acc.map IT)), some (.int k), o3] h = .next [some x, some (.lst ((acc ++ [rotA k l, (rotA k l).reverse]).map IT)), some (.int k), some (.lst ((rotA k l).map .int))] h) f
    refine seq_go (sl' := [some x, some (.lst (acc.map IT)), some (.int k), some (.lst ((rotA k l).map .int))]) (asg_ok (eBin_go (eBlt_go (cons_ok (eSl_go (eVar_ok rfl) (oPart_go (eVar_ok rfl)) oNo_ok s1) nil_ok) (l1 _)) (eBlt_go (cons_ok (eSl_go (eVar_ok rfl) oNo_ok (oPart_go (eVar_ok rfl)) s2) nil_ok) (l1 _)) a1)) ?_
    exact asg_ok (eBin_go (eVar_ok rfl) (eLst_go (cons_ok (eBlt_go (cons_ok (eVar_ok rfl) nil_ok) (t1 _)) (cons_ok (eBlt_go (cons_ok (eRev_go (eVar_ok rfl) v1) nil_ok) (t1 _)) nil_ok)) rfl) a2)
theorem rowsL_mem {l z : List Int} : z ∈ rowsL l (List.range (max 1 l.length)) ↔ Dih l z := by
  unfold rowsL
  simp only [List.mem_flatMap, List.mem_range]
  refine ⟨fun ⟨k, _, hz⟩ => ?_, fun h => ?_⟩
  · rcases List.mem_cons.mp hz with rfl | hz
    · exact .inl rotA_rot
    · have : z = (rotA k l).reverse := by simpa using hz
      subst this
      exact .inr rotA_rot.rev
  · rcases h with h | h
    · obtain ⟨k, hk, rfl⟩ := h.at_
      exact ⟨k, hk, List.mem_cons_self⟩
    · have h' := h.rev
      rw [List.reverse_reverse] at h'
      obtain ⟨k, hk, e⟩ := h'.at_
      refine ⟨k, hk, ?_⟩
      rw [← e]
      simp
theorem law_least_ok {h : AH} {x : AV} {l : List Int} (r : Row h x (l.map .int)) (nt : ∀ l, x ≠ .tup l) (hl : l.length ≤ 500) : m_law_least [x] h = .ok (IT (least l)) h := by
  by_cases hz : l = []
  · subst hz
    have s1 : ∀ lo hi, mSl false x lo hi h = .ok (.lst (cutA ([] : List AV) lo hi)) h := fun lo hi => sl_row r nt
    have c1 : ∀ lo hi, cutA ([] : List AV) lo hi = [] := fun lo hi => by unfold cutA; simp
    refine mk_go (sl := [some x, none, none, none]) rfl (h1 := h) (v := IT (least [])) ?_ (lv_same bnd_IT)
    refine seq_go (sl' := [some x, some (.lst []), none, none]) (asg_ok (eLst_go nil_ok rfl)) ?_
    have mx := max_len (n := 0) (h := h)
    refine seq_go (h' := h) (sl' := [some x, some (.lst [IT [], IT []]), some (.int 0), some (.lst [])]) (for_ok (range1_ok (k := 1) (cons_ok (eBlt_go (cons_ok eC_ok (cons_ok (eBlt_go (cons_ok (eVar_ok rfl) nil_ok) (len_row r)) nil_ok)) mx) nil_ok) rfl) ?_) ?_
    · refine forL_cons (y := .int 0) (r := []) (sl1 := [some x, some (.lst []), some (.int 0), none]) rfl rfl (h3 := h) (sl2 := [some x, some (.lst [IT [], IT []]), some (.int 0), some (.lst [])]) ?_ (forL_nil rfl)
      have s2 := s1 (some 0) none
      have s3 := s1 none (some 0)
      rw [c1] at s2 s3
      refine seq_go (sl' := [some x, some (.lst []), some (.int 0), some (.lst [])]) (asg_ok (eBin_go (eBlt_go (cons_ok (eSl_go (eVar_ok rfl) (oPart_go (eVar_ok rfl)) oNo_ok s2) nil_ok) rfl) (eBlt_go (cons_ok (eSl_go (eVar_ok rfl) oNo_ok (oPart_go (eVar_ok rfl)) s3) nil_ok) rfl) (add_lst (by simp)))) ?_
      exact asg_ok (eBin_go (eVar_ok rfl) (eLst_go (cons_ok (eBlt_go (cons_ok (eVar_ok rfl) nil_ok) rfl) (cons_ok (eBlt_go (cons_ok (eRev_go (eVar_ok rfl) rfl) nil_ok) rfl) nil_ok)) rfl) (add_lst (by simp)))
    · exact ret_ok (eBlt_go (cons_ok (eVar_ok rfl) nil_ok) (min_rows (a := [[], []]) (by simp)))
  · have l0 : 0 < l.length := List.length_pos_iff.mpr hz
    have mx := max_len (n := l.length) (h := h)
    obtain ⟨w2, w3, f⟩ := lrows_loop r nt hl (List.range (max 1 l.length)) [] none none (fun k hk => by have := List.mem_range.mp hk; omega) (by simp; omega)
    have mn : mMin [.lst (([] ++ rowsL l (List.range (max 1 l.length))).map IT)] h = .ok (IT (least l)) h := by
      rw [List.nil_append]
      have ne : rowsL l (List.range (max 1 l.length)) ≠ [] := fun e => by
        have := rowsL_mem.mpr (Dih.refl l)
        rw [e] at this
        exact nomatch this
      rw [min_rows ne, show leastL (rowsL l (List.range (max 1 l.length))) = least l from leastL_eq ne rowsP_ne fun z => by rw [rowsL_mem, rowsP_mem]]
    refine mk_go (sl := [some x, none, none, none]) rfl (h1 := h) (v := IT (least l)) ?_ (lv_same bnd_IT)
    refine seq_go (sl' := [some x, some (.lst []), none, none]) (asg_ok (eLst_go nil_ok rfl)) ?_
    refine seq_go (for_ok (range1_ok (k := ((max 1 l.length : Nat) : Int)) (cons_ok (eBlt_go (cons_ok eC_ok (cons_ok (eBlt_go (cons_ok (eVar_ok rfl) nil_ok) (by have := len_row r; rw [List.length_map] at this; exact this)) nil_ok)) mx) nil_ok) (by unfold b62; simp; omega)) (?_ : _ = SRes.next [some x, some (.lst (([] ++ rowsL l (List.range (max 1 l.length))).map IT)), w2, w3] h)) (ret_ok (eBlt_go (cons_ok (eVar_ok rfl) nil_ok) mn))
    rw [Int.toNat_natCast, rangeL_map]
    exact f
end Law

namespace Law
open PySem PySem.Spec L2 AVL
local macro_rules
  | `(tactic| decreasing_trivial_pre_omega) => `(tactic| repeat' (first | with_reducible assumption | exact eVar_ok rfl | exact eC_ok | exact nil_ok | exact oNo_ok | with_reducible apply cons_ok | with_reducible apply eBin_go | with_reducible apply eCall_go | with_reducible apply eBlt_go | with_reducible apply eTup_go | with_reducible apply eLst_go | with_reducible apply eLstN_go | with_reducible apply eAttr_go | with_reducible apply eSl_go | with_reducible apply oPart_go | with_reducible apply eRev_go | with_reducible apply eMt_go | with_reducible apply eUn_go | with_reducible apply eCallD_go | with_reducible apply star_go | with_reducible apply tV_go | exact rfl))
/-! words -/
inductive Tk where
  | o | st | x | da | bad | n (k : Int)
  deriving DecidableEq
def VN : List (Str × Int) := [("2", 2), ("120", 120), ("22", 22), ("3", 3), ("4", 4), ("10", 10), ("11", 11), ("20", 20), ("99", 99), ("100", 100)]
def VB : List Str := ["", "02", "1", "121", "+2", "2.", "O", "**", "1000", "_2", "a"]
def VS : List (Str × Tk) := [("o", .o), ("*", .st), ("x", .x), ("-", .da)]
def VT : List (Str × Tk) := VS ++ (VN.map fun p => (p.1, Tk.n p.2)) ++ VB.map fun w => (w, Tk.bad)
/-- a word that may stand in a text here, and what it is -/
def Wd (w : Str) (t : Tk) : Prop := (w, t) ∈ VT
def ordT : Tk → List Int
  | .n k => [k]
  | _ => []
def ordV : Tk → AV
  | .n k => .int k
  | _ => .non
section
variable {h : AH} {w : Str} {t : Tk}
theorem Wd.cases {P : Str → Tk → Prop} (q : Wd w t) (e : ∀ p ∈ VT, P p.1 p.2) : P w t := e (w, t) q
theorem wd_order_in (q : Wd w t) : m_order_in [.str w] h = .ok (.lst ((ordT t).map .int)) h := by
  refine mk_go (sl := [some (.str w)]) rfl (h1 := h) (v := .lst ((ordT t).map .int)) ?_ (lv_same (by show bnds 0 ((ordT t).map .int) = true; exact bnds_ints))
  refine q.cases (P := fun w t => b_order_in [some (.str w)] h = .ret (.lst ((ordT t).map .int)) h) ?_
  simp only [VT, VS, VN, VB, List.map_cons, List.map_nil, List.cons_append, List.nil_append, List.forall_mem_cons]
  refine ⟨?_, ?_, ?_, ?_, ?_, ?_, ?_, ?_, ?_, ?_, ?_, ?_, ?_, ?_, ?_, ?_, ?_, ?_, ?_, ?_, ?_, ?_, ?_, ?_, ?_, fun _ z => nomatch z⟩ <;> kernel_rfl
theorem wd_law_order (q : Wd w t) : m_law_order [.str w] h = .ok (ordV t) h := by
  refine mk_go (sl := [some (.str w), none]) rfl (h1 := h) (v := ordV t) ?_ (lv_same (by cases t <;> rfl))
  refine q.cases (P := fun w t => b_law_order [some (.str w), none] h = .ret (ordV t) h) ?_
  simp only [VT, VS, VN, VB, List.map_cons, List.map_nil, List.cons_append, List.nil_append, List.forall_mem_cons]
  refine ⟨?_, ?_, ?_, ?_, ?_, ?_, ?_, ?_, ?_, ?_, ?_, ?_, ?_, ?_, ?_, ?_, ?_, ?_, ?_, ?_, ?_, ?_, ?_, ?_, ?_, fun _ z => nomatch z⟩ <;> kernel_rfl
theorem VT_facts : (VT.all fun p => PyData.strOk p.1 && !(p.1.cps.toList.contains 32) && decide (p.1.length ≤ 4) && (decide (p.1 = ("o" : Str)) == decide (p.2 = .o)) && (decide (p.1 = ("x" : Str)) == decide (p.2 = .x)) && (decide (p.1 = ("*" : Str)) == decide (p.2 = .st)) && (decide (p.1 = ("-" : Str)) == decide (p.2 = .da)) && (ordT p.2).all fun k => decide (2 ≤ k) && decide (k ≤ 120)) = true := by decide +kernel
theorem wd_facts (q : Wd w t) : PyData.strOk w = true ∧ 32 ∉ w.cps.toList ∧ w.length ≤ 4 ∧ (w = "o" ↔ t = .o) ∧ (w = "x" ↔ t = .x) ∧ (w = "*" ↔ t = .st) ∧ (w = "-" ↔ t = .da) ∧ ∀ k ∈ ordT t, Good k := by
  have z := List.all_eq_true.mp VT_facts _ q
  simp only [Bool.and_eq_true, decide_eq_true_eq, beq_iff_eq, List.all_eq_true, decide_eq_decide, Bool.not_eq_true'] at z
  obtain ⟨⟨⟨⟨⟨⟨⟨a, b⟩, c⟩, d⟩, e⟩, f⟩, g⟩, i⟩ := z
  refine ⟨a, fun m => ?_, c, d, e, f, g, i⟩
  rw [List.contains_iff_mem.mpr m] at b
  cases b
theorem eq_strs {neg : Bool} {a b : Str} (oa : PyData.strOk a = true) (ob : PyData.strOk b = true) : mEq neg (.str a) (.str b) h = .ok (.bl (decide (a = b) != neg)) h := by
  have ea : pd 60 h (.str a) = some (.str a) := by
    show (if PyData.strOk a then some (PyData.str a) else none) = _
    rw [if_pos oa]
  have eb : pd 60 h (.str b) = some (.str b) := by
    show (if PyData.strOk b then some (PyData.str b) else none) = _
    rw [if_pos ob]
  unfold mEq
  rw [ea, eb]
  show Res.ok (AV.bl (PyData.eqv (.str a) (.str b) != neg)) h = _
  have : PyData.eqv (.str a) (.str b) = decide (a = b) := by
    simp only [PyData.eqv]
    by_cases q : a = b
    · subst q; simp
    · simp [q]
  rw [this]
/-- is a word a mark -/
def isT (t u : Tk) : Bool := decide (t = u)
theorem wd_o (q : Wd w t) : mEq false (.str w) (.str "o") h = .ok (.bl (isT t .o)) h := by
  rw [eq_strs (wd_facts q).1 (strOk_of "o"), Bool.bne_false]
  unfold isT
  rw [decide_eq_decide.mpr (wd_facts q).2.2.2.1]
theorem wd_x (q : Wd w t) : mEq false (.str w) (.str "x") h = .ok (.bl (isT t .x)) h := by
  rw [eq_strs (wd_facts q).1 (strOk_of "x"), Bool.bne_false]
  unfold isT
  rw [decide_eq_decide.mpr (wd_facts q).2.2.2.2.1]
theorem wd_st (q : Wd w t) : mEq false (.str w) (.str "*") h = .ok (.bl (isT t .st)) h := by
  rw [eq_strs (wd_facts q).1 (strOk_of "*"), Bool.bne_false]
  unfold isT
  rw [decide_eq_decide.mpr (wd_facts q).2.2.2.2.2.1]
theorem wd_da (q : Wd w t) : mEq false (.str w) (.str "-") h = .ok (.bl (isT t .da)) h := by
  rw [eq_strs (wd_facts q).1 (strOk_of "-"), Bool.bne_false]
  unfold isT
  rw [decide_eq_decide.mpr (wd_facts q).2.2.2.2.2.2.1]
end
/-- rows of words -/
def WL (l : List (Str × Tk)) : AV := .lst (l.map fun p => .str p.1)
def Wds (l : List (Str × Tk)) : Prop := ∀ p ∈ l, Wd p.1 p.2
theorem len_WL {h : AH} {l : List (Str × Tk)} : mLen [WL l] h = .ok (.int (l.length : Nat)) h := by
  show Res.ok (AV.int ((l.map fun p => AV.str p.1).length : Nat)) h = _
  rw [List.length_map]
theorem atI_nat {α : Type} {l : List α} {k : Nat} (hk : k < l.length) : L2.atI l (k : Int) = some l[k] := by
  unfold L2.atI
  have : L2.ixN l.length (k : Int) = some k := by
    unfold L2.ixN
    simp
    omega
  rw [this]
  simp [hk]
theorem ix_at {h : AH} {l : List AV} {k : Nat} {x : AV} (e : l[k]? = some x) : mIx (.lst l) (.int (k : Int)) h = .ok x h := by
  obtain ⟨hk, rfl⟩ := List.getElem?_eq_some_iff.mp e
  exact ix_lst hk
theorem ix_WL {h : AH} {l : List (Str × Tk)} {k : Nat} {p : Str × Tk} (e : l[k]? = some p) : mIx (WL l) (.int (k : Int)) h = .ok (.str p.1) h := ix_at (by rw [List.getElem?_map, e]; rfl)
theorem tAnd_go {t u : TM} {sl : SL} {h : AH} {c d : Bool} (a : t sl h = .ok c h) (b : c = true → u sl h = .ok d h) : tAnd t u sl h = .ok (c && d) h := by
  cases c with
  | true => exact tAnd_yes a (b rfl)
  | false => exact tAnd_no a
/-! taken -/
/-- how many words from one on are a mark -/
def cnt (u : Tk) : List (Str × Tk) → Nat
  | [] => 0
  | p :: l => if p.2 = u then cnt u l + 1 else 0
theorem while_yes {t : TM} {b : SM} {sl sl' : SL} {h h1 h2 : AH} {r : SRes} (e : t sl h = .ok true h1) (f : b sl h1 = .next sl' h2) (g : sWhile t b sl' h2 = r) : sWhile t b sl h = r := by
  rw [sWhile_eq, e]
  show (match b sl h1 with | .next sl' h' => sWhile t b sl' h' | .cont sl' h' => sWhile t b sl' h' | .brk sl' h' => .next sl' h' | r => r) = _
  rw [f]; exact g
theorem while_no {t : TM} {b : SM} {sl : SL} {h h1 : AH} (e : t sl h = .ok false h1) : sWhile t b sl h = .next sl h1 := by
  rw [sWhile_eq, e]; rfl
theorem getD_at {α : Type} {l : List α} {k : Nat} (hk : k < l.length) : ∃ p, l[k]? = some p ∧ l.drop k = p :: l.drop (k + 1) := ⟨l[k], by simp [hk], List.drop_eq_getElem_cons hk⟩
theorem taken_ok {h : AH} {l : List (Str × Tk)} {m : Str} {u : Tk} (ws : Wds l) (em : ∀ w t, Wd w t → mEq false (.str w) (.str m) h = .ok (.bl (isT t u)) h) {k : Nat} (hk : k ≤ l.length) : m_taken [WL l, .int (k : Int), .str m] h = .ok (.int ((k + cnt u (l.drop k) : Nat) : Int)) h := by
  have lp : ∀ (n k : Nat), l.length - k = n → k ≤ l.length → sWhile (tAnd (tV (eBin mLt (eVar 1) (eBlt mLen (aCons (eVar 0) (aNil))))) (tV (eBin (mEq false) (eBin mIx (eVar 0) (eVar 1)) (eVar 2)))) (sAsg (eBin (mAdd false) (eVar 1) (eC (.int 1))) (AVL.gName 1)) [some (WL l), some (.int (k : Int)), some (.str m)] h = .next [some (WL l), some (.int ((k + cnt u (l.drop k) : Nat) : Int)), some (.str m)] h := by
    intro n
    induction n with
    | zero =>
      intro k e hk
      have : k = l.length := by omega
      subst this
      rw [List.drop_length]
      exact while_no (tAnd_no (tV_go (eBin_go (eVar_ok rfl) (eBlt_go (cons_ok (eVar_ok rfl) nil_ok) len_WL) (lt_no (by omega)))))
    | succ n ih =>
      intro k e hk
      obtain ⟨p, e1, e2⟩ := getD_at (l := l) (k := k) (by omega)
      have hp := ws p (List.mem_of_getElem? e1)
      have t1 : tV (eBin mLt (eVar 1) (eBlt mLen (aCons (eVar 0) (aNil)))) [some (WL l), some (.int (k : Int)), some (.str m)] h = .ok true h := tV_go (eBin_go (eVar_ok rfl) (eBlt_go (cons_ok (eVar_ok rfl) nil_ok) len_WL) (lt_yes (by omega)))
      have t2 : tV (eBin (mEq false) (eBin mIx (eVar 0) (eVar 1)) (eVar 2)) [some (WL l), some (.int (k : Int)), some (.str m)] h = .ok (isT p.2 u) h := tV_go (eBin_go (eBin_go (eVar_ok rfl) (eVar_ok rfl) (ix_WL e1)) (eVar_ok rfl) (em _ _ hp))
      rw [e2]
      unfold cnt
      by_cases q : p.2 = u
      · rw [if_pos q]
        refine while_yes (tAnd_yes t1 (t2.trans (by simp [isT, q] <;> rfl))) (asg_ok (eBin_go (eVar_ok rfl) eC_ok add_int)) ?_
        have := ih (k + 1) (by omega) (by omega)
        rw [show k + (cnt u (l.drop (k + 1)) + 1) = k + 1 + cnt u (l.drop (k + 1)) by omega]
        exact this
      · rw [if_neg q]
        exact while_no (tAnd_yes t1 (t2.trans (by simp [isT, q] <;> rfl)))
  refine mk_go (sl := [some (WL l), some (.int (k : Int)), some (.str m)]) rfl (h1 := h) (v := .int ((k + cnt u (l.drop k) : Nat) : Int)) ?_ lv_int
  exact seq_go (lp _ k rfl hk) (ret_ok (eVar_ok rfl))
/-! orders_from -/
def ordsF : List (Str × Tk) → List Int
  | [] => []
  | p :: l => match p.2 with
    | .n k => k :: ordsF l
    | _ => []
theorem ordsF_len : ∀ l : List (Str × Tk), (ordsF l).length ≤ l.length
  | [] => Nat.le_refl _
  | p :: l => by
    unfold ordsF
    split
    · simp; exact ordsF_len l
    · simp
theorem ordsF_good : ∀ (l : List (Str × Tk)), Wds l → ∀ z ∈ ordsF l, Good z
  | [], _, z, hz => nomatch hz
  | p :: l, ws, z, hz => by
    unfold ordsF at hz
    split at hz
    · rename_i k e
      rcases List.mem_cons.mp hz with rfl | hz
      · exact (wd_facts (ws p List.mem_cons_self)).2.2.2.2.2.2.2 _ (by rw [e]; exact List.mem_cons_self)
      · exact ordsF_good l (fun q hq => ws q (List.mem_cons_of_mem _ hq)) z hz
    · exact nomatch hz
theorem ext_ref {h : AH} {l m : List AV} (b : bnds 0 m = true) (k : l.length + m.length < 100000) : mExt (.ref h.length) [.lst m] (h ++ [.lst l]) = .ok .non (h ++ [.lst (l ++ m)]) := by
  have e : (h ++ [Cell.lst l])[h.length]? = some (.lst l) := get_last
  have b' : bnds (h.length + 1) m = true := bnd_of (x := .lst m) b
  unfold mExt
  simp only [e]
  show (if bnds (h.length + 1) m && decide (l.length + m.length ≤ sizeLine) then Res.ok AV.non ((h ++ [Cell.lst l]).set h.length (.lst (l ++ m))) else .stuck) = _
  rw [if_pos (by rw [b', Bool.true_and]; exact decide_eq_true (by rw [sizeLine_eq]; omega)), set_last]
theorem ty_last {h : AH} {l : List AV} : tyA (h ++ [.lst l]) (.ref h.length) = some "list" := ty_ref get_last
theorem lv_last {h : AH} {l : List AV} (b : bnds 0 l = true) : leave h.length (.ref h.length) (h ++ [.lst l]) = .ok (.lst l) h := by
  rw [leave_lst (Nat.le_refl _) (by simp) get_last (bnd_of (x := .lst l) b), List.take_append_of_le_length (Nat.le_refl _), List.take_length]
theorem ordsF_cons {p : Str × Tk} {l : List (Str × Tk)} : ordsF (p :: l) = match p.2 with | .n k => k :: ordsF l | _ => [] := rfl
theorem orders_from_ok {h : AH} {l : List (Str × Tk)} (ws : Wds l) (hl : l.length < 50000) {k : Nat} (hk : k ≤ l.length) : m_orders_from [WL l, .int (k : Int)] h = .ok (.lst ((ordsF (l.drop k)).map .int)) h := by
  have lp : ∀ (n k : Nat) (acc : List Int), l.length - k = n → k ≤ l.length → acc.length ≤ k → ∃ v, sWhile (tAnd (tV (eBin mLt (eVar 1) (eBlt mLen (aCons (eVar 0) (aNil))))) (tV (eBin (mEq true) (eCall 1 m_order_in (aCons (eBin mIx (eVar 0) (eVar 1)) (aNil))) (eLst false (aNil))))) (sSeq (sExpr (eMt "list" mExt (eVar 2) (aCons (eCall 1 m_order_in (aCons (eBin mIx (eVar 0) (eVar 1)) (aNil))) (aNil))))
  (sAsg (eBin (mAdd false) (eVar 1) (eC (.int 1))) (AVL.gName 1))) [some (WL l), some (.int (k : Int)), some (.ref h.length)] (h ++ [.lst (acc.map .int)]) = .next [some (WL l), v, some (.ref h.length)] (h ++ [.lst ((acc ++ ordsF (l.drop k)).map .int)]) := by
    intro n
    induction n with
    | zero =>
      intro k acc e hk ha
      have : k = l.length := by omega
      subst this
      rw [List.drop_length, show acc ++ ordsF [] = acc by simp [ordsF]]
      exact ⟨_, while_no (tAnd_no (tV_go (eBin_go (eVar_ok rfl) (eBlt_go (cons_ok (eVar_ok rfl) nil_ok) len_WL) (lt_no (by omega)))))⟩
    | succ n ih =>
      intro k acc e hk ha
      obtain ⟨p, e1, e2⟩ := getD_at (l := l) (k := k) (by omega)
      have hp := ws p (List.mem_of_getElem? e1)
      have t1 : ∀ H, tV (eBin mLt (eVar 1) (eBlt mLen (aCons (eVar 0) (aNil)))) [some (WL l), some (.int (k : Int)), some (.ref h.length)] H = .ok true H := fun H => tV_go (eBin_go (eVar_ok rfl) (eBlt_go (cons_ok (eVar_ok rfl) nil_ok) len_WL) (lt_yes (by omega)))
      have c1 : ∀ H, eCall 1 m_order_in (aCons (eBin mIx (eVar 0) (eVar 1)) (aNil)) [some (WL l), some (.int (k : Int)), some (.ref h.length)] H = .ok (.lst ((ordT p.2).map .int)) H := fun H => eCall_go (cons_ok (eBin_go (eVar_ok rfl) (eVar_ok rfl) (ix_WL e1)) nil_ok) rfl (wd_order_in hp)
      have t2 : ∀ H, tV (eBin (mEq true) (eCall 1 m_order_in (aCons (eBin mIx (eVar 0) (eVar 1)) (aNil))) (eLst false (aNil))) [some (WL l), some (.int (k : Int)), some (.ref h.length)] H = .ok (!(ordT p.2).isEmpty) H := fun H => tV_go (eBin_go (c1 H) (eLst_go nil_ok rfl) ne_nil)
      rw [e2, ordsF_cons]
      have stop : ordT p.2 = [] → ∃ v, sWhile (tAnd (tV (eBin mLt (eVar 1) (eBlt mLen (aCons (eVar 0) (aNil))))) (tV (eBin (mEq true) (eCall 1 m_order_in (aCons (eBin mIx (eVar 0) (eVar 1)) (aNil))) (eLst false (aNil))))) (sSeq (sExpr (eMt "list" mExt (eVar 2) (aCons (eCall 1 m_order_in (aCons (eBin mIx (eVar 0) (eVar 1)) (aNil))) (aNil))))
  (sAsg (eBin (mAdd false) (eVar 1) (eC (.int 1))) (AVL.gName 1))) [some (WL l), some (.int (k : Int)), some (.ref h.length)] (h ++ [.lst (acc.map .int)]) = .next [some (WL l), v, some (.ref h.length)] (h ++ [.lst ((acc ++ []).map .int)]) := fun q => by
        rw [List.append_nil]
        exact ⟨_, while_no (tAnd_yes (t1 _) ((t2 _).trans (by rw [q]; rfl)))⟩
      generalize hq : p.2 = q at *
      cases q with
      | n z =>
        obtain ⟨v, f⟩ := ih (k + 1) (acc ++ [z]) (by omega) (by omega) (by simp; omega)
        refine ⟨v, while_yes (tAnd_yes (t1 _) ((t2 _).trans rfl)) (seq_go (expr_ok (eMt_go (eVar_ok rfl) ty_last (cons_ok (c1 _) nil_ok) (ext_ref rfl (by simp [ordT]; omega)))) (asg_ok (eBin_go (eVar_ok rfl) eC_ok add_int))) ?_⟩
        rw [List.append_assoc, List.map_append] at f
        exact f
      | _ => exact stop rfl
  obtain ⟨v, f⟩ := lp _ k [] rfl hk (Nat.zero_le _)
  rw [List.nil_append] at f
  refine mk_go (sl := [some (WL l), some (.int (k : Int)), none]) rfl (h1 := h ++ [.lst ((ordsF (l.drop k)).map .int)]) (v := .ref h.length) ?_ (lv_last bnds_ints)
  exact seq_go (asg_ok (eLstN_go nil_ok rfl)) (seq_go f (ret_ok (eVar_ok rfl)))
end Law

namespace Law
open PySem PySem.Spec L2 AVL
local macro_rules
  | `(tactic| decreasing_trivial_pre_omega) => `(tactic| repeat' (first | with_reducible assumption | exact eVar_ok rfl | exact eC_ok | exact nil_ok | exact oNo_ok | with_reducible apply cons_ok | with_reducible apply eBin_go | with_reducible apply eCall_go | with_reducible apply eBlt_go | with_reducible apply eTup_go | with_reducible apply eLst_go | with_reducible apply eLstN_go | with_reducible apply eAttr_go | with_reducible apply eSl_go | with_reducible apply oPart_go | with_reducible apply eRev_go | with_reducible apply eMt_go | with_reducible apply eUn_go | with_reducible apply eCallD_go | with_reducible apply star_go | with_reducible apply tV_go | exact rfl))
abbrev PW := Str × Tk
def inR : List PW → List Int → List (List Int) × List PW
  | [], r => ([r], [])
  | p :: l, r => match p.2 with
    | .n k => inR l (r ++ [k])
    | .st => (r :: (inR l []).1, (inR l []).2)
    | _ => ([r], p :: l)
def ringsS : List PW → List (List Int) × List PW
  | [] => ([], [])
  | p :: l => if p.2 = .st then inR l [] else ([], p :: l)
theorem inR_eq : ∀ (l : List PW) (r : List Int), inR l r = ((r ++ ordsF l) :: (ringsS (l.drop (ordsF l).length)).1, (ringsS (l.drop (ordsF l).length)).2)
  | [], r => by simp [inR, ordsF, ringsS]
  | p :: l, r => by
    unfold inR
    rw [ordsF_cons]
    generalize hq : p.2 = q
    cases q with
    | n k =>
      show inR l (r ++ [k]) = _
      rw [inR_eq l]
      simp
    | st =>
      have : ringsS (p :: l) = inR l [] := if_pos hq
      simp [this]
    | _ =>
      have : ringsS (p :: l) = ([], p :: l) := if_neg (by rw [hq]; exact fun z => nomatch z)
      simp [this]
theorem ringsS_st {p : PW} {l : List PW} (e : p.2 = .st) : ringsS (p :: l) = (ordsF l :: (ringsS (l.drop (ordsF l).length)).1, (ringsS (l.drop (ordsF l).length)).2) := by
  rw [show ringsS (p :: l) = inR l [] from if_pos e, inR_eq]; rfl
theorem ringsS_no {p : PW} {l : List PW} (e : p.2 ≠ .st) : ringsS (p :: l) = ([], p :: l) := if_neg e
theorem inR_len : ∀ (l : List PW) (r : List Int), (inR l r).2.length ≤ l.length ∧ (inR l r).1.length ≤ l.length + 1 ∧ (inR l r).2 = l.drop (l.length - (inR l r).2.length)
  | [], r => by simp [inR]
  | p :: l, r => by
    unfold inR
    generalize p.2 = q
    cases q with
    | n k =>
      obtain ⟨a, b, c⟩ := inR_len l (r ++ [k])
      refine ⟨by simp; omega, by simp; omega, ?_⟩
      show (inR l (r ++ [k])).2 = (p :: l).drop (l.length + 1 - _)
      rw [show l.length + 1 - (inR l (r ++ [k])).2.length = (l.length - (inR l (r ++ [k])).2.length) + 1 by omega, List.drop_succ_cons]
      exact c
    | st =>
      obtain ⟨a, b, c⟩ := inR_len l []
      refine ⟨by simp; omega, by simp; omega, ?_⟩
      show (inR l []).2 = (p :: l).drop (l.length + 1 - _)
      rw [show l.length + 1 - (inR l []).2.length = (l.length - (inR l []).2.length) + 1 by omega, List.drop_succ_cons]
      exact c
    | _ => simp
theorem ringsS_len (l : List PW) : (ringsS l).2.length ≤ l.length ∧ (ringsS l).1.length ≤ l.length ∧ (ringsS l).2 = l.drop (l.length - (ringsS l).2.length) := by
  cases l with
  | nil => simp [ringsS]
  | cons p l =>
    by_cases q : p.2 = .st
    · rw [show ringsS (p :: l) = inR l [] from if_pos q]
      obtain ⟨a, b, c⟩ := inR_len l []
      refine ⟨by simp; omega, by simp; omega, ?_⟩
      show (inR l []).2 = (p :: l).drop (l.length + 1 - _)
      rw [show l.length + 1 - (inR l []).2.length = (l.length - (inR l []).2.length) + 1 by omega, List.drop_succ_cons]
      exact c
    · rw [ringsS_no q]; simp
theorem wds_drop {l : List PW} (ws : Wds l) (k : Nat) : Wds (l.drop k) := fun p hp => ws p (List.mem_of_mem_drop hp)
theorem inR_good : ∀ (l : List PW) (r : List Int), Wds l → (∀ z ∈ r, Good z) → r.length + l.length ≤ 500 → ∀ s ∈ (inR l r).1, (∀ z ∈ s, Good z) ∧ s.length ≤ 500
  | [], r, _, g, hr, s, hs => by
    have : s = r := by simpa [inR] using hs
    subst this
    exact ⟨g, by simpa using hr⟩
  | p :: l, r, ws, g, hr, s, hs => by
    have ws' : Wds l := fun q hq => ws q (List.mem_cons_of_mem _ hq)
    have gp := (wd_facts (ws p List.mem_cons_self)).2.2.2.2.2.2.2
    unfold inR at hs
    simp only [List.length_cons] at hr
    generalize hq : p.2 = q at *
    cases q with
    | n k => exact inR_good l (r ++ [k]) ws' (fun z hz => by
        rcases List.mem_append.mp hz with hz | hz
        · exact g z hz
        · exact gp z hz) (by simp; omega) s hs
    | st =>
      rcases List.mem_cons.mp hs with rfl | hs
      · exact ⟨g, by omega⟩
      · exact inR_good l [] ws' (fun z hz => nomatch hz) (by simp; omega) s hs
    | _ =>
      have : s = r := by simpa using hs
      subst this
      exact ⟨g, by omega⟩
theorem ringsS_good {l : List PW} (ws : Wds l) (hl : l.length ≤ 500) : ∀ s ∈ (ringsS l).1, (∀ z ∈ s, Good z) ∧ s.length ≤ 500 := by
  cases l with
  | nil => simp [ringsS]
  | cons p l =>
    by_cases q : p.2 = .st
    · rw [show ringsS (p :: l) = inR l [] from if_pos q]
      simp only [List.length_cons] at hl
      exact inR_good l [] (fun q hq => ws q (List.mem_cons_of_mem _ hq)) (fun z hz => nomatch hz) (by simp; omega)
    · rw [ringsS_no q]; simp
/-! read_sign -/
def LL (rs : List (List Int)) : List AV := rs.map fun r => .lst (r.map .int)
theorem bnds_LL {m : Nat} {rs : List (List Int)} : bnds m (LL rs) = true := bnds_map fun r _ => by
  show bnds m (r.map .int) = true
  exact bnds_ints
theorem atI_last {α : Type} {l : List α} {x : α} : L2.atI (l ++ [x]) (-1) = some x := by
  unfold L2.atI
  have : L2.ixN (l ++ [x]).length (-1) = some l.length := by
    unfold L2.ixN
    simp
    omega
  rw [this]
  simp
theorem ix_last {h : AH} {n : Nat} {l : List AV} {x : AV} (e : h[n]? = some (.lst (l ++ [x]))) : mIx (.ref n) (.int (-1)) h = .ok x h := by
  have : items h (.ref n) = some (l ++ [x]) := by
    show (match h[n]? with | some (.lst l) => some l | _ => none) = _
    rw [e]
  unfold mIx
  simp only [this, atI_last]
def rsT : TM := tAnd (tV (eBin mLt (eVar 4) (eBlt mLen (aCons (eVar 1) (aNil))))) (tV (eBin (mEq false) (eBin mIx (eVar 1) (eVar 4)) (eC (.str "*"))))
def rsB : SM := sSeq (sExpr (eMt "list" mApp (eVar 5) (aCons (eCall 2 m_orders_from (aCons (eVar 1) (aCons (eBin (mAdd false) (eVar 4) (eC (.int 1))) (aNil)))) (aNil))))
  (sAsg (eBin (mAdd false) (eBin (mAdd false) (eVar 4) (eC (.int 1))) (eBlt mLen (aCons (eBin mIx (eVar 5) (eUn mNeg (eC (.int 1)))) (aNil)))) (AVL.gName 4))
theorem rs_loop {h : AH} {l : List PW} (ws : Wds l) (hl : l.length < 50000) {s0 s2 s3 : Option AV} : ∀ (n k : Nat) (acc : List (List Int)), l.length - k ≤ n → k ≤ l.length → acc.length ≤ k →
    sWhile rsT rsB [s0, some (WL l), s2, s3, some (.int (k : Int)), some (.ref h.length), none] (h ++ [.lst (LL acc)]) = .next [s0, some (WL l), s2, s3, some (.int ((l.length - (ringsS (l.drop k)).2.length : Nat) : Int)), some (.ref h.length), none] (h ++ [.lst (LL (acc ++ (ringsS (l.drop k)).1))]) := by
  intro n
  induction n with
  | zero =>
    intro k acc e hk ha
    have : k = l.length := by omega
    subst this
    rw [List.drop_length, show acc ++ (ringsS []).1 = acc by simp [ringsS], show l.length - (ringsS []).2.length = l.length by simp [ringsS]]
    exact while_no (tAnd_no (tV_go (eBin_go (eVar_ok rfl) (eBlt_go (cons_ok (eVar_ok rfl) nil_ok) len_WL) (lt_no (by omega)))))
  | succ n ih =>
    intro k acc e hk ha
    by_cases kz : k = l.length
    · subst kz
      rw [List.drop_length, show acc ++ (ringsS []).1 = acc by simp [ringsS], show l.length - (ringsS []).2.length = l.length by simp [ringsS]]
      exact while_no (tAnd_no (tV_go (eBin_go (eVar_ok rfl) (eBlt_go (cons_ok (eVar_ok rfl) nil_ok) len_WL) (lt_no (by omega)))))
    obtain ⟨p, e1, e2⟩ := getD_at (l := l) (k := k) (by omega)
    have hp := ws p (List.mem_of_getElem? e1)
    have t1 : ∀ H, tV (eBin mLt (eVar 4) (eBlt mLen (aCons (eVar 1) (aNil)))) [s0, some (WL l), s2, s3, some (.int (k : Int)), some (.ref h.length), none] H = .ok true H := fun H => tV_go (eBin_go (eVar_ok rfl) (eBlt_go (cons_ok (eVar_ok rfl) nil_ok) len_WL) (lt_yes (by omega)))
    have t2 : ∀ H, tV (eBin (mEq false) (eBin mIx (eVar 1) (eVar 4)) (eC (.str "*"))) [s0, some (WL l), s2, s3, some (.int (k : Int)), some (.ref h.length), none] H = .ok (isT p.2 .st) H := fun H => tV_go (eBin_go (eBin_go (eVar_ok rfl) (eVar_ok rfl) (ix_WL e1)) eC_ok (wd_st hp))
    by_cases q : p.2 = .st
    · have of := orders_from_ok (h := h ++ [.lst (LL acc)]) ws hl (k := k + 1) (by omega)
      have ll : (ordsF (l.drop (k + 1))).length ≤ l.length - (k + 1) := by
        have := ordsF_len (l.drop (k + 1))
        simpa using this
      have := ih (k + 1 + (ordsF (l.drop (k + 1))).length) (acc ++ [ordsF (l.drop (k + 1))]) (by omega) (by omega) (by simp; omega)
      rw [e2, ringsS_st q, List.drop_drop]
      rw [show acc ++ (ordsF (l.drop (k + 1)) :: (ringsS (l.drop (k + 1 + (ordsF (l.drop (k + 1))).length))).1) = acc ++ [ordsF (l.drop (k + 1))] ++ (ringsS (l.drop (k + 1 + (ordsF (l.drop (k + 1))).length))).1 by simp]
      have hll : LL (acc ++ [ordsF (l.drop (k + 1))]) = LL acc ++ [.lst ((ordsF (l.drop (k + 1))).map .int)] := by simp [LL]
      rw [hll] at this
      have ka : (k : Int) + 1 = ((k + 1 : Nat) : Int) := by omega
      have lx : ∀ sl : SL, sl[5]? = some (some (.ref h.length)) → eBlt mLen (aCons (eBin mIx (eVar 5) (eUn mNeg (eC (.int 1)))) (aNil)) sl (h ++ [.lst (LL acc ++ [.lst ((ordsF (l.drop (k + 1))).map .int)])]) = .ok (.int (((ordsF (l.drop (k + 1))).map AV.int).length : Nat)) (h ++ [.lst (LL acc ++ [.lst ((ordsF (l.drop (k + 1))).map .int)])]) := fun sl e5 =>
        eBlt_go (cons_ok (eBin_go (eVar_ok e5) (eUn_go eC_ok neg_int) (ix_last get_last)) nil_ok) len_lst
      have bd : rsB [s0, some (WL l), s2, s3, some (.int (k : Int)), some (.ref h.length), none] (h ++ [.lst (LL acc)]) = .next [s0, some (WL l), s2, s3, some (.int ((k : Int) + 1 + (((ordsF (l.drop (k + 1))).map AV.int).length : Nat))), some (.ref h.length), none] (h ++ [.lst (LL acc ++ [.lst ((ordsF (l.drop (k + 1))).map .int)])]) := by
        refine seq_go (h' := h ++ [.lst (LL acc ++ [.lst ((ordsF (l.drop (k + 1))).map .int)])]) (expr_ok (v := .non) (eMt_go (eVar_ok rfl) ty_last (cons_ok (eCall_go (cons_ok (eVar_ok rfl) (cons_ok (eBin_go (eVar_ok rfl) eC_ok add_int) nil_ok)) rfl (ka ▸ of)) nil_ok) ?_)) (asg_ok (eBin_go (eBin_go (eVar_ok rfl) eC_ok add_int) (lx _ rfl) add_int))
        rw [app_ref get_last (bnd_of (by show bnds 0 ((ordsF (l.drop (k + 1))).map .int) = true; exact bnds_ints)) (by simp [LL]; omega), set_last]
      refine while_yes (tAnd_yes (t1 _) ((t2 _).trans (by simp [isT, q] <;> rfl))) bd ?_
      rw [show (k : Int) + 1 + (((ordsF (l.drop (k + 1))).map AV.int).length : Nat) = ((k + 1 + (ordsF (l.drop (k + 1))).length : Nat) : Int) by simp]
      exact this
    · rw [e2, ringsS_no q]
      have : l.length - (p :: l.drop (k + 1)).length = k := by simp; omega
      rw [this, List.append_nil]
      exact while_no (tAnd_yes (t1 _) ((t2 _).trans (by simp [isT, q] <;> rfl)))
end Law

namespace Law
open PySem PySem.Spec L2 AVL
local macro_rules
  | `(tactic| decreasing_trivial_pre_omega) => `(tactic| repeat' (first | with_reducible assumption | exact eVar_ok rfl | exact eC_ok | exact nil_ok | exact oNo_ok | with_reducible apply cons_ok | with_reducible apply eBin_go | with_reducible apply eCall_go | with_reducible apply eBlt_go | with_reducible apply eTup_go | with_reducible apply eLst_go | with_reducible apply eLstN_go | with_reducible apply eAttr_go | with_reducible apply eSl_go | with_reducible apply oPart_go | with_reducible apply eRev_go | with_reducible apply eMt_go | with_reducible apply eUn_go | with_reducible apply eCallD_go | with_reducible apply star_go | with_reducible apply tV_go | exact rfl))
section
variable {f g : SM} {sl sl' : SL} {h h1 : AH} {c : Str} {ks : List Str} {l xs : List AV} {A : AM} {b : SM} {args : List AV} {r : Res AV}
theorem seq_exc (e : f sl h = .exc c ks l sl' h1) : sSeq f g sl h = .exc c ks l sl' h1 := by
  unfold sSeq
  rw [e]; rfl
theorem raise_ok (a : A sl h = .ok xs h1) (k : xs.length = ks.length) : sRaise c ks A sl h = .exc c ks.reverse xs.reverse sl h1 := by
  unfold sRaise
  rw [a]
  show (if xs.length = ks.length then SRes.exc c ks.reverse xs.reverse sl h1 else .stuck) = _
  rw [if_pos k]
theorem mk_exc {n : Nat} (hs : args.map some ++ List.replicate n none = sl) (e : b sl h = .exc c ks l sl' h1) (k : leaveX h.length c ks l h1 = r) : mkF n false b args h = r := by
  unfold mkF
  rw [hs, e]; exact k
theorem lvx_low {m : Nat} (b : bnds 0 l = true) : leaveX m c ks l h = .exc c ks l (h.take m) := by
  unfold leaveX frzs
  rw [frzVs_low frzN_low l (show bnds m l = true from bnd_of (x := .lst l) b)]
theorem lvx_same (b : bnds 0 l = true) : leaveX h.length c ks l h = .exc c ks l h := by
  rw [lvx_low b, List.take_length]
theorem lvx_app {D : AH} (b : bnds 0 l = true) : leaveX h.length c ks l (h ++ D) = .exc c ks l h := by
  rw [lvx_low b, List.take_append_of_le_length (Nat.le_refl _), List.take_length]
theorem lv_app {D : AH} {x : AV} (b : bnd 0 x = true) : leave h.length x (h ++ D) = .ok x h := by
  rw [leave_low (bnd_of b), List.take_append_of_le_length (Nat.le_refl _), List.take_length]
end
theorem leastEmpty : (([] : List (List Int)).map fun p => least p) = [] := rfl
def hsF (l : List PW) : Nat := cnt .o l
def csF (l : List PW) : List Int := ordsF (l.drop (hsF l))
def rqF (l : List PW) : List (List Int) × List PW := ringsS (l.drop (hsF l + (csF l).length))
def atF (l : List PW) : Nat := l.length - (rqF l).2.length
def cpF (l : List PW) : Nat := if 0 < hsF l then 0 else cnt .x (rqF l).2
def enF (l : List PW) : Nat := atF l + cpF l
theorem cnt_len (u : Tk) : ∀ l : List PW, cnt u l ≤ l.length
  | [] => Nat.le_refl _
  | p :: l => by
    unfold cnt
    have := cnt_len u l
    split <;> simp <;> omega
theorem hsF_le (l : List PW) : hsF l + (csF l).length ≤ l.length := by
  have h1 := cnt_len .o l
  have h2 := ordsF_len (l.drop (hsF l))
  unfold csF
  rw [List.length_drop] at h2
  unfold hsF at h2 ⊢
  omega
theorem rqF_drop (l : List PW) : (rqF l).2 = l.drop (atF l) ∧ hsF l + (csF l).length ≤ atF l ∧ atF l ≤ l.length ∧ (rqF l).1.length ≤ l.length := by
  obtain ⟨a, b, c⟩ := ringsS_len (l.drop (hsF l + (csF l).length))
  have := hsF_le l
  rw [List.length_drop] at a b c
  unfold atF
  change (rqF l).2.length ≤ _ at a
  change (rqF l).1.length ≤ _ at b
  refine ⟨?_, by omega, by omega, by omega⟩
  refine Eq.trans c ?_
  rw [List.drop_drop]
  change l.drop (hsF l + (csF l).length + (l.length - (hsF l + (csF l).length) - (rqF l).2.length)) = _
  congr 1
  omega
theorem enF_le (l : List PW) : enF l ≤ l.length := by
  obtain ⟨a, b, c, d⟩ := rqF_drop l
  unfold enF cpF
  split
  · omega
  · have := cnt_len .x (rqF l).2
    have : (rqF l).2.length = l.length - atF l := by rw [a, List.length_drop]
    omega
/-- a text and its words -/
def Spl (s : Str) (l : List PW) : Prop := Wds l ∧ l ≠ [] ∧ l.length < 50000 ∧ ∀ h, mSplit false (.str s) [.str " "] h = .ok (WL l) h
section
variable {h : AH} {s : Str} {l : List PW}
theorem isi_str : mIsi isaT [.str s, .ty "str"] h = .ok (.bl true) h := rfl
def rd1 : SM := sIf (tNot (tV (eBlt (mIsi isaT) (aCons (eVar 0) (aCons (eC (.ty "str")) (aNil)))))) (sRaise "BadText" ["item"] (aCons (eC (.int 0)) (aNil))) (sNext)
def rd3 : SM := sIf (tV (eBin (mEq false) (eBin mIx (eVar 1) (eC (.int 0))) (eC (.str "-")))) (sSeq (sIf (tV (eBin mGt (eBlt mLen (aCons (eVar 1) (aNil))) (eC (.int 1)))) (sRaise "BadText" ["item"] (aCons (eC (.int 1)) (aNil))) (sNext))
  (sRet (eCall 4 (mMake "Signature" m_Signature___init__) (aCons (eC (.int 0)) (aCons (eC (.int 0)) (aCons (eTup (aNil)) (aCons (eTup (aNil)) (aNil)))))))) (sNext)
def rd9 : SM := sSeq (sIf (tV (eBin mLt (eVar 6) (eBlt mLen (aCons (eVar 1) (aNil))))) (sRaise "BadText" ["item"] (aCons (eVar 6) (aNil))) (sNext))
  (sRet (eCall 4 (mMake "Signature" m_Signature___init__) (aCons (eVar 2) (aCons (eBin mSub (eVar 6) (eVar 4)) (aCons (eVar 3) (aCons (eVar 5) (aNil)))))))
def rd5 : SM := sSeq (sPar [4, 5] (aCons (eBin (mAdd true) (eVar 2) (eBlt mLen (aCons (eVar 3) (aNil)))) (aCons (eLst true (aNil)) (aNil))))
  (sSeq (sWhile rsT rsB)
  (sSeq (sAsg (eIf (tV (eBin mGt (eVar 2) (eC (.int 0)))) (eVar 4) (eCall 3 m_taken (aCons (eVar 1) (aCons (eVar 4) (aCons (eC (.str "x")) (aNil)))))) (AVL.gName 6)) rd9))
theorem read_split : b_read_sign = sSeq rd1 (sSeq (sAsg (eMt "str" (mSplit false) (eVar 0) (aCons (eC (.str " ")) (aNil))) (AVL.gName 1)) (sSeq rd3
  (sSeq (sAsg (eCall 3 m_taken (aCons (eVar 1) (aCons (eC (.int 0)) (aCons (eC (.str "o")) (aNil))))) (AVL.gName 2))
  (sSeq (sAsg (eCall 2 m_orders_from (aCons (eVar 1) (aCons (eVar 2) (aNil)))) (AVL.gName 3)) rd5)))) := rfl
theorem rd_head (sp : Spl s l) {r : SRes} (e : sSeq rd3 (sSeq (sAsg (eCall 3 m_taken (aCons (eVar 1) (aCons (eC (.int 0)) (aCons (eC (.str "o")) (aNil))))) (AVL.gName 2))
  (sSeq (sAsg (eCall 2 m_orders_from (aCons (eVar 1) (aCons (eVar 2) (aNil)))) (AVL.gName 3)) rd5)) [some (.str s), some (WL l), none, none, none, none, none] h = r) : b_read_sign [some (.str s), none, none, none, none, none, none] h = r := by
  rw [read_split]
  refine seq_go (if_no (tNot_no (tV_go (eBlt_go (cons_ok (eVar_ok rfl) (cons_ok eC_ok nil_ok)) isi_str))) next_ok) ?_
  exact seq_go (asg_ok (eMt_go (eVar_ok rfl) rfl (cons_ok eC_ok nil_ok) (sp.2.2.2 h))) e
theorem first_da {p : PW} {l : List PW} (ws : Wds (p :: l)) {sl : SL} (e : sl[1]? = some (some (WL (p :: l)))) : tV (eBin (mEq false) (eBin mIx (eVar 1) (eC (.int 0))) (eC (.str "-"))) sl h = .ok (isT p.2 .da) h :=
  tV_go (eBin_go (eBin_go (eVar_ok e) eC_ok (ix_WL (k := 0) (p := p) rfl)) eC_ok (wd_da (ws p List.mem_cons_self)))
/-- "-", and more -/
theorem read_none_more {p : PW} (sp : Spl s (p :: l)) (d : p.2 = .da) (k : l ≠ []) : m_read_sign [.str s] h = .exc "BadText" ["item"] [.int 1] h := by
  have ll : 0 < l.length := List.length_pos_iff.mpr k
  refine mk_exc (sl := [some (.str s), none, none, none, none, none, none]) rfl (sl' := [some (.str s), some (WL (p :: l)), none, none, none, none, none]) (h1 := h) (rd_head sp ?_) (lvx_same rfl)
  refine seq_exc (if_yes ((first_da sp.1 rfl).trans (by simp [isT, d] <;> rfl)) (seq_exc (if_yes (tV_go (eBin_go (eBlt_go (cons_ok (eVar_ok rfl) nil_ok) len_WL) eC_ok (gt_yes ?_))) (raise_ok (cons_ok eC_ok nil_ok) rfl))))
  simp; omega
theorem make_none : mMake "Signature" m_Signature___init__ [.int 0, .int 0, .tup [], .tup []] h = .ok (sig 0 0 [] []) h := by
  have := make_ok (h := h) (hd := 0) (cp := 0) (X := .tup []) (Y := .tup []) (cs := []) (rs := []) (by omega) (by omega) (by omega) (by omega) (.inl rfl) (.inl rfl) (fun z hz => nomatch hz) (by simp) (.inl rfl) (fun p hp => nomatch hp) (by simp)
  rw [show sortI [] = [] by simp [sortI], show sortR (([] : List (AV × List Int)).map fun p => least p.2) = [] by simp [sortR]] at this
  exact this
theorem read_none {p : PW} (sp : Spl s [p]) (d : p.2 = .da) : m_read_sign [.str s] h = .ok (sig 0 0 [] []) h := by
  refine mk_go (sl := [some (.str s), none, none, none, none, none, none]) rfl (h1 := h) (v := sig 0 0 [] []) (rd_head sp ?_) (lv_same rfl)
  refine seq_ret (if_yes ((first_da sp.1 rfl).trans (by simp [isT, d] <;> rfl)) (seq_go (if_no (tV_go (eBin_go (eBlt_go (cons_ok (eVar_ok rfl) nil_ok) len_WL) eC_ok (gt_no (by simp)))) next_ok) (ret_ok (eCall_go (cons_ok eC_ok (cons_ok eC_ok (cons_ok (eTup_go nil_ok rfl) (cons_ok (eTup_go nil_ok rfl) nil_ok)))) rfl make_none))))
theorem bnd_sig {m : Nat} {hd cp : Int} {cs : List Int} {rs : List (List Int)} : bnd m (sig hd cp cs rs) = true := by
  refine bnd_of ?_
  show (bnd 0 (.int hd) && (bnd 0 (.int cp) && (bnd 0 (IT cs) && (bnds 0 (rs.map IT) && ((bnd 0 (.int hd) && (bnd 0 (.int cp) && (bnd 0 (IT cs) && (bnds 0 (rs.map IT) && true)))) && true))))) = true
  rw [bnd_IT, bnds_ITs]; rfl
/-- up to what is made -/
theorem read_body {p : PW} (sp : Spl s (p :: l)) (d : p.2 ≠ .da) {r : SRes} (e : rd9 [some (.str s), some (WL (p :: l)), some (.int (hsF (p :: l) : Nat)), some (.lst ((csF (p :: l)).map .int)), some (.int (atF (p :: l) : Nat)), some (.ref h.length), some (.int (enF (p :: l) : Nat))] (h ++ [.lst (LL (rqF (p :: l)).1)]) = r) :
    b_read_sign [some (.str s), none, none, none, none, none, none] h = r := by
  obtain ⟨dr, da, db, dc⟩ := rqF_drop (p :: l)
  refine rd_head sp ?_
  generalize hL : p :: l = L at *
  obtain ⟨ws, _, hl, _⟩ := sp
  have t0 := taken_ok (h := h) ws (fun w t => wd_o) (Nat.zero_le L.length)
  rw [List.drop_zero, Nat.zero_add] at t0
  have fi : ∀ sl : SL, sl[1]? = some (some (WL L)) → tV (eBin (mEq false) (eBin mIx (eVar 1) (eC (.int 0))) (eC (.str "-"))) sl h = .ok false h := by
    subst hL
    exact fun sl e => (first_da ws e).trans (by simp [isT, d] <;> rfl)
  have hs := hsF_le L
  have o0 := orders_from_ok (h := h) ws hl (k := hsF L) (by omega)
  refine seq_go (if_no (fi _ rfl) next_ok) ?_
  refine seq_go (sl' := [some (.str s), some (WL L), some (.int (hsF L : Nat)), none, none, none, none]) (asg_ok (eCall_go (cons_ok (eVar_ok rfl) (cons_ok eC_ok (cons_ok eC_ok nil_ok))) rfl t0)) ?_
  refine seq_go (sl' := [some (.str s), some (WL L), some (.int (hsF L : Nat)), some (.lst ((csF L).map .int)), none, none, none]) (asg_ok (eCall_go (cons_ok (eVar_ok rfl) (cons_ok (eVar_ok rfl) nil_ok)) rfl o0)) ?_
  have w := rs_loop (h := h) ws hl (s0 := some (.str s)) (s2 := some (.int (hsF L : Nat))) (s3 := some (.lst ((csF L).map .int))) L.length (hsF L + (csF L).length) [] (by omega) (by omega) (Nat.zero_le _)
  refine seq_go (sl' := [some (.str s), some (WL L), some (.int (hsF L : Nat)), some (.lst ((csF L).map .int)), some (.int ((hsF L + (csF L).length : Nat) : Int)), some (.ref h.length), none]) (h' := h ++ [.lst (LL [])]) (par_ok (cons_ok (eBin_go (eVar_ok rfl) (eBlt_go (cons_ok (eVar_ok rfl) nil_ok) len_lst) ?_) (cons_ok (eLstN_go nil_ok rfl) nil_ok)) rfl) (seq_go w ?_)
  · rw [List.length_map]
    exact add_int.trans (by rw [← Int.natCast_add])
  have en : eIf (tV (eBin mGt (eVar 2) (eC (.int 0)))) (eVar 4) (eCall 3 m_taken (aCons (eVar 1) (aCons (eVar 4) (aCons (eC (.str "x")) (aNil))))) [some (.str s), some (WL L), some (.int (hsF L : Nat)), some (.lst ((csF L).map .int)), some (.int (atF L : Nat)), some (.ref h.length), none] (h ++ [.lst (LL (rqF L).1)]) = .ok (.int (enF L : Nat)) (h ++ [.lst (LL (rqF L).1)]) := by
    by_cases q : 0 < hsF L
    · have : enF L = atF L := by unfold enF cpF; rw [if_pos q]; omega
      rw [this]
      exact eIf_yes (tV_go (eBin_go (eVar_ok rfl) eC_ok (gt_yes (by omega)))) (eVar_ok rfl)
    · have : enF L = atF L + cnt .x (L.drop (atF L)) := by unfold enF cpF; rw [if_neg q, dr]
      rw [this]
      exact eIf_no (tV_go (eBin_go (eVar_ok rfl) eC_ok (gt_no (by omega)))) (eCall_go (cons_ok (eVar_ok rfl) (cons_ok (eVar_ok rfl) (cons_ok eC_ok nil_ok))) rfl (taken_ok ws (fun w t => wd_x) db))
  exact seq_go (asg_ok en) e
theorem read_bad {p : PW} (sp : Spl s (p :: l)) (d : p.2 ≠ .da) (k : enF (p :: l) < (p :: l).length) : m_read_sign [.str s] h = .exc "BadText" ["item"] [.int (enF (p :: l) : Nat)] h := by
  refine mk_exc (sl := [some (.str s), none, none, none, none, none, none]) rfl (sl' := [some (.str s), some (WL (p :: l)), some (.int (hsF (p :: l) : Nat)), some (.lst ((csF (p :: l)).map .int)), some (.int (atF (p :: l) : Nat)), some (.ref h.length), some (.int (enF (p :: l) : Nat))]) (h1 := h ++ [.lst (LL (rqF (p :: l)).1)]) (read_body sp d ?_) (lvx_app rfl)
  exact seq_exc (if_yes (tV_go (eBin_go (eVar_ok rfl) (eBlt_go (cons_ok (eVar_ok rfl) nil_ok) len_WL) (lt_yes (by omega)))) (raise_ok (cons_ok (eVar_ok rfl) nil_ok) rfl))
theorem read_good {p : PW} (sp : Spl s (p :: l)) (d : p.2 ≠ .da) (k : enF (p :: l) = (p :: l).length) (h1 : hsF (p :: l) ≤ 600) (h2 : cpF (p :: l) ≤ 600) (h3 : (csF (p :: l)).length ≤ 500) (h4 : (rqF (p :: l)).1.length ≤ 500) (h5 : ∀ r ∈ (rqF (p :: l)).1, (∀ z ∈ r, Good z) ∧ r.length ≤ 500) :
    m_read_sign [.str s] h = .ok (sig (hsF (p :: l) : Nat) (cpF (p :: l) : Nat) (sortI (csF (p :: l))) (sortR ((rqF (p :: l)).1.map least))) h := by
  refine mk_go (sl := [some (.str s), none, none, none, none, none, none]) rfl (h1 := h ++ [.lst (LL (rqF (p :: l)).1)]) (read_body sp d ?_) (lv_app bnd_sig)
  have ws := sp.1
  generalize p :: l = L at *
  have mk := make_ok (h := h ++ [.lst (LL (rqF L).1)]) (hd := (hsF L : Nat)) (cp := (cpF L : Nat)) (X := .lst ((csF L).map .int)) (Y := .ref h.length) (cs := csF L) (rs := (rqF L).1.map fun r => (AV.lst (r.map .int), r)) (by omega) (by omega) (by omega) (by omega) (by
    by_cases q : 0 < hsF L
    · right; unfold cpF; rw [if_pos q]; rfl
    · left; omega) (.inr (.inl rfl)) (ordsF_good _ (wds_drop ws _)) h3 (.inr (.inr ⟨_, rfl, by rw [get_last]; simp [LL, Function.comp_def]⟩)) (fun q hq => by
      obtain ⟨r, hr, rfl⟩ := List.mem_map.mp hq
      exact ⟨.inr (.inl rfl), bnd_of (by show bnds 0 (r.map .int) = true; exact bnds_ints), (h5 r hr).1, (h5 r hr).2⟩) (by simpa using h4)
  rw [List.map_map] at mk
  refine seq_go (if_no (tV_go (eBin_go (eVar_ok rfl) (eBlt_go (cons_ok (eVar_ok rfl) nil_ok) len_WL) (lt_no (by omega)))) next_ok) (ret_ok (eCall_go (cons_ok (eVar_ok rfl) (cons_ok (eBin_go (eVar_ok rfl) (eVar_ok rfl) sub_int) (cons_ok (eVar_ok rfl) (cons_ok (eVar_ok rfl) nil_ok)))) rfl ?_))
  rw [show ((enF L : Nat) : Int) - ((atF L : Nat) : Int) = ((cpF L : Nat) : Int) by unfold enF; omega]
  exact mk
end
end Law

namespace Law
open PySem PySem.Spec L2 AVL
local macro_rules
  | `(tactic| decreasing_trivial_pre_omega) => `(tactic| repeat' (first | with_reducible assumption | exact eVar_ok rfl | exact eC_ok | exact nil_ok | exact oNo_ok | with_reducible apply cons_ok | with_reducible apply eBin_go | with_reducible apply eCall_go | with_reducible apply eBlt_go | with_reducible apply eTup_go | with_reducible apply eLst_go | with_reducible apply eLstN_go | with_reducible apply eAttr_go | with_reducible apply eSl_go | with_reducible apply oPart_go | with_reducible apply eRev_go | with_reducible apply eMt_go | with_reducible apply eUn_go | with_reducible apply eCallD_go | with_reducible apply star_go | with_reducible apply tV_go | exact rfl))
/-! the reading by the law -/
inductive Pl where
  | ha | co | ri | ca
  deriving DecidableEq
def plS : Pl → Str
  | .ha => "handles"
  | .co => "cones"
  | .ri => "rings"
  | .ca => "caps"
def isN : Tk → Bool
  | .n _ => true
  | _ => false
theorem pl_ha {h : AH} {p : Pl} : mEq false (.str (plS p)) (.str "handles") h = .ok (.bl (decide (p = .ha))) h := by cases p <;> kernel_rfl
theorem pl_ri {h : AH} {p : Pl} : mEq false (.str (plS p)) (.str "rings") h = .ok (.bl (decide (p = .ri))) h := by cases p <;> kernel_rfl
theorem pl_ca {h : AH} {p : Pl} : mEq true (.str (plS p)) (.str "caps") h = .ok (.bl (decide (p ≠ .ca))) h := by cases p <;> kernel_rfl
theorem pl_in {h : AH} {p : Pl} : mIn false (.str (plS p)) (.tup [.str "handles", .str "cones"]) h = .ok (.bl (decide (p = .ha ∨ p = .co))) h := by cases p <;> kernel_rfl
theorem ord_no {h : AH} {t : Tk} : mIs true (ordV t) .non h = .ok (.bl (isN t)) h := by cases t <;> rfl
theorem sIf_go {t : TM} {f g : SM} {sl : SL} {h h1 : AH} {c : Bool} (e : t sl h = .ok c h1) : sIf t f g sl h = if c then f sl h1 else g sl h1 := by
  cases c with
  | true => exact if_yes e rfl
  | false => exact if_no e rfl
def lr1 : SM := sAsg (eBin (mAdd false) (eVar 3) (eC (.int 1))) (AVL.gName 3)
def lr2 : SM := sPar [5, 2] (aCons (eBin (mAdd false) (eVar 5) (eLst false (aCons (eVar 9) (aNil)))) (aCons (eC (.str "cones")) (aNil)))
def lr3 : SM := sExpr (eMt "list" mApp (eBin mIx (eVar 6) (eUn mNeg (eC (.int 1)))) (aCons (eVar 9) (aNil)))
def lr4 : SM := sPar [6, 2] (aCons (eBin (mAdd true) (eVar 6) (eLst true (aCons (eLst true (aNil)) (aNil)))) (aCons (eC (.str "rings")) (aNil)))
def lr5 : SM := sPar [4, 2] (aCons (eBin (mAdd false) (eVar 4) (eC (.int 1))) (aCons (eC (.str "caps")) (aNil)))
def lr6 : SM := sRet (eVar 7)
def lrB : SM := sSeq (sAsg (eCall 1 m_law_order (aCons (eVar 8) (aNil))) (AVL.gName 9))
  (sIf (tAnd (tV (eBin (mEq false) (eVar 8) (eC (.str "o")))) (tV (eBin (mEq false) (eVar 2) (eC (.str "handles"))))) lr1 (sIf (tAnd (tV (eBin (mIs true) (eVar 9) (eC .non))) (tV (eBin (mIn false) (eVar 2) (eTup (aCons (eC (.str "handles")) (aCons (eC (.str "cones")) (aNil))))))) lr2 (sIf (tAnd (tV (eBin (mIs true) (eVar 9) (eC .non))) (tV (eBin (mEq false) (eVar 2) (eC (.str "rings"))))) lr3 (sIf (tAnd (tV (eBin (mEq false) (eVar 8) (eC (.str "*")))) (tV (eBin (mEq true) (eVar 2) (eC (.str "caps"))))) lr4 (sIf (tAnd (tV (eBin (mEq false) (eVar 8) (eC (.str "x")))) (tV (eBin (mEq false) (eVar 3) (eC (.int 0))))) lr5 lr6)))))
section
variable {h H : AH} {t W o9 o10 : Option AV} {p : PW} {pl : Pl} {a c : Int} {cv v6 : AV} {k : Int}
theorem lrB_go (w : Wd p.1 p.2) : lrB [t, W, some (.str (plS pl)), some (.int a), some (.int c), some cv, some v6, some (.int k), some (.str p.1), o9, o10] H =
    (if (isT p.2 .o && decide (pl = .ha)) = true then lr1 [t, W, some (.str (plS pl)), some (.int a), some (.int c), some cv, some v6, some (.int k), some (.str p.1), some (ordV p.2), o10] H else
     if (isN p.2 && decide (pl = .ha ∨ pl = .co)) = true then lr2 [t, W, some (.str (plS pl)), some (.int a), some (.int c), some cv, some v6, some (.int k), some (.str p.1), some (ordV p.2), o10] H else
     if (isN p.2 && decide (pl = .ri)) = true then lr3 [t, W, some (.str (plS pl)), some (.int a), some (.int c), some cv, some v6, some (.int k), some (.str p.1), some (ordV p.2), o10] H else
     if (isT p.2 .st && decide (pl ≠ .ca)) = true then lr4 [t, W, some (.str (plS pl)), some (.int a), some (.int c), some cv, some v6, some (.int k), some (.str p.1), some (ordV p.2), o10] H else
     if (isT p.2 .x && decide (a = 0)) = true then lr5 [t, W, some (.str (plS pl)), some (.int a), some (.int c), some cv, some v6, some (.int k), some (.str p.1), some (ordV p.2), o10] H else
     lr6 [t, W, some (.str (plS pl)), some (.int a), some (.int c), some cv, some v6, some (.int k), some (.str p.1), some (ordV p.2), o10] H) := by
  unfold lrB
  refine seq_go (asg_ok (eCall_go (cons_ok (eVar_ok rfl) nil_ok) rfl (wd_law_order w))) ?_
  refine (sIf_go (tAnd_go (tV_go (eBin_go (eVar_ok rfl) eC_ok (wd_o w))) fun _ => tV_go (eBin_go (eVar_ok rfl) eC_ok pl_ha))).trans ?_
  congr 1
  refine (sIf_go (tAnd_go (tV_go (eBin_go (eVar_ok rfl) eC_ok ord_no)) fun _ => tV_go (eBin_go (eVar_ok rfl) (eTup_go (cons_ok eC_ok (cons_ok eC_ok nil_ok)) rfl) pl_in))).trans ?_
  congr 1
  refine (sIf_go (tAnd_go (tV_go (eBin_go (eVar_ok rfl) eC_ok ord_no)) fun _ => tV_go (eBin_go (eVar_ok rfl) eC_ok pl_ri))).trans ?_
  congr 1
  refine (sIf_go (tAnd_go (tV_go (eBin_go (eVar_ok rfl) eC_ok (wd_st w))) fun _ => tV_go (eBin_go (eVar_ok rfl) eC_ok pl_ca))).trans ?_
  congr 1
  exact sIf_go (tAnd_go (tV_go (eBin_go (eVar_ok rfl) eC_ok (wd_x w))) fun _ => tV_go (eBin_go (eVar_ok rfl) eC_ok eq_int))
end
/-- rings that are cells -/
def MR (h : AH) (v : AV) (ms : List (List Int)) (H : AH) : Prop := (∃ D, H = h ++ D) ∧ ((v = .lst [] ∧ ms = []) ∨ ∃ (k : Nat) (is : List Nat), v = .ref k ∧ H[k]? = some (.lst (is.map .ref)) ∧ (∀ i ∈ is, h.length ≤ i ∧ i < k) ∧ is.Pairwise (· < ·) ∧ is.map (fun i => H[i]?) = ms.map fun r => some (.lst (r.map .int)))
theorem MR.len {h : AH} {v : AV} {ms : List (List Int)} {H : AH} (m : MR h v ms H) : h.length ≤ H.length := by
  obtain ⟨D, rfl⟩ := m.1
  simp
theorem addN_refs {H : AH} {k j : Nat} {a b : List AV} (e : H[k]? = some (.lst a)) (f : H[j]? = some (.lst b)) (hl : a.length + b.length ≤ 100000) : mAdd true (.ref k) (.ref j) H = .ok (.ref H.length) (H ++ [.lst (a ++ b)]) := by
  show (match (match H[k]? with | some (.lst l) => some l | _ => none), (match H[j]? with | some (.lst l) => some l | _ => none) with | some a, some b => if a.length + b.length ≤ sizeLine then mkL true (a ++ b) H else AVL.Res.stuck | _, _ => .stuck) = _
  rw [e, f]
  show (if a.length + b.length ≤ sizeLine then mkL true (a ++ b) H else AVL.Res.stuck) = _
  rw [if_pos (by rw [sizeLine_eq]; omega)]
  rfl
theorem addN_lref {H : AH} {j : Nat} {a b : List AV} (f : H[j]? = some (.lst b)) (hl : a.length + b.length ≤ 100000) : mAdd true (.lst a) (.ref j) H = .ok (.ref H.length) (H ++ [.lst (a ++ b)]) := by
  show (match some a, (match H[j]? with | some (.lst l) => some l | _ => none) with | some a, some b => if a.length + b.length ≤ sizeLine then mkL true (a ++ b) H else AVL.Res.stuck | _, _ => .stuck) = _
  rw [f]
  show (if a.length + b.length ≤ sizeLine then mkL true (a ++ b) H else AVL.Res.stuck) = _
  rw [if_pos (by rw [sizeLine_eq]; omega)]
  rfl
theorem app_get {H : AH} {a b c : Cell} : (H ++ [a] ++ [b] ++ [c])[H.length]? = some a ∧ (H ++ [a] ++ [b] ++ [c])[H.length + 1]? = some b ∧ (H ++ [a] ++ [b] ++ [c])[H.length + 2]? = some c ∧ (H ++ [a] ++ [b])[H.length + 1]? = some b ∧ ∀ i, i < H.length → (H ++ [a] ++ [b] ++ [c])[i]? = H[i]? ∧ (H ++ [a] ++ [b])[i]? = H[i]? := by
  simp only [List.append_assoc, List.cons_append, List.nil_append]
  refine ⟨?_, ?_, ?_, ?_, fun i hi => ⟨?_, ?_⟩⟩
  · rw [List.getElem?_append_right (by omega)]; simp
  · rw [List.getElem?_append_right (by omega)]; simp
  · rw [List.getElem?_append_right (by omega)]; simp
  · rw [List.getElem?_append_right (by omega)]; simp
  · rw [List.getElem?_append_left hi]
  · rw [List.getElem?_append_left hi]
section
variable {h H : AH} {t W o3 o4 o5 o7 o8 o9 o10 : Option AV} {v6 : AV} {x : Option AV} {ms done : List (List Int)} {cur : List Int} {z : Int}
theorem MR.put (D : ∃ D, H = h ++ D) {is : List Nat} (hi : ∀ i ∈ is, h.length ≤ i ∧ i < H.length) (pw : is.Pairwise (· < ·)) (em : is.map (fun i => H[i]?) = ms.map fun r => some (Cell.lst (r.map .int))) :
    MR h (.ref (H.length + 2)) (ms ++ [[]]) (H ++ [.lst []] ++ [.lst [.ref H.length]] ++ [.lst (is.map .ref ++ [.ref H.length])]) := by
  obtain ⟨g1, g2, g3, _, g5⟩ := app_get (H := H) (a := .lst []) (b := .lst [.ref H.length]) (c := .lst (is.map .ref ++ [.ref H.length]))
  obtain ⟨D, rfl⟩ := D
  refine ⟨⟨D ++ [.lst []] ++ [.lst [.ref (h ++ D).length]] ++ [.lst (is.map .ref ++ [.ref (h ++ D).length])], by simp⟩, .inr ⟨_, is ++ [(h ++ D).length], rfl, by rw [g3, List.map_append]; rfl, fun i hi' => ?_, ?_, ?_⟩⟩
  · rcases List.mem_append.mp hi' with q | q
    · have := hi i q; omega
    · have : i = (h ++ D).length := by simpa using q
      subst this
      simp
  · refine List.pairwise_append.mpr ⟨pw, List.pairwise_singleton _ _, fun i q j r => ?_⟩
    have : j = (h ++ D).length := by simpa using r
    subst this
    exact (hi i q).2
  · rw [List.map_append, List.map_append, ← em]
    congr 1
    · exact List.map_congr_left fun i q => (g5 i (hi i q).2).1
    · simp [g1]
theorem lr4_ok (m : MR h v6 ms H) (hl : ms.length < 50000) : ∃ v' H', lr4 [t, W, x, o3, o4, o5, some v6, o7, o8, o9, o10] H = .next [t, W, some (.str (plS .ri)), o3, o4, o5, some v', o7, o8, o9, o10] H' ∧ MR h v' (ms ++ [[]]) H' := by
  have ev : ∀ {v' : AV} {H' : AH}, mAdd true v6 (.ref (H ++ [Cell.lst []]).length) (H ++ [Cell.lst []] ++ [Cell.lst [.ref H.length]]) = .ok v' H' → lr4 [t, W, x, o3, o4, o5, some v6, o7, o8, o9, o10] H = .next [t, W, some (.str (plS .ri)), o3, o4, o5, some v', o7, o8, o9, o10] H' := fun e =>
    par_ok (cons_ok (eBin_go (eVar_ok rfl) (eLstN_go (cons_ok (eLstN_go nil_ok rfl) nil_ok) rfl) e) (cons_ok eC_ok nil_ok)) rfl
  have l1 : (H ++ [Cell.lst []]).length = H.length + 1 := by simp
  have l2 : (H ++ [Cell.lst []] ++ [Cell.lst [.ref H.length]]).length = H.length + 2 := by simp
  have g4 := (app_get (H := H) (a := .lst []) (b := .lst [.ref H.length]) (c := .dead)).2.2.2.1
  have g5 := (app_get (H := H) (a := .lst []) (b := .lst [.ref H.length]) (c := .dead)).2.2.2.2
  rcases m.2 with ⟨rfl, rfl⟩ | ⟨k, is, rfl, e1, e2, e3, e4⟩
  · have a := addN_lref (H := H ++ [.lst []] ++ [.lst [.ref H.length]]) (j := H.length + 1) (a := []) g4 (by simp)
    rw [← l1, l2] at a
    exact ⟨_, _, ev a, MR.put (is := []) m.1 (fun i hi => nomatch hi) List.Pairwise.nil rfl⟩
  · have hk := (List.getElem?_eq_some_iff.mp e1).1
    have il : is.length = ms.length := by
      have := congrArg List.length e4
      simpa using this
    have a := addN_refs (H := H ++ [.lst []] ++ [.lst [.ref H.length]]) (j := H.length + 1) ((g5 k hk).2.trans e1) g4 (by simp; omega)
    rw [← l1, l2] at a
    exact ⟨_, _, ev a, MR.put (is := is) m.1 (fun i hi => ⟨(e2 i hi).1, by have := (e2 i hi).2; omega⟩) e3 e4⟩
theorem lr3_ok (m : MR h v6 (done ++ [cur]) H) (hl : cur.length < 50000) : ∃ H', lr3 [t, W, x, o3, o4, o5, some v6, o7, o8, some (.int z), o10] H = .next [t, W, x, o3, o4, o5, some v6, o7, o8, some (.int z), o10] H' ∧ MR h v6 (done ++ [cur ++ [z]]) H' := by
  rcases m.2 with ⟨_, e⟩ | ⟨k, is, rfl, e1, e2, e3, e4⟩
  · simp at e
  have il : is.length = done.length + 1 := by
    have := congrArg List.length e4
    simpa using this
  have ne : is ≠ [] := by intro z; rw [z] at il; simp at il
  obtain ⟨js, j, rfl⟩ : ∃ js j, is = js ++ [j] := ⟨is.dropLast, is.getLast ne, (List.dropLast_concat_getLast ne).symm⟩
  have jl : js.length = done.length := by simpa using il
  rw [List.map_append, List.map_append] at e4
  obtain ⟨f1, f2⟩ := List.append_inj e4 (by simp [jl])
  have f2 : H[j]? = some (Cell.lst (cur.map .int)) := by simpa using f2
  have hj := e2 j (by simp)
  have ix : mIx (.ref k) (.int (-1)) H = .ok (.ref j) H := ix_last (l := js.map .ref) (by rw [e1, List.map_append]; rfl)
  refine ⟨H.set j (.lst (cur.map .int ++ [.int z])), expr_ok (v := .non) (eMt_go (eBin_go (eVar_ok rfl) (eUn_go eC_ok neg_int) ix) (ty_ref f2) (cons_ok (eVar_ok rfl) nil_ok) (app_ref f2 rfl (by simpa using by omega))), ?_, .inr ⟨k, js ++ [j], rfl, ?_, e2, e3, ?_⟩⟩
  · obtain ⟨D, rfl⟩ := m.1
    exact ⟨D.set (j - h.length) (.lst (cur.map .int ++ [.int z])), List.set_append_right _ _ hj.1⟩
  · rw [List.getElem?_set_ne (by omega)]; exact e1
  · rw [List.map_append, List.map_append, ← f1]
    congr 1
    · refine List.map_congr_left fun i q => ?_
      have : i < j := (List.pairwise_append.mp e3).2.2 i q j (by simp)
      rw [List.getElem?_set_ne (by omega)]
    · have : j < H.length := (List.getElem?_eq_some_iff.mp f2).1
      simp [this]
end
end Law

namespace Law
open PySem PySem.Spec L2 AVL
local macro_rules
  | `(tactic| decreasing_trivial_pre_omega) => `(tactic| repeat' (first | with_reducible assumption | exact eVar_ok rfl | exact eC_ok | exact nil_ok | exact oNo_ok | with_reducible apply cons_ok | with_reducible apply eBin_go | with_reducible apply eCall_go | with_reducible apply eBlt_go | with_reducible apply eTup_go | with_reducible apply eLst_go | with_reducible apply eLstN_go | with_reducible apply eAttr_go | with_reducible apply eSl_go | with_reducible apply oPart_go | with_reducible apply eRev_go | with_reducible apply eMt_go | with_reducible apply eUn_go | with_reducible apply eCallD_go | with_reducible apply star_go | with_reducible apply tV_go | exact rfl))
def cpR (a : Nat) (t : List PW) : Nat := if 0 < a then 0 else cnt .x t
/-- the end of the reading: all words, or the first that cannot stand -/
def Ends (h : AH) (t W : Option AV) (n a c : Nat) (cs : List Int) (ms : List (List Int)) (rest : List PW) (r : SRes) : Prop :=
  (rest = [] ∧ ∃ v6 o2 o7 o8 o9 H', r = .next [t, W, o2, some (.int (a : Int)), some (.int (c : Int)), some (.lst (cs.map .int)), some v6, o7, o8, o9, none] H' ∧ MR h v6 ms H') ∨
  (rest ≠ [] ∧ ∃ D, r = .ret (.int ((n - rest.length : Nat) : Int)) (h ++ D))
abbrev gE : GM := AVL.gTup 2 (AVL.gsCons (AVL.gName 7) (AVL.gsCons (AVL.gName 8) (AVL.gsNil)))
def wv (p : PW) : AV := .str p.1
section
variable {h H : AH} {t W o7 o8 o9 : Option AV} {v6 cv : AV} {a c k n : Nat} {cs : List Int} {ms done : List (List Int)} {cur : List Int} {pl : Pl} {ok : AH → Bool} {p : PW} {L : List PW} {r : SRes}
theorem lr5_ok {x o3 o5 o6 o10 : Option AV} {c : Int} : lr5 [t, W, x, o3, some (.int c), o5, o6, o7, o8, o9, o10] H = .next [t, W, some (.str (plS .ca)), o3, some (.int (c + 1)), o5, o6, o7, o8, o9, o10] H := rfl
theorem enum_step {sl2 : SL} {H2 : AH} (ko : ∀ H, ok H = true) (e : lrB [t, W, some (.str (plS pl)), some (.int (a : Int)), some (.int (c : Int)), some cv, some v6, some (.int (k : Int)), some (.str p.1), o9, none] H = .next sl2 H2) (f : forL ok gE lrB (enumL (k + 1) (L.map wv)) sl2 H2 = r) :
    forL ok gE lrB (enumL k ((p :: L).map wv)) [t, W, some (.str (plS pl)), some (.int (a : Int)), some (.int (c : Int)), some cv, some v6, o7, o8, o9, none] H = r :=
  forL_cons (ko H) rfl e f
theorem enum_stop {v : AV} {H2 : AH} (ko : ∀ H, ok H = true) (e : lrB [t, W, some (.str (plS pl)), some (.int (a : Int)), some (.int (c : Int)), some cv, some v6, some (.int (k : Int)), some (.str p.1), o9, none] H = .ret v H2) :
    forL ok gE lrB (enumL k ((p :: L).map wv)) [t, W, some (.str (plS pl)), some (.int (a : Int)), some (.int (c : Int)), some cv, some v6, o7, o8, o9, none] H = .ret v H2 := by
  show (if ok H then (match gE (.tup [.int k, wv p]) [t, W, some (.str (plS pl)), some (.int (a : Int)), some (.int (c : Int)), some cv, some v6, o7, o8, o9, none] H with | none => .stuck | some (sl1, h1) => match lrB sl1 h1 with | .next sl2 h2 => forL ok gE lrB (enumL (k + 1) (L.map wv)) sl2 h2 | .cont sl2 h2 => forL ok gE lrB (enumL (k + 1) (L.map wv)) sl2 h2 | .brk sl2 h2 => .next sl2 h2 | x => x) else SRes.stuck) = _
  rw [if_pos (ko H)]
  show (match lrB [t, W, some (.str (plS pl)), some (.int (a : Int)), some (.int (c : Int)), some cv, some v6, some (.int (k : Int)), some (.str p.1), o9, none] H with | .next sl2 h2 => forL ok gE lrB (enumL (k + 1) (L.map wv)) sl2 h2 | .cont sl2 h2 => forL ok gE lrB (enumL (k + 1) (L.map wv)) sl2 h2 | .brk sl2 h2 => .next sl2 h2 | x => x) = _
  rw [e]
theorem stop_go (ko : ∀ H, ok H = true) (w : Wd p.1 p.2) (m : MR h v6 ms H) (hk : k + (p :: L).length = n) (c1 : (isT p.2 .o && decide (pl = .ha)) = false) (c2 : (isN p.2 && decide (pl = .ha ∨ pl = .co)) = false) (c3 : (isN p.2 && decide (pl = .ri)) = false) (c4 : (isT p.2 .st && decide (pl ≠ .ca)) = false) (c5 : (isT p.2 .x && decide ((a : Int) = 0)) = false) :
    Ends h t W n a c cs ms (p :: L) (forL ok gE lrB (enumL k ((p :: L).map wv)) [t, W, some (.str (plS pl)), some (.int (a : Int)), some (.int (c : Int)), some cv, some v6, o7, o8, o9, none] H) := by
  obtain ⟨D, rfl⟩ := m.1
  refine .inr ⟨by simp, D, enum_stop ko ?_⟩
  rw [lrB_go w, c1, c2, c3, c4, c5]
  rw [show n - (p :: L).length = k by omega]
  show lr6 [t, W, some (.str (plS pl)), some (.int (a : Int)), some (.int (c : Int)), some cv, some v6, some (.int (k : Int)), some (.str p.1), some (ordV p.2), none] (h ++ D) = _
  exact ret_ok (eVar_ok rfl)
theorem done_go (ko : ∀ H, ok H = true) (m : MR h v6 ms H) : Ends h t W n a c cs ms [] (forL ok gE lrB (enumL k (([] : List PW).map wv)) [t, W, some (.str (plS pl)), some (.int (a : Int)), some (.int (c : Int)), some (.lst (cs.map .int)), some v6, o7, o8, o9, none] H) :=
  .inl ⟨rfl, v6, _, _, _, _, H, forL_nil (ko H), m⟩
theorem caps_go (ko : ∀ H, ok H = true) : ∀ (L : List PW) (k c : Nat) (o7 o8 o9 : Option AV), Wds L → MR h v6 ms H → k + L.length = n →
    Ends h t W n 0 (c + cnt .x L) cs ms (L.drop (cnt .x L)) (forL ok gE lrB (enumL k (L.map wv)) [t, W, some (.str (plS .ca)), some (.int (0 : Nat)), some (.int (c : Int)), some (.lst (cs.map .int)), some v6, o7, o8, o9, none] H)
  | [], k, c, o7, o8, o9, _, m, _ => done_go ko m
  | p :: L, k, c, o7, o8, o9, ws, m, hk => by
    have w := ws p List.mem_cons_self
    by_cases q : p.2 = .x
    · have := caps_go ko L (k + 1) (c + 1) (some (.int k)) (some (.str p.1)) (some (ordV p.2)) (fun z hz => ws z (List.mem_cons_of_mem _ hz)) m (by simp at hk; omega)
      rw [show cnt .x (p :: L) = cnt .x L + 1 from if_pos q, List.drop_succ_cons, show c + (cnt .x L + 1) = c + 1 + cnt .x L by omega]
      rw [enum_step (r := forL ok gE lrB (enumL (k + 1) (L.map wv)) [t, W, some (.str (plS .ca)), some (.int (0 : Nat)), some (.int ((c + 1 : Nat) : Int)), some (.lst (cs.map .int)), some v6, some (.int k), some (.str p.1), some (ordV p.2), none] H) ko ?_ rfl]
      · exact this
      · rw [lrB_go w, q]
        show lr5 [t, W, some (.str (plS .ca)), some (.int (0 : Nat)), some (.int (c : Nat)), some (.lst (cs.map .int)), some v6, some (.int k), some (.str p.1), some .non, none] H = _
        exact lr5_ok
    · rw [show cnt .x (p :: L) = 0 from if_neg q, List.drop_zero, Nat.add_zero]
      refine stop_go ko w m hk ?_ ?_ ?_ ?_ ?_ <;> simp [isT, q]
theorem cpR_zero {a : Nat} {p : PW} {L : List PW} (q : ¬ (p.2 = .x ∧ a = 0)) : cpR a (p :: L) = 0 := by
  unfold cpR
  by_cases z : 0 < a
  · rw [if_pos z]
  · rw [if_neg z]
    exact if_neg fun w => q ⟨w, by omega⟩
/-- what is behind the rings: caps, or what cannot stand -/
theorem tail_go (ko : ∀ H, ok H = true) (hpl : pl ≠ .ca) (ws : Wds (p :: L)) (m : MR h v6 ms H) (hk : k + (p :: L).length = n) (ho : p.2 = .o → pl ≠ .ha) (hn : isN p.2 = false) (hs : p.2 ≠ .st) :
    Ends h t W n a (cpR a (p :: L)) cs ms ((p :: L).drop (cpR a (p :: L))) (forL ok gE lrB (enumL k ((p :: L).map wv)) [t, W, some (.str (plS pl)), some (.int (a : Int)), some (.int (0 : Nat)), some (.lst (cs.map .int)), some v6, o7, o8, o9, none] H) := by
  have w := ws p List.mem_cons_self
  by_cases q : p.2 = .x ∧ a = 0
  · obtain ⟨q, rfl⟩ := q
    have := caps_go (h := h) (H := H) (t := t) (W := W) (v6 := v6) (n := n) (cs := cs) (ms := ms) ko L (k + 1) 1 (some (.int k)) (some (.str p.1)) (some (ordV p.2)) (fun z hz => ws z (List.mem_cons_of_mem _ hz)) m (by simp at hk; omega)
    have e : cpR 0 (p :: L) = 1 + cnt .x L := by
      show cnt .x (p :: L) = _
      rw [show cnt .x (p :: L) = cnt .x L + 1 from if_pos q]; omega
    rw [e, show (p :: L).drop (1 + cnt .x L) = L.drop (cnt .x L) by rw [Nat.add_comm, List.drop_succ_cons]]
    rw [enum_step (r := forL ok gE lrB (enumL (k + 1) (L.map wv)) [t, W, some (.str (plS .ca)), some (.int (0 : Nat)), some (.int ((1 : Nat) : Int)), some (.lst (cs.map .int)), some v6, some (.int k), some (.str p.1), some (ordV p.2), none] H) ko ?_ rfl]
    · exact this
    · rw [lrB_go w, q]
      have c3 : (isT Tk.x .o && decide (pl = .ha)) = false := rfl
      show lr5 [t, W, some (.str (plS pl)), some (.int (0 : Nat)), some (.int (0 : Nat)), some (.lst (cs.map .int)), some v6, some (.int k), some (.str p.1), some .non, none] H = _
      exact lr5_ok
  · rw [cpR_zero q, List.drop_zero]
    refine stop_go ko w m hk ?_ ?_ ?_ ?_ ?_
    · by_cases z : p.2 = .o
      · simp [ho z]
      · simp [isT, z]
    · simp [hn]
    · simp [hn]
    · simp [isT, hs]
    · by_cases z : p.2 = .x
      · have : a ≠ 0 := fun y => q ⟨z, y⟩
        simp [this]
      · simp [isT, z]
theorem rings_go (ko : ∀ H, ok H = true) : ∀ (L : List PW) (k : Nat) (done : List (List Int)) (cur : List Int) (v6 : AV) (H : AH) (o7 o8 o9 : Option AV), Wds L → MR h v6 (done ++ [cur]) H → k + L.length = n → done.length + cur.length ≤ k → n < 40000 →
    Ends h t W n a (cpR a (inR L cur).2) cs (done ++ (inR L cur).1) ((inR L cur).2.drop (cpR a (inR L cur).2)) (forL ok gE lrB (enumL k (L.map wv)) [t, W, some (.str (plS .ri)), some (.int (a : Int)), some (.int (0 : Nat)), some (.lst (cs.map .int)), some v6, o7, o8, o9, none] H)
  | [], k, done, cur, v6, H, o7, o8, o9, _, m, _, _, _ => by
    have e : cpR a ([] : List PW) = 0 := by unfold cpR; split <;> rfl
    show Ends h t W n a (cpR a []) cs (done ++ [cur]) (([] : List PW).drop (cpR a [])) _
    rw [e]
    exact done_go ko m
  | p :: L, k, done, cur, v6, H, o7, o8, o9, ws, m, hk, hd, hn => by
    have w := ws p List.mem_cons_self
    have ws' : Wds L := fun z hz => ws z (List.mem_cons_of_mem _ hz)
    simp only [List.length_cons] at hk
    cases hq : p.2 with
    | n z =>
      obtain ⟨H', e, m'⟩ := lr3_ok (t := t) (W := W) (x := some (.str (plS .ri))) (o3 := some (.int (a : Int))) (o4 := some (.int (0 : Nat))) (o5 := some (.lst (cs.map .int))) (o7 := some (.int k)) (o8 := some (.str p.1)) (o10 := none) (z := z) m (by omega)
      have := rings_go ko L (k + 1) done (cur ++ [z]) v6 H' (some (.int k)) (some (.str p.1)) (some (.int z)) ws' m' (by omega) (by simp; omega) hn
      have ie : inR (p :: L) cur = inR L (cur ++ [z]) := by
        show (match p.2 with | .n k => inR L (cur ++ [k]) | .st => (cur :: (inR L []).1, (inR L []).2) | _ => ([cur], p :: L)) = _
        rw [hq]
      rw [ie, enum_step (r := forL ok gE lrB (enumL (k + 1) (L.map wv)) [t, W, some (.str (plS .ri)), some (.int (a : Int)), some (.int (0 : Nat)), some (.lst (cs.map .int)), some v6, some (.int k), some (.str p.1), some (.int z), none] H') ko ?_ rfl]
      · exact this
      · rw [lrB_go w, hq]
        exact e
    | st =>
      obtain ⟨v', H', e, m'⟩ := lr4_ok (t := t) (W := W) (x := some (.str (plS .ri))) (o3 := some (.int (a : Int))) (o4 := some (.int (0 : Nat))) (o5 := some (.lst (cs.map .int))) (o7 := some (.int k)) (o8 := some (.str p.1)) (o9 := some .non) (o10 := none) m (by simp; omega)
      have := rings_go ko L (k + 1) (done ++ [cur]) [] v' H' (some (.int k)) (some (.str p.1)) (some .non) ws' m' (by omega) (by simp; omega) hn
      have ie : inR (p :: L) cur = (cur :: (inR L []).1, (inR L []).2) := by
        show (match p.2 with | .n k => inR L (cur ++ [k]) | .st => (cur :: (inR L []).1, (inR L []).2) | _ => ([cur], p :: L)) = _
        rw [hq]
      rw [ie, enum_step (r := forL ok gE lrB (enumL (k + 1) (L.map wv)) [t, W, some (.str (plS .ri)), some (.int (a : Int)), some (.int (0 : Nat)), some (.lst (cs.map .int)), some v', some (.int k), some (.str p.1), some .non, none] H') ko ?_ rfl]
      · rw [List.append_assoc] at this
        exact this
      · rw [lrB_go w, hq]
        exact e
    | _ =>
      have ie : inR (p :: L) cur = ([cur], p :: L) := by
        show (match p.2 with | .n k => inR L (cur ++ [k]) | .st => (cur :: (inR L []).1, (inR L []).2) | _ => ([cur], p :: L)) = _
        rw [hq]
      rw [ie]
      exact tail_go ko (fun z => nomatch z) ws m (by simp; omega) (fun _ z => nomatch z) (by rw [hq]; rfl) (by rw [hq]; exact fun z => nomatch z)
/-- from a place ahead of the rings on: the rings, what is behind them -/
theorem star_go' (ko : ∀ H, ok H = true) (hpl : pl ≠ .ca) (ws : Wds (p :: L)) (m : MR h v6 [] H) (hk : k + (p :: L).length = n) (hn : n < 40000) (q : p.2 = .st) :
    Ends h t W n a (cpR a (ringsS (p :: L)).2) cs (ringsS (p :: L)).1 ((ringsS (p :: L)).2.drop (cpR a (ringsS (p :: L)).2)) (forL ok gE lrB (enumL k ((p :: L).map wv)) [t, W, some (.str (plS pl)), some (.int (a : Int)), some (.int (0 : Nat)), some (.lst (cs.map .int)), some v6, o7, o8, o9, none] H) := by
  have w := ws p List.mem_cons_self
  obtain ⟨v', H', e, m'⟩ := lr4_ok (t := t) (W := W) (x := some (.str (plS pl))) (o3 := some (.int (a : Int))) (o4 := some (.int (0 : Nat))) (o5 := some (.lst (cs.map .int))) (o7 := some (.int k)) (o8 := some (.str p.1)) (o9 := some .non) (o10 := none) m (by simp)
  simp only [List.length_cons] at hk
  have := rings_go (h := h) (t := t) (W := W) (n := n) (a := a) (cs := cs) ko L (k + 1) [] [] v' H' (some (.int k)) (some (.str p.1)) (some .non) (fun z hz => ws z (List.mem_cons_of_mem _ hz)) m' (by omega) (by simp) hn
  rw [show ringsS (p :: L) = inR L [] from if_pos q, enum_step (r := forL ok gE lrB (enumL (k + 1) (L.map wv)) [t, W, some (.str (plS .ri)), some (.int (a : Int)), some (.int (0 : Nat)), some (.lst (cs.map .int)), some v', some (.int k), some (.str p.1), some .non, none] H') ko ?_ rfl]
  · exact this
  · rw [lrB_go w, q]
    have c4 : (isT Tk.st .st && decide (pl ≠ .ca)) = true := by simp [isT, hpl]
    rw [c4]
    exact e
theorem cones_go (ko : ∀ H, ok H = true) : ∀ (L : List PW) (k : Nat) (cs : List Int) (o7 o8 o9 : Option AV), Wds L → MR h v6 [] H → k + L.length = n → cs.length ≤ k → n < 40000 →
    Ends h t W n a (cpR a (ringsS (L.drop (ordsF L).length)).2) (cs ++ ordsF L) (ringsS (L.drop (ordsF L).length)).1 ((ringsS (L.drop (ordsF L).length)).2.drop (cpR a (ringsS (L.drop (ordsF L).length)).2)) (forL ok gE lrB (enumL k (L.map wv)) [t, W, some (.str (plS .co)), some (.int (a : Int)), some (.int (0 : Nat)), some (.lst (cs.map .int)), some v6, o7, o8, o9, none] H)
  | [], k, cs, o7, o8, o9, _, m, _, _, _ => by
    have e : cpR a ([] : List PW) = 0 := by unfold cpR; split <;> rfl
    show Ends h t W n a (cpR a []) (cs ++ []) [] (([] : List PW).drop (cpR a [])) _
    rw [e, List.append_nil]
    exact done_go ko m
  | p :: L, k, cs, o7, o8, o9, ws, m, hk, hc, hn => by
    have w := ws p List.mem_cons_self
    have ws' : Wds L := fun z hz => ws z (List.mem_cons_of_mem _ hz)
    rw [ordsF_cons]
    cases hq : p.2 with
    | n z =>
      simp only [List.length_cons] at hk
      have := cones_go ko L (k + 1) (cs ++ [z]) (some (.int k)) (some (.str p.1)) (some (.int z)) ws' m (by omega) (by simp; omega) hn
      rw [List.append_assoc] at this
      rw [enum_step (r := forL ok gE lrB (enumL (k + 1) (L.map wv)) [t, W, some (.str (plS .co)), some (.int (a : Int)), some (.int (0 : Nat)), some (.lst ((cs ++ [z]).map .int)), some v6, some (.int k), some (.str p.1), some (.int z), none] H) ko ?_ rfl]
      · exact this
      · rw [lrB_go w, hq]
        refine par_ok (cons_ok (eBin_go (eVar_ok rfl) (eLst_go (cons_ok (eVar_ok rfl) nil_ok) rfl) (?_ : _ = Res.ok (AV.lst ((cs ++ [z]).map .int)) _)) (cons_ok eC_ok nil_ok)) rfl
        rw [List.map_append]
        exact add_lst (by simp; omega)
    | st =>
      show Ends h t W n a (cpR a (ringsS (p :: L)).2) (cs ++ []) (ringsS (p :: L)).1 ((ringsS (p :: L)).2.drop (cpR a (ringsS (p :: L)).2)) _
      rw [List.append_nil]
      exact star_go' ko (fun z => nomatch z) ws m hk hn hq
    | _ =>
      show Ends h t W n a (cpR a (ringsS (p :: L)).2) (cs ++ []) (ringsS (p :: L)).1 ((ringsS (p :: L)).2.drop (cpR a (ringsS (p :: L)).2)) _
      rw [List.append_nil, ringsS_no (by rw [hq]; exact fun z => nomatch z)]
      exact tail_go ko (fun z => nomatch z) ws m hk (fun _ z => nomatch z) (by rw [hq]; rfl) (by rw [hq]; exact fun z => nomatch z)
theorem handles_go (ko : ∀ H, ok H = true) : ∀ (L : List PW) (k a : Nat) (o7 o8 o9 : Option AV), Wds L → MR h v6 [] H → k + L.length = n → n < 40000 →
    Ends h t W n (a + hsF L) (cpR (a + hsF L) (rqF L).2) (csF L) (rqF L).1 ((rqF L).2.drop (cpR (a + hsF L) (rqF L).2)) (forL ok gE lrB (enumL k (L.map wv)) [t, W, some (.str (plS .ha)), some (.int (a : Int)), some (.int (0 : Nat)), some (.lst (([] : List Int).map .int)), some v6, o7, o8, o9, none] H)
  | [], k, a, o7, o8, o9, _, m, _, _ => by
    have e : cpR a ([] : List PW) = 0 := by unfold cpR; split <;> rfl
    show Ends h t W n a (cpR a []) [] [] (([] : List PW).drop (cpR a [])) _
    rw [e]
    exact done_go ko m
  | p :: L, k, a, o7, o8, o9, ws, m, hk, hn => by
    have w := ws p List.mem_cons_self
    have ws' : Wds L := fun z hz => ws z (List.mem_cons_of_mem _ hz)
    have nz : p.2 ≠ .o → hsF (p :: L) = 0 ∧ csF (p :: L) = ordsF (p :: L) ∧ rqF (p :: L) = ringsS ((p :: L).drop (ordsF (p :: L)).length) := fun z => by
      have e : hsF (p :: L) = 0 := if_neg z
      have e2 : csF (p :: L) = ordsF (p :: L) := by unfold csF; rw [e, List.drop_zero]
      exact ⟨e, e2, by unfold rqF; rw [e, e2, Nat.zero_add]⟩
    cases hq : p.2 with
    | o =>
      simp only [List.length_cons] at hk
      have := handles_go ko L (k + 1) (a + 1) (some (.int k)) (some (.str p.1)) (some .non) ws' m (by omega) hn
      have e : hsF (p :: L) = hsF L + 1 := if_pos hq
      have e2 : csF (p :: L) = csF L := by unfold csF; rw [e, List.drop_succ_cons]
      have e3 : rqF (p :: L) = rqF L := by unfold rqF; rw [e, e2, show hsF L + 1 + (csF L).length = (hsF L + (csF L).length) + 1 by omega, List.drop_succ_cons]
      rw [e, e2, e3, show a + (hsF L + 1) = a + 1 + hsF L by omega, enum_step (r := forL ok gE lrB (enumL (k + 1) (L.map wv)) [t, W, some (.str (plS .ha)), some (.int ((a + 1 : Nat) : Int)), some (.int (0 : Nat)), some (.lst (([] : List Int).map .int)), some v6, some (.int k), some (.str p.1), some .non, none] H) ko ?_ rfl]
      · exact this
      · rw [lrB_go w, hq]
        show lr1 [t, W, some (.str (plS .ha)), some (.int (a : Nat)), some (.int (0 : Nat)), some (.lst (([] : List Int).map .int)), some v6, some (.int k), some (.str p.1), some .non, none] H = _
        exact asg_ok (eBin_go (eVar_ok rfl) eC_ok add_int)
    | n z =>
      obtain ⟨e1, e2, e3⟩ := nz (by rw [hq]; exact fun z => nomatch z)
      rw [e1, e2, e3, Nat.add_zero, ordsF_cons, hq]
      simp only [List.length_cons] at hk
      have := cones_go (h := h) (H := H) (t := t) (W := W) (v6 := v6) (n := n) (a := a) ko L (k + 1) [z] (some (.int k)) (some (.str p.1)) (some (.int z)) ws' m (by omega) (by simp) hn
      rw [enum_step (r := forL ok gE lrB (enumL (k + 1) (L.map wv)) [t, W, some (.str (plS .co)), some (.int (a : Int)), some (.int (0 : Nat)), some (.lst (([z] : List Int).map .int)), some v6, some (.int k), some (.str p.1), some (.int z), none] H) ko ?_ rfl]
      · exact this
      · rw [lrB_go w, hq]
        show lr2 [t, W, some (.str (plS .ha)), some (.int (a : Nat)), some (.int (0 : Nat)), some (.lst (([] : List Int).map .int)), some v6, some (.int k), some (.str p.1), some (.int z), none] H = _
        exact par_ok (cons_ok (eBin_go (eVar_ok rfl) (eLst_go (cons_ok (eVar_ok rfl) nil_ok) rfl) (add_lst (a := []) (by simp))) (cons_ok eC_ok nil_ok)) rfl
    | st =>
      obtain ⟨e1, e2, e3⟩ := nz (by rw [hq]; exact fun z => nomatch z)
      rw [e1, e2, e3, Nat.add_zero, ordsF_cons, hq]
      exact star_go' ko (fun z => nomatch z) ws m hk hn hq
    | _ =>
      obtain ⟨e1, e2, e3⟩ := nz (by rw [hq]; exact fun z => nomatch z)
      rw [e1, e2, e3, Nat.add_zero, ordsF_cons, hq]
      show Ends h t W n a (cpR a (ringsS (p :: L)).2) [] (ringsS (p :: L)).1 ((ringsS (p :: L)).2.drop (cpR a (ringsS (p :: L)).2)) _
      rw [ringsS_no (by rw [hq]; exact fun z => nomatch z)]
      exact tail_go ko (fun z => nomatch z) ws m hk (fun z => by rw [hq] at z; exact nomatch z) (by rw [hq]; rfl) (by rw [hq]; exact fun z => nomatch z)
end
end Law

namespace Law
open PySem PySem.Spec L2 AVL
local macro_rules
  | `(tactic| decreasing_trivial_pre_omega) => `(tactic| repeat' (first | with_reducible assumption | exact eVar_ok rfl | exact eC_ok | exact nil_ok | exact oNo_ok | with_reducible apply cons_ok | with_reducible apply eBin_go | with_reducible apply eCall_go | with_reducible apply eBlt_go | with_reducible apply eTup_go | with_reducible apply eLst_go | with_reducible apply eLstN_go | with_reducible apply eAttr_go | with_reducible apply eSl_go | with_reducible apply oPart_go | with_reducible apply eRev_go | with_reducible apply eMt_go | with_reducible apply eUn_go | with_reducible apply eCallD_go | with_reducible apply star_go | with_reducible apply tV_go | exact rfl))
/-! _law_read -/
theorem rows_of {H : AH} : ∀ (is : List Nat) (ms : List (List Int)), is.map (fun i => H[i]?) = ms.map (fun r => some (Cell.lst (r.map .int))) → ∃ rs : List (AV × List Int), rs.map (·.1) = is.map AV.ref ∧ rs.map (·.2) = ms ∧ ∀ p ∈ rs, ∃ i, p.1 = .ref i ∧ H[i]? = some (.lst (p.2.map .int))
  | [], [], _ => ⟨[], rfl, rfl, fun p hp => nomatch hp⟩
  | [], _ :: _, e => by simp at e
  | _ :: _, [], e => by simp at e
  | i :: is, r :: ms, e => by
    simp only [List.map_cons, List.cons.injEq] at e
    obtain ⟨rs, a, b, c⟩ := rows_of is ms e.2
    refine ⟨(.ref i, r) :: rs, by simp [a], by simp [b], fun p hp => ?_⟩
    rcases List.mem_cons.mp hp with rfl | hp
    · exact ⟨i, rfl, e.1⟩
    · exact c p hp
theorem okL_ref {H : AH} {k : Nat} {l : List AV} (e : H[k]? = some (.lst l)) : okL (.ref k) l H = true := by
  unfold okL
  have : itemsL H (.ref k) = some l := by
    show (match H[k]? with | some (.lst l) => some l | _ => none) = _
    rw [e]
  rw [this]
  exact beqVs_refl l
theorem MR.rows {h H : AH} {v : AV} {ms : List (List Int)} (m : MR h v ms H) : ∃ rs : List (AV × List Int), itemsL H v = some (rs.map (·.1)) ∧ okL v (rs.map (·.1)) H = true ∧ rs.map (·.2) = ms ∧ ∀ p ∈ rs, Row H p.1 (p.2.map .int) ∧ ∀ l, p.1 ≠ .tup l := by
  rcases m.2 with ⟨rfl, rfl⟩ | ⟨k, is, rfl, e1, e2, e3, e4⟩
  · exact ⟨[], rfl, rfl, rfl, fun p hp => nomatch hp⟩
  · obtain ⟨rs, a, b, c⟩ := rows_of is ms e4
    refine ⟨rs, ?_, by rw [a]; exact okL_ref e1, b, fun p hp => ?_⟩
    · show (match H[k]? with | some (.lst l) => some l | _ => none) = _
      rw [e1, a]
    · obtain ⟨i, e, f⟩ := c p hp
      exact ⟨.inr (.inr ⟨i, e, f⟩), fun l => by rw [e]; exact fun z => nomatch z⟩
def lrE : SM := sRet (eTup (aCons (eVar 3) (aCons (eVar 4) (aCons (eBlt mTuple (aCons (eBlt (mSorted false) (aCons (eVar 5) (aNil))) (aNil))) (aCons (eBlt mTuple (aCons (eBlt (mSorted false) (aCons (eComp false (itSeq (eVar 6)) (AVL.gName 10) (tTrue) (eCall 1 m_law_least (aCons (eVar 10) (aNil))) [10]) (aNil))) (aNil))) (aNil))))))
def lr0 : SM := sAsg (eTup (aCons (eMt "str" (mSplit false) (eVar 0) (aCons (eC (.str " ")) (aNil))) (aCons (eC (.str "handles")) (aCons (eC (.int 0)) (aCons (eC (.int 0)) (aCons (eLst false (aNil)) (aCons (eLst false (aNil)) (aNil)))))))) (AVL.gTup 6 (AVL.gsCons (AVL.gName 1) (AVL.gsCons (AVL.gName 2) (AVL.gsCons (AVL.gName 3) (AVL.gsCons (AVL.gName 4) (AVL.gsCons (AVL.gName 5) (AVL.gsCons (AVL.gName 6) (AVL.gsNil))))))))
def lrD : SM := sIf (tV (eBin (mEq false) (eBin mIx (eVar 1) (eC (.int 0))) (eC (.str "-")))) (sRet (eIf (tV (eBin (mEq false) (eBlt mLen (aCons (eVar 1) (aNil))) (eC (.int 1)))) (eTup (aCons (eC (.int 0)) (aCons (eC (.int 0)) (aCons (eTup (aNil)) (aCons (eTup (aNil)) (aNil)))))) (eC (.int 1)))) (sNext)
theorem lread_split : b_law_read = sSeq lr0 (sSeq lrD (sSeq (sFor (itEnum (aCons (eVar 1) (aNil))) gE lrB) lrE)) := rfl
section
variable {h : AH} {s : Str} {l L : List PW} {p : PW}
theorem lread_head (sp : Spl s l) : lr0 [some (.str s), none, none, none, none, none, none, none, none, none, none] h = .next [some (.str s), some (WL l), some (.str (plS .ha)), some (.int 0), some (.int 0), some (.lst []), some (.lst []), none, none, none, none] h := by
  unfold lr0 sAsg
  rw [eTup_go (cons_ok (eMt_go (eVar_ok rfl) rfl (cons_ok eC_ok nil_ok) (sp.2.2.2 h)) (cons_ok eC_ok (cons_ok eC_ok (cons_ok eC_ok (cons_ok (eLst_go nil_ok rfl) (cons_ok (eLst_go nil_ok rfl) nil_ok)))))) rfl]
  rfl
theorem lread_one (sp : Spl s [p]) (d : p.2 = .da) : m_law_read [.str s] h = .ok (parts 0 0 [] []) h := by
  refine mk_go (sl := [some (.str s), none, none, none, none, none, none, none, none, none, none]) rfl (h1 := h) (v := parts 0 0 [] []) ?_ (lv_same rfl)
  rw [lread_split]
  refine seq_go (lread_head sp) (seq_ret (if_yes ((first_da sp.1 rfl).trans (by simp [isT, d] <;> rfl)) (ret_ok (eIf_yes (tV_go (eBin_go (eBlt_go (cons_ok (eVar_ok rfl) nil_ok) len_WL) eC_ok eq_int)) ?_))))
  exact eTup_go (cons_ok eC_ok (cons_ok eC_ok (cons_ok (eTup_go nil_ok rfl) (cons_ok (eTup_go nil_ok rfl) nil_ok)))) rfl
theorem lread_more (sp : Spl s (p :: L)) (d : p.2 = .da) (k : L ≠ []) : m_law_read [.str s] h = .ok (.int 1) h := by
  have ll : 0 < L.length := List.length_pos_iff.mpr k
  refine mk_go (sl := [some (.str s), none, none, none, none, none, none, none, none, none, none]) rfl (h1 := h) (v := .int 1) ?_ (lv_same rfl)
  rw [lread_split]
  refine seq_go (lread_head sp) (seq_ret (if_yes ((first_da sp.1 rfl).trans (by simp [isT, d] <;> rfl)) (ret_ok (eIf_no (tV_go ((eBin_go (eBlt_go (cons_ok (eVar_ok rfl) nil_ok) len_WL) eC_ok eq_int).trans ?_)) eC_ok))))
  rw [show decide ((((p :: L).length : Nat) : Int) = 1) = false from decide_eq_false (by simp only [List.length_cons]; omega)]
theorem bnd_parts {m : Nat} {hd cp : Int} {cs : List Int} {rs : List (List Int)} : bnd m (parts hd cp cs rs) = true := by
  refine bnd_of ?_
  show (bnd 0 (.int hd) && (bnd 0 (.int cp) && (bnd 0 (IT cs) && (bnds 0 (rs.map IT) && true)))) = true
  rw [bnd_IT, bnds_ITs]; rfl
theorem lread_loop (sp : Spl s (p :: L)) (hn : (p :: L).length < 40000) : ∃ r, sFor (itEnum (aCons (eVar 1) (aNil))) gE lrB [some (.str s), some (WL (p :: L)), some (.str (plS .ha)), some (.int 0), some (.int 0), some (.lst []), some (.lst []), none, none, none, none] h = r ∧
    Ends h (some (.str s)) (some (WL (p :: L))) (p :: L).length (hsF (p :: L)) (cpF (p :: L)) (csF (p :: L)) (rqF (p :: L)).1 ((rqF (p :: L)).2.drop (cpF (p :: L))) r := by
  generalize p :: L = l at *
  refine ⟨_, rfl, ?_⟩
  have g := handles_go (h := h) (H := h) (t := some (.str s)) (W := some (WL l)) (v6 := .lst []) (n := l.length) (ok := okL (WL l) (l.map fun p => .str p.1)) (fun H => by
    unfold okL
    exact beqVs_refl _) l 0 0 none none none sp.1 ⟨⟨[], by simp⟩, .inl ⟨rfl, rfl⟩⟩ (by omega) hn
  rw [Nat.zero_add] at g
  have e : sFor (itEnum (aCons (eVar 1) (aNil))) gE lrB [some (.str s), some (WL l), some (.str (plS .ha)), some (.int 0), some (.int 0), some (.lst []), some (.lst []), none, none, none, none] h = forL (okL (WL l) (l.map fun p => .str p.1)) gE lrB (enumL 0 (l.map wv)) [some (.str s), some (WL l), some (.str (plS .ha)), some (.int 0), some (.int 0), some (.lst []), some (.lst []), none, none, none, none] h := rfl
  rw [e]
  exact g
theorem lread_bad (sp : Spl s (p :: L)) (d : p.2 ≠ .da) (hn : (p :: L).length < 40000) (k : enF (p :: L) < (p :: L).length) : m_law_read [.str s] h = .ok (.int (enF (p :: L) : Nat)) h := by
  obtain ⟨r, e, g⟩ := lread_loop (h := h) sp hn
  have fi : tV (eBin (mEq false) (eBin mIx (eVar 1) (eC (.int 0))) (eC (.str "-"))) [some (.str s), some (WL (p :: L)), some (.str (plS .ha)), some (.int 0), some (.int 0), some (.lst []), some (.lst []), none, none, none, none] h = .ok false h := (first_da sp.1 rfl).trans (by simp [isT, d] <;> rfl)
  have hd := lread_head (h := h) sp
  generalize p :: L = l at *
  obtain ⟨dr, da, db, dc⟩ := rqF_drop l
  have rl : ((rqF l).2.drop (cpF l)).length = l.length - enF l := by
    rw [dr, List.length_drop, List.length_drop]; unfold enF; omega
  rcases g with ⟨q, _⟩ | ⟨_, D, rfl⟩
  · rw [q] at rl; simp at rl; omega
  · refine mk_go (sl := [some (.str s), none, none, none, none, none, none, none, none, none, none]) rfl (h1 := h ++ D) (v := .int (enF l : Nat)) ?_ (lv_app rfl)
    rw [lread_split]
    refine seq_go hd (seq_go (if_no fi next_ok) (seq_ret ?_))
    rw [e, rl, show l.length - (l.length - enF l) = enF l by omega]
theorem lread_good (sp : Spl s (p :: L)) (d : p.2 ≠ .da) (hn : (p :: L).length < 5000) (k : enF (p :: L) = (p :: L).length) (h5 : ∀ r ∈ (rqF (p :: L)).1, (∀ z ∈ r, Good z) ∧ r.length ≤ 500) : m_law_read [.str s] h = .ok (parts (hsF (p :: L) : Nat) (cpF (p :: L) : Nat) (sortI (csF (p :: L))) (sortR ((rqF (p :: L)).1.map least))) h := by
  obtain ⟨r, e, g⟩ := lread_loop (h := h) sp (by omega)
  have fi : tV (eBin (mEq false) (eBin mIx (eVar 1) (eC (.int 0))) (eC (.str "-"))) [some (.str s), some (WL (p :: L)), some (.str (plS .ha)), some (.int 0), some (.int 0), some (.lst []), some (.lst []), none, none, none, none] h = .ok false h := (first_da sp.1 rfl).trans (by simp [isT, d] <;> rfl)
  have hd := lread_head (h := h) sp
  generalize p :: L = l at *
  obtain ⟨dr, da, db, dc⟩ := rqF_drop l
  have rl : ((rqF l).2.drop (cpF l)).length = l.length - enF l := by
    rw [dr, List.length_drop, List.length_drop]; unfold enF; omega
  rcases g with ⟨_, v6, o2, o7, o8, o9, H', rfl, m⟩ | ⟨q, _⟩
  · obtain ⟨rs, r1, r2, r3, r4⟩ := m.rows
    obtain ⟨⟨D, rfl⟩, _⟩ := id m
    refine mk_go (sl := [some (.str s), none, none, none, none, none, none, none, none, none, none]) rfl (h1 := h ++ D) (v := parts (hsF l : Nat) (cpF l : Nat) (sortI (csF l)) (sortR ((rqF l).1.map least))) ?_ (lv_app bnd_parts)
    rw [lread_split]
    refine seq_go hd (seq_go (if_no fi next_ok) (seq_go e ?_))
    have lc := (ordsF_len (l.drop (hsF l)))
    have hs := hsF_le l
    have so : mSorted false [.lst ((csF l).map .int)] (h ++ D) = .ok (.lst ((sortI (csF l)).map .int)) (h ++ D) := sorted_ints rfl (by omega)
    have ll : rs.length ≤ 5000 := by
      have := congrArg List.length r3
      rw [List.length_map] at this
      omega
    have it : itSeq (eVar 6) [some (.str s), some (WL l), o2, some (.int (hsF l : Nat)), some (.int (cpF l : Nat)), some (.lst ((csF l).map .int)), some v6, o7, o8, o9, none] (h ++ D) = .ok (rs.map (·.1), okL v6 (rs.map (·.1))) (h ++ D) := by
      unfold itSeq
      rw [eVar_ok (x := v6) rfl]
      rcases m.2 with ⟨rfl, _⟩ | ⟨k, is, rfl, _⟩
      · show (match itemsL (h ++ D) (.lst []) with | some l => Res.ok (l, okL (.lst []) l) (h ++ D) | none => .stuck) = _
        rw [r1]
      · show (match itemsL (h ++ D) (.ref k) with | some l => Res.ok (l, okL (.ref k) l) (h ++ D) | none => .stuck) = _
        rw [r1]
    have cp := eComp_map (vs := [10]) (slw := [some (.str s), some (WL l), o2, some (.int (hsF l : Nat)), some (.int (cpF l : Nat)), some (.lst ((csF l).map .int)), some v6, o7, o8, o9, none]) (q := fun p : AV × List Int => IT (least p.2)) (i := 10) (fe := eCall 1 m_law_least (aCons (eVar 10) (aNil))) it r2 (by omega) rfl (fun q hq => by
      have := r3 ▸ List.mem_map_of_mem (f := fun p : AV × List Int => p.2) hq
      exact eCall_go (cons_ok (eVar_ok rfl) nil_ok) rfl (law_least_ok (r4 q hq).1 (r4 q hq).2 (h5 _ this).2))
    have s2 : mSorted false [.lst (rs.map fun p : AV × List Int => IT (least p.2))] (h ++ D) = .ok (.lst ((sortR ((rqF l).1.map least)).map IT)) (h ++ D) := by
      refine sorted_ITs ?_ (by simp; omega)
      rw [← r3]
      show some _ = some _
      simp [Function.comp_def]
    exact ret_ok (eTup_go (cons_ok (eVar_ok rfl) (cons_ok (eVar_ok rfl) (cons_ok (eBlt_go (cons_ok (eBlt_go (cons_ok (eVar_ok rfl) nil_ok) so) nil_ok) rfl) (cons_ok (eBlt_go (cons_ok (eBlt_go (cons_ok cp nil_ok) s2) nil_ok) rfl) nil_ok)))) rfl)
  · have : ((rqF l).2.drop (cpF l)) = [] := List.length_eq_zero_iff.mp (by omega)
    exact absurd this q
end
end Law

namespace Law
open PySem PySem.Spec L2 AVL
local macro_rules
  | `(tactic| decreasing_trivial_pre_omega) => `(tactic| repeat' (first | with_reducible assumption | exact eVar_ok rfl | exact eC_ok | exact nil_ok | exact oNo_ok | with_reducible apply cons_ok | with_reducible apply eBin_go | with_reducible apply eCall_go | with_reducible apply eBlt_go | with_reducible apply eTup_go | with_reducible apply eLst_go | with_reducible apply eLstN_go | with_reducible apply eAttr_go | with_reducible apply eSl_go | with_reducible apply oPart_go | with_reducible apply eRev_go | with_reducible apply eMt_go | with_reducible apply eUn_go | with_reducible apply eCallD_go | with_reducible apply star_go | with_reducible apply tV_go | exact rfl))
/-! a drawn signature, its text -/
def InV (k : Int) : Prop := k ∈ ([2, 3, 4, 10, 11, 20, 99, 100, 120] : List Int)
theorem InV.good {k : Int} (q : InV k) : Good k := by
  unfold InV at q
  unfold Good
  simp at q
  omega
structure Fld (hd cp : Nat) (cs : List Int) (rs : List (List Int)) : Prop where
  h : hd ≤ 601
  c : cp ≤ 601
  z : hd = 0 ∨ cp = 0
  cl : cs.length ≤ 200
  co : ∀ k ∈ cs, InV k
  rl : rs.length ≤ 4
  rr : ∀ r ∈ rs, r.length ≤ 100
  ro : ∀ r ∈ rs, ∀ k ∈ r, InV k
def hcL : List AV := [.tup [.int 0, .int 0], .tup [.int 0, .int 0], .tup [.int 1, .int 0], .tup [.int 3, .int 0], .tup [.int 0, .int 1], .tup [.int 0, .int 4]]
theorem asgT2 {e : EM} {sl : SL} {h h1 : AH} {a b : AV} {i j : Nat} (x : e sl h = .ok (.tup [a, b]) h1) : sAsg e (AVL.gTup 2 (AVL.gsCons (AVL.gName i) (AVL.gsCons (AVL.gName j) (AVL.gsNil)))) sl h = .next ((sl.set i (some a)).set j (some b)) h1 := by
  unfold sAsg
  rw [x]; rfl
def hcE : EM := eLst false (aCons (eTup (aCons (eC (.int 0)) (aCons (eC (.int 0)) (aNil)))) (aCons (eTup (aCons (eC (.int 0)) (aCons (eC (.int 0)) (aNil)))) (aCons (eTup (aCons (eC (.int 1)) (aCons (eC (.int 0)) (aNil)))) (aCons (eTup (aCons (eC (.int 3)) (aCons (eC (.int 0)) (aNil)))) (aCons (eTup (aCons (eC (.int 0)) (aCons (eC (.int 1)) (aNil)))) (aCons (eTup (aCons (eC (.int 0)) (aCons (eC (.int 4)) (aNil)))) (aNil)))))))
theorem pickI {c : List Int} (hc : CellsOk c) {C : AH} {L : List Int} (l0 : 0 < L.length) (l1 : L.length < 1000) {A : EM} {sl : SL} {N : Nat} {h : AH} (p : Pen C c N h) (hp : sl[0]? = some (some (.ref 0))) (hN : N + 1 < 500000) (e : A sl h = .ok (.lst (L.map .int)) h) :
    ∃ x h', eCall 2 m_law_pick (aCons (eVar 0) (aCons A (aNil))) sl h = .ok (.int x) h' ∧ Pen C c (N + 1) h' ∧ x ∈ L := by
  obtain ⟨i, h', e1, p1, q1⟩ := pick_ints hc p (by omega) l0 l1
  exact ⟨i, h', eCall_go (cons_ok (eVar_ok hp) (cons_ok e nil_ok)) rfl e1, p1, q1⟩
theorem drawn_ok {c : List Int} (hc : CellsOk c) {N : Nat} {h : AH} (p : Pen [] c N h) (hN : N + 100 < 400000) : ∃ (hd cp : Nat) (cs : List Int) (rs : List (List Int)) (h' : AH), m_law_drawn_sign [.ref 0] h = .ok (.tup [.int (hd : Nat), .int (cp : Nat), .lst (cs.map .int), .lst (LL rs)]) h' ∧ Pen [] c (N + 100) h' ∧ Fld hd cp cs rs ∧ (hd ≤ 4 ∧ cp ≤ 4) ∧ cs.length ≤ 4 ∧ rs.length ≤ 3 ∧ ∀ r ∈ rs, r.length ≤ 4 := by
  obtain ⟨x, h1, e1, p1, q1⟩ := pickB_ok (draws hc) (L := hcL) p (by omega) (by decide) (by decide) rfl
  rw [← pick_eq] at e1
  have e0 : hcE [some (.ref 0), none, none, none, none, none, none] h = .ok (.lst hcL) h := by kernel_rfl
  obtain ⟨hd, cp, rfl, a1, a2, a3⟩ : ∃ hd cp : Nat, x = .tup [.int (hd : Nat), .int (cp : Nat)] ∧ hd ≤ 4 ∧ cp ≤ 4 ∧ (hd = 0 ∨ cp = 0) := by
    simp only [hcL, List.mem_cons, List.not_mem_nil, or_false] at q1
    rcases q1 with rfl | rfl | rfl | rfl | rfl | rfl
    · exact ⟨0, 0, rfl, by omega, by omega, by omega⟩
    · exact ⟨0, 0, rfl, by omega, by omega, by omega⟩
    · exact ⟨1, 0, rfl, by omega, by omega, by omega⟩
    · exact ⟨3, 0, rfl, by omega, by omega, by omega⟩
    · exact ⟨0, 1, rfl, by omega, by omega, by omega⟩
    · exact ⟨0, 4, rfl, by omega, by omega, by omega⟩
  have D := draws hc
  obtain ⟨cs, h2, e2, p2, l2, q2⟩ := eComp_draw (C := []) (T := Int) (enc := .int) (Q := InV) (B := 1) (lim := 400050 + 90000) (j := 4) (vs := [4]) (many := 5) (slw := [some (.ref 0), some (.int (hd : Nat)), some (.int (cp : Nat)), none, none, none, none])
    (fe := eCall 2 m_law_pick (aCons (eVar 0) (aCons (eLst false (aCons (eC (.int 2)) (aCons (eC (.int 3)) (aCons (eC (.int 4)) (aCons (eC (.int 11)) (aCons (eC (.int 20)) (aCons (eC (.int 99)) (aCons (eC (.int 100)) (aCons (eC (.int 120)) (aNil)))))))))) (aNil))))
    (A := eC .non) D (sl := [some (.ref 0), some (.int (hd : Nat)), some (.int (cp : Nat)), none, none, none, none]) p1 rfl (by decide) (by decide) rfl (by decide) (fun y M H pM hM => by
      obtain ⟨x, h', a, b, d⟩ := pickI hc (L := [2, 3, 4, 11, 20, 99, 100, 120]) (by decide) (by decide) (sl := [some (.ref 0), some (.int (hd : Nat)), some (.int (cp : Nat)), none, some y, none, none]) pM rfl (by omega) (eLst_go (cons_ok eC_ok (cons_ok eC_ok (cons_ok eC_ok (cons_ok eC_ok (cons_ok eC_ok (cons_ok eC_ok (cons_ok eC_ok (cons_ok eC_ok nil_ok)))))))) rfl)
      refine ⟨x, h', a, b, ?_⟩
      unfold InV
      simp at d ⊢
      omega) (by simp; omega)
  have st : ∀ (y : AV) (M : Nat) (H : AH), Pen [] c M H → M + 6 < 490000 → ∃ (r : List Int) (h' : AH), eComp false (itRng1 (aCons (eCall 2 m_law_draw (aCons (eVar 0) (aCons (eC (.int 5)) (aNil)))) (aNil))) (AVL.gName 6) (tTrue) (eCall 2 m_law_pick (aCons (eVar 0) (aCons (eLst false (aCons (eC (.int 2)) (aCons (eC (.int 3)) (aCons (eC (.int 10)) (aCons (eC (.int 120)) (aNil)))))) (aNil)))) [6] [some (.ref 0), some (.int (hd : Nat)), some (.int (cp : Nat)), some (.lst (cs.map .int)), some y, none, none] H = .ok (.lst (r.map .int)) h' ∧ Pen [] c (M + 6) h' ∧ (r.length ≤ 4 ∧ ∀ k ∈ r, InV k) := fun y M H pM hM => by
    obtain ⟨r, h', a, b, d, e⟩ := eComp_draw (C := []) (T := Int) (enc := .int) (Q := InV) (B := 1) (lim := 490010) (j := 6) (vs := [6]) (many := 5) (slw := [some (.ref 0), some (.int (hd : Nat)), some (.int (cp : Nat)), some (.lst (cs.map .int)), some y, none, none])
      (fe := eCall 2 m_law_pick (aCons (eVar 0) (aCons (eLst false (aCons (eC (.int 2)) (aCons (eC (.int 3)) (aCons (eC (.int 10)) (aCons (eC (.int 120)) (aNil)))))) (aNil))))
      (A := eC .non) D (sl := [some (.ref 0), some (.int (hd : Nat)), some (.int (cp : Nat)), some (.lst (cs.map .int)), some y, none, none]) pM rfl (by decide) (by decide) rfl (by decide) (fun y2 M H pM hM => by
        obtain ⟨x, h', a, b, d⟩ := pickI hc (L := [2, 3, 10, 120]) (by decide) (by decide) (sl := [some (.ref 0), some (.int (hd : Nat)), some (.int (cp : Nat)), some (.lst (cs.map .int)), some y, none, some y2]) pM rfl (by omega) (eLst_go (cons_ok eC_ok (cons_ok eC_ok (cons_ok eC_ok (cons_ok eC_ok nil_ok)))) rfl)
        refine ⟨x, h', a, b, ?_⟩
        unfold InV
        simp at d ⊢
        omega) (by simp; omega)
    exact ⟨r, h', a, b.mono (by simp), by simp at d; omega, e⟩
  obtain ⟨rs, h3, e3, p3, l3, q3⟩ := eComp_draw (C := []) (T := List Int) (enc := fun r => .lst (r.map .int)) (Q := fun r => r.length ≤ 4 ∧ ∀ k ∈ r, InV k) (B := 6) (lim := 490000) (j := 4) (vs := [4]) (many := 4) (slw := [some (.ref 0), some (.int (hd : Nat)), some (.int (cp : Nat)), some (.lst (cs.map .int)), none, none, none])
    (fe := eComp false (itRng1 (aCons (eCall 2 m_law_draw (aCons (eVar 0) (aCons (eC (.int 5)) (aNil)))) (aNil))) (AVL.gName 6) (tTrue) (eCall 2 m_law_pick (aCons (eVar 0) (aCons (eLst false (aCons (eC (.int 2)) (aCons (eC (.int 3)) (aCons (eC (.int 10)) (aCons (eC (.int 120)) (aNil)))))) (aNil)))) [6])
    (A := eC .non) D (sl := [some (.ref 0), some (.int (hd : Nat)), some (.int (cp : Nat)), some (.lst (cs.map .int)), none, none, none]) p2 rfl (by decide) (by decide) rfl (by decide) st (by simp; omega)
  simp only [Int.reduceToNat, Nat.reduceMul] at p3 l3 p2 l2
  refine ⟨hd, cp, cs, rs, h3, ?_, p3.mono (by omega), ⟨by omega, by omega, a3, by omega, q2, by omega, fun r hr => by have := (q3 r hr).1; omega, fun r hr => (q3 r hr).2⟩, ⟨a1, a2⟩, by omega, by omega, fun r hr => (q3 r hr).1⟩
  refine mk_go (sl := [some (.ref 0), none, none, none, none, none, none]) rfl (h1 := h3) (v := .tup [.int (hd : Nat), .int (cp : Nat), .lst (cs.map .int), .lst (LL rs)]) ?_ (Pen.leave p p3 (bnd_of ?_))
  · refine seq_go (asgT2 (eCall_go (cons_ok (eVar_ok rfl) (cons_ok e0 nil_ok)) rfl e1)) ?_
    refine seq_go (asg_ok e2) (seq_go (asg_ok e3) (ret_ok (eTup_go (cons_ok (eVar_ok rfl) (cons_ok (eVar_ok rfl) (cons_ok (eVar_ok rfl) (cons_ok (eVar_ok rfl) nil_ok)))) rfl)))
  · show (true && (true && (bnds 0 (cs.map .int) && (bnds 0 (LL rs) && true)))) = true
    rw [bnds_LL, bnds_ints]; rfl
end Law

namespace Law
open PySem PySem.Spec L2 AVL
local macro_rules
  | `(tactic| decreasing_trivial_pre_omega) => `(tactic| repeat' (first | with_reducible assumption | exact eVar_ok rfl | exact eC_ok | exact nil_ok | exact oNo_ok | with_reducible apply cons_ok | with_reducible apply eBin_go | with_reducible apply eCall_go | with_reducible apply eBlt_go | with_reducible apply eTup_go | with_reducible apply eLst_go | with_reducible apply eLstN_go | with_reducible apply eAttr_go | with_reducible apply eSl_go | with_reducible apply oPart_go | with_reducible apply eRev_go | with_reducible apply eMt_go | with_reducible apply eUn_go | with_reducible apply eCallD_go | with_reducible apply star_go | with_reducible apply tV_go | exact rfl))
/-! texts -/
def wdN (k : Int) : PW := (Str.ofString (toString k), .n k)
theorem wdN_ok {k : Int} (q : InV k) : Wd (wdN k).1 (.n k) := by
  unfold InV at q
  simp only [List.mem_cons, List.not_mem_nil, or_false] at q
  unfold Wd
  rcases q with rfl | rfl | rfl | rfl | rfl | rfl | rfl | rfl | rfl <;> decide +kernel
def ringW (r : List Int) : List PW := ("*", .st) :: r.map wdN
def TW (hd cp : Nat) (cs : List Int) (rs : List (List Int)) : List PW := List.replicate hd (("o", .o) : PW) ++ cs.map wdN ++ rs.flatMap ringW ++ List.replicate cp (("x", .x) : PW)
def orNone (l : List PW) : List PW := if l = [] then [("-", .da)] else l
def txt (l : List PW) : Str := Txt.join " " (l.map (·.1))
section
variable {h h1 : AH} {sl : SL} {fe : EM} {x : AV} {l : List AV} {j : Nat} {cs : List Int}
theorem rep_one {y : AV} {k : Nat} (hk : k ≤ 10000) : mMul false (.lst [y]) (.int (k : Nat)) h = .ok (.lst (List.replicate k y)) h := by
  show (if repOk 1 (k : Nat) then Res.ok (AV.lst (List.replicate ((k : Nat) : Int).toNat [y]).flatten) h else .stuck) = _
  rw [if_pos (by unfold repOk; rw [sizeLine_eq]; simp; omega)]
  simp
theorem seq_row (a : fe sl h = .ok x h1) (r : Row h1 x l) : ∃ ok, itSeq fe sl h = .ok (l, ok) h1 ∧ ok h1 = true := by
  rcases r with rfl | rfl | ⟨k, rfl, e⟩
  · exact ⟨_, seq_tup a, rfl⟩
  · exact ⟨_, seq_lst a, okL_lst⟩
  · refine ⟨okL (.ref k) l, ?_, okL_ref e⟩
    unfold itSeq
    rw [a]
    show (match itemsL h1 (.ref k) with | some l => Res.ok (l, okL (.ref k) l) h1 | none => .stuck) = _
    have : itemsL h1 (.ref k) = some l := by
      show (match h1[k]? with | some (.lst l) => some l | _ => none) = _
      rw [e]
    rw [this]
theorem str_int {k : Int} (q : Good k) : mStr [.int k] h = .ok (wv (wdN k)) h := by
  show (if k.natAbs.log2 < 1920 then Res.ok (AV.str (Str.ofString (toString k))) h else .stuck) = _
  unfold Good at q
  have lg : k.natAbs.log2 < 10 := PySem.Flt.log2_lt_of (by decide) (show k.natAbs < 2 ^ 10 by omega)
  rw [if_pos (show k.natAbs.log2 < 1920 by omega)]
  rfl
theorem comp_str (a : fe sl h = .ok x h) (r : Row h x (cs.map .int)) (g : ∀ k ∈ cs, Good k) (hl : cs.length ≤ 10000) (hj : j < sl.length) : eComp false (itSeq fe) (AVL.gName j) (tTrue) (eBlt mStr (aCons (eVar j) (aNil))) [j] sl h = .ok (.lst (cs.map fun k => wv (wdN k))) h := by
  obtain ⟨ok, e, f⟩ := seq_row a r
  refine eComp_map (f := AV.int) (q := fun k => wv (wdN k)) (l := cs) e f (by omega) rfl fun k hk => ?_
  refine eBlt_go (cons_ok (eVar_ok ?_) nil_ok) (str_int (g k hk))
  rw [List.getElem?_set_self]
  show j < ((sl.set j none)).length
  simpa using hj
end
def wvs (l : List PW) : AV := .lst (l.map wv)
def RowsR (h : AH) (ps : List (AV × List Int)) : Prop := ∀ p ∈ ps, Row h p.1 (p.2.map .int) ∧ (∀ k ∈ p.2, Good k) ∧ p.2.length ≤ 100
theorem ring_len {ps : List (AV × List Int)} {h : AH} (q : RowsR h ps) : ((ps.map (·.2)).flatMap ringW).length ≤ 101 * ps.length := by
  induction ps with
  | nil => simp
  | cons p ps ih =>
    have := ih fun z hz => q z (List.mem_cons_of_mem _ hz)
    have := (q p List.mem_cons_self).2.2
    rw [List.map_cons, List.flatMap_cons, List.length_append, List.length_cons]
    simp only [ringW, List.length_cons, List.length_map]
    unfold ringW at *
    omega
def ltB : SM := sAsg (eBin (mAdd false) (eBin (mAdd false) (eVar 4) (eLst false (aCons (eC (.str "*")) (aNil)))) (eComp false (itSeq (eVar 6)) (AVL.gName 5) (tTrue) (eBlt mStr (aCons (eVar 5) (aNil))) [5])) (AVL.gName 4)
theorem lt_loop {h : AH} {ok : AH → Bool} (ko : ok h = true) {s0 s1 s2 s3 : Option AV} : ∀ (ps : List (AV × List Int)) (acc : List PW) (s5 s6 : Option AV), RowsR h ps → acc.length + 101 * ps.length ≤ 50000 →
    ∃ o2 r2, forL ok (AVL.gName 6) ltB (ps.map (·.1)) [s0, s1, s2, s3, some (wvs acc), s5, s6] h = .next [s0, s1, s2, s3, some (wvs (acc ++ (ps.map (·.2)).flatMap ringW)), o2, r2] h
  | [], acc, s5, s6, _, _ => ⟨s5, s6, by rw [show acc ++ (([] : List (AV × List Int)).map (·.2)).flatMap ringW = acc by simp]; exact forL_nil ko⟩
  | p :: ps, acc, s5, s6, q, hl => by
    obtain ⟨a, b, d⟩ := q p List.mem_cons_self
    simp only [List.length_cons] at hl
    obtain ⟨o2, r2, f⟩ := lt_loop ko (s0 := s0) ps (acc ++ ringW p.2) s5 (some p.1) (fun z hz => q z (List.mem_cons_of_mem _ hz)) (by simp [ringW]; omega)
    refine ⟨o2, r2, ?_⟩
    rw [List.map_cons, List.map_cons, List.flatMap_cons, ← List.append_assoc]
    refine forL_cons ko rfl (?_ : ltB [s0, s1, s2, s3, some (wvs acc), s5, some p.1] h = .next [s0, s1, s2, s3, some (wvs (acc ++ ringW p.2)), s5, some p.1] h) f
    refine asg_ok (v := wvs (acc ++ ringW p.2)) (eBin_go (eBin_go (eVar_ok rfl) (eLst_go (cons_ok eC_ok nil_ok) rfl) (add_lst (by simp; omega))) (comp_str (eVar_ok rfl) a b (by omega) (by simp)) ?_)
    rw [add_lst (by simp; omega)]
    show Res.ok (AV.lst _) h = .ok (AV.lst _) h
    simp [ringW, Function.comp_def, wv]
def stB : SM := sAsg (eBin (mAdd false) (eBin (mAdd false) (eVar 1) (eLst false (aCons (eC (.str "*")) (aNil)))) (eComp false (itSeq (eVar 3)) (AVL.gName 2) (tTrue) (eBlt mStr (aCons (eVar 2) (aNil))) [2])) (AVL.gName 1)
theorem st_loop {h : AH} {ok : AH → Bool} (ko : ok h = true) {s0 : Option AV} : ∀ (ps : List (AV × List Int)) (acc : List PW) (s2 s3 : Option AV), RowsR h ps → acc.length + 101 * ps.length ≤ 50000 →
    ∃ o2 r2, forL ok (AVL.gName 3) stB (ps.map (·.1)) [s0, some (wvs acc), s2, s3] h = .next [s0, some (wvs (acc ++ (ps.map (·.2)).flatMap ringW)), o2, r2] h
  | [], acc, s2, s3, _, _ => ⟨s2, s3, by rw [show acc ++ (([] : List (AV × List Int)).map (·.2)).flatMap ringW = acc by simp]; exact forL_nil ko⟩
  | p :: ps, acc, s2, s3, q, hl => by
    obtain ⟨a, b, d⟩ := q p List.mem_cons_self
    simp only [List.length_cons] at hl
    obtain ⟨o2, r2, f⟩ := st_loop ko (s0 := s0) ps (acc ++ ringW p.2) s2 (some p.1) (fun z hz => q z (List.mem_cons_of_mem _ hz)) (by simp [ringW]; omega)
    refine ⟨o2, r2, ?_⟩
    rw [List.map_cons, List.map_cons, List.flatMap_cons, ← List.append_assoc]
    refine forL_cons ko rfl (?_ : stB [s0, some (wvs acc), s2, some p.1] h = .next [s0, some (wvs (acc ++ ringW p.2)), s2, some p.1] h) f
    refine asg_ok (v := wvs (acc ++ ringW p.2)) (eBin_go (eBin_go (eVar_ok rfl) (eLst_go (cons_ok eC_ok nil_ok) rfl) (add_lst (by simp; omega))) (comp_str (eVar_ok rfl) a b (by omega) (by simp)) ?_)
    rw [add_lst (by simp; omega)]
    show Res.ok (AV.lst _) h = .ok (AV.lst _) h
    simp [ringW, Function.comp_def, wv]

end Law

namespace Law
open PySem PySem.Spec L2 AVL
local macro_rules
  | `(tactic| decreasing_trivial_pre_omega) => `(tactic| repeat' (first | with_reducible assumption | exact eVar_ok rfl | exact eC_ok | exact nil_ok | exact oNo_ok | with_reducible apply cons_ok | with_reducible apply eBin_go | with_reducible apply eCall_go | with_reducible apply eBlt_go | with_reducible apply eTup_go | with_reducible apply eLst_go | with_reducible apply eLstN_go | with_reducible apply eAttr_go | with_reducible apply eSl_go | with_reducible apply oPart_go | with_reducible apply eRev_go | with_reducible apply eMt_go | with_reducible apply eUn_go | with_reducible apply eCallD_go | with_reducible apply star_go | with_reducible apply tV_go | exact rfl))
/-! joined and split -/
section
variable {h : AH} {l : List PW}
theorem wds_strOk (w : Wds l) : ∀ p ∈ l, PyData.strOk p.1 = true := fun p hp => (wd_facts (w p hp)).1
theorem pd_wvs {n : Nat} : ∀ {l : List PW}, (∀ p ∈ l, PyData.strOk p.1 = true) → (l.map wv).mapM (pd (n + 1) h) = some (l.map fun p => PyData.str p.1)
  | [], _ => rfl
  | p :: l, q => by
    have e : pd (n + 1) h (wv p) = some (.str p.1) := by
      show (if PyData.strOk p.1 then some (PyData.str p.1) else none) = _
      rw [if_pos (q p List.mem_cons_self)]
    rw [List.map_cons, List.mapM_cons, e, pd_wvs (fun z hz => q z (List.mem_cons_of_mem _ hz))]; rfl
theorem ne_wvs {l : List PW} (q : ∀ p ∈ l, PyData.strOk p.1 = true) : mEq true (wvs l) (.lst []) h = .ok (.bl (decide (l ≠ []))) h := by
  have e1 : pd 60 h (wvs l) = some (.list (l.map fun p => PyData.str p.1)) := by
    show ((l.map wv).mapM (pd 59 h)).map PyData.list = _
    rw [pd_wvs q]; rfl
  have e2 : pd 60 h (.lst []) = some (.list []) := rfl
  cases l with
  | nil => exact ne_no e1 e2 rfl
  | cons p l => exact ne_yes e1 e2 (by simp only [PyData.eqv]; exact eqv_len _ _ (by simp))
theorem strsOf_wvs : ∀ l : List PW, strsOf (l.map wv) = some (l.map (·.1))
  | [] => rfl
  | p :: l => by
    show (strsOf (l.map wv)).map (p.1 :: ·) = _
    rw [strsOf_wvs l]; rfl
theorem sum_len : ∀ {l : List PW}, Wds l → ((l.map (·.1)).map (fun s : Str => s.length)).sum ≤ 4 * l.length
  | [], _ => by simp
  | p :: l, w => by
    have := sum_len (l := l) fun z hz => w z (List.mem_cons_of_mem _ hz)
    have := (wd_facts (w p List.mem_cons_self)).2.2.1
    simp only [List.map_cons, List.sum_cons, List.length_cons]
    omega
theorem join_wvs (w : Wds l) (hl : l.length ≤ 50000) : mJoin (.str " ") [wvs l] h = .ok (.str (txt l)) h := by
  have := sum_len w
  show (match strsOf (l.map wv) with | some zs => if (zs.map (fun s : Str => s.length)).sum + zs.length * (" " : Str).length ≤ 16777216 then Res.ok (AV.str (Txt.join " " zs)) h else .stuck | none => .stuck) = _
  rw [strsOf_wvs]
  show (if ((l.map (·.1)).map (fun s : Str => s.length)).sum + (l.map (·.1)).length * (" " : Str).length ≤ 16777216 then Res.ok (AV.str (txt l)) h else .stuck) = _
  rw [if_pos (by rw [List.length_map, show (" " : Str).length = 1 from rfl]; omega)]
theorem txt_len (w : Wds l) : (txt l).length ≤ 5 * l.length := by
  have := sum_len w
  have j := StrLaws.join_length_le " " (l.map (·.1))
  unfold txt
  rw [TL.join_eq]
  rw [List.length_map, show (" " : Str).length = 1 from rfl] at j
  omega
theorem spl_txt (w : Wds l) (ne : l ≠ []) (hl : l.length < 50000) : Spl (txt l) l := ⟨w, ne, hl, fun h => by
  have sj : Txt.split (txt l) " " = l.map (·.1) := TL.split_join (y := " ") (s := 32) (S := []) rfl (by decide +kernel) (by simpa using ne) fun z hz => by
    obtain ⟨p, hp, rfl⟩ := List.mem_map.mp hz
    exact (wd_facts (w p hp)).2.1
  have := txt_len w
  show (if !((" " : Str).length == 0) && decide ((txt l).length + 2 ≤ sizeLine) then mkL false ((Txt.split (txt l) " ").map .str) h else .stuck) = _
  rw [if_pos (by rw [show ((" " : Str).length == 0) = false from rfl, decide_eq_true (by rw [sizeLine_eq]; omega)]; rfl), sj]
  show Res.ok (AV.lst ((l.map (·.1)).map .str)) h = _
  rw [List.map_map]; rfl⟩
end
/-! the texts of drawn fields -/
theorem none_wd : Wds [(("-", .da) : PW)] := fun p hp => by
  have : p = (("-", .da) : PW) := by simpa using hp
  subst this
  unfold Wd
  decide +kernel
theorem o_wd : Wd "o" .o := by unfold Wd; decide +kernel
theorem x_wd : Wd "x" .x := by unfold Wd; decide +kernel
theorem st_wd : Wd "*" .st := by unfold Wd; decide +kernel
section
variable {h : AH} {hd cp : Nat} {cs : List Int} {rs : List (List Int)} {X Y : AV} {ps : List (AV × List Int)}
theorem TW_wds (f : Fld hd cp cs rs) : Wds (TW hd cp cs rs) := fun p hp => by
  unfold TW at hp
  simp only [List.mem_append, List.mem_replicate, List.mem_map, List.mem_flatMap] at hp
  rcases hp with ((⟨_, rfl⟩ | ⟨k, hk, rfl⟩) | ⟨r, hr, hp⟩) | ⟨_, rfl⟩
  · exact o_wd
  · exact wdN_ok (f.co k hk)
  · unfold ringW at hp
    rcases List.mem_cons.mp hp with rfl | hp
    · exact st_wd
    · obtain ⟨k, hk, rfl⟩ := List.mem_map.mp hp
      exact wdN_ok (f.ro r hr k hk)
  · exact x_wd
theorem or_wds {l : List PW} (w : Wds l) : Wds (orNone l) := by
  unfold orNone
  split
  · exact none_wd
  · exact w
theorem or_ne {l : List PW} : orNone l ≠ [] := by
  unfold orNone
  split
  · simp
  · assumption
theorem flat_len : ∀ {rs : List (List Int)}, (∀ r ∈ rs, r.length ≤ 100) → (rs.flatMap ringW).length ≤ 101 * rs.length
  | [], _ => by simp
  | r :: rs, q => by
    have := flat_len (rs := rs) fun z hz => q z (List.mem_cons_of_mem _ hz)
    have := q r List.mem_cons_self
    rw [List.flatMap_cons, List.length_append, List.length_cons]
    have e : (ringW r).length = r.length + 1 := by simp [ringW]
    omega
theorem TW_len (f : Fld hd cp cs rs) : (TW hd cp cs rs).length ≤ 2000 := by
  have := flat_len f.rr
  have h1 := f.h
  have h2 := f.c
  have h3 := f.cl
  have h4 := f.rl
  unfold TW
  simp only [List.length_append, List.length_replicate, List.length_map]
  omega
/-- the last two rows of both -/
theorem end_ok {sl : SL} {i : Nat} {l : List PW} (w : Wds l) (hl : l.length ≤ 5000) (g : sl[i]? = some (some (wvs l))) : eIf (tV (eBin (mEq true) (eVar i) (eLst false (aNil)))) (eMt "str" mJoin (eC (.str " ")) (aCons (eVar i) (aNil))) (eC (.str "-")) sl h = .ok (.str (txt (orNone l))) h := by
  have n := ne_wvs (h := h) (wds_strOk w)
  by_cases q : l = []
  · subst q
    exact eIf_no (tV_go (eBin_go (eVar_ok g) (eLst_go nil_ok rfl) n)) eC_ok
  · rw [show decide (l ≠ []) = true from decide_eq_true q] at n
    rw [show orNone l = l from if_neg q]
    exact eIf_yes (tV_go (eBin_go (eVar_ok g) (eLst_go nil_ok rfl) n)) (eMt_go eC_ok rfl (cons_ok (eVar_ok g) nil_ok) (join_wvs w (by omega)))
theorem app_wvs {a b : List PW} (hl : a.length + b.length ≤ 10000) : mAdd false (wvs a) (wvs b) h = .ok (wvs (a ++ b)) h := by
  unfold wvs
  rw [List.map_append]
  exact add_lst (by simpa using by omega)
theorem law_text_ok (f : Fld hd cp cs rs) (r : Row h X (cs.map .int)) (r2 : Row h Y (ps.map (·.1))) (q : RowsR h ps) (e : ps.map (·.2) = rs) : m_law_text [.int (hd : Nat), .int (cp : Nat), X, Y] h = .ok (.str (txt (orNone (TW hd cp cs rs)))) h := by
  have h1 := f.h
  have h2 := f.c
  have h3 := f.cl
  have h4 := f.rl
  have fl := flat_len f.rr
  have pl : ps.length = rs.length := by rw [← e]; simp
  obtain ⟨ok, i1, i2⟩ := seq_row (fe := eVar 3) (sl := [some (.int (hd : Nat)), some (.int (cp : Nat)), some X, some Y, some (wvs (List.replicate hd (("o", .o) : PW) ++ cs.map wdN)), none, none]) (eVar_ok rfl) r2
  obtain ⟨o2, w2, lp⟩ := lt_loop (s0 := some (.int (hd : Nat))) (s1 := some (.int (cp : Nat))) (s2 := some X) (s3 := some Y) i2 ps (List.replicate hd (("o", .o) : PW) ++ cs.map wdN) none none q (by simp; omega)
  rw [e] at lp
  refine mk_go (sl := [some (.int (hd : Nat)), some (.int (cp : Nat)), some X, some Y, none, none, none]) rfl (h1 := h) (v := .str (txt (orNone (TW hd cp cs rs)))) ?_ (lv_same rfl)
  refine seq_go (h' := h) (sl' := [some (.int (hd : Nat)), some (.int (cp : Nat)), some X, some Y, some (wvs (List.replicate hd (("o", .o) : PW) ++ cs.map wdN)), none, none]) (asg_ok (eBin_go (eBin_go (eLst_go (cons_ok eC_ok nil_ok) rfl) (eVar_ok rfl) (rep_one (by omega))) (comp_str (eVar_ok rfl) r (fun k hk => (f.co k hk).good) (by omega) (by simp)) ?_)) ?_
  · have := app_wvs (h := h) (a := List.replicate hd (("o", .o) : PW)) (b := cs.map wdN) (by simp; omega)
    simpa [wvs, wv, Function.comp_def] using this
  refine seq_go (for_ok i1 lp) ?_
  refine seq_go (h' := h) (sl' := [some (.int (hd : Nat)), some (.int (cp : Nat)), some X, some Y, some (wvs (TW hd cp cs rs)), o2, w2]) (asg_ok (eBin_go (eVar_ok rfl) (eBin_go (eLst_go (cons_ok eC_ok nil_ok) rfl) (eVar_ok rfl) (rep_one (by omega))) ?_)) (ret_ok (end_ok (TW_wds f) (by have := TW_len f; omega) rfl))
  have := app_wvs (h := h) (a := List.replicate hd (("o", .o) : PW) ++ cs.map wdN ++ rs.flatMap ringW) (b := List.replicate cp (("x", .x) : PW)) (by simp only [List.length_append, List.length_replicate, List.length_map]; omega)
  simpa [wvs, wv, TW] using this
theorem at_h {cs : List Int} {rs : List (List Int)} {hd cp : Int} : mAttr okx_handles oko_handles "handles" (sig hd cp cs rs) h = .ok (.int hd) h := attr_obj oks.1 lk5h
theorem at_c {cs : List Int} {rs : List (List Int)} {hd cp : Int} : mAttr okx_caps oko_caps "caps" (sig hd cp cs rs) h = .ok (.int cp) h := attr_obj oks.2.1 (by kernel_rfl)
theorem at_o {cs : List Int} {rs : List (List Int)} {hd cp : Int} : mAttr okx_cones oko_cones "cones" (sig hd cp cs rs) h = .ok (IT cs) h := attr_obj oks.2.2.1 lk5o
theorem at_m {cs : List Int} {rs : List (List Int)} {hd cp : Int} : mAttr okx_mirrors oko_mirrors "mirrors" (sig hd cp cs rs) h = .ok (.tup (rs.map IT)) h := attr_obj oks.2.2.2.1 lk5m
theorem need_sig_ok {s : Str} {cs : List Int} {rs : List (List Int)} {hd cp : Int} : m_need_signature [.str s, sig hd cp cs rs] h = .ok (sig hd cp cs rs) h := by
  refine mk_go (sl := [some (.str s), some (sig hd cp cs rs)]) rfl (h1 := h) (v := sig hd cp cs rs) ?_ (lv_same bnd_sig)
  exact seq_go (if_no (tNot_no (tV_go (eBlt_go (cons_ok (eVar_ok rfl) (cons_ok eC_ok nil_ok)) isi_sig))) next_ok) (ret_ok (eVar_ok rfl))
theorem sign_text_ok (f : Fld hd cp cs rs) : m_sign_text [sig (hd : Nat) (cp : Nat) cs rs] h = .ok (.str (txt (orNone (TW hd cp cs rs)))) h := by
  have h1 := f.h
  have h2 := f.c
  have h3 := f.cl
  have h4 := f.rl
  have fl := flat_len f.rr
  obtain ⟨o2, w2, lp⟩ := st_loop (s0 := some (sig (hd : Nat) (cp : Nat) cs rs)) (h := h) (ok := okAll) rfl (rs.map fun r => (IT r, r)) (List.replicate hd (("o", .o) : PW) ++ cs.map wdN) none none (fun p hp => by
    obtain ⟨r, hr, rfl⟩ := List.mem_map.mp hp
    exact ⟨.inl rfl, fun k hk => (f.ro r hr k hk).good, f.rr r hr⟩) (by simp; omega)
  rw [List.map_map, List.map_map] at lp
  simp only [Function.comp_def, List.map_id'] at lp
  refine mk_go (sl := [some (sig (hd : Nat) (cp : Nat) cs rs), none, none, none]) rfl (h1 := h) (v := .str (txt (orNone (TW hd cp cs rs)))) ?_ (lv_same rfl)
  refine seq_go (expr_ok (eCall_go (cons_ok eC_ok (cons_ok (eVar_ok rfl) nil_ok)) rfl need_sig_ok)) ?_
  refine seq_go (h' := h) (sl' := [some (sig (hd : Nat) (cp : Nat) cs rs), some (wvs (List.replicate hd (("o", .o) : PW) ++ cs.map wdN)), none, none]) (asg_ok (eBin_go (eBin_go (eLst_go (cons_ok eC_ok nil_ok) rfl) (eAttr_go (eVar_ok rfl) at_h) (rep_one (by omega))) (comp_str (eAttr_go (eVar_ok rfl) at_o) (.inl rfl) (fun k hk => (f.co k hk).good) (by omega) (by simp)) ?_)) ?_
  · have := app_wvs (h := h) (a := List.replicate hd (("o", .o) : PW)) (b := cs.map wdN) (by simp; omega)
    simpa [wvs, wv, Function.comp_def] using this
  refine seq_go (for_ok (seq_tup (eAttr_go (eVar_ok rfl) at_m)) lp) ?_
  refine seq_go (h' := h) (sl' := [some (sig (hd : Nat) (cp : Nat) cs rs), some (wvs (TW hd cp cs rs)), o2, w2]) (asg_ok (eBin_go (eVar_ok rfl) (eBin_go (eLst_go (cons_ok eC_ok nil_ok) rfl) (eAttr_go (eVar_ok rfl) at_c) (rep_one (by omega))) ?_)) (ret_ok (end_ok (TW_wds f) (by have := TW_len f; omega) rfl))
  have := app_wvs (h := h) (a := List.replicate hd (("o", .o) : PW) ++ cs.map wdN ++ rs.flatMap ringW) (b := List.replicate cp (("x", .x) : PW)) (by simp only [List.length_append, List.length_replicate, List.length_map]; omega)
  simpa [wvs, wv, TW] using this
end
/-! a text read back -/
theorem cnt_rep {u : Tk} {w : Str} {l : List PW} (q : ∀ p ∈ l.head?, p.2 ≠ u) : ∀ n : Nat, cnt u (List.replicate n ((w, u) : PW) ++ l) = n
  | 0 => by
    rw [List.replicate_zero, List.nil_append]
    cases l with
    | nil => rfl
    | cons p l => exact if_neg (q p rfl)
  | n + 1 => by
    rw [List.replicate_succ, List.cons_append]
    show (if u = u then cnt u (List.replicate n ((w, u) : PW) ++ l) + 1 else 0) = _
    rw [if_pos rfl, cnt_rep q n]
theorem ords_map {l : List PW} (q : ∀ p ∈ l.head?, isN p.2 = false) : ∀ cs : List Int, ordsF (cs.map wdN ++ l) = cs
  | [] => by
    show ordsF l = []
    cases l with
    | nil => rfl
    | cons p l =>
      have := q p rfl
      rw [ordsF_cons]
      generalize p.2 = t at this
      cases t <;> first | rfl | exact nomatch this
  | k :: cs => by
    show k :: ordsF (cs.map wdN ++ l) = _
    rw [ords_map q cs]
theorem rings_flat {l : List PW} (q : ∀ p ∈ l.head?, isN p.2 = false ∧ p.2 ≠ .st) : ∀ rs : List (List Int), ringsS (rs.flatMap ringW ++ l) = (rs, l)
  | [] => by
    show ringsS l = ([], l)
    cases l with
    | nil => rfl
    | cons p l => exact ringsS_no (q p rfl).2
  | r :: rs => by
    have hd : ∀ p ∈ (rs.flatMap ringW ++ l).head?, isN p.2 = false := fun p hp => by
      cases rs with
      | nil => exact (q p (by simpa using hp)).1
      | cons s rs =>
        have : p = (("*", .st) : PW) := by
          simpa [ringW, eq_comm] using hp
        subst this; rfl
    rw [List.flatMap_cons, List.append_assoc]
    show ringsS ((("*", .st) : PW) :: (r.map wdN ++ (rs.flatMap ringW ++ l))) = _
    rw [ringsS_st rfl, ords_map hd r, List.drop_left' (by simp), rings_flat q rs]
theorem head_rest {cp : Nat} {rs : List (List Int)} : ∀ p ∈ (rs.flatMap ringW ++ List.replicate cp (("x", .x) : PW)).head?, isN p.2 = false ∧ p.2 ≠ .o := fun p hp => by
  cases rs with
  | nil =>
    cases cp with
    | zero => simp at hp
    | succ n =>
      have : p = (("x", .x) : PW) := by simpa [List.replicate_succ, eq_comm] using hp
      subst this; exact ⟨rfl, fun z => nomatch z⟩
  | cons s rs =>
    have : p = (("*", .st) : PW) := by simpa [ringW, eq_comm] using hp
    subst this; exact ⟨rfl, fun z => nomatch z⟩
theorem TW_parse {hd cp : Nat} {cs : List Int} {rs : List (List Int)} (fz : hd = 0 ∨ cp = 0) : hsF (TW hd cp cs rs) = hd ∧ csF (TW hd cp cs rs) = cs ∧ (rqF (TW hd cp cs rs)).1 = rs ∧ cpF (TW hd cp cs rs) = cp ∧ enF (TW hd cp cs rs) = (TW hd cp cs rs).length := by
  have e : TW hd cp cs rs = List.replicate hd (("o", .o) : PW) ++ (cs.map wdN ++ (rs.flatMap ringW ++ List.replicate cp (("x", .x) : PW))) := by simp [TW]
  have h1 : hsF (TW hd cp cs rs) = hd := by
    unfold hsF
    rw [e]
    refine cnt_rep (fun p hp => ?_) hd
    cases cs with
    | nil => exact (head_rest p hp).2
    | cons k cs =>
      have : p = wdN k := by simpa [eq_comm] using hp
      subst this; exact fun z => nomatch z
  have h2 : csF (TW hd cp cs rs) = cs := by
    unfold csF
    rw [h1, e, List.drop_left' (by simp)]
    exact ords_map (fun p hp => (head_rest p hp).1) cs
  have h3 : rqF (TW hd cp cs rs) = (rs, List.replicate cp (("x", .x) : PW)) := by
    unfold rqF
    rw [h1, h2, e, ← List.append_assoc, List.drop_left' (by simp)]
    refine rings_flat (fun p hp => ?_) rs
    cases cp with
    | zero => simp at hp
    | succ n =>
      have : p = (("x", .x) : PW) := by simpa [List.replicate_succ, eq_comm] using hp
      subst this; exact ⟨rfl, fun z => nomatch z⟩
  have h4 : cpF (TW hd cp cs rs) = cp := by
    unfold cpF
    rw [h1, h3]
    have c0 : cnt .x (List.replicate cp (("x", .x) : PW)) = cp := by
      have := cnt_rep (u := .x) (w := "x") (l := []) (fun p hp => by simp at hp) cp
      rwa [List.append_nil] at this
    split
    · omega
    · exact c0
  refine ⟨h1, h2, by rw [h3], h4, ?_⟩
  unfold enF atF
  rw [h3, h4]
  simp only [List.length_replicate]
  have : cp ≤ (TW hd cp cs rs).length := by unfold TW; simp; omega
  omega
end Law

namespace Law
open PySem PySem.Spec L2 AVL
local macro_rules
  | `(tactic| decreasing_trivial_pre_omega) => `(tactic| repeat' (first | with_reducible assumption | exact eVar_ok rfl | exact eC_ok | exact nil_ok | exact oNo_ok | with_reducible apply cons_ok | with_reducible apply eBin_go | with_reducible apply eCall_go | with_reducible apply eBlt_go | with_reducible apply eTup_go | with_reducible apply eLst_go | with_reducible apply eLstN_go | with_reducible apply eAttr_go | with_reducible apply eSl_go | with_reducible apply oPart_go | with_reducible apply eRev_go | with_reducible apply eMt_go | with_reducible apply eUn_go | with_reducible apply eCallD_go | with_reducible apply star_go | with_reducible apply tV_go | exact rfl))
/-! words bent -/
abbrev Ch := List PW
def Chk (ch : Ch) : Prop := Wds ch ∧ ch ≠ [] ∧ ch.length ≤ 2
def cv (ch : Ch) : AV := .str (txt ch)
def RWL (R : List Ch) : AV := .lst (R.map cv)
def flatR (R : List Ch) : List PW := if R = [] then [("", .bad)] else R.flatten
theorem txt_one {p : PW} : txt [p] = p.1 := by
  unfold txt
  rw [TL.join_eq]; rfl
theorem RWL_one {l : List PW} : WL l = RWL (l.map fun p => [p]) := by
  unfold WL RWL
  rw [List.map_map]
  refine congrArg AV.lst (List.map_congr_left fun p _ => ?_)
  show AV.str p.1 = .str (txt [p])
  rw [txt_one]
theorem join_app {y : Str} : ∀ {a b : List Str}, a ≠ [] → b ≠ [] → Str.join y (a ++ b) = Str.join y a ++ y ++ Str.join y b
  | [], _, h, _ => absurd rfl h
  | [x], [], _, h => absurd rfl h
  | [x], z :: r, _, _ => rfl
  | x :: w :: a, b, _, h => by
    show x ++ y ++ Str.join y ((w :: a) ++ b) = x ++ y ++ Str.join y (w :: a) ++ y ++ Str.join y b
    rw [join_app (by simp) h, ← Str.append_assoc, ← Str.append_assoc]
theorem join_chunks : ∀ {R : List Ch}, R ≠ [] → (∀ ch ∈ R, ch ≠ []) → Txt.join " " (R.map txt) = txt R.flatten
  | [], h, _ => absurd rfl h
  | [c], _, _ => by
    rw [TL.join_eq, List.flatten_cons, List.flatten_nil, List.append_nil]; rfl
  | c :: d :: R, _, q => by
    have ih := join_chunks (R := d :: R) (by simp) fun z hz => q z (List.mem_cons_of_mem _ hz)
    have n1 : c ≠ [] := q c List.mem_cons_self
    have n2 : (d :: R).flatten ≠ [] := by
      have := q d (by simp)
      simp [this]
    rw [TL.join_eq] at ih ⊢
    rw [List.flatten_cons]
    unfold txt at ih ⊢
    rw [TL.join_eq] at ih ⊢
    rw [List.map_append, join_app (by simpa using n1) (by simpa using n2), ← ih]
    show Txt.join " " (c.map (·.1)) ++ " " ++ _ = _
    rw [TL.join_eq]
section
variable {h : AH} {R : List Ch} {ch : Ch}
theorem flatR_wds (q : ∀ ch ∈ R, Chk ch) : Wds (flatR R) := by
  unfold flatR
  split
  · intro p hp
    have : p = (("", .bad) : PW) := by simpa using hp
    subst this
    unfold Wd
    decide +kernel
  · intro p hp
    obtain ⟨ch, hc, hp⟩ := List.mem_flatten.mp hp
    exact (q ch hc).1 p hp
theorem flat_le : ∀ {R : List Ch}, (∀ ch ∈ R, Chk ch) → R.flatten.length ≤ 2 * R.length
  | [], _ => by simp
  | c :: R, q => by
    have := flat_le (R := R) fun z hz => q z (List.mem_cons_of_mem _ hz)
    have := (q c List.mem_cons_self).2.2
    simp only [List.flatten_cons, List.length_append, List.length_cons]
    omega
theorem flatR_ne (q : ∀ ch ∈ R, Chk ch) : flatR R ≠ [] := by
  unfold flatR
  split
  · simp
  · rename_i n
    obtain ⟨c, r, rfl⟩ := List.exists_cons_of_ne_nil n
    have := (q c List.mem_cons_self).2.1
    simp [this]
theorem flatR_len (q : ∀ ch ∈ R, Chk ch) : (flatR R).length ≤ 2 * R.length + 1 := by
  unfold flatR
  split
  · simp
  · have := flat_le q; omega
theorem strsOf_RWL : ∀ R : List Ch, strsOf (R.map cv) = some (R.map txt)
  | [] => rfl
  | c :: R => by
    show (strsOf (R.map cv)).map (txt c :: ·) = _
    rw [strsOf_RWL R]; rfl
theorem sum_RWL : ∀ {R : List Ch}, (∀ ch ∈ R, Chk ch) → ((R.map txt).map (fun s : Str => s.length)).sum ≤ 10 * R.length
  | [], _ => by simp
  | c :: R, q => by
    have := sum_RWL (R := R) fun z hz => q z (List.mem_cons_of_mem _ hz)
    have h1 := txt_len (q c List.mem_cons_self).1
    have h2 := (q c List.mem_cons_self).2.2
    simp only [List.map_cons, List.sum_cons, List.length_cons]
    omega
theorem join_RWL (q : ∀ ch ∈ R, Chk ch) (hl : R.length ≤ 50000) : mJoin (.str " ") [RWL R] h = .ok (.str (txt (flatR R))) h := by
  have := sum_RWL q
  show (match strsOf (R.map cv) with | some zs => if (zs.map (fun s : Str => s.length)).sum + zs.length * (" " : Str).length ≤ 16777216 then Res.ok (AV.str (Txt.join " " zs)) h else .stuck | none => .stuck) = _
  rw [strsOf_RWL]
  show (if ((R.map txt).map (fun s : Str => s.length)).sum + (R.map txt).length * (" " : Str).length ≤ 16777216 then Res.ok (AV.str (Txt.join " " (R.map txt))) h else .stuck) = _
  rw [if_pos (by rw [List.length_map, show (" " : Str).length = 1 from rfl]; omega)]
  by_cases n : R = []
  · subst n
    have : Txt.join " " (([] : List Ch).map txt) = txt (flatR []) := by
      show Txt.join " " [] = txt [(("", .bad) : PW)]
      rw [txt_one, TL.join_eq]; rfl
    rw [this]
  · rw [join_chunks n fun c hc => (q c hc).2.1, show flatR R = R.flatten from if_neg n]
theorem strOk_txt {l : List PW} (w : Wds l) : PyData.strOk (txt l) = true := by
  unfold txt
  rw [TL.join_eq]
  exact strOk_join (strOk_of " ") fun t ht => by
    obtain ⟨p, hp, rfl⟩ := List.mem_map.mp ht
    exact (wd_facts (w p hp)).1
theorem pd_RWL {n : Nat} : ∀ {R : List Ch}, (∀ ch ∈ R, Chk ch) → (R.map cv).mapM (pd (n + 1) h) = some (R.map fun c => PyData.str (txt c))
  | [], _ => rfl
  | c :: R, q => by
    have e : pd (n + 1) h (cv c) = some (.str (txt c)) := by
      show (if PyData.strOk (txt c) then some (PyData.str (txt c)) else none) = _
      rw [if_pos (strOk_txt (q c List.mem_cons_self).1)]
    rw [List.map_cons, List.mapM_cons, e, pd_RWL (fun z hz => q z (List.mem_cons_of_mem _ hz))]; rfl
theorem ne_RWL (q : ∀ ch ∈ R, Chk ch) : mEq true (RWL R) (.lst []) h = .ok (.bl (decide (R ≠ []))) h := by
  have e1 : pd 60 h (RWL R) = some (.list (R.map fun c => PyData.str (txt c))) := by
    show ((R.map cv).mapM (pd 59 h)).map PyData.list = _
    rw [pd_RWL q]; rfl
  have e2 : pd 60 h (.lst []) = some (.list []) := rfl
  cases R with
  | nil => exact ne_no e1 e2 rfl
  | cons p l => exact ne_yes e1 e2 (by simp only [PyData.eqv]; exact eqv_len _ _ (by simp))
theorem bnds_RWL {m : Nat} : bnds m (R.map cv) = true := bnds_map fun _ _ => rfl
theorem sl_to {k : Nat} (hk : k ≤ R.length) : mSl false (RWL R) none (some (k : Int)) h = .ok (RWL (R.take k)) h := by
  show Res.ok (AV.lst (cutA (R.map cv) none (some (k : Int)))) h = _
  unfold cutA
  rw [HT.sIx_none, HT.sIx_nat]
  simp only [List.length_map, List.drop_zero, Nat.sub_zero]
  rw [Nat.min_eq_left hk, ← List.map_take]; rfl
theorem sl_from {k : Nat} (hk : k ≤ R.length) : mSl false (RWL R) (some (k : Int)) none h = .ok (RWL (R.drop k)) h := by
  show Res.ok (AV.lst (cutA (R.map cv) (some (k : Int)) none)) h = _
  unfold cutA
  rw [HT.sIx_none, HT.sIx_nat]
  simp only [List.length_map]
  rw [Nat.min_eq_left hk, List.take_of_length_le (by simp), ← List.map_drop]; rfl
theorem app_RWL {a b : List Ch} (hl : a.length + b.length ≤ 10000) : mAdd false (RWL a) (RWL b) h = .ok (RWL (a ++ b)) h := by
  unfold RWL
  rw [List.map_append]
  exact add_lst (by simp; omega)
end
def oddC : List Ch := [[("o", .o)], [("x", .x)], [("*", .st)], [("-", .da)], [("", .bad)], [("2", .n 2)], [("02", .bad)], [("1", .bad)], [("121", .bad)], [("120", .n 120)], [("+2", .bad)], [("2.", .bad)], [("O", .bad)], [("**", .bad)], [("1000", .bad)], [("22", .n 22), ("", .bad)], [("_2", .bad)], [("a", .bad)]]
theorem oddC_ok : ∀ ch ∈ oddC, Chk ch := by
  have : (oddC.all fun ch => ch.all (fun p => decide ((p.1, p.2) ∈ VT)) && decide (ch ≠ []) && decide (ch.length ≤ 2)) = true := by decide +kernel
  intro ch hc
  have z := List.all_eq_true.mp this ch hc
  simp only [Bool.and_eq_true, decide_eq_true_eq, List.all_eq_true] at z
  exact ⟨z.1.1, z.1.2, z.2⟩
def oddE : EM := eLst false (aCons (eC (.str "o")) (aCons (eC (.str "x")) (aCons (eC (.str "*")) (aCons (eC (.str "-")) (aCons (eC (.str "")) (aCons (eC (.str "2")) (aCons (eC (.str "02")) (aCons (eC (.str "1")) (aCons (eC (.str "121")) (aCons (eC (.str "120")) (aCons (eC (.str "+2")) (aCons (eC (.str "2.")) (aCons (eC (.str "O")) (aCons (eC (.str "**")) (aCons (eC (.str "1000")) (aCons (eC (.str "22 ")) (aCons (eC (.str "_2")) (aCons (eC (.str "a")) (aNil)))))))))))))))))))
theorem odd_ok {sl : SL} {h : AH} : oddE sl h = .ok (RWL oddC) h := by
  have e : oddC.map cv = [.str "o", .str "x", .str "*", .str "-", .str "", .str "2", .str "02", .str "1", .str "121", .str "120", .str "+2", .str "2.", .str "O", .str "**", .str "1000", .str "22 ", .str "_2", .str "a"] := by kernel_rfl
  unfold RWL
  rw [e]
  kernel_rfl
theorem int_bool {h : AH} {b : Bool} : mIntS [.bl b] h = .ok (.int (if b then 1 else 0)) h := rfl
theorem bent_ok {c : List Int} (hc : CellsOk c) {N : Nat} {h : AH} {R : List Ch} (p : Pen [] c N h) (hN : N + 3 < 500000) (q : ∀ ch ∈ R, Chk ch) (ne : R ≠ []) (hl : R.length ≤ 100) : ∃ R' h', m_law_bent [.ref 0, RWL R] h = .ok (RWL R') h' ∧ Pen [] c (N + 3) h' ∧ (∀ ch ∈ R', Chk ch) ∧ R'.length ≤ R.length + 1 := by
  have D := draws hc
  have l0 : 0 < R.length := List.length_pos_iff.mpr ne
  obtain ⟨d, h1, e1, p1, d0, d1⟩ := draw_small D p (by omega) (many := (R.length : Nat)) (by omega) (by omega)
  obtain ⟨w, h2, e2, p2, w0, w1⟩ := draw_small D p1 (by omega) (many := 4) (by omega) (by omega)
  obtain ⟨x, h3, e3, p3, hx⟩ := pickB_ok D (L := oddC.map cv) p2 (by omega) (by decide) (by decide) bnds_RWL
  obtain ⟨odd, ho, rfl⟩ := List.mem_map.mp hx
  rw [← pick_eq] at e3
  obtain ⟨k, rfl⟩ := Int.eq_ofNat_of_zero_le d0
  have hk : k < R.length := by omega
  have len : mLen [RWL R] h = .ok (.int (R.length : Nat)) h := by
    show Res.ok (AV.int ((R.map cv).length : Nat)) h = _
    rw [List.length_map]
  have go : ∀ R', (∀ sl, sl = [some (.ref 0), some (RWL R), some (.int (k : Int)), some (.int w), some (cv odd)] → sSeq (sIf (tV (eBin (mEq false) (eVar 3) (eC (.int 0)))) (sRet (eBin (mAdd false) (eSl false (eVar 1) (oNo) (oPart (eVar 2))) (eSl false (eVar 1) (oPart (eBin (mAdd false) (eVar 2) (eC (.int 1)))) (oNo)))) (sNext))
  (sRet (eBin (mAdd false) (eBin (mAdd false) (eSl false (eVar 1) (oNo) (oPart (eVar 2))) (eLst false (aCons (eVar 4) (aNil)))) (eSl false (eVar 1) (oPart (eBin (mAdd false) (eVar 2) (eBlt mIntS (aCons (eBin (mEq false) (eVar 3) (eC (.int 1))) (aNil))))) (oNo)))) sl h3 = .ret (RWL R') h3) → m_law_bent [.ref 0, RWL R] h = .ok (RWL R') h3 := fun R' g => by
    refine mk_go (sl := [some (.ref 0), some (RWL R), none, none, none]) rfl (h1 := h3) (v := RWL R') ?_ (Pen.leave p p3 (bnd_of (by show bnds 0 (R'.map cv) = true; exact bnds_RWL)))
    refine seq_go (sl' := [some (.ref 0), some (RWL R), some (.int (k : Int)), some (.int w), none]) (h' := h2) (par_ok (cons_ok (eCall_go (cons_ok (eVar_ok rfl) (cons_ok (eBlt_go (cons_ok (eVar_ok rfl) nil_ok) len) nil_ok)) rfl e1) (cons_ok (eCall_go (cons_ok (eVar_ok rfl) (cons_ok eC_ok nil_ok)) rfl e2) nil_ok)) rfl) ?_
    exact seq_go (asg_ok (eCall_go (cons_ok (eVar_ok rfl) (cons_ok odd_ok nil_ok)) rfl e3)) (g _ rfl)
  by_cases wz : w = 0
  · subst wz
    refine ⟨R.take k ++ R.drop (k + 1), h3, go _ fun sl es => ?_, p3, fun ch hc => ?_, by simp; omega⟩
    · subst es
      refine seq_ret (if_yes (tV_go (eBin_go (eVar_ok rfl) eC_ok (eq_int.trans rfl))) (ret_ok (eBin_go (eSl_go (eVar_ok rfl) oNo_ok (oPart_go (eVar_ok rfl)) (sl_to (by omega))) (eSl_go (eVar_ok rfl) (oPart_go (eBin_go (eVar_ok rfl) eC_ok (add_int (i := (k : Int)) (j := 1)))) oNo_ok (sl_from (k := k + 1) (by omega))) (app_RWL (by simp; omega)))))
    · rcases List.mem_append.mp hc with z | z
      · exact q ch (List.mem_of_mem_take z)
      · exact q ch (List.mem_of_mem_drop z)
  · obtain ⟨j, hj, j1⟩ : ∃ j : Nat, (j : Int) = (if decide (w = 1) then 1 else 0) ∧ j ≤ 1 := by
      by_cases z : w = 1
      · exact ⟨1, by simp [z], by omega⟩
      · exact ⟨0, by simp [z], by omega⟩
    refine ⟨R.take k ++ [odd] ++ R.drop (k + j), h3, go _ fun sl es => ?_, p3, fun ch hc => ?_, by simp; omega⟩
    · subst es
      have a1 : mAdd false (.int (k : Int)) (.int (if decide (w = 1) then 1 else 0)) h3 = .ok (.int ((k + j : Nat) : Int)) h3 := by
        rw [← hj]
        exact add_int.trans (by rw [← Int.natCast_add])
      refine seq_go (if_no (tV_go (eBin_go (eVar_ok rfl) eC_ok (eq_int.trans (by rw [decide_eq_false wz])))) next_ok) (ret_ok (eBin_go (eBin_go (eSl_go (eVar_ok rfl) oNo_ok (oPart_go (eVar_ok rfl)) (sl_to (by omega))) (eLst_go (cons_ok (eVar_ok rfl) nil_ok) rfl) (app_RWL (a := R.take k) (b := [odd]) (by simp; omega))) (eSl_go (eVar_ok rfl) (oPart_go (eBin_go (eVar_ok rfl) (eBlt_go (cons_ok (eBin_go (eVar_ok rfl) eC_ok eq_int) nil_ok) int_bool) a1)) oNo_ok (sl_from (k := k + j) (by omega))) (app_RWL (by simp; omega))))
    · rcases List.mem_append.mp hc with z | z
      · rcases List.mem_append.mp z with z | z
        · exact q ch (List.mem_of_mem_take z)
        · have : ch = odd := by simpa using z
          subst this
          exact oddC_ok ch ho
      · exact q ch (List.mem_of_mem_drop z)
/-! what is heard -/
def tx (k : Int) : AV := .tup [.str "text", .int k]
theorem ix_cell {h : AH} {n k : Nat} {l : List AV} {x : AV} (e : h[n]? = some (.lst l)) (f : l[k]? = some x) : mIx (.ref n) (.int (k : Int)) h = .ok x h := by
  obtain ⟨hk, rfl⟩ := List.getElem?_eq_some_iff.mp f
  have : items h (.ref n) = some l := by
    show (match h[n]? with | some (.lst l) => some l | _ => none) = _
    rw [e]
  unfold mIx
  simp only [this, atI_nat hk]
section
variable {h : AH} {k : Int} {th : AH → Res AV}
theorem heard_none {x : AV} {h1 : AH} (e : th h = .ok x h1) (hl : h1.length = h.length) : m_law_heard th h = .ok .non h1 := by
  unfold m_law_heard mGive
  rw [e]
  show finF h.length false (b_law_heard [none, some .non, none, none] h1) = _
  have : b_law_heard [none, some .non, none, none] h1 = .ret .non h1 := seq_ret (if_yes (tV_go (eBin_go (eVar_ok rfl) eC_ok rfl)) (ret_ok eC_ok))
  rw [this, ← hl]
  show leave h1.length .non h1 = _
  exact lv_same rfl
theorem heard_text (e : th h = .exc "BadText" ["item"] [.int k] h) : m_law_heard th h = .ok (tx k) h := by
  unfold m_law_heard mGive
  rw [e]
  show (if under_FloorError "BadText" then finF h.length false (b_law_heard [none, some (.exc "BadText" ["item"] [.int k]), none, none] h) else AVL.Res.stuck) = _
  rw [if_pos (by kernel_rfl)]
  have isn : mIs false (.exc "BadText" ["item"] [.int k]) .non h = .ok (.bl false) h := rfl
  have i1 : mIsi isaT [.exc "BadText" ["item"] [.int k], .cls "BadNumber"] (h ++ [.lst []]) = .ok (.bl false) (h ++ [.lst []]) := by kernel_rfl
  have i2 : mIsi isaT [.exc "BadText" ["item"] [.int k], .cls "BadText"] (h ++ [.lst []]) = .ok (.bl true) (h ++ [.lst []]) := by kernel_rfl
  have i3 : mIsi isaT [.exc "BadText" ["item"] [.int k], .cls "BadValue"] (h ++ [.lst [tx k]]) = .ok (.bl false) (h ++ [.lst [tx k]]) := by kernel_rfl
  have at1 : mAttr okx_item oko_item "item" (.exc "BadText" ["item"] [.int k]) (h ++ [.lst []]) = .ok (.int k) (h ++ [.lst []]) := by kernel_rfl
  have b : b_law_heard [none, some (.exc "BadText" ["item"] [.int k]), none, none] h = .ret (tx k) (h ++ [.lst [tx k]]) := by
    refine seq_go (if_no (tV_go (eBin_go (eVar_ok rfl) eC_ok isn)) next_ok) ?_
    refine seq_go (asg_ok (eLstN_go nil_ok rfl)) ?_
    refine seq_go (if_no (tV_go (eBlt_go (cons_ok (eVar_ok rfl) (cons_ok eC_ok nil_ok)) i1)) next_ok) ?_
    refine seq_go (h' := h ++ [.lst [tx k]]) (if_yes (tV_go (eBlt_go (cons_ok (eVar_ok rfl) (cons_ok eC_ok nil_ok)) i2)) (expr_ok (v := .non) (eMt_go (eVar_ok rfl) ty_last (cons_ok (eTup_go (cons_ok eC_ok (cons_ok (eAttr_go (eVar_ok rfl) at1) nil_ok)) rfl) nil_ok) ?_))) ?_
    · rw [app_ref get_last rfl (by simp), set_last]; rfl
    refine seq_go (if_no (tV_go (eBlt_go (cons_ok (eVar_ok rfl) (cons_ok eC_ok nil_ok)) i3)) next_ok) ?_
    exact ret_ok (eIf_yes (tV_go (eBin_go (eBlt_go (cons_ok (eVar_ok rfl) nil_ok) (len_ref get_last)) eC_ok (eq_int.trans rfl))) (eBin_go (eVar_ok rfl) eC_ok (ix_cell (k := 0) get_last rfl)))
  rw [b]
  show leave h.length (tx k) (h ++ [.lst [tx k]]) = _
  exact lv_app rfl
end
end Law

namespace Law
open PySem PySem.Spec L2 AVL
local macro_rules
  | `(tactic| decreasing_trivial_pre_omega) => `(tactic| repeat' (first | with_reducible assumption | exact eVar_ok rfl | exact eC_ok | exact nil_ok | exact oNo_ok | with_reducible apply cons_ok | with_reducible apply eBin_go | with_reducible apply eCall_go | with_reducible apply eBlt_go | with_reducible apply eTup_go | with_reducible apply eLst_go | with_reducible apply eLstN_go | with_reducible apply eAttr_go | with_reducible apply eSl_go | with_reducible apply oPart_go | with_reducible apply eRev_go | with_reducible apply eMt_go | with_reducible apply eUn_go | with_reducible apply eCallD_go | with_reducible apply star_go | with_reducible apply tV_go | exact rfl))
def u0 : SM := sAsg (eCall 1 m_law_drawn_sign (aCons (eVar 1) (aNil))) (AVL.gTup 4 (AVL.gsCons (AVL.gName 3) (AVL.gsCons (AVL.gName 4) (AVL.gsCons (AVL.gName 5) (AVL.gsCons (AVL.gName 6) (AVL.gsNil))))))
def u1 : SM := sPar [7, 8] (aCons (eCall 4 (mMake "Signature" m_Signature___init__) (aCons (eVar 3) (aCons (eVar 4) (aCons (eVar 5) (aCons (eVar 6) (aNil)))))) (aCons (eCall 4 m_law_text (aCons (eVar 3) (aCons (eVar 4) (aCons (eVar 5) (aCons (eVar 6) (aNil)))))) (aNil)))
def u2 : SM := sAsg (eCall 4 m_law_text (aCons (eAttr okx_handles oko_handles "handles" (eVar 7)) (aCons (eAttr okx_caps oko_caps "caps" (eVar 7)) (aCons (eAttr okx_cones oko_cones "cones" (eVar 7)) (aCons (eAttr okx_mirrors oko_mirrors "mirrors" (eVar 7)) (aNil)))))) (AVL.gName 9)
def u3 : SM := sIf (tOr (tV (eBin (mEq true) (eCall 1 m_sign_text (aCons (eVar 7) (aNil))) (eVar 9))) (tOr (tV (eBin (mEqO true eqT) (eCall 1 m_read_sign (aCons (eVar 9) (aNil))) (eVar 7))) (tOr (tV (eBin (mEqO true eqT) (eCallD 0 1 1 [.k 0] [] m_read_sign (aNil) (aCons (eVar 8) (aNil))) (eVar 7))) (tV (eBin (mEq true) (eCallD 0 1 1 [.k 0] [] m_sign_text (aNil) (aCons (eCall 1 m_read_sign (aCons (eVar 8) (aNil))) (aNil))) (eVar 9)))))) (sRet (eC (.bl false))) (sNext)
def u4 : SM := sAsg (eMt "str" (mSplit false) (eVar 8) (aCons (eC (.str " ")) (aNil))) (AVL.gName 10)
def u5 : SM := sFor (itRng1 (aCons (eBin (mAdd false) (eC (.int 1)) (eCall 2 m_law_draw (aCons (eVar 1) (aCons (eC (.int 2)) (aNil))))) (aNil))) (AVL.gName 11) (sAsg (eIf (tV (eBin (mEq true) (eVar 10) (eLst false (aNil)))) (eCall 2 m_law_bent (aCons (eVar 1) (aCons (eVar 10) (aNil)))) (eLst false (aCons (eC (.str "-")) (aNil)))) (AVL.gName 10))
def u6 : SM := sAsg (eMt "str" mJoin (eC (.str " ")) (aCons (eVar 10) (aNil))) (AVL.gName 12)
def u7 : SM := sPar [13, 14] (aCons (eCall 1 m_law_read (aCons (eVar 12) (aNil))) (aCons (eLam m_law_heard (eCall 1 m_read_sign (aCons (eVar 12) (aNil)))) (aNil)))
def u8 : SM := sIf (tV (eBlt (mIsi isaT) (aCons (eVar 13) (aCons (eC (.ty "tuple")) (aNil))))) (sIf (tOr (tV (eBin (mIs true) (eVar 14) (eC .non))) (tV (eBin (mEq true) (eBlt mRepr (aCons (eAttr okx_parts oko_parts "parts" (eCall 1 m_read_sign (aCons (eVar 12) (aNil)))) (aNil))) (eBlt mRepr (aCons (eVar 13) (aNil)))))) (sRet (eC (.bl false))) (sNext)) (sIf (tV (eBin (mEq true) (eVar 14) (eTup (aCons (eC (.str "text")) (aCons (eVar 13) (aNil)))))) (sRet (eC (.bl false))) (sNext))
def tuB : SM := sSeq u0 (sSeq u1 (sSeq u2 (sSeq u3 (sSeq u4 (sSeq u5 (sSeq u6 (sSeq u7 (u8))))))))
def v0 : SM := sAsg (eCall 1 m_law_pen (aCons (eVar 0) (aNil))) (AVL.gName 1)
def v2 : SM := sAsg (eCall 2 m_law_pick (aCons (eVar 1) (aCons (eLst false (aCons (eC (.str "o")) (aCons (eC (.str "x")) (aNil)))) (aNil)))) (AVL.gName 15)
def v3 : SM := sAsg (eIf (tV (eBin (mEq false) (eVar 15) (eC (.str "o")))) (eC (.str "handles")) (eC (.str "caps"))) (AVL.gName 16)
def v4 : SM := sAsg (eCall 1 m_read_sign (aCons (eMt "str" mJoin (eC (.str " ")) (aCons (eBin (mMul false) (eLst false (aCons (eVar 15) (aNil))) (eC (.int 600))) (aNil))) (aNil))) (AVL.gName 17)
def v5 : SM := sIf (tOr (tV (eBin (mEq true) (eAttr okx_parts oko_parts "parts" (eVar 17)) (eIf (tV (eBin (mEq false) (eVar 15) (eC (.str "o")))) (eTup (aCons (eC (.int 600)) (aCons (eC (.int 0)) (aCons (eTup (aNil)) (aCons (eTup (aNil)) (aNil)))))) (eTup (aCons (eC (.int 0)) (aCons (eC (.int 600)) (aCons (eTup (aNil)) (aCons (eTup (aNil)) (aNil))))))))) (tV (eBin (mEq true) (eCall 1 m_sign_text (aCons (eVar 17) (aNil))) (eMt "str" mJoin (eC (.str " ")) (aCons (eBin (mMul false) (eLst false (aCons (eVar 15) (aNil))) (eC (.int 600))) (aNil)))))) (sRet (eC (.bl false))) (sNext)
def v6 : SM := sIf (tOr (tV (eBin (mEq true) (eLam m_law_heard (eCall 1 m_read_sign (aCons (eMt "str" mJoin (eC (.str " ")) (aCons (eBin (mMul false) (eLst false (aCons (eVar 15) (aNil))) (eC (.int 601))) (aNil))) (aNil)))) (eTup (aCons (eC (.str "number")) (aCons (eVar 16) (aNil)))))) (tV (eBin (mEq true) (eLam m_law_heard (eCall 1 m_read_sign (aCons (eMt "str" mJoin (eC (.str " ")) (aCons (eBin (mAdd false) (eBin (mMul false) (eLst false (aCons (eVar 15) (aNil))) (eC (.int 601))) (eLst false (aCons (eC (.str "a")) (aNil)))) (aNil))) (aNil)))) (eTup (aCons (eC (.str "text")) (aCons (eC (.int 601)) (aNil))))))) (sRet (eC (.bl false))) (sNext)
def v7 : SM := sAsg (eCall 4 (mMake "Signature" m_Signature___init__) (aCons (eC (.int 0)) (aCons (eC (.int 0)) (aCons (eBin (mMul false) (eLst false (aCons (eC (.int 120)) (aNil))) (eC (.int 200))) (aCons (eLst false (aCons (eBin (mMul false) (eLst false (aCons (eC (.int 2)) (aNil))) (eC (.int 100))) (aCons (eLst false (aCons (eC (.int 3)) (aNil))) (aNil)))) (aNil)))))) (AVL.gName 18)
def v8 : SM := sIf (tV (eBin (mEqO true eqT) (eCall 1 m_read_sign (aCons (eCall 1 m_sign_text (aCons (eVar 18) (aNil))) (aNil))) (eVar 18))) (sRet (eC (.bl false))) (sNext)
def v9 : SM := sAsg (eCall 2 m_law_pick (aCons (eVar 1) (aCons (eLst false (aCons (eC .non) (aCons (eC (.int 5)) (aCons (eLst false (aCons (eC (.str "o")) (aNil))) (aCons (eTup (aCons (eC (.str "*")) (aNil))) (aCons (eC (.bl true)) (aCons (eVar 7) (aNil)))))))) (aNil)))) (AVL.gName 19)
def v10 : SM := sAsg (eLst true (aCons (eLam m_law_heard (eCall 1 m_read_sign (aCons (eVar 19) (aNil)))) (aNil))) (AVL.gName 14)
def v11 : SM := sExpr (eMt "list" mApp (eVar 14) (aCons (eLam m_law_heard (eCall 1 m_sign_text (aCons (eCall 2 m_law_pick (aCons (eVar 1) (aCons (eLst false (aCons (eC .non) (aCons (eC (.int 5)) (aCons (eC (.str "o")) (aCons (eTup (aCons (eC (.int 0)) (aCons (eC (.int 0)) (aCons (eTup (aNil)) (aCons (eTup (aNil)) (aNil)))))) (aNil)))))) (aNil)))) (aNil)))) (aNil)))
def v12 : SM := sIf (tV (eBin (mEq true) (eLam m_law_heard (eCall 1 m_read_sign (aCons (eCall 2 m_law_pick (aCons (eVar 1) (aCons (eLst false (aCons (eC (.str "- 2")) (aCons (eC (.str "- -")) (aCons (eC (.str "- o")) (aCons (eC (.str "- ")) (aNil)))))) (aNil)))) (aNil)))) (eTup (aCons (eC (.str "text")) (aCons (eC (.int 1)) (aNil)))))) (sRet (eC (.bl false))) (sNext)
def v13 : SM := sRet (eAnd (eBin (mEq false) (eVar 14) (eLst false (aCons (eTup (aCons (eC (.str "text")) (aCons (eC (.int 0)) (aNil)))) (aCons (eTup (aCons (eC (.str "value")) (aCons (eC (.str "signature")) (aNil)))) (aNil))))) (eAnd (eBin (mEq false) (eAttr okx_parts oko_parts "parts" (eCall 1 m_read_sign (aCons (eC (.str "-")) (aNil)))) (eTup (aCons (eC (.int 0)) (aCons (eC (.int 0)) (aCons (eTup (aNil)) (aCons (eTup (aNil)) (aNil))))))) (eBin (mEq false) (eAttr okx_mirrors oko_mirrors "mirrors" (eCall 1 m_read_sign (aCons (eC (.str "*")) (aNil)))) (eTup (aCons (eTup (aNil)) (aNil))))))
def v1 : SM := sFor (itRng1 (aCons (eC (.int 8)) (aNil))) (AVL.gName 2) tuB
theorem law_split : b_law = sSeq v0 (sSeq v1 (sSeq v2 (sSeq v3 (sSeq v4 (sSeq v5 (sSeq v6 (sSeq v7 (sSeq v8 (sSeq v9 (sSeq v10 (sSeq v11 (sSeq v12 (v13))))))))))))) := rfl
/-! read back -/
theorem sortI_idem {l : List Int} : sortI (sortI l) = sortI l := sortI_perm (List.mergeSort_perm l _)
theorem least_idem {l : List Int} : least (least l) = least l := (least_eq least_dih).symm
def nr (rs : List (List Int)) : List (List Int) := sortR (rs.map least)
theorem nr_idem {rs : List (List Int)} : nr (nr rs) = nr rs := by
  unfold nr
  refine sortR_perm (((List.mergeSort_perm (rs.map least) _).map least).trans ?_)
  rw [List.map_map]
  refine List.Perm.of_eq (List.map_congr_left fun r _ => ?_)
  exact least_idem
theorem nr_mem {rs : List (List Int)} {r : List Int} (h : r ∈ nr rs) : ∃ s ∈ rs, r = least s := by
  obtain ⟨s, hs, e⟩ := List.mem_map.mp (sortR_mem.mp h)
  exact ⟨s, hs, e.symm⟩
theorem nr_len {rs : List (List Int)} : (nr rs).length = rs.length := by unfold nr; rw [sortR_len, List.length_map]
theorem fld_nr {hd cp : Nat} {cs : List Int} {rs : List (List Int)} (f : Fld hd cp cs rs) : Fld hd cp (sortI cs) (nr rs) where
  h := f.h
  c := f.c
  z := f.z
  cl := by rw [sortI_len]; exact f.cl
  co := fun k hk => f.co k (sortI_mem.mp hk)
  rl := by rw [nr_len]; exact f.rl
  rr := fun r hr => by
    obtain ⟨s, hs, rfl⟩ := nr_mem hr
    rw [least_dih.len]; exact f.rr s hs
  ro := fun r hr k hk => by
    obtain ⟨s, hs, rfl⟩ := nr_mem hr
    exact f.ro s hs k (least_dih.mem.mp hk)
theorem TW_da {hd cp : Nat} {cs : List Int} {rs : List (List Int)} : ∀ p ∈ TW hd cp cs rs, p.2 ≠ .da := fun p hp => by
  unfold TW at hp
  simp only [List.mem_append, List.mem_replicate, List.mem_map, List.mem_flatMap] at hp
  rcases hp with ((⟨_, rfl⟩ | ⟨k, hk, rfl⟩) | ⟨r, hr, hp⟩) | ⟨_, rfl⟩
  · exact fun z => nomatch z
  · exact fun z => nomatch z
  · unfold ringW at hp
    rcases List.mem_cons.mp hp with rfl | hp
    · exact fun z => nomatch z
    · obtain ⟨k, hk, rfl⟩ := List.mem_map.mp hp
      exact fun z => nomatch z
  · exact fun z => nomatch z
section
variable {h : AH} {hd cp : Nat} {cs : List Int} {rs : List (List Int)}
theorem spl_TW (f : Fld hd cp cs rs) : Spl (txt (orNone (TW hd cp cs rs))) (orNone (TW hd cp cs rs)) := spl_txt (or_wds (TW_wds f)) or_ne (by
  have := TW_len f
  unfold orNone
  split
  · simp
  · omega)
theorem read_TW (f : Fld hd cp cs rs) (f1 : hd ≤ 600) (f2 : cp ≤ 600) : m_read_sign [.str (txt (orNone (TW hd cp cs rs)))] h = .ok (sig (hd : Nat) (cp : Nat) (sortI cs) (nr rs)) h := by
  have sp := spl_TW f
  obtain ⟨e1, e2, e3, e4, e5⟩ := TW_parse f.z (cs := cs) (rs := rs)
  have da := TW_da (hd := hd) (cp := cp) (cs := cs) (rs := rs)
  generalize TW hd cp cs rs = l at *
  cases l with
  | nil =>
    have a1 : hd = 0 := e1.symm
    have a2 : cs = [] := e2.symm
    have a3 : rs = [] := e3.symm
    have a4 : cp = 0 := e4.symm.trans rfl
    subst a1 a2 a3 a4
    have := read_none (h := h) sp rfl
    rw [this]
    simp [sortI, nr, sortR]
  | cons p L =>
    rw [show orNone (p :: L) = p :: L from if_neg (by simp)] at sp ⊢
    have := read_good (h := h) sp (da p List.mem_cons_self) e5 (by rw [e1]; omega) (by rw [e4]; omega) (by rw [e2]; have := f.cl; omega) (by rw [e3]; have := f.rl; omega) (by
      rw [e3]
      exact fun r hr => ⟨fun z hz => (f.ro r hr z hz).good, by have := f.rr r hr; omega⟩)
    rw [e1, e2, e3, e4] at this
    exact this
end
/-! what is shown -/
theorem wsum : ∀ {rs : List (List Int)}, (∀ r ∈ rs, ∀ z ∈ r, Good z) → PyData.weightAll (rs.map fun r => .tuple (r.map PyData.int)) ≤ 11 * (rs.map fun r => r.length + 1).sum
  | [], _ => by simp [PyData.weightAll]
  | r :: rs, g => by
    have := wsum (rs := rs) fun s hs => g s (List.mem_cons_of_mem _ hs)
    have c := weights_map (f := PyData.int) (B := 10) (l := r) fun z hz => weight_int (by decide) (by have := g r List.mem_cons_self z hz; unfold Good at this; omega)
    show PyData.weightAll (r.map PyData.int) + 1 + PyData.weightAll (rs.map fun r => .tuple (r.map PyData.int)) ≤ _
    simp only [List.map_cons, List.sum_cons]
    omega
theorem weight_p {hd cp : Int} {cs : List Int} {rs : List (List Int)} (h1 : hd.natAbs < 1000) (h2 : cp.natAbs < 1000) (h3 : ∀ z ∈ cs, Good z) (h4 : ∀ r ∈ rs, ∀ z ∈ r, Good z) (l1 : cs.length ≤ 60) (l2 : (rs.map fun r => r.length + 1).sum ≤ 60) : (partsD hd cp cs rs).weight ≤ 8000 := by
  have a := weights_map (f := PyData.int) (B := 10) (l := cs) fun z hz => weight_int (by decide) (by have := h3 z hz; unfold Good at this; omega)
  have b := wsum h4
  have w1 : (PyData.int hd).weight ≤ 10 := weight_int (by decide) (by omega)
  have w2 : (PyData.int cp).weight ≤ 10 := weight_int (by decide) (by omega)
  show (PyData.int hd).weight + 1 + ((PyData.int cp).weight + 1 + (PyData.weightAll (cs.map PyData.int) + 1 + (PyData.weightAll (rs.map fun r => .tuple (r.map PyData.int)) + 1 + 0))) ≤ 8000
  omega
theorem inR_sum : ∀ (l : List PW) (r : List Int), ((inR l r).1.map fun r => r.length + 1).sum ≤ r.length + 1 + l.length
  | [], r => by simp [inR]
  | p :: l, r => by
    unfold inR
    generalize p.2 = q
    cases q with
    | n k =>
      have := inR_sum l (r ++ [k])
      simp at this ⊢
      omega
    | st =>
      have := inR_sum l []
      simp at this ⊢
      omega
    | _ => simp
theorem ringsS_sum (l : List PW) : ((ringsS l).1.map fun r => r.length + 1).sum ≤ l.length := by
  cases l with
  | nil => simp [ringsS]
  | cons p l =>
    by_cases q : p.2 = .st
    · rw [show ringsS (p :: l) = inR l [] from if_pos q]
      have := inR_sum l []
      simp at this ⊢
      omega
    · rw [ringsS_no q]; simp
theorem nr_sum {rs : List (List Int)} : ((nr rs).map fun r => r.length + 1).sum = (rs.map fun r => r.length + 1).sum := by
  unfold nr
  have := ((List.mergeSort_perm (rs.map least) fun a b => !decide (b < a)).map fun r : List Int => r.length + 1).sum_nat
  rw [List.map_map] at this
  refine this.trans (congrArg List.sum (List.map_congr_left fun r _ => ?_))
  show (least r).length + 1 = r.length + 1
  rw [least_dih.len]
/-- the law's reading and the program's -/
theorem outcome {s : Str} {l : List PW} (sp : Spl s l) (hl : l.length ≤ 60) : (∃ hd cp cs rs, (∀ h, m_law_read [.str s] h = .ok (parts hd cp cs rs) h) ∧ (∀ h, m_read_sign [.str s] h = .ok (sig hd cp cs rs) h) ∧ numD (partsD hd cp cs rs) = true ∧ (partsD hd cp cs rs).weight ≤ 8000) ∨
    ∃ k : Int, (∀ h, m_law_read [.str s] h = .ok (.int k) h) ∧ ∀ h, m_read_sign [.str s] h = .exc "BadText" ["item"] [.int k] h := by
  cases l with
  | nil => exact absurd rfl sp.2.1
  | cons p L =>
    by_cases d : p.2 = .da
    · by_cases k : L = []
      · subst k
        exact .inl ⟨0, 0, [], [], fun h => lread_one sp d, fun h => read_none sp d, by decide +kernel, by decide +kernel⟩
      · exact .inr ⟨1, fun h => lread_more sp d k, fun h => read_none_more sp d k⟩
    · have le := enF_le (p :: L)
      by_cases k : enF (p :: L) < (p :: L).length
      · exact .inr ⟨_, fun h => lread_bad sp d (by omega) k, fun h => read_bad sp d k⟩
      · have k : enF (p :: L) = (p :: L).length := by omega
        have ws := sp.1
        have g5 := ringsS_good (wds_drop ws (hsF (p :: L) + (csF (p :: L)).length)) (by rw [List.length_drop]; omega)
        have hs := hsF_le (p :: L)
        obtain ⟨_, _, at1, rl⟩ := rqF_drop (p :: L)
        have cpl : cpF (p :: L) ≤ 60 := by unfold enF at k; omega
        have gc := ordsF_good _ (wds_drop ws (hsF (p :: L)))
        have rsum := ringsS_sum ((p :: L).drop (hsF (p :: L) + (csF (p :: L)).length))
        rw [List.length_drop] at rsum
        refine .inl ⟨_, _, _, _, fun h => lread_good sp d (by omega) k g5, fun h => read_good sp d k (by omega) (by omega) (by omega) (by omega) g5, ?_, ?_⟩
        · refine numD_parts (by omega) (by omega) (fun z hz => gc z (sortI_mem.mp hz)) fun r hr z hz => ?_
          obtain ⟨s, hs, rfl⟩ := nr_mem hr
          exact (g5 s hs).1 z (least_dih.mem.mp hz)
        · refine weight_p (by omega) (by omega) (fun z hz => gc z (sortI_mem.mp hz)) (fun r hr z hz => ?_) (by rw [sortI_len]; omega) (by
            have := nr_sum (rs := (rqF (p :: L)).1)
            unfold nr at this
            rw [this]
            unfold rqF
            omega)
          obtain ⟨s, hs, rfl⟩ := nr_mem hr
          exact (g5 s hs).1 z (least_dih.mem.mp hz)
end Law

namespace Law
open PySem PySem.Spec L2 AVL
local macro_rules
  | `(tactic| decreasing_trivial_pre_omega) => `(tactic| repeat' (first | with_reducible assumption | exact eVar_ok rfl | exact eC_ok | exact nil_ok | exact oNo_ok | with_reducible apply cons_ok | with_reducible apply eBin_go | with_reducible apply eCall_go | with_reducible apply eBlt_go | with_reducible apply eTup_go | with_reducible apply eLst_go | with_reducible apply eLstN_go | with_reducible apply eAttr_go | with_reducible apply eSl_go | with_reducible apply oPart_go | with_reducible apply eRev_go | with_reducible apply eMt_go | with_reducible apply eUn_go | with_reducible apply eCallD_go | with_reducible apply star_go | with_reducible apply tV_go | exact rfl))
theorem asgT4 {e : EM} {sl : SL} {h h1 : AH} {a b c d : AV} {i j k m : Nat} (x : e sl h = .ok (.tup [a, b, c, d]) h1) : sAsg e (AVL.gTup 4 (AVL.gsCons (AVL.gName i) (AVL.gsCons (AVL.gName j) (AVL.gsCons (AVL.gName k) (AVL.gsCons (AVL.gName m) (AVL.gsNil)))))) sl h = .next ((((sl.set i (some a)).set j (some b)).set k (some c)).set m (some d)) h1 := by
  unfold sAsg
  rw [x]; rfl
section
variable {o0 o1 o2 o3 o4 o5 o6 o7 o8 o9 o10 o11 o12 o13 o14 o15 o16 o17 o18 o19 : Option AV} {h : AH} {hd cp : Nat} {cs : List Int} {rs : List (List Int)} {c : List Int} {N : Nat} {s : Str}
theorem u0_ok (hc : CellsOk c) (p : Pen [] c N h) (hN : N + 100 < 400000) : ∃ (hd cp : Nat) (cs : List Int) (rs : List (List Int)) (h' : AH), u0 [o0, some (.ref 0), o2, o3, o4, o5, o6, o7, o8, o9, o10, o11, o12, o13, o14, o15, o16, o17, o18, o19] h = .next [o0, some (.ref 0), o2, some (.int (hd : Nat)), some (.int (cp : Nat)), some (.lst (cs.map .int)), some (.lst (LL rs)), o7, o8, o9, o10, o11, o12, o13, o14, o15, o16, o17, o18, o19] h' ∧ Pen [] c (N + 100) h' ∧ Fld hd cp cs rs ∧ (hd ≤ 4 ∧ cp ≤ 4) ∧ cs.length ≤ 4 ∧ rs.length ≤ 3 ∧ ∀ r ∈ rs, r.length ≤ 4 := by
  obtain ⟨hd, cp, cs, rs, h', e, p', f⟩ := drawn_ok hc p hN
  exact ⟨hd, cp, cs, rs, h', asgT4 (eCall_go (cons_ok (eVar_ok rfl) nil_ok) rfl e), p', f⟩
theorem rows_LL (f : Fld hd cp cs rs) : RowsR h (rs.map fun r => (AV.lst (r.map .int), r)) := fun p hp => by
  obtain ⟨r, hr, rfl⟩ := List.mem_map.mp hp
  exact ⟨.inr (.inl rfl), fun k hk => (f.ro r hr k hk).good, f.rr r hr⟩
theorem rows_IT (f : Fld hd cp cs rs) : RowsR h (rs.map fun r => (IT r, r)) := fun p hp => by
  obtain ⟨r, hr, rfl⟩ := List.mem_map.mp hp
  exact ⟨.inl rfl, fun k hk => (f.ro r hr k hk).good, f.rr r hr⟩
theorem make_f (f : Fld hd cp cs rs) (f1 : hd ≤ 600) (f2 : cp ≤ 600) : mMake "Signature" m_Signature___init__ [.int (hd : Nat), .int (cp : Nat), .lst (cs.map .int), .lst (LL rs)] h = .ok (sig (hd : Nat) (cp : Nat) (sortI cs) (nr rs)) h := by
  have mk := make_ok (h := h) (hd := (hd : Nat)) (cp := (cp : Nat)) (X := .lst (cs.map .int)) (Y := .lst (LL rs)) (cs := cs) (rs := rs.map fun r => (AV.lst (r.map .int), r)) (by omega) (by omega) (by omega) (by omega) (by have := f.z; omega) (.inr (.inl rfl)) (fun z hz => (f.co z hz).good) (by have := f.cl; omega) (.inr (.inl (by simp [LL, Function.comp_def]))) (fun q hq => by
      obtain ⟨r, hr, rfl⟩ := List.mem_map.mp hq
      exact ⟨.inr (.inl rfl), bnd_of (by show bnds 0 (r.map .int) = true; exact bnds_ints), fun z hz => (f.ro r hr z hz).good, by have := f.rr r hr; show r.length ≤ 500; omega⟩) (by have := f.rl; simp; omega)
  rw [List.map_map] at mk
  exact mk
theorem text_LL (f : Fld hd cp cs rs) : m_law_text [.int (hd : Nat), .int (cp : Nat), .lst (cs.map .int), .lst (LL rs)] h = .ok (.str (txt (orNone (TW hd cp cs rs)))) h :=
  law_text_ok f (.inr (.inl rfl)) (.inr (.inl (by simp [LL, Function.comp_def]))) (rows_LL f) (by simp [Function.comp_def])
theorem text_IT (f : Fld hd cp cs rs) : m_law_text [.int (hd : Nat), .int (cp : Nat), IT cs, .tup (rs.map IT)] h = .ok (.str (txt (orNone (TW hd cp cs rs)))) h :=
  law_text_ok f (.inl rfl) (.inl (by simp [Function.comp_def])) (rows_IT f) (by simp [Function.comp_def])
theorem u1_ok (f : Fld hd cp cs rs) (f1 : hd ≤ 600) (f2 : cp ≤ 600) : u1 [o0, o1, o2, some (.int (hd : Nat)), some (.int (cp : Nat)), some (.lst (cs.map .int)), some (.lst (LL rs)), o7, o8, o9, o10, o11, o12, o13, o14, o15, o16, o17, o18, o19] h = .next [o0, o1, o2, some (.int (hd : Nat)), some (.int (cp : Nat)), some (.lst (cs.map .int)), some (.lst (LL rs)), some (sig (hd : Nat) (cp : Nat) (sortI cs) (nr rs)), some (.str (txt (orNone (TW hd cp cs rs)))), o9, o10, o11, o12, o13, o14, o15, o16, o17, o18, o19] h :=
  par_ok (is := [7, 8]) (cons_ok (eCall_go (cons_ok (eVar_ok rfl) (cons_ok (eVar_ok rfl) (cons_ok (eVar_ok rfl) (cons_ok (eVar_ok rfl) nil_ok)))) rfl (make_f f f1 f2)) (cons_ok (eCall_go (cons_ok (eVar_ok rfl) (cons_ok (eVar_ok rfl) (cons_ok (eVar_ok rfl) (cons_ok (eVar_ok rfl) nil_ok)))) rfl (text_LL f)) nil_ok)) rfl
theorem u2_ok (f : Fld hd cp cs rs) : u2 [o0, o1, o2, o3, o4, o5, o6, some (sig (hd : Nat) (cp : Nat) cs rs), o8, o9, o10, o11, o12, o13, o14, o15, o16, o17, o18, o19] h = .next [o0, o1, o2, o3, o4, o5, o6, some (sig (hd : Nat) (cp : Nat) cs rs), o8, some (.str (txt (orNone (TW hd cp cs rs)))), o10, o11, o12, o13, o14, o15, o16, o17, o18, o19] h :=
  asg_ok (eCall_go (cons_ok (eAttr_go (eVar_ok rfl) at_h) (cons_ok (eAttr_go (eVar_ok rfl) at_c) (cons_ok (eAttr_go (eVar_ok rfl) at_o) (cons_ok (eAttr_go (eVar_ok rfl) at_m) nil_ok)))) rfl (text_IT f))
theorem num_f (f : Fld hd cp cs rs) : numD (partsD (hd : Nat) (cp : Nat) cs rs) = true := numD_parts (by have := f.h; omega) (by have := f.c; omega) (fun z hz => (f.co z hz).good) fun r hr z hz => (f.ro r hr z hz).good
theorem ne_sig (f : Fld hd cp cs rs) : mEqO true eqT (sig (hd : Nat) (cp : Nat) cs rs) (sig (hd : Nat) (cp : Nat) cs rs) h = .ok (.bl false) h :=
  eqO_sig (neg := true) (b := true) (by kernel_rfl) (seq_sig (eq_yes pd_parts pd_parts (eqv_num (num_f f))))
theorem ne_txt {l : List PW} (w : Wds l) : mEq true (.str (txt l)) (.str (txt l)) h = .ok (.bl false) h := ne_str (strOk_txt w)
theorem u3_ok (f : Fld hd cp cs rs) (f1 : hd ≤ 600) (f2 : cp ≤ 600) : u3 [o0, o1, o2, o3, o4, o5, o6, some (sig (hd : Nat) (cp : Nat) (sortI cs) (nr rs)), some (.str (txt (orNone (TW hd cp cs rs)))), some (.str (txt (orNone (TW hd cp (sortI cs) (nr rs))))), o10, o11, o12, o13, o14, o15, o16, o17, o18, o19] h = .next [o0, o1, o2, o3, o4, o5, o6, some (sig (hd : Nat) (cp : Nat) (sortI cs) (nr rs)), some (.str (txt (orNone (TW hd cp cs rs)))), some (.str (txt (orNone (TW hd cp (sortI cs) (nr rs))))), o10, o11, o12, o13, o14, o15, o16, o17, o18, o19] h := by
  have g := fld_nr f
  have r1 := read_TW (h := h) f f1 f2
  have r2 := read_TW (h := h) g f1 f2
  rw [sortI_idem, nr_idem] at r2
  have t := sign_text_ok (h := h) g
  have w := or_wds (TW_wds g)
  refine if_no (tOr_no (tV_go (eBin_go (eCall_go (cons_ok (eVar_ok rfl) nil_ok) rfl t) (eVar_ok rfl) (ne_txt w))) (tOr_no (tV_go (eBin_go (eCall_go (cons_ok (eVar_ok rfl) nil_ok) rfl r2) (eVar_ok rfl) (ne_sig g))) (tOr_no (tV_go (eBin_go (eCallD_go (xs := []) (ys := [.str (txt (orNone (TW hd cp cs rs)))]) nil_ok (cons_ok (eVar_ok rfl) nil_ok) ⟨rfl, rfl, rfl⟩ r1) (eVar_ok rfl) (ne_sig g))) (tV_go (eBin_go (eCallD_go (xs := []) (ys := [sig (hd : Nat) (cp : Nat) (sortI cs) (nr rs)]) nil_ok (cons_ok (eCall_go (cons_ok (eVar_ok rfl) nil_ok) rfl r1) nil_ok) ⟨rfl, rfl, rfl⟩ t) (eVar_ok rfl) (ne_txt w)))))) next_ok
theorem u4_ok {l : List PW} (sp : Spl s l) : u4 [o0, o1, o2, o3, o4, o5, o6, o7, some (.str s), o9, o10, o11, o12, o13, o14, o15, o16, o17, o18, o19] h = .next [o0, o1, o2, o3, o4, o5, o6, o7, some (.str s), o9, some (RWL (l.map fun p => [p])), o11, o12, o13, o14, o15, o16, o17, o18, o19] h := by
  rw [← RWL_one]
  exact asg_ok (eMt_go (eVar_ok rfl) rfl (cons_ok eC_ok nil_ok) (sp.2.2.2 h))
def lapB : SM := sAsg (eIf (tV (eBin (mEq true) (eVar 10) (eLst false (aNil)))) (eCall 2 m_law_bent (aCons (eVar 1) (aCons (eVar 10) (aNil)))) (eLst false (aCons (eC (.str "-")) (aNil)))) (AVL.gName 10)
def RsOk (R : List Ch) : Prop := ∀ ch ∈ R, Chk ch
theorem lap_ok (hc : CellsOk c) {R : List Ch} (q : RsOk R) (p : Pen [] c N h) (hN : N + 3 < 500000) (hl : R.length ≤ 100) (hl1 : 1 ≤ R.length + 1) : ∃ R' h', lapB [o0, some (.ref 0), o2, o3, o4, o5, o6, o7, o8, o9, some (RWL R), o11, o12, o13, o14, o15, o16, o17, o18, o19] h = .next [o0, some (.ref 0), o2, o3, o4, o5, o6, o7, o8, o9, some (RWL R'), o11, o12, o13, o14, o15, o16, o17, o18, o19] h' ∧ Pen [] c (N + 3) h' ∧ RsOk R' ∧ R'.length ≤ R.length + 1 := by
  by_cases n : R = []
  · subst n
    refine ⟨[[("-", .da)]], h, asg_ok (eIf_no (tV_go (eBin_go (eVar_ok rfl) (eLst_go nil_ok rfl) (ne_RWL q))) (eLst_go (cons_ok eC_ok nil_ok) rfl)), p.mono (by omega), fun ch hc => ?_, by simp⟩
    have : ch = [(("-", .da) : PW)] := by simpa using hc
    subst this
    exact ⟨none_wd, by simp, by simp⟩
  · obtain ⟨R', h', e, p', q', l'⟩ := bent_ok hc p hN q n hl
    have nn := ne_RWL (h := h) q
    rw [decide_eq_true n] at nn
    exact ⟨R', h', asg_ok (eIf_yes (tV_go (eBin_go (eVar_ok rfl) (eLst_go nil_ok rfl) nn)) (eCall_go (cons_ok (eVar_ok rfl) (cons_ok (eVar_ok rfl) nil_ok)) rfl e)), p', q', l'⟩
theorem laps (hc : CellsOk c) : ∀ (l : List AV) (R : List Ch) (N : Nat) (h : AH) (o11 : Option AV), RsOk R → Pen [] c N h → N + 3 * l.length < 500000 → R.length + l.length ≤ 100 →
    ∃ R' h' w11, forL okAll (AVL.gName 11) lapB l [o0, some (.ref 0), o2, o3, o4, o5, o6, o7, o8, o9, some (RWL R), o11, o12, o13, o14, o15, o16, o17, o18, o19] h = .next [o0, some (.ref 0), o2, o3, o4, o5, o6, o7, o8, o9, some (RWL R'), w11, o12, o13, o14, o15, o16, o17, o18, o19] h' ∧ Pen [] c (N + 3 * l.length) h' ∧ RsOk R' ∧ R'.length ≤ R.length + l.length
  | [], R, N, h, o11, q, p, _, _ => ⟨R, h, o11, forL_nil rfl, p, q, Nat.le_refl _⟩
  | y :: l, R, N, h, o11, q, p, hN, hl => by
    simp only [List.length_cons] at hN hl ⊢
    obtain ⟨R1, h1, e1, p1, q1, l1⟩ := lap_ok (o0 := o0) (o2 := o2) (o3 := o3) (o4 := o4) (o5 := o5) (o6 := o6) (o7 := o7) (o8 := o8) (o9 := o9) (o11 := some y) (o12 := o12) (o13 := o13) (o14 := o14) (o15 := o15) (o16 := o16) (o17 := o17) (o18 := o18) (o19 := o19) hc q p (by omega) (by omega) (by omega)
    obtain ⟨R2, h2, w, e2, p2, q2, l2⟩ := laps hc l R1 (N + 3) h1 (some y) q1 p1 (by omega) (by omega)
    exact ⟨R2, h2, w, forL_cons rfl rfl e1 e2, by rw [show N + 3 * (l.length + 1) = N + 3 + 3 * l.length by omega]; exact p2, q2, by omega⟩
end
end Law

namespace Law
open PySem PySem.Spec L2 AVL
local macro_rules
  | `(tactic| decreasing_trivial_pre_omega) => `(tactic| repeat' (first | with_reducible assumption | exact eVar_ok rfl | exact eC_ok | exact nil_ok | exact oNo_ok | with_reducible apply cons_ok | with_reducible apply eBin_go | with_reducible apply eCall_go | with_reducible apply eBlt_go | with_reducible apply eTup_go | with_reducible apply eLst_go | with_reducible apply eLstN_go | with_reducible apply eAttr_go | with_reducible apply eSl_go | with_reducible apply oPart_go | with_reducible apply eRev_go | with_reducible apply eMt_go | with_reducible apply eUn_go | with_reducible apply eCallD_go | with_reducible apply star_go | with_reducible apply tV_go | exact rfl))
section
variable {o0 o1 o2 o3 o4 o5 o6 o7 o8 o9 o10 o11 o12 o13 o14 o15 o16 o17 o18 o19 : Option AV} {h : AH} {hd cp : Nat} {cs : List Int} {rs : List (List Int)} {c : List Int} {N : Nat} {s : Str} {R : List Ch}
theorem u5_ok (hc : CellsOk c) (q : RsOk R) (p : Pen [] c N h) (hN : N + 10 < 500000) (hl : R.length ≤ 40) : ∃ R' h' w11, u5 [o0, some (.ref 0), o2, o3, o4, o5, o6, o7, o8, o9, some (RWL R), o11, o12, o13, o14, o15, o16, o17, o18, o19] h = .next [o0, some (.ref 0), o2, o3, o4, o5, o6, o7, o8, o9, some (RWL R'), w11, o12, o13, o14, o15, o16, o17, o18, o19] h' ∧ Pen [] c (N + 10) h' ∧ RsOk R' ∧ R'.length ≤ R.length + 2 := by
  obtain ⟨d, h1, e1, p1, d0, d1⟩ := draw_small (draws hc) p (by omega) (many := 2) (by omega) (by omega)
  have lr : (rangeL 0 (1 + d).toNat).length = (1 + d).toNat := by simp [rangeL]
  obtain ⟨R', h', w, e2, p2, q2, l2⟩ := laps (o0 := o0) (o2 := o2) (o3 := o3) (o4 := o4) (o5 := o5) (o6 := o6) (o7 := o7) (o8 := o8) (o9 := o9) (o12 := o12) (o13 := o13) (o14 := o14) (o15 := o15) (o16 := o16) (o17 := o17) (o18 := o18) (o19 := o19) hc (rangeL 0 (1 + d).toNat) R (N + 1) h1 o11 q p1 (by rw [lr]; omega) (by rw [lr]; omega)
  rw [lr] at p2 l2
  refine ⟨R', h', w, for_ok (range1_ok (k := 1 + d) (cons_ok (eBin_go eC_ok (eCall_go (cons_ok (eVar_ok rfl) (cons_ok eC_ok nil_ok)) rfl e1) add_int) nil_ok) (by unfold b62; simp; omega)) e2, p2.mono (by omega), q2, by omega⟩
theorem u6_ok (q : RsOk R) (hl : R.length ≤ 100) : u6 [o0, o1, o2, o3, o4, o5, o6, o7, o8, o9, some (RWL R), o11, o12, o13, o14, o15, o16, o17, o18, o19] h = .next [o0, o1, o2, o3, o4, o5, o6, o7, o8, o9, some (RWL R), o11, some (.str (txt (flatR R))), o13, o14, o15, o16, o17, o18, o19] h :=
  asg_ok (eMt_go eC_ok rfl (cons_ok (eVar_ok rfl) nil_ok) (join_RWL q (by omega)))
theorem eCall_eq {n : Nat} {F : MF} {A : AM} {sl : SL} {h h1 : AH} {xs : List AV} (e : A sl h = .ok xs h1) (l : xs.length = n) : eCall n F A sl h = F xs h1 := by
  unfold eCall
  rw [e]
  show (if xs.length = n then F xs h1 else .stuck) = _
  rw [if_pos l]
theorem lam_ok {fe : EM} {sl : SL} {x : AV} {h1 : AH} (e : m_law_heard (fun h' => fe sl h') h = .ok x h1) : eLam m_law_heard fe sl h = .ok x h1 := by
  unfold eLam
  rw [e]; rfl
theorem lam_read {i : Nat} {sl : SL} {x : AV} (g : sl[i]? = some (some (.str s))) (e : m_law_heard (fun h' => m_read_sign [.str s] h') h = .ok x h) : eLam m_law_heard (eCall 1 m_read_sign (aCons (eVar i) (aNil))) sl h = .ok x h := by
  refine lam_ok ?_
  rw [show (fun h' => eCall 1 m_read_sign (aCons (eVar i) (aNil)) sl h') = fun h' => m_read_sign [.str s] h' from funext fun h' => eCall_eq (cons_ok (eVar_ok g) nil_ok) rfl]
  exact e
theorem pd_tx {k : Int} : pd 60 h (tx k) = some (.tuple [.str "text", .int k]) := by kernel_rfl
theorem u78_ok (out : (∃ hd cp cs rs, (∀ h, m_law_read [.str s] h = .ok (parts hd cp cs rs) h) ∧ (∀ h, m_read_sign [.str s] h = .ok (sig hd cp cs rs) h) ∧ numD (partsD hd cp cs rs) = true ∧ (partsD hd cp cs rs).weight ≤ 8000) ∨
    ∃ k : Int, (∀ h, m_law_read [.str s] h = .ok (.int k) h) ∧ ∀ h, m_read_sign [.str s] h = .exc "BadText" ["item"] [.int k] h) : ∃ w13 w14, sSeq u7 u8 [o0, o1, o2, o3, o4, o5, o6, o7, o8, o9, o10, o11, some (.str s), o13, o14, o15, o16, o17, o18, o19] h = .next [o0, o1, o2, o3, o4, o5, o6, o7, o8, o9, o10, o11, some (.str s), w13, w14, o15, o16, o17, o18, o19] h := by
  rcases out with ⟨hd, cp, cs, rs, e1, e2, n, w⟩ | ⟨k, e1, e2⟩
  · refine ⟨some (parts hd cp cs rs), some .non, seq_go (sl' := [o0, o1, o2, o3, o4, o5, o6, o7, o8, o9, o10, o11, some (.str s), some (parts hd cp cs rs), some (.non), o15, o16, o17, o18, o19]) (h' := h) (par_ok (is := [13, 14]) (cons_ok (eCall_go (cons_ok (eVar_ok rfl) nil_ok) rfl (e1 h)) (cons_ok (lam_read rfl (heard_none (e2 h) rfl)) nil_ok)) rfl) ?_⟩
    have it : mIsi isaT [parts hd cp cs rs, .ty "tuple"] h = .ok (.bl true) h := rfl
    have rp := repr_num (h := h) (x := parts hd cp cs rs) pd_parts n w
    exact if_yes (tV_go (eBlt_go (cons_ok (eVar_ok rfl) (cons_ok eC_ok nil_ok)) it)) (if_no (tOr_no (tV_go (eBin_go (eVar_ok rfl) eC_ok rfl)) (tV_go (eBin_go (eBlt_go (cons_ok (eAttr_go (eCall_go (cons_ok (eVar_ok rfl) nil_ok) rfl (e2 h)) at_parts) nil_ok) rp) (eBlt_go (cons_ok (eVar_ok rfl) nil_ok) rp) (ne_text n)))) next_ok)
  · refine ⟨some (.int k), some (tx k), seq_go (sl' := [o0, o1, o2, o3, o4, o5, o6, o7, o8, o9, o10, o11, some (.str s), some (.int k), some (tx k), o15, o16, o17, o18, o19]) (h' := h) (par_ok (is := [13, 14]) (cons_ok (eCall_go (cons_ok (eVar_ok rfl) nil_ok) rfl (e1 h)) (cons_ok (lam_read rfl (heard_text (e2 h))) nil_ok)) rfl) ?_⟩
    have it : mIsi isaT [.int k, .ty "tuple"] h = .ok (.bl false) h := rfl
    exact if_no (tV_go (eBlt_go (cons_ok (eVar_ok rfl) (cons_ok eC_ok nil_ok)) it)) (if_no (tV_go (eBin_go (eVar_ok rfl) (eTup_go (cons_ok eC_ok (cons_ok (eVar_ok rfl) nil_ok)) rfl) (ne_no pd_tx pd_tx (eqv_rfl _ rfl)))) next_ok)
/-- a turn -/
theorem turn_ok (hc : CellsOk c) (p : Pen [] c N h) (hN : N + 200 < 300000) : ∃ w3 w4 w5 w6 S w8 w9 w10 w11 w12 w13 w14 h', tuB [o0, some (.ref 0), o2, o3, o4, o5, o6, o7, o8, o9, o10, o11, o12, o13, o14, o15, o16, o17, o18, o19] h = .next [o0, some (.ref 0), o2, w3, w4, w5, w6, some (S), w8, w9, w10, w11, w12, w13, w14, o15, o16, o17, o18, o19] h' ∧ Pen [] c (N + 200) h' ∧ ∃ (hd cp : Nat) (cs : List Int) (rs : List (List Int)), S = sig (hd : Nat) (cp : Nat) cs rs := by
  obtain ⟨hd, cp, cs, rs, h1, e0, p1, f, ⟨f1, f2⟩, lc, lr, lrr⟩ := u0_ok (o0 := o0) (o2 := o2) (o3 := o3) (o4 := o4) (o5 := o5) (o6 := o6) (o7 := o7) (o8 := o8) (o9 := o9) (o10 := o10) (o11 := o11) (o12 := o12) (o13 := o13) (o14 := o14) (o15 := o15) (o16 := o16) (o17 := o17) (o18 := o18) (o19 := o19) hc p (by omega)
  have sp := spl_TW f
  have tl : (orNone (TW hd cp cs rs)).length ≤ 27 := by
    have z := f.z
    have fl : ∀ {rs : List (List Int)}, (∀ r ∈ rs, r.length ≤ 4) → (rs.flatMap ringW).length ≤ 5 * rs.length := fun {rs} q => by
      induction rs with
      | nil => simp
      | cons r rs ih =>
        have := ih fun z hz => q z (List.mem_cons_of_mem _ hz)
        have := q r List.mem_cons_self
        rw [List.flatMap_cons, List.length_append, List.length_cons]
        have e : (ringW r).length = r.length + 1 := by simp [ringW]
        omega
    have := fl lrr
    unfold orNone
    split
    · simp
    · unfold TW
      simp only [List.length_append, List.length_replicate, List.length_map]
      omega
  have q0 : RsOk ((orNone (TW hd cp cs rs)).map fun p => [p]) := fun ch hc => by
    obtain ⟨p, hp, rfl⟩ := List.mem_map.mp hc
    exact ⟨fun z hz => by
      have : z = p := by simpa using hz
      subst this
      exact sp.1 z hp, by simp, by simp⟩
  obtain ⟨R, h2, w11, e5, p2, q2, l2⟩ := u5_ok (o0 := o0) (o2 := o2) (o3 := some (.int (hd : Nat))) (o4 := some (.int (cp : Nat))) (o5 := some (.lst (cs.map .int))) (o6 := some (.lst (LL rs))) (o7 := some (sig (hd : Nat) (cp : Nat) (sortI cs) (nr rs))) (o8 := some (.str (txt (orNone (TW hd cp cs rs))))) (o9 := some (.str (txt (orNone (TW hd cp (sortI cs) (nr rs)))))) (o11 := o11) (o12 := o12) (o13 := o13) (o14 := o14) (o15 := o15) (o16 := o16) (o17 := o17) (o18 := o18) (o19 := o19) hc q0 p1 (by omega) (by simp; omega)
  have fl := flatR_len q2
  rw [List.length_map] at l2
  have sp2 : Spl (txt (flatR R)) (flatR R) := spl_txt (flatR_wds q2) (flatR_ne q2) (by omega)
  obtain ⟨w13, w14, e7⟩ := u78_ok (h := h2) (o0 := o0) (o1 := some (.ref 0)) (o2 := o2) (o3 := some (.int (hd : Nat))) (o4 := some (.int (cp : Nat))) (o5 := some (.lst (cs.map .int))) (o6 := some (.lst (LL rs))) (o7 := some (sig (hd : Nat) (cp : Nat) (sortI cs) (nr rs))) (o8 := some (.str (txt (orNone (TW hd cp cs rs))))) (o9 := some (.str (txt (orNone (TW hd cp (sortI cs) (nr rs)))))) (o10 := some (RWL R)) (o11 := w11) (o13 := o13) (o14 := o14) (o15 := o15) (o16 := o16) (o17 := o17) (o18 := o18) (o19 := o19) (outcome sp2 (by omega))
  refine ⟨some (.int (hd : Nat)), some (.int (cp : Nat)), some (.lst (cs.map .int)), some (.lst (LL rs)), sig (hd : Nat) (cp : Nat) (sortI cs) (nr rs), some (.str (txt (orNone (TW hd cp cs rs)))), some (.str (txt (orNone (TW hd cp (sortI cs) (nr rs))))), some (RWL R), w11, some (.str (txt (flatR R))), w13, w14, h2, ?_, p2.mono (by omega), hd, cp, sortI cs, nr rs, rfl⟩
  exact seq_go e0 (seq_go (u1_ok f (by omega) (by omega)) (seq_go (u2_ok (fld_nr f)) (seq_go (u3_ok f (by omega) (by omega)) (seq_go (u4_ok sp) (seq_go e5 (seq_go (u6_ok q2 (by omega)) e7))))))
end
section
variable {o0 o1 o2 o3 o4 o5 o6 o7 o8 o9 o10 o11 o12 o13 o14 o15 o16 o17 o18 o19 : Option AV} {c : List Int}
theorem turns (hc : CellsOk c) : ∀ (l : List AV) (N : Nat) (h : AH) (o2 o3 o4 o5 o6 o7 o8 o9 o10 o11 o12 o13 o14 : Option AV), Pen [] c N h → N + 200 * l.length < 300000 → l ≠ [] →
    ∃ w2 w3 w4 w5 w6 S w8 w9 w10 w11 w12 w13 w14 h', forL okAll (AVL.gName 2) tuB l [o0, some (.ref 0), o2, o3, o4, o5, o6, o7, o8, o9, o10, o11, o12, o13, o14, o15, o16, o17, o18, o19] h = .next [o0, some (.ref 0), w2, w3, w4, w5, w6, some (S), w8, w9, w10, w11, w12, w13, w14, o15, o16, o17, o18, o19] h' ∧ Pen [] c (N + 200 * l.length) h' ∧ ∃ (hd cp : Nat) (cs : List Int) (rs : List (List Int)), S = sig (hd : Nat) (cp : Nat) cs rs
  | [], _, _, _, _, _, _, _, _, _, _, _, _, _, _, _, _, _, n => absurd rfl n
  | y :: l, N, h, o2, o3, o4, o5, o6, o7, o8, o9, o10, o11, o12, o13, o14, p, hN, _ => by
    simp only [List.length_cons] at hN ⊢
    obtain ⟨w3, w4, w5, w6, S, w8, w9, w10, w11, w12, w13, w14, h1, e1, p1, es⟩ := turn_ok (o0 := o0) (o2 := some y) (o3 := o3) (o4 := o4) (o5 := o5) (o6 := o6) (o7 := o7) (o8 := o8) (o9 := o9) (o10 := o10) (o11 := o11) (o12 := o12) (o13 := o13) (o14 := o14) (o15 := o15) (o16 := o16) (o17 := o17) (o18 := o18) (o19 := o19) hc p (by omega)
    by_cases n : l = []
    · subst n
      exact ⟨_, _, _, _, _, _, _, _, _, _, _, _, _, h1, forL_cons rfl rfl e1 (forL_nil rfl), p1, es⟩
    · obtain ⟨x2, x3, x4, x5, x6, S', x8, x9, x10, x11, x12, x13, x14, h2, e2, p2, es2⟩ := turns hc l (N + 200) h1 (some y) w3 w4 w5 w6 (some S) w8 w9 w10 w11 w12 w13 w14 p1 (by omega) n
      exact ⟨_, _, _, _, _, _, _, _, _, _, _, _, _, h2, forL_cons rfl rfl e1 e2, by rw [show N + 200 * (l.length + 1) = N + 200 + 200 * l.length by omega]; exact p2, es2⟩
end
end Law

namespace Law
open PySem PySem.Spec L2 AVL
local macro_rules
  | `(tactic| decreasing_trivial_pre_omega) => `(tactic| repeat' (first | with_reducible assumption | exact eVar_ok rfl | exact eC_ok | exact nil_ok | exact oNo_ok | with_reducible apply cons_ok | with_reducible apply eBin_go | with_reducible apply eCall_go | with_reducible apply eBlt_go | with_reducible apply eTup_go | with_reducible apply eLst_go | with_reducible apply eLstN_go | with_reducible apply eAttr_go | with_reducible apply eSl_go | with_reducible apply oPart_go | with_reducible apply eRev_go | with_reducible apply eMt_go | with_reducible apply eUn_go | with_reducible apply eCallD_go | with_reducible apply star_go | with_reducible apply tV_go | exact rfl))
/-! as many as can be, and one more -/
def mk (b : Bool) : PW := if b then ("o", .o) else ("x", .x)
def mS (b : Bool) : Str := if b then "o" else "x"
def rep (b : Bool) (n : Nat) : List PW := List.replicate n (mk b)
theorem mk_wd {b : Bool} : Wd (mk b).1 (mk b).2 := by cases b <;> first | exact o_wd | exact x_wd
theorem mk_fst {b : Bool} : (mk b).1 = mS b := by cases b <;> rfl
theorem rep_wds {b : Bool} {n : Nat} : Wds (rep b n) := fun p hp => by
  have : p = mk b := (List.mem_replicate.mp hp).2
  subst this
  exact mk_wd
theorem rep_wvs {b : Bool} {n : Nat} : wvs (rep b n) = .lst (List.replicate n (.str (mS b))) := by
  unfold wvs rep
  rw [List.map_replicate]
  unfold wv
  rw [mk_fst]
def bad1 : PW := ("a", .bad)
theorem bad_wd : Wd bad1.1 bad1.2 := by unfold Wd; decide +kernel
theorem rep_bad {b : Bool} {n : Nat} : Wds (rep b n ++ [bad1]) := fun p hp => by
  rcases List.mem_append.mp hp with q | q
  · exact rep_wds p q
  · have : p = bad1 := by simpa using q
    subst this
    exact bad_wd
theorem rep_one_cons {b : Bool} {n : Nat} : rep b (n + 1) = mk b :: rep b n := rfl
theorem mk_da {b : Bool} : (mk b).2 ≠ .da := by cases b <;> exact fun z => nomatch z
theorem f600 : ∀ b : Bool, hsF (rep b 600) = (if b then 600 else 0) ∧ cpF (rep b 600) = (if b then 0 else 600) ∧ csF (rep b 600) = [] ∧ (rqF (rep b 600)).1 = [] ∧ enF (rep b 600) = 600 := by decide +kernel
theorem f601 : ∀ b : Bool, hsF (rep b 601) = (if b then 601 else 0) ∧ cpF (rep b 601) = (if b then 0 else 601) ∧ csF (rep b 601) = [] ∧ (rqF (rep b 601)).1 = [] ∧ enF (rep b 601) = 601 := by decide +kernel
theorem f602 : ∀ b : Bool, enF (rep b 601 ++ [bad1]) = 601 := by decide +kernel
theorem rep_len {b : Bool} {n : Nat} : (rep b n).length = n := List.length_replicate
def sgr (b : Bool) : AV := sig (if b then 600 else 0) (if b then 0 else 600) [] []
theorem spl_rep {b : Bool} {n : Nat} (h0 : 0 < n) (h1 : n < 5000) : Spl (txt (rep b n)) (rep b n) := spl_txt rep_wds (fun e => by
  have := congrArg List.length e
  rw [rep_len] at this
  simp at this; omega) (by rw [rep_len]; omega)
section
variable {h : AH} {b : Bool}
theorem read600 : m_read_sign [.str (txt (rep b 600))] h = .ok (sgr b) h := by
  obtain ⟨e1, e2, e3, e4, e5⟩ := f600 b
  have sp := spl_rep (b := b) (n := 600) (by omega) (by omega)
  have g := read_good (h := h) (p := mk b) (l := rep b 599) (s := txt (rep b 600)) sp mk_da (by
    show enF (rep b 600) = (rep b 600).length
    rw [e5, rep_len]) (by show hsF (rep b 600) ≤ 600; rw [e1]; split <;> omega) (by show cpF (rep b 600) ≤ 600; rw [e2]; split <;> omega) (by show (csF (rep b 600)).length ≤ 500; rw [e3]; simp) (by show (rqF (rep b 600)).1.length ≤ 500; rw [e4]; simp) (by
    show ∀ r ∈ (rqF (rep b 600)).1, _
    rw [e4]
    exact fun r hr => nomatch hr)
  rw [g]
  show Res.ok (sig (hsF (rep b 600) : Nat) (cpF (rep b 600) : Nat) (sortI (csF (rep b 600))) (sortR ((rqF (rep b 600)).1.map least))) h = _
  rw [e1, e2, e3, e4]
  cases b <;> simp [sortI, sortR, sgr]
theorem bad601 : m_read_sign [.str (txt (rep b 601 ++ [bad1]))] h = .exc "BadText" ["item"] [.int 601] h := by
  have sp : Spl (txt (rep b 601 ++ [bad1])) (rep b 601 ++ [bad1]) := spl_txt rep_bad (by simp) (by simp [rep])
  have g := read_bad (h := h) (p := mk b) (l := rep b 600 ++ [bad1]) (s := txt (rep b 601 ++ [bad1])) sp mk_da (by
    show enF (rep b 601 ++ [bad1]) < (rep b 601 ++ [bad1]).length
    rw [f602]; simp [rep])
  rw [g]
  show Res.exc _ _ [.int (enF (rep b 601 ++ [bad1]) : Nat)] h = _
  rw [f602]; rfl
/-- too many handles, caps -/
theorem need_bad {s : Str} {v hi : Int} (q : hi < v) (q0 : 0 ≤ v) : m_need_integer [.str s, .int v, .int 0, .int hi] h = .exc "BadNumber" ["part"] [.str s] h := by
  have ii := is_integer_int (x := v) (h := h)
  refine mk_exc (sl := [some (.str s), some (.int v), some (.int 0), some (.int hi)]) rfl (sl' := [some (.str s), some (.int v), some (.int 0), some (.int hi)]) (h1 := h) ?_ (lvx_same rfl)
  unfold b_need_integer
  generalize m_is_integer = F at *
  exact seq_exc (if_yes (tOr_no (tNot_no (tV_go (eCall_go (cons_ok (eVar_ok rfl) nil_ok) rfl ii))) (tOr_no (tV_go (eBin_go (eVar_ok rfl) (eVar_ok rfl) (lt_no q0))) (tAnd_yes (tV_go (eBin_go (eVar_ok rfl) eC_ok rfl)) (tV_go (eBin_go (eVar_ok rfl) (eVar_ok rfl) (gt_yes q)))))) (raise_ok (cons_ok (eVar_ok rfl) nil_ok) rfl))
theorem fld_exc {okc : Str → Bool} {f : Str} {fv fo : EM} {sl : SL} {h h1 : AH} {c : Str} {ks : List Str} {l : List AV} (e : fv sl h = .exc c ks l h1) : sFldS okc f fv fo sl h = .exc c ks l sl h1 := by
  unfold sFldS
  rw [e]; rfl
theorem make_exc {c : Str} {mf : MF} {args : List AV} {cx : Str} {ks : List Str} {l : List AV} {D : AH} (e : mf (.ref h.length :: args) (h ++ [.ins c [] []]) = .exc cx ks l (h ++ D)) (b : bnds 0 l = true) : mMake c mf args h = .exc cx ks l h := by
  unfold mMake
  rw [e]
  exact lvx_app b
theorem eCallD_exc {n k pn : Nat} {ss : List ADs} {ds : List AV} {F : MF} {A B : AM} {sl : SL} {xs ys : List AV} {h h1 h2 h3 : AH} {c : Str} {ks : List Str} {l : List AV} (a : A sl h = .ok xs h1) (b : B sl h1 = .ok ys h2) (q : xs.length = n ∧ ys.length = k ∧ (srcD ss xs ds ys).length = pn) (e : F (srcD ss xs ds ys) h2 = .exc c ks l h3) : eCallD n k pn ss ds F A B sl h = .exc c ks l h3 := by
  unfold eCallD
  rw [a]
  show (B sl h1).bind _ = _
  rw [b]
  show (if xs.length = n ∧ ys.length = k ∧ (srcD ss xs ds ys).length = pn then F (srcD ss xs ds ys) h2 else .stuck) = _
  rw [if_pos q]; exact e
theorem init_exc {X Y : AV} : mMake "Signature" m_Signature___init__ [.int (if b then 601 else 0), .int (if b then 0 else 601), X, Y] h = .exc "BadNumber" ["part"] [.str (if b then "handles" else "caps")] h := by
  cases b with
  | true =>
    refine make_exc (D := [.ins "Signature" [] []]) (mk_exc (sl := [some (.ref h.length), some (.int 601), some (.int 0), some X, some Y, none, none]) rfl (sl' := [some (.ref h.length), some (.int 601), some (.int 0), some X, some Y, none, none]) (h1 := h ++ [.ins "Signature" [] []]) ?_ (lvx_same rfl)) rfl
    unfold b_Signature___init__
    exact seq_exc (fld_exc (eCallD_exc (xs := [.str "handles", .int 601, .int 0, .int 600]) (ys := []) (cons_ok eC_ok (cons_ok (eVar_ok rfl) (cons_ok eC_ok (cons_ok eC_ok nil_ok)))) nil_ok ⟨rfl, rfl, rfl⟩ (need_bad (by omega) (by omega))))
  | false =>
    obtain ⟨k1, k2, k3, k4, k5⟩ := oks
    refine make_exc (D := [.ins "Signature" ["handles"] [.int 0]]) (mk_exc (sl := [some (.ref h.length), some (.int 0), some (.int 601), some X, some Y, none, none]) rfl (c := "BadNumber") (ks := ["part"]) (l := [.str "caps"]) (sl' := [some (.ref h.length), some (.int 0), some (.int 601), some X, some Y, none, none]) (h1 := h ++ [.ins "Signature" ["handles"] [.int 0]]) ?_ ?_) rfl
    · unfold b_Signature___init__
      refine seq_go (fld_ok (in1 1 rfl (by omega) (by omega)) (eVar_ok rfl) k1 rfl (by decide) rfl) ?_
      exact seq_exc (fld_exc (eCallD_exc (xs := [.str "caps", .int 601, .int 0, .int 600]) (ys := []) (cons_ok eC_ok (cons_ok (eVar_ok rfl) (cons_ok eC_ok (cons_ok eC_ok nil_ok)))) nil_ok ⟨rfl, rfl, rfl⟩ (need_bad (by omega) (by omega))))
    · rw [lvx_low rfl, List.take_of_length_le (by simp)]; rfl
theorem eCall_exc {n : Nat} {F : MF} {A : AM} {sl : SL} {h h1 h2 : AH} {xs : List AV} {c : Str} {ks : List Str} {l : List AV} (a : A sl h = .ok xs h1) (q : xs.length = n) (e : F xs h1 = .exc c ks l h2) : eCall n F A sl h = .exc c ks l h2 := by
  unfold eCall
  rw [a]
  show (if xs.length = n then F xs h1 else .stuck) = _
  rw [if_pos q]; exact e
theorem ret_exc {fe : EM} {sl : SL} {h h1 : AH} {c : Str} {ks : List Str} {l : List AV} (e : fe sl h = .exc c ks l h1) : sRet fe sl h = .exc c ks l sl h1 := by
  unfold sRet
  rw [e]; rfl
theorem read601 : m_read_sign [.str (txt (rep b 601))] h = .exc "BadNumber" ["part"] [.str (if b then "handles" else "caps")] h := by
  obtain ⟨e1, e2, e3, e4, e5⟩ := f601 b
  have sp := spl_rep (b := b) (n := 601) (by omega) (by omega)
  refine mk_exc (sl := [some (.str (txt (rep b 601))), none, none, none, none, none, none]) rfl (sl' := [some (.str (txt (rep b 601))), some (WL (rep b 601)), some (.int (hsF (rep b 601) : Nat)), some (.lst ((csF (rep b 601)).map .int)), some (.int (atF (rep b 601) : Nat)), some (.ref h.length), some (.int (enF (rep b 601) : Nat))]) (h1 := h ++ [.lst (LL (rqF (rep b 601)).1)]) (read_body (p := mk b) (l := rep b 600) sp mk_da ?_) (lvx_app rfl)
  have sub : ((enF (rep b 601) : Nat) : Int) - ((atF (rep b 601) : Nat) : Int) = ((cpF (rep b 601) : Nat) : Int) := by unfold enF; omega
  refine seq_go (if_no (tV_go (eBin_go (eVar_ok rfl) (eBlt_go (cons_ok (eVar_ok rfl) nil_ok) len_WL) (lt_no ?_))) next_ok) (ret_exc (eCall_exc (cons_ok (eVar_ok rfl) (cons_ok (eBin_go (eVar_ok rfl) (eVar_ok rfl) sub_int) (cons_ok (eVar_ok rfl) (cons_ok (eVar_ok rfl) nil_ok)))) rfl ?_))
  · show ((rep b 601).length : Int) ≤ (enF (rep b 601) : Nat)
    rw [e5, rep_len]; exact Int.le_refl _
  · show mMake "Signature" m_Signature___init__ [.int (hsF (rep b 601) : Nat), .int (((enF (rep b 601) : Nat) : Int) - ((atF (rep b 601) : Nat) : Int)), _, _] _ = _
    rw [sub, e1, e2]
    have := init_exc (h := h ++ [.lst (LL (rqF (rep b 601)).1)]) (b := b) (X := .lst ((csF (rep b 601)).map .int)) (Y := .ref h.length)
    cases b <;> exact this
end
end Law

namespace Law
open PySem PySem.Spec L2 AVL
local macro_rules
  | `(tactic| decreasing_trivial_pre_omega) => `(tactic| repeat' (first | with_reducible assumption | exact eVar_ok rfl | exact eC_ok | exact nil_ok | exact oNo_ok | with_reducible apply cons_ok | with_reducible apply eBin_go | with_reducible apply eCall_go | with_reducible apply eBlt_go | with_reducible apply eTup_go | with_reducible apply eLst_go | with_reducible apply eLstN_go | with_reducible apply eAttr_go | with_reducible apply eSl_go | with_reducible apply oPart_go | with_reducible apply eRev_go | with_reducible apply eMt_go | with_reducible apply eUn_go | with_reducible apply eCallD_go | with_reducible apply star_go | with_reducible apply tV_go | exact rfl))
theorem heard_gen {h : AH} {x : AV} {th : AH → Res AV} {c : Str} {ks : List Str} {l : List AV} {h1 D : AH} (e : th h = .exc c ks l h1) (u : under_FloorError c = true) (b : b_law_heard [none, some (.exc c ks l), none, none] h1 = .ret x (h1 ++ D)) (hl : h1.length = h.length) (bx : bnd 0 x = true) : m_law_heard th h = .ok x h1 := by
  unfold m_law_heard mGive
  rw [e]
  show (if under_FloorError c then finF h.length false (b_law_heard [none, some (.exc c ks l), none, none] h1) else AVL.Res.stuck) = _
  rw [if_pos u, b, ← hl]
  exact lv_app bx
def nmT (s : Str) : AV := .tup [.str "number", .str s]
def vlT (s : Str) : AV := .tup [.str "value", .str s]
section
variable {h h1 : AH} {s : Str} {th : AH → Res AV}
theorem heard_number (e : th h = .exc "BadNumber" ["part"] [.str s] h) : m_law_heard th h = .ok (nmT s) h := by
  have isn : mIs false (.exc "BadNumber" ["part"] [.str s]) .non h = .ok (.bl false) h := rfl
  have i1 : mIsi isaT [.exc "BadNumber" ["part"] [.str s], .cls "BadNumber"] (h ++ [.lst []]) = .ok (.bl true) (h ++ [.lst []]) := by kernel_rfl
  have i2 : mIsi isaT [.exc "BadNumber" ["part"] [.str s], .cls "BadText"] (h ++ [.lst [nmT s]]) = .ok (.bl false) (h ++ [.lst [nmT s]]) := by kernel_rfl
  have i3 : mIsi isaT [.exc "BadNumber" ["part"] [.str s], .cls "BadValue"] (h ++ [.lst [nmT s]]) = .ok (.bl false) (h ++ [.lst [nmT s]]) := by kernel_rfl
  have at1 : mAttr okx_part oko_part "part" (.exc "BadNumber" ["part"] [.str s]) (h ++ [.lst []]) = .ok (.str s) (h ++ [.lst []]) := by kernel_rfl
  refine heard_gen (D := [.lst [nmT s]]) e (by kernel_rfl) ?_ rfl rfl
  refine seq_go (if_no (tV_go (eBin_go (eVar_ok rfl) eC_ok isn)) next_ok) ?_
  refine seq_go (asg_ok (eLstN_go nil_ok rfl)) ?_
  refine seq_go (h' := h ++ [.lst [nmT s]]) (if_yes (tV_go (eBlt_go (cons_ok (eVar_ok rfl) (cons_ok eC_ok nil_ok)) i1)) (expr_ok (v := .non) (eMt_go (eVar_ok rfl) ty_last (cons_ok (eTup_go (cons_ok eC_ok (cons_ok (eAttr_go (eVar_ok rfl) at1) nil_ok)) rfl) nil_ok) ?_))) ?_
  · rw [app_ref get_last rfl (by simp), set_last]; rfl
  refine seq_go (if_no (tV_go (eBlt_go (cons_ok (eVar_ok rfl) (cons_ok eC_ok nil_ok)) i2)) next_ok) ?_
  refine seq_go (if_no (tV_go (eBlt_go (cons_ok (eVar_ok rfl) (cons_ok eC_ok nil_ok)) i3)) next_ok) ?_
  exact ret_ok (eIf_yes (tV_go (eBin_go (eBlt_go (cons_ok (eVar_ok rfl) nil_ok) (len_ref get_last)) eC_ok (eq_int.trans rfl))) (eBin_go (eVar_ok rfl) eC_ok (ix_cell (k := 0) get_last rfl)))
theorem heard_value (e : th h = .exc "BadValue" ["part"] [.str s] h1) (hl : h1.length = h.length) : m_law_heard th h = .ok (vlT s) h1 := by
  have isn : mIs false (.exc "BadValue" ["part"] [.str s]) .non h1 = .ok (.bl false) h1 := rfl
  have i1 : mIsi isaT [.exc "BadValue" ["part"] [.str s], .cls "BadNumber"] (h1 ++ [.lst []]) = .ok (.bl false) (h1 ++ [.lst []]) := by kernel_rfl
  have i2 : mIsi isaT [.exc "BadValue" ["part"] [.str s], .cls "BadText"] (h1 ++ [.lst []]) = .ok (.bl false) (h1 ++ [.lst []]) := by kernel_rfl
  have i3 : mIsi isaT [.exc "BadValue" ["part"] [.str s], .cls "BadValue"] (h1 ++ [.lst []]) = .ok (.bl true) (h1 ++ [.lst []]) := by kernel_rfl
  have at1 : mAttr okx_part oko_part "part" (.exc "BadValue" ["part"] [.str s]) (h1 ++ [.lst []]) = .ok (.str s) (h1 ++ [.lst []]) := by kernel_rfl
  refine heard_gen (D := [.lst [vlT s]]) e (by kernel_rfl) ?_ hl rfl
  refine seq_go (if_no (tV_go (eBin_go (eVar_ok rfl) eC_ok isn)) next_ok) ?_
  refine seq_go (asg_ok (eLstN_go nil_ok rfl)) ?_
  refine seq_go (if_no (tV_go (eBlt_go (cons_ok (eVar_ok rfl) (cons_ok eC_ok nil_ok)) i1)) next_ok) ?_
  refine seq_go (if_no (tV_go (eBlt_go (cons_ok (eVar_ok rfl) (cons_ok eC_ok nil_ok)) i2)) next_ok) ?_
  refine seq_go (h' := h1 ++ [.lst [vlT s]]) (if_yes (tV_go (eBlt_go (cons_ok (eVar_ok rfl) (cons_ok eC_ok nil_ok)) i3)) (expr_ok (v := .non) (eMt_go (eVar_ok rfl) ty_last (cons_ok (eTup_go (cons_ok eC_ok (cons_ok (eAttr_go (eVar_ok rfl) at1) nil_ok)) rfl) nil_ok) ?_))) ?_
  · rw [app_ref get_last rfl (by simp), set_last]; rfl
  exact ret_ok (eIf_yes (tV_go (eBin_go (eBlt_go (cons_ok (eVar_ok rfl) nil_ok) (len_ref get_last)) eC_ok (eq_int.trans rfl))) (eBin_go (eVar_ok rfl) eC_ok (ix_cell (k := 0) get_last rfl)))
end
section
variable {o0 o1 o2 o3 o4 o5 o6 o7 o8 o9 o10 o11 o12 o13 o14 o15 o16 o17 o18 o19 : Option AV} {h : AH} {c : List Int} {N : Nat} {b : Bool} {C : AH}
theorem v2_ok (hc : CellsOk c) (p : Pen C c N h) (hN : N < 500000) : ∃ b h', v2 [o0, some (.ref 0), o2, o3, o4, o5, o6, o7, o8, o9, o10, o11, o12, o13, o14, o15, o16, o17, o18, o19] h = .next [o0, some (.ref 0), o2, o3, o4, o5, o6, o7, o8, o9, o10, o11, o12, o13, o14, some (.str (mS b)), o16, o17, o18, o19] h' ∧ Pen C c (N + 1) h' := by
  obtain ⟨x, h', e, p', hx⟩ := pickB_ok (draws hc) p (by omega) (L := [.str "o", .str "x"]) (by decide) (by decide) rfl
  rw [← pick_eq] at e
  have go : v2 [o0, some (.ref 0), o2, o3, o4, o5, o6, o7, o8, o9, o10, o11, o12, o13, o14, o15, o16, o17, o18, o19] h = .next [o0, some (.ref 0), o2, o3, o4, o5, o6, o7, o8, o9, o10, o11, o12, o13, o14, some (x), o16, o17, o18, o19] h' := asg_ok (eCall_go (cons_ok (eVar_ok rfl) (cons_ok (eLst_go (cons_ok eC_ok (cons_ok eC_ok nil_ok)) rfl) nil_ok)) rfl e)
  simp only [List.mem_cons, List.not_mem_nil, or_false] at hx
  rcases hx with rfl | rfl
  · exact ⟨true, h', go, p'⟩
  · exact ⟨false, h', go, p'⟩
def pS (b : Bool) : Str := if b then "handles" else "caps"
theorem mS_o {sl : SL} (g : sl[15]? = some (some (.str (mS b)))) : tV (eBin (mEq false) (eVar 15) (eC (.str "o"))) sl h = .ok b h := by
  refine tV_go (eBin_go (eVar_ok g) eC_ok ?_)
  cases b <;> kernel_rfl
theorem v3_ok : v3 [o0, o1, o2, o3, o4, o5, o6, o7, o8, o9, o10, o11, o12, o13, o14, some (.str (mS b)), o16, o17, o18, o19] h = .next [o0, o1, o2, o3, o4, o5, o6, o7, o8, o9, o10, o11, o12, o13, o14, some (.str (mS b)), some (.str (pS b)), o17, o18, o19] h := by
  refine asg_ok ?_
  cases b with
  | true => exact eIf_yes (mS_o (b := true) rfl) eC_ok
  | false => exact eIf_no (mS_o (b := false) rfl) eC_ok
theorem jn {n : Nat} {sl : SL} (g : sl[15]? = some (some (.str (mS b)))) (hn : n ≤ 5000) : eMt "str" mJoin (eC (.str " ")) (aCons (eBin (mMul false) (eLst false (aCons (eVar 15) (aNil))) (eC (.int (n : Nat)))) (aNil)) sl h = .ok (.str (txt (rep b n))) h := by
  refine eMt_go eC_ok rfl (cons_ok (eBin_go (eLst_go (cons_ok (eVar_ok g) nil_ok) rfl) eC_ok (rep_one (by omega))) nil_ok) ?_
  rw [← rep_wvs]
  exact join_wvs rep_wds (by rw [rep_len]; omega)
theorem v4_ok : v4 [o0, o1, o2, o3, o4, o5, o6, o7, o8, o9, o10, o11, o12, o13, o14, some (.str (mS b)), some (.str (pS b)), o17, o18, o19] h = .next [o0, o1, o2, o3, o4, o5, o6, o7, o8, o9, o10, o11, o12, o13, o14, some (.str (mS b)), some (.str (pS b)), some (sgr b), o18, o19] h :=
  asg_ok (eCall_go (cons_ok (jn (n := 600) rfl (by omega)) nil_ok) rfl read600)
theorem fld600 : Fld (if b then 600 else 0) (if b then 0 else 600) [] [] := by
  cases b <;> exact ⟨by decide, by decide, by decide, by decide, (fun k hk => nomatch hk), by decide, (fun k hk => nomatch hk), (fun k hk => nomatch hk)⟩
theorem TW600 : orNone (TW (if b then 600 else 0) (if b then 0 else 600) [] []) = rep b 600 := by
  cases b with
  | true =>
    have : TW 600 0 [] [] = rep true 600 := by simp [TW, rep, mk]
    show orNone (TW 600 0 [] []) = _
    rw [this]
    exact if_neg (by rw [rep_one_cons (n := 599)]; simp)
  | false =>
    have : TW 0 600 [] [] = rep false 600 := by simp [TW, rep, mk]
    show orNone (TW 0 600 [] []) = _
    rw [this]
    exact if_neg (by rw [rep_one_cons (n := 599)]; simp)
theorem text600 : m_sign_text [sgr b] h = .ok (.str (txt (rep b 600))) h := by
  have := sign_text_ok (h := h) (fld600 (b := b))
  rw [TW600] at this
  cases b <;> exact this
theorem v5_ok : v5 [o0, o1, o2, o3, o4, o5, o6, o7, o8, o9, o10, o11, o12, o13, o14, some (.str (mS b)), some (.str (pS b)), some (sgr b), o18, o19] h = .next [o0, o1, o2, o3, o4, o5, o6, o7, o8, o9, o10, o11, o12, o13, o14, some (.str (mS b)), some (.str (pS b)), some (sgr b), o18, o19] h := by
  have f := num_f (fld600 (b := b))
  have t : ∀ sl : SL, sl[15]? = some (some (.str (mS b))) → eIf (tV (eBin (mEq false) (eVar 15) (eC (.str "o")))) (eTup (aCons (eC (.int 600)) (aCons (eC (.int 0)) (aCons (eTup (aNil)) (aCons (eTup (aNil)) (aNil)))))) (eTup (aCons (eC (.int 0)) (aCons (eC (.int 600)) (aCons (eTup (aNil)) (aCons (eTup (aNil)) (aNil)))))) sl h = .ok (parts (if b then 600 else 0) (if b then 0 else 600) [] []) h := fun sl g => by
    cases b with
    | true => exact eIf_yes (mS_o (b := true) g) (eTup_go (cons_ok eC_ok (cons_ok eC_ok (cons_ok (eTup_go nil_ok rfl) (cons_ok (eTup_go nil_ok rfl) nil_ok)))) rfl)
    | false => exact eIf_no (mS_o (b := false) g) (eTup_go (cons_ok eC_ok (cons_ok eC_ok (cons_ok (eTup_go nil_ok rfl) (cons_ok (eTup_go nil_ok rfl) nil_ok)))) rfl)
  have f' : numD (partsD (if b then 600 else 0) (if b then 0 else 600) [] []) = true := by cases b <;> exact f
  exact if_no (tOr_no (tV_go (eBin_go (eAttr_go (eVar_ok rfl) at_parts) (t _ rfl) (ne_no pd_parts pd_parts (eqv_num f')))) (tV_go (eBin_go (eCall_go (cons_ok (eVar_ok rfl) nil_ok) rfl text600) (jn (n := 600) rfl (by omega)) (ne_txt rep_wds)))) next_ok
theorem lam_readE {E : EM} {sl : SL} {x : AV} {s : Str} (g : ∀ h', E sl h' = .ok (.str s) h') (e : m_law_heard (fun h' => m_read_sign [.str s] h') h = .ok x h) : eLam m_law_heard (eCall 1 m_read_sign (aCons E (aNil))) sl h = .ok x h := by
  refine lam_ok ?_
  rw [show (fun h' => eCall 1 m_read_sign (aCons E (aNil)) sl h') = fun h' => m_read_sign [.str s] h' from funext fun h' => eCall_eq (cons_ok (g h') nil_ok) rfl]
  exact e
theorem pd_nm {s : Str} (o : PyData.strOk s = true) : pd 60 h (nmT s) = some (.tuple [.str "number", .str s]) := by
  show (([.str "number", .str s] : List AV).mapM (pd 59 h)).map PyData.tuple = _
  have e : ∀ s, PyData.strOk s = true → pd 59 h (.str s) = some (.str s) := fun s o => by
    show (if PyData.strOk s then some (PyData.str s) else none) = _
    rw [if_pos o]
  simp only [List.mapM_cons, List.mapM_nil]
  rw [e s o, e _ (strOk_of "number")]; rfl
theorem pS_ok : PyData.strOk (pS b) = true := by cases b <;> exact strOk_of _
theorem v6_ok : v6 [o0, o1, o2, o3, o4, o5, o6, o7, o8, o9, o10, o11, o12, o13, o14, some (.str (mS b)), some (.str (pS b)), some (sgr b), o18, o19] h = .next [o0, o1, o2, o3, o4, o5, o6, o7, o8, o9, o10, o11, o12, o13, o14, some (.str (mS b)), some (.str (pS b)), some (sgr b), o18, o19] h := by
  have jb : ∀ h, eMt "str" mJoin (eC (.str " ")) (aCons (eBin (mAdd false) (eBin (mMul false) (eLst false (aCons (eVar 15) (aNil))) (eC (.int 601))) (eLst false (aCons (eC (.str "a")) (aNil)))) (aNil)) [o0, o1, o2, o3, o4, o5, o6, o7, o8, o9, o10, o11, o12, o13, o14, some (.str (mS b)), some (.str (pS b)), some (sgr b), o18, o19] h = .ok (.str (txt (rep b 601 ++ [bad1]))) h := fun h => by
    refine eMt_go eC_ok rfl (cons_ok (eBin_go (eBin_go (eLst_go (cons_ok (eVar_ok rfl) nil_ok) rfl) eC_ok (rep_one (k := 601) (by omega))) (eLst_go (cons_ok eC_ok nil_ok) rfl) (?_ : _ = Res.ok (wvs (rep b 601 ++ [bad1])) h)) nil_ok) (join_wvs rep_bad (by simp [rep]))
    rw [← rep_wvs]
    exact app_wvs (a := rep b 601) (b := [bad1]) (by simp [rep])
  exact if_no (tOr_no (tV_go (eBin_go (lam_readE (fun h' => jn (n := 601) rfl (by omega)) (heard_number (s := pS b) read601)) (eTup_go (cons_ok eC_ok (cons_ok (eVar_ok rfl) nil_ok)) rfl) (ne_no (pd_nm pS_ok) (pd_nm pS_ok) (eqv_rfl _ rfl)))) (tV_go (eBin_go (lam_readE jb (heard_text (k := 601) bad601)) (eTup_go (cons_ok eC_ok (cons_ok eC_ok nil_ok)) rfl) (ne_no pd_tx pd_tx (eqv_rfl _ rfl))))) next_ok
def wCs : List Int := List.replicate 200 120
def wRs : List (List Int) := [List.replicate 100 2, [3]]
theorem fldW : Fld 0 0 wCs wRs := ⟨by decide, by decide, by decide, by decide, (fun k hk => by
    have : k = 120 := (List.mem_replicate.mp hk).2
    subst this
    unfold InV; decide), by decide, fun r hr => by
    simp only [wRs, List.mem_cons, List.not_mem_nil, or_false] at hr
    rcases hr with rfl | rfl <;> simp, fun r hr k hk => by
    simp only [wRs, List.mem_cons, List.not_mem_nil, or_false] at hr
    rcases hr with rfl | rfl
    · have : k = 2 := (List.mem_replicate.mp hk).2
      subst this
      unfold InV; decide
    · have : k = 3 := by simpa using hk
      subst this
      unfold InV; decide⟩
def wide : AV := sig (0 : Nat) (0 : Nat) (sortI wCs) (nr wRs)
theorem v7_ok : v7 [o0, o1, o2, o3, o4, o5, o6, o7, o8, o9, o10, o11, o12, o13, o14, o15, o16, some (sgr b), o18, o19] h = .next [o0, o1, o2, o3, o4, o5, o6, o7, o8, o9, o10, o11, o12, o13, o14, o15, o16, some (sgr b), some (wide), o19] h := by
  have r1 : mMul false (.lst [.int 120]) (.int 200) h = .ok (.lst (wCs.map .int)) h := by
    have := rep_one (h := h) (y := .int 120) (k := 200) (by omega)
    rw [show wCs.map AV.int = List.replicate 200 (.int 120) from List.map_replicate]
    exact this
  have r2 : mMul false (.lst [.int 2]) (.int 100) h = .ok (.lst ((List.replicate 100 (2 : Int)).map .int)) h := by
    have := rep_one (h := h) (y := .int 2) (k := 100) (by omega)
    rw [show (List.replicate 100 (2 : Int)).map AV.int = List.replicate 100 (.int 2) from List.map_replicate]
    exact this
  have mkw := make_f (h := h) fldW (by omega) (by omega)
  exact asg_ok (eCall_go (cons_ok eC_ok (cons_ok eC_ok (cons_ok (eBin_go (eLst_go (cons_ok eC_ok nil_ok) rfl) eC_ok r1) (cons_ok (eLst_go (cons_ok (eBin_go (eLst_go (cons_ok eC_ok nil_ok) rfl) eC_ok r2) (cons_ok (eLst_go (cons_ok eC_ok nil_ok) rfl) nil_ok)) rfl) nil_ok)))) rfl mkw)
theorem v8_ok : v8 [o0, o1, o2, o3, o4, o5, o6, o7, o8, o9, o10, o11, o12, o13, o14, o15, o16, o17, some (wide), o19] h = .next [o0, o1, o2, o3, o4, o5, o6, o7, o8, o9, o10, o11, o12, o13, o14, o15, o16, o17, some (wide), o19] h := by
  have g := fld_nr fldW
  have r2 := read_TW (h := h) g (by omega) (by omega)
  rw [sortI_idem, nr_idem] at r2
  exact if_no (tV_go (eBin_go (eCall_go (cons_ok (eCall_go (cons_ok (eVar_ok rfl) nil_ok) rfl (sign_text_ok g)) nil_ok) rfl r2) (eVar_ok rfl) (ne_sig g))) next_ok
end
end Law

namespace Law
open PySem PySem.Spec L2 AVL
local macro_rules
  | `(tactic| decreasing_trivial_pre_omega) => `(tactic| repeat' (first | with_reducible assumption | exact eVar_ok rfl | exact eC_ok | exact nil_ok | exact oNo_ok | with_reducible apply cons_ok | with_reducible apply eBin_go | with_reducible apply eCall_go | with_reducible apply eBlt_go | with_reducible apply eTup_go | with_reducible apply eLst_go | with_reducible apply eLstN_go | with_reducible apply eAttr_go | with_reducible apply eSl_go | with_reducible apply oPart_go | with_reducible apply eRev_go | with_reducible apply eMt_go | with_reducible apply eUn_go | with_reducible apply eCallD_go | with_reducible apply star_go | with_reducible apply tV_go | exact rfl))
section
variable {o0 o1 o2 o3 o4 o5 o6 o7 o8 o9 o10 o11 o12 o13 o14 o15 o16 o17 o18 o19 : Option AV} {h : AH} {c : List Int} {N : Nat} {x : AV} {hd cp : Nat} {cs : List Int} {rs : List (List Int)}
theorem read_odd (e : mIsi isaT [x, .ty "str"] h = .ok (.bl false) h) : m_read_sign [x] h = .exc "BadText" ["item"] [.int 0] h := by
  refine mk_exc (sl := [some x, none, none, none, none, none, none]) rfl (sl' := [some x, none, none, none, none, none, none]) (h1 := h) ?_ (lvx_same rfl)
  rw [read_split]
  exact seq_exc (if_yes (tNot_yes (tV_go (eBlt_go (cons_ok (eVar_ok rfl) (cons_ok eC_ok nil_ok)) e))) (raise_ok (cons_ok eC_ok nil_ok) rfl))
theorem expr_exc {fe : EM} {sl : SL} {h h1 : AH} {c : Str} {ks : List Str} {l : List AV} (e : fe sl h = .exc c ks l h1) : sExpr fe sl h = .exc c ks l sl h1 := by
  unfold sExpr
  rw [e]; rfl
theorem need_odd {s : Str} (e : mIsi isaT [x, .cls "Signature"] h = .ok (.bl false) h) : m_need_signature [.str s, x] h = .exc "BadValue" ["part"] [.str s] h := by
  refine mk_exc (sl := [some (.str s), some x]) rfl (sl' := [some (.str s), some x]) (h1 := h) ?_ (lvx_same rfl)
  exact seq_exc (if_yes (tNot_yes (tV_go (eBlt_go (cons_ok (eVar_ok rfl) (cons_ok eC_ok nil_ok)) e))) (raise_ok (cons_ok (eVar_ok rfl) nil_ok) rfl))
theorem text_odd (e : mIsi isaT [x, .cls "Signature"] h = .ok (.bl false) h) : m_sign_text [x] h = .exc "BadValue" ["part"] [.str "signature"] h := by
  refine mk_exc (sl := [some x, none, none, none]) rfl (sl' := [some x, none, none, none]) (h1 := h) ?_ (lvx_same rfl)
  exact seq_exc (expr_exc (eCall_exc (cons_ok eC_ok (cons_ok (eVar_ok rfl) nil_ok)) rfl (need_odd e)))
theorem v9_ok (hc : CellsOk c) (p : Pen [] c N h) (hN : N < 500000) : ∃ x h', v9 [o0, some (.ref 0), o2, o3, o4, o5, o6, some (sig (hd : Nat) (cp : Nat) cs rs), o8, o9, o10, o11, o12, o13, o14, o15, o16, o17, o18, o19] h = .next [o0, some (.ref 0), o2, o3, o4, o5, o6, some (sig (hd : Nat) (cp : Nat) cs rs), o8, o9, o10, o11, o12, o13, o14, o15, o16, o17, o18, some (x)] h' ∧ Pen [] c (N + 1) h' ∧ ∀ h, mIsi isaT [x, .ty "str"] h = .ok (.bl false) h := by
  obtain ⟨x, h', e, p', hx⟩ := pickB_ok (draws hc) p (by omega) (L := [.non, .int 5, .lst [.str "o"], .tup [.str "*"], .bl true, sig (hd : Nat) (cp : Nat) cs rs]) (by simp) (by simp) (by
    show (true && (true && (true && (true && (true && (bnd 1 (sig (hd : Nat) (cp : Nat) cs rs) && true)))))) = true
    rw [bnd_sig]; rfl)
  rw [← pick_eq] at e
  refine ⟨x, h', asg_ok (eCall_go (cons_ok (eVar_ok rfl) (cons_ok (eLst_go (cons_ok eC_ok (cons_ok eC_ok (cons_ok (eLst_go (cons_ok eC_ok nil_ok) rfl) (cons_ok (eTup_go (cons_ok eC_ok nil_ok) rfl) (cons_ok eC_ok (cons_ok (eVar_ok rfl) nil_ok)))))) rfl) nil_ok)) rfl e), p', fun h => ?_⟩
  simp only [List.mem_cons, List.not_mem_nil, or_false] at hx
  rcases hx with rfl | rfl | rfl | rfl | rfl | rfl <;> kernel_rfl
theorem v10_ok (p : Pen [] c N h) (e : ∀ h, mIsi isaT [x, .ty "str"] h = .ok (.bl false) h) : v10 [o0, some (.ref 0), o2, o3, o4, o5, o6, o7, o8, o9, o10, o11, o12, o13, o14, o15, o16, o17, o18, some (x)] h = .next [o0, some (.ref 0), o2, o3, o4, o5, o6, o7, o8, o9, o10, o11, o12, o13, some (.ref 1), o15, o16, o17, o18, some (x)] (h ++ [.lst [tx 0]]) ∧ Pen [.lst [tx 0]] c N (h ++ [.lst [tx 0]]) := by
  have l1 : h.length = 1 := p.len
  have rd : eLam m_law_heard (eCall 1 m_read_sign (aCons (eVar 19) (aNil))) [o0, some (.ref 0), o2, o3, o4, o5, o6, o7, o8, o9, o10, o11, o12, o13, o14, o15, o16, o17, o18, some (x)] h = .ok (tx 0) h := by
    refine lam_ok ?_
    rw [show (fun h' => eCall 1 m_read_sign (aCons (eVar 19) (aNil)) [o0, some (.ref 0), o2, o3, o4, o5, o6, o7, o8, o9, o10, o11, o12, o13, o14, o15, o16, o17, o18, some (x)] h') = fun h' => m_read_sign [x] h' from funext fun h' => eCall_eq (cons_ok (eVar_ok rfl) nil_ok) rfl]
    exact heard_text (read_odd (e h))
  have a := asg_ok (i := 14) (eLstN_go (cons_ok rd nil_ok) rfl)
  rw [l1] at a
  exact ⟨a, p.put [.lst [tx 0]]⟩
def oddS : List AV := [.non, .int 5, .str "o", .tup [.int 0, .int 0, .tup [], .tup []]]
theorem v11_ok (hc : CellsOk c) (p : Pen [.lst [tx 0]] c N h) (hN : N < 500000) : ∃ h', v11 [o0, some (.ref 0), o2, o3, o4, o5, o6, o7, o8, o9, o10, o11, o12, o13, some (.ref 1), o15, o16, o17, o18, o19] h = .next [o0, some (.ref 0), o2, o3, o4, o5, o6, o7, o8, o9, o10, o11, o12, o13, some (.ref 1), o15, o16, o17, o18, o19] h' ∧ Pen [.lst [tx 0, vlT "signature"]] c (N + 1) h' := by
  obtain ⟨x, h', e, p', hx⟩ := pickB_ok (draws hc) p (by omega) (L := oddS) (by decide) (by decide) rfl
  rw [← pick_eq] at e
  have i : mIsi isaT [x, .cls "Signature"] h' = .ok (.bl false) h' := by
    simp only [oddS, List.mem_cons, List.not_mem_nil, or_false] at hx
    rcases hx with rfl | rfl | rfl | rfl <;> kernel_rfl
  have hv := heard_value (th := fun h2 => eCall 1 m_sign_text (aCons (eCall 2 m_law_pick (aCons (eVar 1) (aCons (eLst false (aCons (eC .non) (aCons (eC (.int 5)) (aCons (eC (.str "o")) (aCons (eTup (aCons (eC (.int 0)) (aCons (eC (.int 0)) (aCons (eTup (aNil)) (aCons (eTup (aNil)) (aNil)))))) (aNil)))))) (aNil)))) (aNil)) [o0, some (.ref 0), o2, o3, o4, o5, o6, o7, o8, o9, o10, o11, o12, o13, some (.ref 1), o15, o16, o17, o18, o19] h2) (h := h) (h1 := h') (s := "signature") (eCall_exc (cons_ok (eCall_go (cons_ok (eVar_ok rfl) (cons_ok (eLst_go (cons_ok eC_ok (cons_ok eC_ok (cons_ok eC_ok (cons_ok (eTup_go (cons_ok eC_ok (cons_ok eC_ok (cons_ok (eTup_go nil_ok rfl) (cons_ok (eTup_go nil_ok rfl) nil_ok)))) rfl) nil_ok)))) rfl) nil_ok)) rfl e) nil_ok) rfl (text_odd i)) (by rw [p'.len, p.len])
  have g1 : h'[1]? = some (.lst [tx 0]) := p'.get (k := 0)
  have g0 : h[1]? = some (.lst [tx 0]) := p.get (k := 0)
  refine ⟨h'.set 1 (.lst ([tx 0] ++ [vlT "signature"])), expr_ok (v := .non) (eMt_go (eVar_ok rfl) (ty_ref g0) (cons_ok (lam_ok hv) nil_ok) (app_ref g1 rfl (by simp))), ?_⟩
  exact p'.set (k := 0) (x := .lst ([tx 0] ++ [vlT "signature"]))
def dashL : List AV := [.str "- 2", .str "- -", .str "- o", .str "- "]
theorem dash_ok (hx : x ∈ dashL) : m_read_sign [x] h = .exc "BadText" ["item"] [.int 1] h := by
  have go : ∀ q : PW, Wd q.1 q.2 → m_read_sign [.str (txt [(("-", .da) : PW), q])] h = .exc "BadText" ["item"] [.int 1] h := fun q w => by
    refine read_none_more (p := (("-", .da) : PW)) (l := [q]) (spl_txt (fun z hz => ?_) (by simp) (by simp)) rfl (by simp)
    rcases List.mem_cons.mp hz with rfl | hz
    · exact none_wd _ List.mem_cons_self
    · have : z = q := by simpa using hz
      subst this
      exact w
  simp only [dashL, List.mem_cons, List.not_mem_nil, or_false] at hx
  rcases hx with rfl | rfl | rfl | rfl
  · have := go (("2", .n 2) : PW) (by unfold Wd; decide +kernel)
    rwa [show txt [(("-", .da) : PW), ("2", .n 2)] = "- 2" by kernel_rfl] at this
  · have := go (("-", .da) : PW) (by unfold Wd; decide +kernel)
    rwa [show txt [(("-", .da) : PW), ("-", .da)] = "- -" by kernel_rfl] at this
  · have := go (("o", .o) : PW) (by unfold Wd; decide +kernel)
    rwa [show txt [(("-", .da) : PW), ("o", .o)] = "- o" by kernel_rfl] at this
  · have := go (("", .bad) : PW) (by unfold Wd; decide +kernel)
    rwa [show txt [(("-", .da) : PW), ("", .bad)] = "- " by kernel_rfl] at this
theorem heard_text1 {h1 : AH} {k : Int} {th : AH → Res AV} (e : th h = .exc "BadText" ["item"] [.int k] h1) (hl : h1.length = h.length) : m_law_heard th h = .ok (tx k) h1 := by
  have a := heard_text (h := h1) (th := fun _ => .exc "BadText" ["item"] [.int k] h1) rfl
  unfold m_law_heard mGive at a ⊢
  rw [e]
  rw [← hl]
  exact a
theorem v12_ok {C : AH} (hc : CellsOk c) (p : Pen C c N h) (hN : N < 500000) : ∃ h', v12 [o0, some (.ref 0), o2, o3, o4, o5, o6, o7, o8, o9, o10, o11, o12, o13, o14, o15, o16, o17, o18, o19] h = .next [o0, some (.ref 0), o2, o3, o4, o5, o6, o7, o8, o9, o10, o11, o12, o13, o14, o15, o16, o17, o18, o19] h' ∧ Pen C c (N + 1) h' := by
  obtain ⟨x, h', e, p', hx⟩ := pickB_ok (draws hc) p (by omega) (L := dashL) (by decide) (by decide) rfl
  rw [← pick_eq] at e
  have hv := heard_text1 (th := fun h2 => eCall 1 m_read_sign (aCons (eCall 2 m_law_pick (aCons (eVar 1) (aCons (eLst false (aCons (eC (.str "- 2")) (aCons (eC (.str "- -")) (aCons (eC (.str "- o")) (aCons (eC (.str "- ")) (aNil)))))) (aNil)))) (aNil)) [o0, some (.ref 0), o2, o3, o4, o5, o6, o7, o8, o9, o10, o11, o12, o13, o14, o15, o16, o17, o18, o19] h2) (h := h) (h1 := h') (k := 1) (eCall_exc (cons_ok (eCall_go (cons_ok (eVar_ok rfl) (cons_ok (eLst_go (cons_ok eC_ok (cons_ok eC_ok (cons_ok eC_ok (cons_ok eC_ok nil_ok)))) rfl) nil_ok)) rfl e) nil_ok) rfl (dash_ok hx)) (by rw [p'.len, p.len])
  exact ⟨h', if_no (tV_go (eBin_go (lam_ok hv) (eTup_go (cons_ok eC_ok (cons_ok eC_ok nil_ok)) rfl) (ne_no pd_tx pd_tx (eqv_rfl _ rfl)))) next_ok, p'⟩
theorem read_dash : m_read_sign [.str "-"] h = .ok (sig 0 0 [] []) h := by
  have := read_none (h := h) (p := (("-", .da) : PW)) (spl_txt none_wd (by simp) (by simp)) rfl
  rwa [txt_one] at this
theorem f_star : hsF [(("*", .st) : PW)] = 0 ∧ cpF [(("*", .st) : PW)] = 0 ∧ csF [(("*", .st) : PW)] = [] ∧ (rqF [(("*", .st) : PW)]).1 = [[]] ∧ enF [(("*", .st) : PW)] = 1 := by decide +kernel
theorem least_nil : least [] = [] := List.length_eq_zero_iff.mp (by rw [least_dih.len]; rfl)
theorem read_star : m_read_sign [.str "*"] h = .ok (sig 0 0 [] [[]]) h := by
  obtain ⟨e1, e2, e3, e4, e5⟩ := f_star
  have w : Wds [(("*", .st) : PW)] := fun p hp => by
    have : p = (("*", .st) : PW) := by simpa using hp
    subst this
    exact st_wd
  have := read_good (h := h) (p := (("*", .st) : PW)) (l := []) (spl_txt w (by simp) (by simp)) (fun z => nomatch z) e5 (by rw [e1]; omega) (by rw [e2]; omega) (by rw [e3]; simp) (by rw [e4]; simp) (by
    rw [e4]
    intro r hr
    have : r = [] := by simpa using hr
    subst this
    exact ⟨fun z hz => (nomatch hz), by simp⟩)
  rw [e1, e2, e3, e4, txt_one] at this
  rw [this]
  show Res.ok (sig 0 0 (sortI []) (sortR [least []])) h = _
  rw [least_nil]
  simp [sortI, sortR]
theorem v13_ok {a g : Int} : v13 [o0, o1, o2, o3, o4, o5, o6, o7, o8, o9, o10, o11, o12, o13, some (.ref 1), o15, o16, o17, o18, o19] (pen [.lst [tx 0, vlT "signature"]] c a g) = .ret (.bl true) (pen [.lst [tx 0, vlT "signature"]] c a g) := by
  have p1 : pd 60 (pen [.lst [tx 0, vlT "signature"]] c a g) (.ref 1) = some (.list [.tuple [.str "text", .int 0], .tuple [.str "value", .str "signature"]]) := by kernel_rfl
  have p2 : pd 60 (pen [.lst [tx 0, vlT "signature"]] c a g) (.lst [tx 0, vlT "signature"]) = some (.list [.tuple [.str "text", .int 0], .tuple [.str "value", .str "signature"]]) := by kernel_rfl
  have e1 := eq_yes p1 p2 (eqv_rfl _ rfl)
  have n0 : numD (partsD 0 0 [] []) = true := by decide +kernel
  have q1 : pd 60 (pen [.lst [tx 0, vlT "signature"]] c a g) (.tup [.tup []]) = some (.tuple [.tuple []]) := rfl
  exact ret_ok (eAnd_yes (eBin_go (eVar_ok rfl) (eLst_go (cons_ok (eTup_go (cons_ok eC_ok (cons_ok eC_ok nil_ok)) rfl) (cons_ok (eTup_go (cons_ok eC_ok (cons_ok eC_ok nil_ok)) rfl) nil_ok)) rfl) e1) (eAnd_yes (eBin_go (eAttr_go (eCall_go (cons_ok eC_ok nil_ok) rfl read_dash) at_parts) (eTup_go (cons_ok eC_ok (cons_ok eC_ok (cons_ok (eTup_go nil_ok rfl) (cons_ok (eTup_go nil_ok rfl) nil_ok)))) rfl) (eq_yes pd_parts (pd_parts (hd := 0) (cp := 0) (cs := []) (rs := [])) (eqv_num n0))) (eBin_go (eAttr_go (eCall_go (cons_ok eC_ok nil_ok) rfl read_star) at_m) (eTup_go (cons_ok (eTup_go nil_ok rfl) nil_ok) rfl) (eq_yes q1 q1 (eqv_rfl _ rfl)))))
end
theorem cut_all {l : List AV} (h : l.length ≤ 63) : cutA l none (some 63) = l := by
  unfold cutA
  rw [HT.sIx_none, show (63 : Int) = ((63 : Nat) : Int) from rfl, HT.sIx_nat]
  simp only [List.drop_zero, Nat.sub_zero]
  rw [Nat.min_eq_right h, List.take_length]
theorem pen_start {c : List Int} (hc : CellsOk c) : m_law_pen [.klst (c.map .int)] [] = .ok (.ref 0) (pen [] c 0 0) := by
  have cu : cutA (c.map AV.int) none (some 63) = c.map .int := cut_all (by rw [List.length_map]; exact hc.len)
  have sl : mSl true (.klst (c.map AV.int)) none (some 63) [] = .ok (.ref 0) [.lst (c.map .int)] := by
    show mkL true (cutA (c.map AV.int) none (some 63)) [] = _
    rw [cu]; rfl
  have li : mList true [.ref 0] [.lst (c.map AV.int)] = .ok (.ref 1) [.lst (c.map .int), .lst (c.map .int)] := rfl
  have lv : leaveK 0 (.ref 2) [.lst (c.map AV.int), .lst (c.map .int), .lst [.ref 1, .int 0, .int 0]] = .ok (.ref 0) (pen [] c 0 0) := by
    have fi : ∀ g, frzVs g (c.map AV.int) = some (c.map .int) := fun g => frzVs_low (m := 0) (fun k hk => absurd hk (by omega)) _ bnds_ints
    have f : frzs [.lst (c.map AV.int), .lst (c.map .int), .lst [.ref 1, .int 0, .int 0]] 0 [.ref 1, .int 0, .int 0] = some [.lst (c.map .int), .int 0, .int 0] := by
      unfold frzs
      simp [frzVs, frzV, frzN, fi]
    unfold leaveK
    simp [AVL.bnds, AVL.bnd, f, pen]
  refine mkK_go (sl := [some (.klst (c.map .int))]) rfl (h1 := [.lst (c.map .int), .lst (c.map .int), .lst [.ref 1, .int 0, .int 0]]) (v := .ref 2) (ret_ok ?_) lv
  exact eLstN_go (cons_ok (eBlt_go (cons_ok (eSl_go (eVar_ok rfl) oNo_ok (oPart_go eC_ok) sl) nil_ok) li) (cons_ok eC_ok (cons_ok eC_ok nil_ok))) rfl
theorem law_true (ns : List Int) (h1 : ns.length ≤ 63) (h2 : ∀ z ∈ ns, Builtin.Int.intBits z ≤ 1048576) : ∃ h, m_law [.klst (ns.map .int)] [] = .ok (.bl true) h := by
  have hc : CellsOk ns := ⟨h1, fun z hz => PySem.intBits_le_iff.mp (h2 z hz)⟩
  have p0 : Pen [] ns 0 (pen [] ns 0 0) := ⟨0, 0, rfl, by decide, by decide, by decide, Nat.two_pow_pos _⟩
  have a1 := pen_start hc
  have l8 : (rangeL 0 8).length = 8 := by simp [rangeL]
  obtain ⟨w2, w3, w4, w5, w6, S, w8, w9, w10, w11, w12, w13, w14, ha, ea, pa, hd, cp, cs, rs, rfl⟩ := turns (o0 := some (.klst (ns.map .int))) (o15 := none) (o16 := none) (o17 := none) (o18 := none) (o19 := none) hc (rangeL 0 8) 0 _ none none none none none none none none none none none none none p0 (by omega) (by intro e; rw [e] at l8; simp at l8)
  rw [l8] at pa
  obtain ⟨b, hb, eb, pb⟩ := v2_ok (o0 := some (.klst (ns.map .int))) (o2 := w2) (o3 := w3) (o4 := w4) (o5 := w5) (o6 := w6) (o7 := some (sig (hd : Nat) (cp : Nat) cs rs)) (o8 := w8) (o9 := w9) (o10 := w10) (o11 := w11) (o12 := w12) (o13 := w13) (o14 := w14) (o15 := none) (o16 := none) (o17 := none) (o18 := none) (o19 := none) hc pa (by omega)
  obtain ⟨x, hx, ex, px, ix⟩ := v9_ok (o0 := some (.klst (ns.map .int))) (o2 := w2) (o3 := w3) (o4 := w4) (o5 := w5) (o6 := w6) (hd := hd) (cp := cp) (cs := cs) (rs := rs) (o8 := w8) (o9 := w9) (o10 := w10) (o11 := w11) (o12 := w12) (o13 := w13) (o14 := w14) (o15 := some (.str (mS b))) (o16 := some (.str (pS b))) (o17 := some (sgr b)) (o18 := some wide) (o19 := none) hc pb (by omega)
  obtain ⟨ey, py⟩ := v10_ok (o0 := some (.klst (ns.map .int))) (o2 := w2) (o3 := w3) (o4 := w4) (o5 := w5) (o6 := w6) (o7 := some (sig (hd : Nat) (cp : Nat) cs rs)) (o8 := w8) (o9 := w9) (o10 := w10) (o11 := w11) (o12 := w12) (o13 := w13) (o14 := w14) (o15 := some (.str (mS b))) (o16 := some (.str (pS b))) (o17 := some (sgr b)) (o18 := some wide) px ix
  obtain ⟨hz, ez, pz⟩ := v11_ok (o0 := some (.klst (ns.map .int))) (o2 := w2) (o3 := w3) (o4 := w4) (o5 := w5) (o6 := w6) (o7 := some (sig (hd : Nat) (cp : Nat) cs rs)) (o8 := w8) (o9 := w9) (o10 := w10) (o11 := w11) (o12 := w12) (o13 := w13) (o15 := some (.str (mS b))) (o16 := some (.str (pS b))) (o17 := some (sgr b)) (o18 := some wide) (o19 := some x) hc py (by omega)
  obtain ⟨hu, eu, pu⟩ := v12_ok (o0 := some (.klst (ns.map .int))) (o2 := w2) (o3 := w3) (o4 := w4) (o5 := w5) (o6 := w6) (o7 := some (sig (hd : Nat) (cp : Nat) cs rs)) (o8 := w8) (o9 := w9) (o10 := w10) (o11 := w11) (o12 := w12) (o13 := w13) (o14 := some (.ref 1)) (o15 := some (.str (mS b))) (o16 := some (.str (pS b))) (o17 := some (sgr b)) (o18 := some wide) (o19 := some x) hc pz (by omega)
  obtain ⟨a, g, rfl, _⟩ := pu
  refine ⟨_, mk_go (sl := [some (.klst (ns.map .int)), none, none, none, none, none, none, none, none, none, none, none, none, none, none, none, none, none, none, none]) rfl (h1 := pen [.lst [tx 0, vlT "signature"]] ns a g) (v := .bl true) ?_ (leave_low rfl)⟩
  rw [law_split]
  refine seq_go (sl' := [some (.klst (ns.map .int)), some (.ref 0), none, none, none, none, none, none, none, none, none, none, none, none, none, none, none, none, none, none]) (asg_ok (eCall_go (cons_ok (eVar_ok rfl) nil_ok) rfl a1)) ?_
  refine seq_go (for_ok (range1_ok (k := 8) (cons_ok eC_ok nil_ok) rfl) ea) (seq_go eb (seq_go v3_ok (seq_go v4_ok (seq_go v5_ok (seq_go v6_ok (seq_go v7_ok (seq_go v8_ok (seq_go ex (seq_go ey (seq_go ez (seq_go eu v13_ok)))))))))))
end Law

open PySem PySem.W PySem.Calls PyProof.Rows
theorem PySem.Challenge.cw_roundflatwild_k45_texts_of_signatures_holds : PySem.Challenge.rw_roundflatwild_k45_texts_of_signatures.Holds := by
  w_on; o_law
  refine HandSHeadRun.head_any (r := OpenLaw.row PySem.Challenge.rw_roundflatwild_k45_texts_of_signatures) (q := view (OpenLaw.row PySem.Challenge.rw_roundflatwild_k45_texts_of_signatures).prog [37]) (H := Law.hk) (ob := Law.ob) (M := 20000) (loose := Law.looseL) (d := HandSHeadRun.topDef (OpenLaw.row PySem.Challenge.rw_roundflatwild_k45_texts_of_signatures).prog 37) (kwd := []) Law.ob_eq
    (by kernel_rfl) (fun s => by kernel_rfl) Law.run (by kernel_rfl) (by kernel_rfl) (by kernel_rfl) (by rfl) (by first | assumption | decide +kernel) (by decide +kernel) ⟨rfl, rfl, rfl, rfl, rfl, by decide +kernel⟩ ?hw (Law.law_holds Law.law_true)
  case hw => w_witness2

