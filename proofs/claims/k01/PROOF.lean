import PyProof.Rows.All
import Wide.All
import OpenK.AllK
import Wide.FinOn
import PySem.Challenge.RW_roundflatwild_k01_fractions_of_any_size
import HandS.ForMost
import HandS.Exc
import HandS.ExcOwn
import HandS.ExcInit
import HandS.Defaults
import HandS.CallSlots
import HandS.Wide
import HandS.WideBits
import HandS.Gcd
import HandS.IsInst
import HandS.TupAny
import HandS.Flow
import HandS.Lambda
import HandS.Style
import HandS.ExcField
import KE.KExcIs
import HandS.HeadHook2
import HandS.EndTab
import HandS.HeadEnd
import HandS.Head3
import KE.KStateDown
import KE.IntBitsLaws
set_option Elab.async false
set_option linter.all false
set_option maxRecDepth 100000
set_option maxHeartbeats 4000000
noncomputable section
/-! The layer AV: values without a heap, each def a plain function of them. -/
namespace AVL
open PySem PySem.Spec L2

inductive AV where
  | non | bl (b : Bool) | int (i : Int) | str (x : Str) | ty (n : String) | cls (c : Str)
  | tup (l : List AV) | lst (l : List AV) | klst (l : List AV) | dct (ks : List Key) (l : List AV)
  | obj (c : Str) (ks : List Str) (l : List AV) | exc (c : Str) (ks : List Str) (l : List AV)
  | ref (n : Nat)
inductive Cell where
  | lst (l : List AV) | dct (ks : List Key) (l : List AV) | ins (c : Str) (ks : List Str) (l : List AV) | dead
/-! the names in a value are below n -/
mutual
def bnd (n : Nat) : AV → Bool
  | .ref k => decide (k < n)
  | .tup l => bnds n l
  | .lst l => bnds n l
  | .klst l => bnds n l
  | .dct _ l => bnds n l
  | .obj _ _ l => bnds n l
  | .exc _ _ l => bnds n l
  | _ => true
def bnds (n : Nat) : List AV → Bool
  | [] => true
  | x :: xs => bnd n x && bnds n xs
end
def bndC (n : Nat) : Cell → Bool
  | .lst l => bnds n l
  | .dct _ l => bnds n l
  | .ins _ _ l => bnds n l
  | .dead => true
def Cell.live : Cell → Bool
  | .dead => false
  | _ => true
abbrev AH := List Cell
abbrev SL := List (Option AV)

/-! the same value -/
mutual
def beqV : AV → AV → Bool
  | .non, .non => true
  | .bl a, .bl b => a == b
  | .int a, .int b => a == b
  | .str a, .str b => decide (a = b)
  | .ty a, .ty b => a == b
  | .cls a, .cls b => decide (a = b)
  | .tup a, .tup b => beqVs a b
  | .lst a, .lst b => beqVs a b
  | .klst a, .klst b => beqVs a b
  | .dct k a, .dct k' b => decide (k = k') && beqVs a b
  | .obj c k a, .obj c' k' b => decide (c = c') && (decide (k = k') && beqVs a b)
  | .exc c k a, .exc c' k' b => decide (c = c') && (decide (k = k') && beqVs a b)
  | .ref a, .ref b => a == b
  | _, _ => false
def beqVs : List AV → List AV → Bool
  | [], [] => true
  | x :: xs, y :: ys => beqV x y && beqVs xs ys
  | _, _ => false
end
mutual
theorem beqV_refl : ∀ x : AV, beqV x x = true
  | .non => rfl
  | .bl a => by simp [beqV]
  | .int a => by simp [beqV]
  | .str a => by simp [beqV]
  | .ty a => by simp [beqV]
  | .cls a => by simp [beqV]
  | .tup a => by simp only [beqV]; exact beqVs_refl a
  | .lst a => by simp only [beqV]; exact beqVs_refl a
  | .klst a => by simp only [beqV]; exact beqVs_refl a
  | .dct k a => by simp [beqV, beqVs_refl a]
  | .obj c k a => by simp [beqV, beqVs_refl a]
  | .exc c k a => by simp [beqV, beqVs_refl a]
  | .ref a => by simp [beqV]
theorem beqVs_refl : ∀ x : List AV, beqVs x x = true
  | [] => rfl
  | x :: xs => by simp [beqVs, beqV_refl x, beqVs_refl xs]
end
mutual
theorem beqV_eq : ∀ x y : AV, beqV x y = true → x = y
  | .non, y, h => by cases y <;> simp [beqV] at h ⊢
  | .bl a, y, h => by cases y <;> simp [beqV] at h ⊢; exact h
  | .int a, y, h => by cases y <;> simp [beqV] at h ⊢; exact h
  | .str a, y, h => by cases y <;> simp [beqV] at h ⊢; exact h
  | .ty a, y, h => by cases y <;> simp [beqV] at h ⊢; exact h
  | .cls a, y, h => by cases y <;> simp [beqV] at h ⊢; exact h
  | .tup a, y, h => by cases y <;> simp [beqV] at h ⊢; exact beqVs_eq _ _ h
  | .lst a, y, h => by cases y <;> simp [beqV] at h ⊢; exact beqVs_eq _ _ h
  | .klst a, y, h => by cases y <;> simp [beqV] at h ⊢; exact beqVs_eq _ _ h
  | .dct k a, y, h => by cases y <;> simp [beqV] at h ⊢; exact ⟨h.1, beqVs_eq _ _ h.2⟩
  | .obj c k a, y, h => by cases y <;> simp [beqV] at h ⊢; exact ⟨h.1, h.2.1, beqVs_eq _ _ h.2.2⟩
  | .exc c k a, y, h => by cases y <;> simp [beqV] at h ⊢; exact ⟨h.1, h.2.1, beqVs_eq _ _ h.2.2⟩
  | .ref a, y, h => by cases y <;> simp [beqV] at h ⊢; exact h
theorem beqVs_eq : ∀ x y : List AV, beqVs x y = true → x = y
  | [], y, h => by cases y <;> simp [beqVs] at h ⊢
  | x :: xs, y, h => by cases y <;> simp [beqVs] at h ⊢; exact ⟨beqV_eq _ _ h.1, beqVs_eq _ _ h.2⟩
end
/-- at a: an exception's object, of the class cls, its dict at d -/
def EXV (a : Addr) (cls : Value) (d : Option Addr) : HO := .ext fun h => ∃ oe vs, h.get? a = some oe ∧ oe.cls = cls ∧ oe.dict = d ∧ oe.data = .fields vs

/-- the tables of code objects that are told of: written behind the part of the heap -/
def tabsOf (K : PySem.W.Frag) : List (Addr × Str) := match K.getLast? with
  | some (_, ⟨.none, none, .seq vs _, _⟩) => vs.toList.filterMap fun v => match v with
    | .str q a => some (a, q)
    | _ => none
  | _ => []
/-- no table, no code object -/
def Soft (H : Hp) (a : Addr) : Prop := ∀ o, H a = some o → (∀ ps, o ≠ .tbl ps) ∧ ∀ f, o ≠ .ext f
theorem soft_none {H : Hp} {a : Addr} (h : H a = none) : Soft H a := fun o e => by rw [h] at e; cases e
theorem soft_lst {H : Hp} {a : Addr} {l : List V} (h : H a = some (.lst l)) : Soft H a := fun o e => by
  rw [h] at e; cases e
  exact ⟨fun _ z => (nomatch z), fun _ z => (nomatch z)⟩
theorem tabs_upd {T : List (Addr × Str)} {H : Hp} {a : Addr} {o : HO} (t : LamX.Tabs T H) (s : Soft H a) : LamX.Tabs T (upd H a o) := fun p hp => by
  obtain ⟨ps, h1, h2, h3⟩ := t p hp
  refine ⟨ps, ?_, h2, fun pos cv hc => ?_⟩
  · rw [upd_ne (fun z => by rw [z] at h1; exact (s _ h1).1 _ rfl)]; exact h1
  · obtain ⟨c, e1, e2⟩ := h3 pos cv hc
    exact ⟨c, e1, by rw [upd_ne (fun z => by rw [z] at e2; exact (s _ e2).2 _ rfl)]; exact e2⟩
section
variable (K : PySem.W.Frag) (mg : Str → Option Value) (ρ : List Addr) (F : Hp)
mutual
def RV : AV → V → Prop
  | .non, v => v = .non
  | .bl b, v => v = .bl b
  | .int i, v => v = .int i
  | .str x, v => v = .str x
  | .ty n, v => v = .ty n
  | .cls c, v => ∃ C, v = .ref C ∧ mg c = some (.ref C)
  | .tup l, v => ∃ a vs, v = .ref a ∧ SqT K F a vs ∧ RVs l vs
  | .lst l, v => ∃ a vs, v = .ref a ∧ F a = some (.lst vs) ∧ RVs l vs
  | .klst l, v => ∃ a vs, v = .ref a ∧ SqL K F a vs ∧ RVs l vs
  | .dct ks l, v => ∃ a kvs, v = .ref a ∧ F a = some (.dK kvs) ∧ kvs.map (·.1) = ks ∧ RVs l (kvs.map (·.2))
  | .obj c ks l, v => ∃ a C dx fs, v = .ref a ∧ mg c = some (.ref C) ∧ F a = some (.ins C dx fs) ∧ fs.map (·.1) = ks ∧ RVs l (fs.map (·.2))
  | .exc c ks l, v => ∃ a C d fs, v = .ref a ∧ mg c = some (.ref C) ∧ F a = some (EXV a (.ref C) (some d)) ∧ F d = some (.xd fs) ∧ fs.map (·.1) = ks ∧ RVs l (fs.map (·.2))
  | .ref n, v => ∃ a, v = .ref a ∧ ρ[n]? = some a
def RVs : List AV → List V → Prop
  | [], vs => vs = []
  | x :: xs, vs => ∃ v r, vs = v :: r ∧ RV x v ∧ RVs xs r
end
def RC : Cell → HO → Prop
  | .lst l, o => ∃ vs, o = .lst vs ∧ RVs K mg ρ F l vs
  | .dct ks l, o => ∃ kvs : List (Key × V), o = .dK kvs ∧ kvs.map (·.1) = ks ∧ RVs K mg ρ F l (kvs.map (·.2))
  | .ins c ks l, o => ∃ C dx fs, o = .ins C dx fs ∧ mg c = some (.ref C) ∧ fs.map (·.1) = ks ∧ RVs K mg ρ F l (fs.map (·.2))
  | .dead, o => ∀ ps, o ≠ .tbl ps
structure RH (h : AH) (H : Hp) : Prop where
  len : ρ.length = h.length
  tab : LamX.Tabs (tabsOf K) H
  ntb : ∀ a ps, F a ≠ some (.tbl ps)
  nd : ρ.Nodup
  sub : ∀ a o, F a = some o → H a = some o
  sep : ∀ (n : Nat) (c : Cell), h[n]? = some c → c.live = true → ∀ a, ρ[n]? = some a → F a = none
  old : ∀ (n : Nat) (c : Cell), h[n]? = some c → bndC (n + 1) c = true
  cell : ∀ (n : Nat) (c : Cell), h[n]? = some c → ∀ a, ρ[n]? = some a → ∃ o, H a = some o ∧ RC K mg ρ F c o
def RSl (sl : SL) (σ : St) : Prop := sl.length = σ.length ∧ ∀ (i : Nat) (x : AV), sl[i]? = some (some x) → ∃ v, σ[i]? = some (some v) ∧ RV K mg ρ F x v
/-- an exception's own dict -/
def RX (ks : List Str) (l : List AV) (d : Option Addr) : Prop := ∃ dd fs, d = some dd ∧ F dd = some (.xd fs) ∧ fs.map (·.1) = ks ∧ RVs K mg ρ F l (fs.map (·.2))
end

/-- nothing told, or a table -/
def Gone (H : Hp) (a : Addr) : Prop := ∀ o, H a = some o → ∃ ps, o = .tbl ps
theorem gone_of {H : Hp} {a : Addr} (h : H a = none) : Gone H a := fun o e => by rw [h] at e; cases e
structure Ext (ρ : List Addr) (F H : Hp) (ρ' : List Addr) (F' H' : Hp) : Prop where
  pre : ∃ t, ρ' = ρ ++ t
  fz : ∀ a o, F a = some o → F' a = some o
  keep : ∀ a o, H a = some o → a ∉ ρ → (∀ ps, o ≠ .tbl ps) → H' a = some o
  new : ∀ a ∈ ρ', a ∈ ρ ∨ Gone H a
  fnew : ∀ a o, F' a = some o → F a = some o ∨ Gone H a ∨ a ∈ ρ

inductive Res (α : Type) where
  | ok (a : α) (h : AH) | exc (c : Str) (ks : List Str) (l : List AV) (h : AH) | stuck
def Res.bind {α β : Type} (r : Res α) (k : α → AH → Res β) : Res β := match r with
  | .ok a h => k a h
  | .exc c ks l h => .exc c ks l h
  | .stuck => .stuck
def Res.map {α β : Type} (r : Res α) (f : α → β) : Res β := match r with
  | .ok a h => .ok (f a) h
  | .exc c ks l h => .exc c ks l h
  | .stuck => .stuck

section
variable {K : PySem.W.Frag} {mg : Str → Option Value} {ρ ρ' ρ1 ρ2 : List Addr} {F H F' H' F1 H1 F2 H2 : Hp}
theorem Ext.refl (ρ : List Addr) (F H : Hp) : Ext ρ F H ρ F H :=
  ⟨⟨[], by simp⟩, fun _ _ h => h, fun _ _ h _ _ => h, fun _ h => .inl h, fun _ _ h => .inl h⟩
theorem Ext.gone (e : Ext ρ F H ρ1 F1 H1) {a : Addr} (h : Gone H1 a) : Gone H a ∨ a ∈ ρ := by
  by_cases ha : a ∈ ρ
  · exact .inr ha
  · refine .inl fun o q => ?_
    by_cases ht : ∃ ps, o = .tbl ps
    · exact ht
    · exact h o (e.keep a o q ha fun ps z => ht ⟨ps, z⟩)
theorem Ext.trans (e : Ext ρ F H ρ1 F1 H1) (e' : Ext ρ1 F1 H1 ρ2 F2 H2) : Ext ρ F H ρ2 F2 H2 where
  pre := by
    obtain ⟨t, rfl⟩ := e.pre
    obtain ⟨t', rfl⟩ := e'.pre
    exact ⟨t ++ t', by rw [List.append_assoc]⟩
  fz := fun a o h => e'.fz a o (e.fz a o h)
  keep := fun a o h hn ht => e'.keep a o (e.keep a o h hn ht) (fun hm => by
    rcases e.new a hm with z | z
    · exact hn z
    · obtain ⟨ps, r⟩ := z _ h
      exact ht ps r) ht
  new := fun a hm => by
    rcases e'.new a hm with z | z
    · exact e.new a z
    · rcases e.gone z with q | q
      · exact .inr q
      · exact .inl q
  fnew := fun a o h => by
    rcases e'.fnew a o h with z | z | z
    · exact e.fnew a o z
    · rcases e.gone z with q | q
      · exact .inr (.inl q)
      · exact .inr (.inr q)
    · rcases e.new a z with q | q
      · exact .inr (.inr q)
      · exact .inr (.inl q)
theorem SqL.mono {a : Addr} {vs : List V} (f : ∀ a o, F a = some o → F1 a = some o) (h : SqL K F a vs) : SqL K F1 a vs := by
  rcases h with (h | ⟨o, h⟩) | h
  · exact .inl (.inl (f _ _ h))
  · exact .inl (.inr ⟨o, f _ _ h⟩)
  · exact .inr h
theorem SqT.mono {a : Addr} {vs : List V} (f : ∀ a o, F a = some o → F1 a = some o) (h : SqT K F a vs) : SqT K F1 a vs := by
  rcases h with (h | ⟨o, h⟩) | h
  · exact .inl (.inl (f _ _ h))
  · exact .inl (.inr ⟨o, f _ _ h⟩)
  · exact .inr h
mutual
theorem RV.mono (f : ∀ a o, F a = some o → F1 a = some o) (p : ∀ (n : Nat) (a : Addr), ρ[n]? = some a → ρ1[n]? = some a) : ∀ (x : AV) (v : V), RV K mg ρ F x v → RV K mg ρ1 F1 x v
  | .non, v, h => by simpa [RV] using h
  | .bl b, v, h => by simpa [RV] using h
  | .int i, v, h => by simpa [RV] using h
  | .str x, v, h => by simpa [RV] using h
  | .ty n, v, h => by simpa [RV] using h
  | .cls c, v, h => by simpa [RV] using h
  | .tup l, v, h => by
    simp only [RV] at h ⊢
    obtain ⟨a, vs, e, q, r⟩ := h
    exact ⟨a, vs, e, SqT.mono f q, RVs.mono f p l vs r⟩
  | .lst l, v, h => by
    simp only [RV] at h ⊢
    obtain ⟨a, vs, e, q, r⟩ := h
    exact ⟨a, vs, e, f _ _ q, RVs.mono f p l vs r⟩
  | .klst l, v, h => by
    simp only [RV] at h ⊢
    obtain ⟨a, vs, e, q, r⟩ := h
    exact ⟨a, vs, e, SqL.mono f q, RVs.mono f p l vs r⟩
  | .dct ks l, v, h => by
    simp only [RV] at h ⊢
    obtain ⟨a, kvs, e, q, k, r⟩ := h
    exact ⟨a, kvs, e, f _ _ q, k, RVs.mono f p l _ r⟩
  | .obj c ks l, v, h => by
    simp only [RV] at h ⊢
    obtain ⟨a, C, dx, fs, e, m, q, k, r⟩ := h
    exact ⟨a, C, dx, fs, e, m, f _ _ q, k, RVs.mono f p l _ r⟩
  | .exc c ks l, v, h => by
    simp only [RV] at h ⊢
    obtain ⟨a, C, d, fs, e, m, q, q', k, r⟩ := h
    exact ⟨a, C, d, fs, e, m, f _ _ q, f _ _ q', k, RVs.mono f p l _ r⟩
  | .ref n, v, h => by
    simp only [RV] at h ⊢
    obtain ⟨a, e, q⟩ := h
    exact ⟨a, e, p _ _ q⟩
theorem RVs.mono (f : ∀ a o, F a = some o → F1 a = some o) (p : ∀ (n : Nat) (a : Addr), ρ[n]? = some a → ρ1[n]? = some a) : ∀ (x : List AV) (v : List V), RVs K mg ρ F x v → RVs K mg ρ1 F1 x v
  | [], v, h => by simpa [RVs] using h
  | x :: xs, v, h => by
    simp only [RVs] at h ⊢
    obtain ⟨w, r, e, q, t⟩ := h
    exact ⟨w, r, e, RV.mono f p x w q, RVs.mono f p xs r t⟩
end
theorem Ext.at (e : Ext ρ F H ρ1 F1 H1) (n : Nat) (a : Addr) (h : ρ[n]? = some a) : ρ1[n]? = some a := by
  obtain ⟨t, rfl⟩ := e.pre
  have := (List.getElem?_eq_some_iff.mp h).1
  rw [List.getElem?_append_left this]
  exact h
theorem RV.ext {x : AV} {v : V} (e : Ext ρ F H ρ1 F1 H1) (h : RV K mg ρ F x v) : RV K mg ρ1 F1 x v := RV.mono e.fz e.at x v h
theorem RVs.ext {x : List AV} {v : List V} (e : Ext ρ F H ρ1 F1 H1) (h : RVs K mg ρ F x v) : RVs K mg ρ1 F1 x v := RVs.mono e.fz e.at x v h
theorem RSl.ext {sl : SL} {σ : St} (e : Ext ρ F H ρ1 F1 H1) (h : RSl K mg ρ F sl σ) : RSl K mg ρ1 F1 sl σ := ⟨h.1, fun i x q => by
  obtain ⟨v, a, b⟩ := h.2 i x q
  exact ⟨v, a, b.ext e⟩⟩
theorem RC.ext {c : Cell} {o : HO} (e : Ext ρ F H ρ1 F1 H1) (h : RC K mg ρ F c o) : RC K mg ρ1 F1 c o := by
  cases c with
  | lst l => obtain ⟨vs, a, b⟩ := h; exact ⟨vs, a, b.ext e⟩
  | dct ks l => obtain ⟨vs, a, k, b⟩ := h; exact ⟨vs, a, k, b.ext e⟩
  | ins c ks l => obtain ⟨C, dx, fs, a, m, k, b⟩ := h; exact ⟨C, dx, fs, a, m, k, b.ext e⟩
  | dead => exact h
theorem RVs.length : ∀ {l : List AV} {vs : List V}, RVs K mg ρ F l vs → l.length = vs.length
  | [], vs, h => by simp only [RVs] at h; subst h; rfl
  | x :: xs, vs, h => by
    simp only [RVs] at h
    obtain ⟨v, r, e, _, t⟩ := h
    subst e
    simp [RVs.length t]
theorem RVs.get : ∀ {l : List AV} {vs : List V} {i : Nat} {x : AV}, RVs K mg ρ F l vs → l[i]? = some x → ∃ v, vs[i]? = some v ∧ RV K mg ρ F x v
  | [], vs, i, x, h, e => by simp at e
  | y :: ys, vs, 0, x, h, e => by
    simp only [RVs] at h
    obtain ⟨v, r, q, a, t⟩ := h
    subst q
    simp at e
    subst e
    exact ⟨v, by simp, a⟩
  | y :: ys, vs, i + 1, x, h, e => by
    simp only [RVs] at h
    obtain ⟨v, r, q, a, t⟩ := h
    subst q
    simp only [List.getElem?_cons_succ] at e ⊢
    exact RVs.get t e
theorem RVs.append : ∀ {l l2 : List AV} {vs vs2 : List V}, RVs K mg ρ F l vs → RVs K mg ρ F l2 vs2 → RVs K mg ρ F (l ++ l2) (vs ++ vs2)
  | [], l2, vs, vs2, h, h2 => by simp only [RVs] at h; subst h; simpa using h2
  | x :: xs, l2, vs, vs2, h, h2 => by
    simp only [RVs] at h
    obtain ⟨v, r, e, a, t⟩ := h
    subst e
    simp only [List.cons_append, RVs]
    exact ⟨v, r ++ vs2, rfl, a, RVs.append t h2⟩
theorem RVs.nil : RVs K mg ρ F [] [] := by simp [RVs]
theorem RVs.cons {x : AV} {v : V} {l : List AV} {vs : List V} (h : RV K mg ρ F x v) (t : RVs K mg ρ F l vs) : RVs K mg ρ F (x :: l) (v :: vs) := by
  simp only [RVs]; exact ⟨v, vs, rfl, h, t⟩
theorem RVs.set : ∀ {l : List AV} {vs : List V} (i : Nat) {x : AV} {v : V}, RVs K mg ρ F l vs → RV K mg ρ F x v → RVs K mg ρ F (l.set i x) (vs.set i v)
  | [], vs, i, x, v, h, q => by simp only [RVs] at h; subst h; simp [RVs]
  | y :: ys, vs, 0, x, v, h, q => by
    simp only [RVs] at h
    obtain ⟨w, r, e, a, t⟩ := h
    subst e
    simp only [List.set_cons_zero]
    exact .cons q t
  | y :: ys, vs, i + 1, x, v, h, q => by
    simp only [RVs] at h
    obtain ⟨w, r, e, a, t⟩ := h
    subst e
    simp only [List.set_cons_succ]
    exact .cons a (RVs.set i t q)
theorem RVs.take : ∀ {l : List AV} {vs : List V} (i : Nat), RVs K mg ρ F l vs → RVs K mg ρ F (l.take i) (vs.take i)
  | [], vs, i, h => by simp only [RVs] at h; subst h; simp [RVs]
  | y :: ys, vs, 0, h => by simp [RVs]
  | y :: ys, vs, i + 1, h => by
    simp only [RVs] at h
    obtain ⟨w, r, e, a, t⟩ := h
    subst e
    simp only [List.take_succ_cons]
    exact .cons a (RVs.take i t)
theorem RVs.drop : ∀ {l : List AV} {vs : List V} (i : Nat), RVs K mg ρ F l vs → RVs K mg ρ F (l.drop i) (vs.drop i)
  | [], vs, i, h => by simp only [RVs] at h; subst h; simp [RVs]
  | y :: ys, vs, 0, h => by simpa using h
  | y :: ys, vs, i + 1, h => by
    simp only [RVs] at h
    obtain ⟨w, r, e, a, t⟩ := h
    subst e
    simp only [List.drop_succ_cons]
    exact RVs.drop i t
mutual
theorem RV.bnd : ∀ (x : AV) (v : V), RV K mg ρ F x v → bnd ρ.length x = true
  | .ref k, v, h => by
    simp only [RV] at h
    obtain ⟨a, _, e⟩ := h
    simp only [AVL.bnd, decide_eq_true_eq]
    exact (List.getElem?_eq_some_iff.mp e).1
  | .tup l, v, h => by simp only [RV] at h; obtain ⟨_, _, _, _, r⟩ := h; simp only [AVL.bnd]; exact RVs.bnd l _ r
  | .lst l, v, h => by simp only [RV] at h; obtain ⟨_, _, _, _, r⟩ := h; simp only [AVL.bnd]; exact RVs.bnd l _ r
  | .klst l, v, h => by simp only [RV] at h; obtain ⟨_, _, _, _, r⟩ := h; simp only [AVL.bnd]; exact RVs.bnd l _ r
  | .dct ks l, v, h => by simp only [RV] at h; obtain ⟨_, _, _, _, _, r⟩ := h; simp only [AVL.bnd]; exact RVs.bnd l _ r
  | .obj c ks l, v, h => by simp only [RV] at h; obtain ⟨_, _, _, _, _, _, _, _, r⟩ := h; simp only [AVL.bnd]; exact RVs.bnd l _ r
  | .exc c ks l, v, h => by simp only [RV] at h; obtain ⟨_, _, _, _, _, _, _, _, _, r⟩ := h; simp only [AVL.bnd]; exact RVs.bnd l _ r
  | .non, _, _ => rfl
  | .bl _, _, _ => rfl
  | .int _, _, _ => rfl
  | .str _, _, _ => rfl
  | .ty _, _, _ => rfl
  | .cls _, _, _ => rfl
theorem RVs.bnd : ∀ (x : List AV) (v : List V), RVs K mg ρ F x v → bnds ρ.length x = true
  | [], _, _ => rfl
  | x :: xs, v, h => by
    simp only [RVs] at h
    obtain ⟨w, r, _, a, t⟩ := h
    simp only [AVL.bnds, Bool.and_eq_true]
    exact ⟨RV.bnd x w a, RVs.bnd xs r t⟩
end
mutual
theorem bnd_mono {n m : Nat} (hnm : n ≤ m) : ∀ (x : AV), bnd n x = true → bnd m x = true
  | .ref k, h => by simp only [AVL.bnd, decide_eq_true_eq] at h ⊢; omega
  | .tup l, h => by simp only [AVL.bnd] at h ⊢; exact bnds_mono hnm l h
  | .lst l, h => by simp only [AVL.bnd] at h ⊢; exact bnds_mono hnm l h
  | .klst l, h => by simp only [AVL.bnd] at h ⊢; exact bnds_mono hnm l h
  | .dct ks l, h => by simp only [AVL.bnd] at h ⊢; exact bnds_mono hnm l h
  | .obj c ks l, h => by simp only [AVL.bnd] at h ⊢; exact bnds_mono hnm l h
  | .exc c ks l, h => by simp only [AVL.bnd] at h ⊢; exact bnds_mono hnm l h
  | .non, _ => rfl
  | .bl _, _ => rfl
  | .int _, _ => rfl
  | .str _, _ => rfl
  | .ty _, _ => rfl
  | .cls _, _ => rfl
theorem bnds_mono {n m : Nat} (hnm : n ≤ m) : ∀ (x : List AV), bnds n x = true → bnds m x = true
  | [], _ => rfl
  | x :: xs, h => by
    simp only [AVL.bnds, Bool.and_eq_true] at h ⊢
    exact ⟨bnd_mono hnm x h.1, bnds_mono hnm xs h.2⟩
end
theorem bnds_get {n : Nat} : ∀ {l : List AV} {i : Nat} {x : AV}, bnds n l = true → l[i]? = some x → bnd n x = true
  | [], i, x, h, e => by simp at e
  | y :: ys, 0, x, h, e => by
    simp only [AVL.bnds, Bool.and_eq_true] at h
    simp at e; subst e; exact h.1
  | y :: ys, i + 1, x, h, e => by
    simp only [AVL.bnds, Bool.and_eq_true] at h
    simp only [List.getElem?_cons_succ] at e
    exact bnds_get h.2 e
theorem bnds_append {n : Nat} : ∀ {l l' : List AV}, bnds n l = true → bnds n l' = true → bnds n (l ++ l') = true
  | [], l', _, h => h
  | y :: ys, l', h, h' => by
    simp only [AVL.bnds, Bool.and_eq_true, List.cons_append] at h ⊢
    exact ⟨h.1, bnds_append h.2 h'⟩
theorem bnds_set {n : Nat} {x : AV} : ∀ {l : List AV} (i : Nat), bnds n l = true → bnd n x = true → bnds n (l.set i x) = true
  | [], i, h, q => by simpa using h
  | y :: ys, 0, h, q => by
    simp only [AVL.bnds, Bool.and_eq_true, List.set_cons_zero] at h ⊢
    exact ⟨q, h.2⟩
  | y :: ys, i + 1, h, q => by
    simp only [AVL.bnds, Bool.and_eq_true, List.set_cons_succ] at h ⊢
    exact ⟨h.1, bnds_set i h.2 q⟩
theorem RC.bnd {c : Cell} {o : HO} (r : RC K mg ρ F c o) : bndC ρ.length c = true := by
  cases c with
  | lst l => obtain ⟨vs, _, b⟩ := r; exact b.bnd _ _
  | dct ks l => obtain ⟨vs, _, _, b⟩ := r; exact b.bnd _ _
  | ins c ks l => obtain ⟨C, dx, fs, _, _, _, b⟩ := r; exact b.bnd _ _
  | dead => rfl
theorem bndC_mono {n m : Nat} (hnm : n ≤ m) : ∀ (c : Cell), bndC n c = true → bndC m c = true
  | .lst l, h => bnds_mono hnm l h
  | .dct _ l, h => bnds_mono hnm l h
  | .ins _ _ l, h => bnds_mono hnm l h
  | .dead, _ => rfl
/-- Vals of ints -/
theorem RVs.ints : ∀ (ns : List Int), RVs K mg ρ F (ns.map AV.int) (ns.map V.int)
  | [] => .nil
  | n :: ns => .cons (by simp [RV]) (RVs.ints ns)
end

/-! ### ends -/
section
variable (K : PySem.W.Frag) (mg : Str → Option Value)
/-- what comes of an evaluation: R relates a result to what the machine holds -/
def Out {α β : Type} (R : List Addr → Hp → α → β → Prop) (ρ : List Addr) (F H : Hp) (r : Res α) (Q : β → Hp → Prop) (E : XK) : Prop := match r with
  | .ok x h' => ∀ ρ' F' H' v, Ext ρ F H ρ' F' H' → RH K mg ρ' F' h' H' → R ρ' F' x v → Q v H'
  | .exc c ks l h' => ∀ ρ' F' H' C d, Ext ρ F H ρ' F' H' → RH K mg ρ' F' h' H' → mg c = some (.ref C) → RX K mg ρ' F' ks l d → E (.ref C) d H'
  | .stuck => False
def RT : List Addr → Hp → Bool → Bool → Prop := fun _ _ a b => a = b
inductive SRes where
  | next (sl : SL) (h : AH) | ret (x : AV) (h : AH) | brk (sl : SL) (h : AH) | cont (sl : SL) (h : AH) | exc (c : Str) (ks : List Str) (l : List AV) (sl : SL) (h : AH) | stuck
def OutS (ρ : List Addr) (F H : Hp) (r : SRes) (D : Ends) (W : WX) : Prop := match r with
  | .next sl h' => ∀ ρ' F' H' σ', Ext ρ F H ρ' F' H' → RH K mg ρ' F' h' H' → RSl K mg ρ' F' sl σ' → D.nx σ' H'
  | .ret x h' => ∀ ρ' F' H' v, Ext ρ F H ρ' F' H' → RH K mg ρ' F' h' H' → RV K mg ρ' F' x v → D.rt v H'
  | .brk sl h' => ∀ ρ' F' H' σ', Ext ρ F H ρ' F' H' → RH K mg ρ' F' h' H' → RSl K mg ρ' F' sl σ' → D.bk σ' H'
  | .cont sl h' => ∀ ρ' F' H' σ', Ext ρ F H ρ' F' H' → RH K mg ρ' F' h' H' → RSl K mg ρ' F' sl σ' → D.ct σ' H'
  | .exc c ks l sl h' => ∀ ρ' F' H' σ' C d, Ext ρ F H ρ' F' H' → RH K mg ρ' F' h' H' → RSl K mg ρ' F' sl σ' → mg c = some (.ref C) → RX K mg ρ' F' ks l d → W (.ref C) d σ' H'
  | .stuck => False
end
def Res.toS {α : Type} (r : Res α) (sl : SL) (k : α → AH → SRes) : SRes := match r with
  | .ok a h => k a h
  | .exc c ks l h => .exc c ks l sl h
  | .stuck => .stuck
def SRes.seq (r : SRes) (k : SL → AH → SRes) : SRes := match r with
  | .next sl h => k sl h
  | r => r
section
variable {K : PySem.W.Frag} {mg : Str → Option Value} {ρ ρ' ρ1 ρ2 : List Addr} {F H F' H' F1 H1 F2 H2 : Hp} {E : XK} {W : WX}
theorem Out.ext {α β : Type} {R : List Addr → Hp → α → β → Prop} {Q : β → Hp → Prop} {r : Res α} (h : Out K mg R ρ F H r Q E) (e : Ext ρ F H ρ1 F1 H1) : Out K mg R ρ1 F1 H1 r Q E := by
  cases r with
  | ok x h' => exact fun ρ' F' H' v e' => h ρ' F' H' v (e.trans e')
  | exc c ks l h' => exact fun ρ' F' H' C d e' => h ρ' F' H' C d (e.trans e')
  | stuck => exact h
theorem OutS.ext {r : SRes} {D : Ends} (h : OutS K mg ρ F H r D W) (e : Ext ρ F H ρ1 F1 H1) : OutS K mg ρ1 F1 H1 r D W := by
  cases r with
  | next sl h' => exact fun ρ' F' H' v e' => h ρ' F' H' v (e.trans e')
  | ret sl h' => exact fun ρ' F' H' v e' => h ρ' F' H' v (e.trans e')
  | brk sl h' => exact fun ρ' F' H' v e' => h ρ' F' H' v (e.trans e')
  | cont sl h' => exact fun ρ' F' H' v e' => h ρ' F' H' v (e.trans e')
  | exc c ks l sl h' => exact fun ρ' F' H' σ' C d e' => h ρ' F' H' σ' C d (e.trans e')
  | stuck => exact h
/-- one after another -/
theorem Out.bind {α β γ δ : Type} {R : List Addr → Hp → α → β → Prop} {R' : List Addr → Hp → γ → δ → Prop} {Q : δ → Hp → Prop} {Q1 : β → Hp → Prop} {r : Res α} {k : α → AH → Res γ} (o : Out K mg R' ρ F H (r.bind k) Q E)
    (hk : ∀ x h1 ρ1 F1 H1 v, Ext ρ F H ρ1 F1 H1 → RH K mg ρ1 F1 h1 H1 → R ρ1 F1 x v → Out K mg R' ρ1 F1 H1 (k x h1) Q E → Q1 v H1) : Out K mg R ρ F H r Q1 E := by
  cases r with
  | ok x h' => exact fun ρ' F' H' v e rh rv => hk x h' ρ' F' H' v e rh rv (Out.ext (show Out K mg R' ρ F H (k x h') Q E from o) e)
  | exc c ks l h' => exact o
  | stuck => exact o
theorem Out.bindS {α β : Type} {R : List Addr → Hp → α → β → Prop} {D : Ends} {Q1 : β → Hp → Prop} {r : Res α} {k : α → AH → SRes} {sl : SL} {σ : L2.St} (o : OutS K mg ρ F H (r.toS sl k) D W) (hs : RSl K mg ρ F sl σ)
    (hk : ∀ x h1 ρ1 F1 H1 v, Ext ρ F H ρ1 F1 H1 → RH K mg ρ1 F1 h1 H1 → R ρ1 F1 x v → OutS K mg ρ1 F1 H1 (k x h1) D W → Q1 v H1) : Out K mg R ρ F H r Q1 (fun c d H' => W c d σ H') := by
  cases r with
  | ok x h' => exact fun ρ' F' H' v e rh rv => hk x h' ρ' F' H' v e rh rv (OutS.ext (show OutS K mg ρ F H (k x h') D W from o) e)
  | exc c ks l h' => exact fun ρ' F' H' C d e rh m rx => o ρ' F' H' σ C d e rh (hs.ext e) m rx
  | stuck => exact o
theorem Out.imp {α β : Type} {R : List Addr → Hp → α → β → Prop} {Q Q1 : β → Hp → Prop} {E E1 : XK} {r : Res α} (o : Out K mg R ρ F H r Q E) (h : ∀ v H, Q v H → Q1 v H) (he : ∀ c d H, E c d H → E1 c d H) : Out K mg R ρ F H r Q1 E1 := by
  cases r with
  | ok x h' => exact fun ρ' F' H' v e rh rv => h _ _ (o ρ' F' H' v e rh rv)
  | exc c ks l h' => exact fun ρ' F' H' C d e rh m rx => he _ _ _ (o ρ' F' H' C d e rh m rx)
  | stuck => exact o
/-- a value that is there -/
theorem Out.now {α β : Type} {R : List Addr → Hp → α → β → Prop} {Q : β → Hp → Prop} {x : α} {v : β} {h : AH} (o : Out K mg R ρ F H (.ok x h) Q E) (rh : RH K mg ρ F h H) (rv : R ρ F x v) : Q v H := o ρ F H v (Ext.refl _ _ _) rh rv
end

/-! ### new objects, written ones -/
section
variable {K : PySem.W.Frag} {mg : Str → Option Value} {ρ : List Addr} {F H : Hp} {h : AH}
theorem RH.notin (rh : RH K mg ρ F h H) {a : Addr} (hn : H a = none) : a ∉ ρ := fun hm => by
  obtain ⟨n, hn'⟩ := List.getElem?_of_mem hm
  have hl : n < h.length := by rw [← rh.len]; exact (List.getElem?_eq_some_iff.mp hn').1
  obtain ⟨o, e, _⟩ := rh.cell n h[n] (by simp [hl]) a hn'
  rw [hn] at e; cases e
theorem RH.Fnone (rh : RH K mg ρ F h H) {a : Addr} (hn : H a = none) : F a = none := by
  cases q : F a with
  | none => rfl
  | some o => rw [rh.sub a o q] at hn; cases hn
/-- a new frozen object -/
theorem ext_frz {a : Addr} {o : HO} (rh : RH K mg ρ F h H) (hn : H a = none) : Ext ρ F H ρ (upd F a o) (upd H a o) where
  pre := ⟨[], by simp⟩
  fz := fun b u e => by rw [upd_ne (fun z => by rw [z, rh.Fnone hn] at e; cases e)]; exact e
  keep := fun b u e _ _ => by rw [upd_ne (ne_of_none e hn)]; exact e
  new := fun b hb => .inl hb
  fnew := fun b u e => by
    by_cases hb : b = a
    · exact .inr (.inl (by rw [hb]; exact gone_of hn))
    · rw [upd_ne hb] at e; exact .inl e
theorem rh_frz {a : Addr} {o : HO} (rh : RH K mg ρ F h H) (hn : H a = none) (nt : ∀ ps, o ≠ .tbl ps := by intro _ z; nomatch z) : RH K mg ρ (upd F a o) h (upd H a o) where
  len := rh.len
  tab := tabs_upd rh.tab (soft_none hn)
  ntb := fun b ps e => by
    by_cases hb : b = a
    · rw [hb, upd_same] at e; exact nt ps (Option.some.inj e)
    · rw [upd_ne hb] at e; exact rh.ntb b ps e
  nd := rh.nd
  sub := fun b u e => by
    by_cases hb : b = a
    · rw [hb, upd_same] at e ⊢; exact e
    · rw [upd_ne hb] at e ⊢; exact rh.sub b u e
  sep := fun n c hc hl b hb => by
    have ne : b ≠ a := fun z => by subst z; exact rh.notin hn (List.mem_of_getElem? hb)
    rw [upd_ne ne]; exact rh.sep n c hc hl b hb
  old := rh.old
  cell := fun n c e b hb => by
    obtain ⟨u, e1, r⟩ := rh.cell n c e b hb
    exact ⟨u, by rw [upd_ne (ne_of_none e1 hn)]; exact e1, r.ext (ext_frz rh hn)⟩
/-- a new named object -/
theorem ext_nam {a : Addr} {o : HO} (rh : RH K mg ρ F h H) (hn : H a = none) : Ext ρ F H (ρ ++ [a]) F (upd H a o) where
  pre := ⟨[a], rfl⟩
  fz := fun _ _ e => e
  keep := fun b u e _ _ => by rw [upd_ne (ne_of_none e hn)]; exact e
  new := fun b hb => by
    rcases List.mem_append.mp hb with z | z
    · exact .inl z
    · have e : b = a := by simpa using z
      exact .inr (by rw [e]; exact gone_of hn)
  fnew := fun _ _ e => .inl e
theorem rh_nam {a : Addr} {o : HO} {c : Cell} (rh : RH K mg ρ F h H) (hn : H a = none) (rc : RC K mg ρ F c o) : RH K mg (ρ ++ [a]) F (h ++ [c]) (upd H a o) where
  len := by simp [rh.len]
  ntb := rh.ntb
  tab := tabs_upd rh.tab (soft_none hn)
  nd := by
    rw [List.nodup_append]
    exact ⟨rh.nd, by simp, fun x hx y hy z => by
      have e : y = a := by simpa using hy
      subst e; subst z
      exact rh.notin hn hx⟩
  sub := fun b u e => by rw [upd_ne (fun z => by rw [z, rh.Fnone hn] at e; cases e)]; exact rh.sub b u e
  sep := fun n d e hl b hb => by
    by_cases hl' : n < h.length
    · rw [List.getElem?_append_left hl'] at e
      rw [List.getElem?_append_left (by rw [rh.len]; exact hl')] at hb
      exact rh.sep n d e hl b hb
    · have hn2 : n = h.length := by
        have := (List.getElem?_eq_some_iff.mp e).1
        simp at this; omega
      subst hn2
      have e2 : b = a := by
        rw [← rh.len] at hb; simpa using hb.symm
      rw [e2]; exact rh.Fnone hn
  old := fun n d e => by
    by_cases hl : n < h.length
    · rw [List.getElem?_append_left hl] at e
      exact rh.old n d e
    · have hn2 : n = h.length := by
        have := (List.getElem?_eq_some_iff.mp e).1
        simp at this; omega
      subst hn2
      have e1 : d = c := by simpa using e.symm
      subst e1
      have := rc.bnd
      rw [rh.len] at this
      exact bndC_mono (Nat.le_succ _) _ this
  cell := fun n d e b hb => by
    have ex := ext_nam (o := o) rh hn
    by_cases hl : n < h.length
    · rw [List.getElem?_append_left hl] at e
      rw [List.getElem?_append_left (by rw [rh.len]; exact hl)] at hb
      obtain ⟨u, e1, r⟩ := rh.cell n d e b hb
      exact ⟨u, by rw [upd_ne (ne_of_none e1 hn)]; exact e1, r.ext ex⟩
    · have hn2 : n = h.length := by
        have := (List.getElem?_eq_some_iff.mp e).1
        simp at this; omega
      subst hn2
      have e1 : d = c := by simpa using e.symm
      have e2 : b = a := by
        rw [← rh.len] at hb; simpa using hb.symm
      subst e1; subst e2
      exact ⟨o, upd_same, rc.ext ex⟩
theorem RC.ntb {c : Cell} {o : HO} (r : RC K mg ρ F c o) : ∀ ps, o ≠ .tbl ps := fun ps z => by
  subst z
  cases c with
  | lst l => obtain ⟨_, z, _⟩ := r; cases z
  | dct ks l => obtain ⟨_, z, _⟩ := r; cases z
  | ins c ks l => obtain ⟨_, _, _, z, _⟩ := r; cases z
  | dead => exact r ps rfl
theorem RH.at (rh : RH K mg ρ F h H) {n : Nat} {c : Cell} (e : h[n]? = some c) : ∃ a o, ρ[n]? = some a ∧ H a = some o ∧ RC K mg ρ F c o := by
  have hl : n < ρ.length := by rw [rh.len]; exact (List.getElem?_eq_some_iff.mp e).1
  obtain ⟨o, e1, r⟩ := rh.cell n c e ρ[n] (by simp [hl])
  exact ⟨ρ[n], o, by simp [hl], e1, r⟩
/-- a named object is written -/
theorem ext_set {a : Addr} {o : HO} (rh : RH K mg ρ F h H) (hm : a ∈ ρ) {o0 : HO} (h0 : H a = some o0) (nt : ∀ ps, o0 ≠ .tbl ps) : Ext ρ F H ρ F (upd H a o) where
  pre := ⟨[], by simp⟩
  fz := fun _ _ e => e
  keep := fun b u e hb _ => by
    have ne : b ≠ a := fun z => by subst z; exact hb hm
    rw [upd_ne ne]; exact e
  new := fun b hb => .inl hb
  fnew := fun _ _ e => .inl e
theorem nodup_get {l : List Addr} (hN : l.Nodup) {i j : Nat} {x : Addr} (a : l[i]? = some x) (b : l[j]? = some x) : i = j := by
  obtain ⟨h1, e1⟩ := List.getElem?_eq_some_iff.mp a
  obtain ⟨h2, e2⟩ := List.getElem?_eq_some_iff.mp b
  exact (List.getElem_inj hN).mp (e1.trans e2.symm)
theorem rh_set {a : Addr} {o : HO} {c c0 : Cell} {n : Nat} (rh : RH K mg ρ F h H) (hn : ρ[n]? = some a) (h0 : h[n]? = some c0) (hl0 : c0.live = true) (hb0 : bndC (n + 1) c = true) (rc : RC K mg ρ F c o) : RH K mg ρ F (h.set n c) (upd H a o) where
  len := by simp [rh.len]
  ntb := rh.ntb
  tab := tabs_upd rh.tab fun u e => by
    obtain ⟨u', e1, r⟩ := rh.cell n c0 h0 a hn
    rw [e] at e1; cases e1
    cases c0 with
    | lst l => obtain ⟨_, rfl, _⟩ := r; exact ⟨fun _ z => (nomatch z), fun _ z => (nomatch z)⟩
    | dct ks l => obtain ⟨_, rfl, _⟩ := r; exact ⟨fun _ z => (nomatch z), fun _ z => (nomatch z)⟩
    | ins c ks l => obtain ⟨_, _, _, rfl, _⟩ := r; exact ⟨fun _ z => (nomatch z), fun _ z => (nomatch z)⟩
    | dead => simp [Cell.live] at hl0
  nd := rh.nd
  sub := fun b u e => by rw [upd_ne (fun z => by rw [z, rh.sep n c0 h0 hl0 a hn] at e; cases e)]; exact rh.sub b u e
  sep := fun m d e hl b hb => by
    by_cases hmn : m = n
    · subst hmn
      rw [hn] at hb; cases hb
      exact rh.sep m c0 h0 hl0 a hn
    · rw [List.getElem?_set_ne (Ne.symm hmn)] at e
      exact rh.sep m d e hl b hb
  old := fun m d e => by
    by_cases hmn : m = n
    · subst hmn
      have hl : m < h.length := by rw [← rh.len]; exact (List.getElem?_eq_some_iff.mp hn).1
      rw [List.getElem?_set_self hl] at e
      cases e
      exact hb0
    · rw [List.getElem?_set_ne (Ne.symm hmn)] at e
      exact rh.old m d e
  cell := fun m d e b hb => by
    by_cases hmn : m = n
    · subst hmn
      rw [hn] at hb; cases hb
      have hl : m < h.length := by rw [← rh.len]; exact (List.getElem?_eq_some_iff.mp hn).1
      rw [List.getElem?_set_self hl] at e
      cases e
      exact ⟨o, upd_same, rc⟩
    · rw [List.getElem?_set_ne (Ne.symm hmn)] at e
      obtain ⟨u, e1, r⟩ := rh.cell m d e b hb
      have hne : b ≠ a := fun z => by
        subst z
        exact hmn (nodup_get rh.nd hb hn)
      exact ⟨u, by rw [upd_ne hne]; exact e1, r⟩
/-- a new list: frozen, or named -/
def mkL (nm : Bool) (l : List AV) (h : AH) : Res AV := if nm then .ok (.ref h.length) (h ++ [.lst l]) else .ok (.lst l) h
theorem out_mkL {nm : Bool} {l : List AV} {vs : List V} {Q : VK} {E : XK} (rh : RH K mg ρ F h H) (rv : RVs K mg ρ F l vs) (o : Out K mg (RV K mg) ρ F H (mkL nm l h) Q E) {p : Addr} (hp : H p = none) : Q (.ref p) (upd H p (.lst vs)) := by
  cases nm with
  | false =>
    refine o ρ (upd F p (.lst vs)) _ _ (ext_frz rh hp) (rh_frz rh hp) ?_
    simp only [RV]
    exact ⟨p, vs, rfl, upd_same, rv.ext (ext_frz (o := .lst vs) rh hp)⟩
  | true =>
    refine o (ρ ++ [p]) F _ _ (ext_nam rh hp) (rh_nam rh hp ⟨vs, rfl, rv⟩) ?_
    simp only [RV]
    exact ⟨p, rfl, by rw [← rh.len]; simp⟩
theorem out_tup {l : List AV} {vs : List V} {Q : VK} {E : XK} (rh : RH K mg ρ F h H) (rv : RVs K mg ρ F l vs) (o : Out K mg (RV K mg) ρ F H (.ok (.tup l) h) Q E) {p : Addr} (hp : H p = none) : Q (.ref p) (upd H p (.tup vs)) := by
  refine o ρ (upd F p (.tup vs)) _ _ (ext_frz rh hp) (rh_frz rh hp) ?_
  simp only [RV]
  exact ⟨p, vs, rfl, .inl (.inl upd_same), rv.ext (ext_frz (o := .tup vs) rh hp)⟩
end

/-! ### lists, tuples that are read -/
/-- a list that may be written, or is frozen -/
def itemsM (h : AH) : AV → Option (List AV)
  | .lst l => some l
  | .ref n => match h[n]? with
    | some (.lst l) => some l
    | _ => none
  | _ => none
def itemsL (h : AH) : AV → Option (List AV)
  | .klst l => some l
  | x => itemsM h x
def itemsT : AV → Option (List AV)
  | .tup l => some l
  | _ => none
def items (h : AH) : AV → Option (List AV)
  | .tup l => some l
  | x => itemsL h x
section
variable {K : PySem.W.Frag} {mg : Str → Option Value} {ρ : List Addr} {F H : Hp} {h : AH}
theorem items_M {x : AV} {v : V} {l : List AV} (rh : RH K mg ρ F h H) (rv : RV K mg ρ F x v) (e : itemsM h x = some l) : ∃ a vs, v = .ref a ∧ H a = some (.lst vs) ∧ RVs K mg ρ F l vs := by
  cases x with
  | lst l' =>
    simp only [itemsM, Option.some.injEq] at e
    subst e
    simp only [RV] at rv
    obtain ⟨a, vs, e, q, r⟩ := rv
    exact ⟨a, vs, e, rh.sub _ _ q, r⟩
  | ref n =>
    simp only [RV] at rv
    obtain ⟨a, ev, ea⟩ := rv
    simp only [itemsM] at e
    split at e
    · rename_i l' q
      cases e
      obtain ⟨o, e1, r⟩ := rh.cell n _ q a ea
      obtain ⟨vs, e2, r⟩ := r
      subst e2
      exact ⟨a, vs, ev, e1, r⟩
    · cases e
  | _ => simp [itemsM] at e
theorem items_L {x : AV} {v : V} {l : List AV} (rh : RH K mg ρ F h H) (rv : RV K mg ρ F x v) (e : itemsL h x = some l) : ∃ a vs, v = .ref a ∧ SqL K H a vs ∧ RVs K mg ρ F l vs := by
  have go : itemsM h x = some l → ∃ a vs, v = .ref a ∧ SqL K H a vs ∧ RVs K mg ρ F l vs := fun e => by
    obtain ⟨a, vs, e1, e2, r⟩ := items_M rh rv e
    exact ⟨a, vs, e1, SqL.of e2, r⟩
  cases x with
  | klst l' =>
    simp only [itemsL, Option.some.injEq] at e
    subst e
    simp only [RV] at rv
    obtain ⟨a, vs, e, q, r⟩ := rv
    exact ⟨a, vs, e, SqL.mono rh.sub q, r⟩
  | _ => exact go e
theorem items_T {x : AV} {v : V} {l : List AV} (rh : RH K mg ρ F h H) (rv : RV K mg ρ F x v) (e : itemsT x = some l) : ∃ a vs, v = .ref a ∧ SqT K H a vs ∧ RVs K mg ρ F l vs := by
  cases x with
  | tup l' =>
    simp only [itemsT, Option.some.injEq] at e
    subst e
    simp only [RV] at rv
    obtain ⟨a, vs, e, q, r⟩ := rv
    exact ⟨a, vs, e, SqT.mono rh.sub q, r⟩
  | _ => simp [itemsT] at e
theorem items_cases {x : AV} {l : List AV} (e : items h x = some l) : itemsT x = some l ∨ itemsL h x = some l := by
  cases x <;> simp_all [items, itemsT]
end
end AVL

namespace AVL
open PySem PySem.Spec L2

abbrev EM := SL → AH → Res AV
abbrev AM := SL → AH → Res (List AV)
abbrev TM := SL → AH → Res Bool
section
variable (X : Cx) (W : WX)
def lE (f : EM) : TE := fun σ H Q => ∃ ρ F sl h, RSl X.K X.mg ρ F sl σ ∧ RH X.K X.mg ρ F h H ∧ Out X.K X.mg (RV X.K X.mg) ρ F H (f sl h) Q (fun c d H' => W c d σ H')
def lA (f : AM) : TA := fun σ H Q => ∃ ρ F sl h, RSl X.K X.mg ρ F sl σ ∧ RH X.K X.mg ρ F h H ∧ Out X.K X.mg (RVs X.K X.mg) ρ F H (f sl h) Q (fun c d H' => W c d σ H')
def lT (f : TM) : TT := fun σ H Q => ∃ ρ F sl h, RSl X.K X.mg ρ F sl σ ∧ RH X.K X.mg ρ F h H ∧ Out X.K X.mg RT ρ F H (f sl h) Q (fun c d H' => W c d σ H')
end
theorem pe_imp {X : Cx} {e : Expr} {t t' : TE} (h : PE X e t) (i : ∀ σ H Q, t' σ H Q → t σ H Q) : PE X e t' := ⟨fun pins s σ H Q I q => h.run pins s σ H Q I (i σ H Q q)⟩
theorem pt_imp {X : Cx} {e : Expr} {t t' : TT} (h : PT X e t) (i : ∀ σ H Q, t' σ H Q → t σ H Q) : PT X e t' := ⟨fun pins s σ H Q I q => h.run pins s σ H Q I (i σ H Q q)⟩
theorem pw_imp {X : Cx} {e : Expr} {t t' : TT} (h : PW X e t) (i : ∀ σ H Q, t' σ H Q → t σ H Q) : PW X e t' := ⟨fun w pins s σ H Q I q => h.run w pins s σ H Q I (i σ H Q q)⟩
theorem pa_imp {X : Cx} {e : List Expr} {t t' : TA} (h : PA X e t) (i : ∀ σ H Q, t' σ H Q → t σ H Q) : PA X e t' := ⟨fun pos pins s σ H Q I q => h.run pos pins s σ H Q I (i σ H Q q)⟩

/-! ### names, constants -/
def eVar (i : Nat) : EM := fun sl h => match sl[i]? with
  | some (some x) => .ok x h
  | _ => .stuck
def eC (x : AV) : EM := fun _ h => .ok x h
section
variable {X : Cx} {W : WX}
theorem rVar (i : Nat) {x : Str} {pos : Pos} (hN : X.N[i]? = some x := by rfl) (hv : Vis X.env.scope x := by first | exact Or.inl rfl | exact Or.inr (Or.inl rfl) | exact Or.inr (Or.inr rfl)) (hd : (x == ("__debug__" : Str)) = false := by decide)
    (hcd : (x == ("__classdict__" : Str)) = false := by decide) : PE X (.Name x pos) (lE X W (eVar i)) := by
  refine pe_imp (pe_var hN hv hd hcd) fun σ H Q ⟨ρ, F, sl, h, rs, rh, o⟩ => ?_
  unfold eVar at o
  split at o
  · rename_i y e
    obtain ⟨v, e1, r⟩ := rs.2 i y e
    exact ⟨v, e1, o.now rh r⟩
  · exact o.elim
theorem rC {e : Expr} {v : V} {x : AV} (he : PE X e (tC v)) (hr : ∀ ρ F, RV X.K X.mg ρ F x v) : PE X e (lE X W (eC x)) :=
  pe_imp he fun σ H Q ⟨ρ, F, sl, h, rs, rh, o⟩ => o.now rh (hr _ _)
theorem rInt {i : Int} {j pos} : PE X (.Constant (.int i) j pos) (lE X W (eC (.int i))) := rC pe_int fun _ _ => by simp [RV]
theorem rBl {b : Bool} {j pos} : PE X (.Constant (.bool b) j pos) (lE X W (eC (.bl b))) := rC pe_bl fun _ _ => by simp [RV]
theorem rNon {j pos} : PE X (.Constant .none j pos) (lE X W (eC .non)) := rC pe_non fun _ _ => by simp [RV]
theorem rStr {x : Str} {j pos} : PE X (.Constant (.str x) j pos) (lE X W (eC (.str x))) := rC pe_str fun _ _ => by simp [RV]
/-- a name of the module: a number, a text, a class -/
theorem rGlob {x : Str} {pos : Pos} {v : V} {u : Value} {y : AV} (hm : X.mg x = some u) (r : RelV v u) (hr : ∀ ρ F, RV X.K X.mg ρ F y v) (hg : Gl X x := by rfl) (hd : (x == ("__debug__" : Str)) = false := by decide) :
    PE X (.Name x pos) (lE X W (eC y)) := rC (pe_glob hg hm r hd) hr

/-! ### operators -/
/-- a two-place operator on values -/
def OpOk (X : Cx) (f : Value → Value → Sem Value) (m : AV → AV → AH → Res AV) : Prop :=
  OpR X f fun v w H Q => ∃ ρ F x y h, RV X.K X.mg ρ F x v ∧ RV X.K X.mg ρ F y w ∧ RH X.K X.mg ρ F h H ∧ Out X.K X.mg (RV X.K X.mg) ρ F H (m x y h) Q fun _ _ _ => False
def UnOk (X : Cx) (f : Value → Sem Value) (m : AV → AH → Res AV) : Prop :=
  UnR X f fun v H Q => ∃ ρ F x h, RV X.K X.mg ρ F x v ∧ RH X.K X.mg ρ F h H ∧ Out X.K X.mg (RV X.K X.mg) ρ F H (m x h) Q fun _ _ _ => False
def eBin (m : AV → AV → AH → Res AV) (fa fb : EM) : EM := fun sl h => (fa sl h).bind fun x h1 => (fb sl h1).bind fun y h2 => m x y h2
def eUn (m : AV → AH → Res AV) (fa : EM) : EM := fun sl h => (fa sl h).bind fun x h1 => m x h1
/-- an operator's result raises nothing -/
def Res.calm {α : Type} : Res α → Prop
  | .exc _ _ _ _ => False
  | _ => True
def Calm (m : AV → AV → AH → Res AV) : Prop := ∀ x y h, (m x y h).calm
def Calm1 (m : AV → AH → Res AV) : Prop := ∀ x h, (m x h).calm
theorem Out.calm {K : PySem.W.Frag} {mg : Str → Option Value} {ρ : List Addr} {F H : Hp} {r : Res AV} {Q : VK} {E E1 : XK} (o : Out K mg (RV K mg) ρ F H r Q E) (c : r.calm) : Out K mg (RV K mg) ρ F H r Q E1 := by
  cases r with
  | ok x h => exact o
  | exc _ _ _ _ => exact c.elim
  | stuck => exact o
theorem two {fa fb : EM} {m : AV → AV → AH → Res AV} {σ : L2.St} {H : Hp} {Q : VK} (c : Calm m) (hh : lE X W (eBin m fa fb) σ H Q) :
    lE X W fa σ H fun v H1 => lE X W fb σ H1 fun w H2 => ∃ ρ F x y h, RV X.K X.mg ρ F x v ∧ RV X.K X.mg ρ F y w ∧ RH X.K X.mg ρ F h H2 ∧ Out X.K X.mg (RV X.K X.mg) ρ F H2 (m x y h) Q fun _ _ _ => False := by
  obtain ⟨ρ, F, sl, h, rs, rh, o⟩ := hh
  refine ⟨ρ, F, sl, h, rs, rh, Out.bind (R := RV X.K X.mg) o fun x h1 ρ1 F1 H1 v e1 rh1 rv1 o1 => ?_⟩
  refine ⟨ρ1, F1, sl, h1, rs.ext e1, rh1, Out.bind (R := RV X.K X.mg) o1 fun y h2 ρ2 F2 H2 w e2 rh2 rv2 o2 => ?_⟩
  exact ⟨ρ2, F2, x, y, h2, rv1.ext e2, rv2, rh2, Out.calm o2 (c x y h2)⟩
variable {a b : Expr} {fa fb fc : EM} {pos : Pos}
theorem rBin {op : Operator} {m : AV → AV → AH → Res AV} (ho : OpOk X (binaryOp op) m) (c : Calm m) (ha : PE X a (lE X W fa)) (hb : PE X b (lE X W fb)) : PE X (.BinOp a op b pos) (lE X W (eBin m fa fb)) :=
  pe_imp (pe_op ho ha hb) fun σ H Q h => two c h
theorem rUn {op : UnaryOp} {m : AV → AH → Res AV} (ho : UnOk X (unaryOp op) m) (c : Calm1 m) (ha : PE X a (lE X W fa)) : PE X (.UnaryOp op a pos) (lE X W (eUn m fa)) := by
  refine pe_imp (pe_un ho ha) fun σ H Q ⟨ρ, F, sl, h, rs, rh, o⟩ => ?_
  refine ⟨ρ, F, sl, h, rs, rh, Out.bind (R := RV X.K X.mg) o fun x h1 ρ1 F1 H1 v e1 rh1 rv1 o1 => ?_⟩
  exact ⟨ρ1, F1, x, h1, rv1, rh1, Out.calm o1 (c x h1)⟩
theorem rCmp {op : CmpOp} {m : AV → AV → AH → Res AV} (ho : OpOk X (compareOp op) m) (c : Calm m) (ha : PE X a (lE X W fa)) (hb : PE X b (lE X W fb)) (hm : behindInMarks op b = false) : PE X (.Compare a [op] [b] pos) (lE X W (eBin m fa fb)) :=
  pe_imp (pe_cmpR ho ha hb hm) fun σ H Q h => two c h
/-- a value known to be a bool, as a test -/
def tV (f : EM) : TM := fun sl h => (f sl h).bind fun x h1 => match x with
  | .bl b => .ok b h1
  | _ => .stuck
theorem RV.bl {K : PySem.W.Frag} {mg : Str → Option Value} {ρ : List Addr} {F : Hp} {b : Bool} {v : V} (r : RV K mg ρ F (.bl b) v) : v = .bl b := by simpa [RV] using r
theorem RV.int {K : PySem.W.Frag} {mg : Str → Option Value} {ρ : List Addr} {F : Hp} {b : Int} {v : V} (r : RV K mg ρ F (.int b) v) : v = .int b := by simpa [RV] using r
theorem RV.str {K : PySem.W.Frag} {mg : Str → Option Value} {ρ : List Addr} {F : Hp} {b : Str} {v : V} (r : RV K mg ρ F (.str b) v) : v = .str b := by simpa [RV] using r
theorem RV.non {K : PySem.W.Frag} {mg : Str → Option Value} {ρ : List Addr} {F : Hp} {v : V} (r : RV K mg ρ F .non v) : v = .non := by simpa [RV] using r
theorem tV_val {f : EM} {σ : L2.St} {H : Hp} {Q : Bool → Hp → Prop} (hh : lT X W (tV f) σ H Q) : lE X W f σ H fun x H1 => ∃ k, x = .bl k ∧ Q k H1 := by
  obtain ⟨ρ, F, sl, h, rs, rh, o⟩ := hh
  refine ⟨ρ, F, sl, h, rs, rh, Out.bind (R := RV X.K X.mg) o fun x h1 ρ1 F1 H1 v e1 rh1 rv1 o1 => ?_⟩
  cases x with
  | bl b => exact ⟨b, rv1.bl, Out.now (R := RT) o1 rh1 rfl⟩
  | _ => exact o1.elim
theorem rtCmp {op : CmpOp} {m : AV → AV → AH → Res AV} (ho : OpOk X (compareOp op) m) (c : Calm m) (ha : PE X a (lE X W fa)) (hb : PE X b (lE X W fb)) (hm : behindInMarks op b = false) : PT X (.Compare a [op] [b] pos) (lT X W (tV (eBin m fa fb))) :=
  pt_imp (pt_cmpR ho ha hb hm) fun σ H Q h => by
    obtain ⟨ρ, F, sl, h, rs, rh, o⟩ := tV_val h
    exact two c ⟨ρ, F, sl, h, rs, rh, o⟩
/-- any other expression that gives a bool, as a test -/
theorem rtV (ha : PE X a (lE X W fa)) (he : ∀ whole, isTrue a X.env whole = (do let v ← whole; standAt a.pos; holding [v] (truthy v)) := by intro _; rfl) : PT X a (lT X W (tV fa)) :=
  pt_imp (pt_val ha he) fun σ H Q h => tV_val h
/-! ### and, or, not, if -/
def tAnd (t u : TM) : TM := fun sl h => (t sl h).bind fun c h1 => if c then u sl h1 else .ok false h1
def tOr (t u : TM) : TM := fun sl h => (t sl h).bind fun c h1 => if c then .ok true h1 else u sl h1
def tNot (t : TM) : TM := fun sl h => (t sl h).bind fun c h1 => .ok (!c) h1
variable {ta tb : TM} {rest : List Expr}
theorem rtAnd (ha : PT X a (lT X W ta)) (hb : PW X (.BoolOp .And (b :: rest) pos) (lT X W tb)) : PW X (.BoolOp .And (a :: b :: rest) pos) (lT X W (tAnd ta tb)) := by
  refine pw_imp (pw_and ha hb) fun σ H Q ⟨ρ, F, sl, h, rs, rh, o⟩ => ?_
  refine ⟨ρ, F, sl, h, rs, rh, Out.bind (R := RT) o fun c h1 ρ1 F1 H1 v e1 rh1 rv1 o1 => ?_⟩
  cases rv1
  cases c with
  | true => exact iteT ⟨ρ1, F1, sl, h1, rs.ext e1, rh1, o1⟩
  | false => exact iteF (Out.now (R := RT) o1 rh1 rfl)
theorem rtOr (ha : PT X a (lT X W ta)) (hb : PW X (.BoolOp .Or (b :: rest) pos) (lT X W tb)) : PW X (.BoolOp .Or (a :: b :: rest) pos) (lT X W (tOr ta tb)) := by
  refine pw_imp (pw_or ha hb) fun σ H Q ⟨ρ, F, sl, h, rs, rh, o⟩ => ?_
  refine ⟨ρ, F, sl, h, rs, rh, Out.bind (R := RT) o fun c h1 ρ1 F1 H1 v e1 rh1 rv1 o1 => ?_⟩
  cases rv1
  cases c with
  | true => exact iteT (Out.now (R := RT) o1 rh1 rfl)
  | false => exact iteF ⟨ρ1, F1, sl, h1, rs.ext e1, rh1, o1⟩
theorem rtAnd1 (ha : PT X a (lT X W ta)) : PW X (.BoolOp .And [a] pos) (lT X W ta) := pw_and1 ha
theorem rtOr1 (ha : PT X a (lT X W ta)) : PW X (.BoolOp .Or [a] pos) (lT X W ta) := pw_or1 ha
theorem rtNot (ha : PT X a (lT X W ta)) : PT X (.UnaryOp .Not a pos) (lT X W (tNot ta)) := by
  refine pt_imp (pt_not ha) fun σ H Q ⟨ρ, F, sl, h, rs, rh, o⟩ => ?_
  refine ⟨ρ, F, sl, h, rs, rh, Out.bind (R := RT) o fun c h1 ρ1 F1 H1 v e1 rh1 rv1 o1 => ?_⟩
  cases rv1
  exact Out.now (R := RT) o1 rh1 rfl
/-- as values, of bools -/
def eAnd (fa fb : EM) : EM := fun sl h => (fa sl h).bind fun x h1 => match x with
  | .bl c => if c then fb sl h1 else .ok (.bl false) h1
  | _ => .stuck
def eOr (fa fb : EM) : EM := fun sl h => (fa sl h).bind fun x h1 => match x with
  | .bl c => if c then .ok (.bl true) h1 else fb sl h1
  | _ => .stuck
def eNot (fa : EM) : EM := fun sl h => (fa sl h).bind fun x h1 => match x with
  | .bl c => .ok (.bl (!c)) h1
  | _ => .stuck
theorem rAnd (ha : PE X a (lE X W fa)) (hb : PE X (.BoolOp .And (b :: rest) pos) (lE X W fb)) : PE X (.BoolOp .And (a :: b :: rest) pos) (lE X W (eAnd fa fb)) := by
  refine pe_imp (pe_and ha hb) fun σ H Q ⟨ρ, F, sl, h, rs, rh, o⟩ => ?_
  refine ⟨ρ, F, sl, h, rs, rh, Out.bind (R := RV X.K X.mg) o fun c h1 ρ1 F1 H1 v e1 rh1 rv1 o1 => ?_⟩
  cases c with
  | bl c =>
    refine ⟨c, rv1.bl, ?_⟩
    cases c with
    | true => exact iteT ⟨ρ1, F1, sl, h1, rs.ext e1, rh1, o1⟩
    | false => exact iteF (o1.now rh1 (by simp [RV]))
  | _ => exact o1.elim
theorem rOr (ha : PE X a (lE X W fa)) (hb : PE X (.BoolOp .Or (b :: rest) pos) (lE X W fb)) : PE X (.BoolOp .Or (a :: b :: rest) pos) (lE X W (eOr fa fb)) := by
  refine pe_imp (pe_or ha hb) fun σ H Q ⟨ρ, F, sl, h, rs, rh, o⟩ => ?_
  refine ⟨ρ, F, sl, h, rs, rh, Out.bind (R := RV X.K X.mg) o fun c h1 ρ1 F1 H1 v e1 rh1 rv1 o1 => ?_⟩
  cases c with
  | bl c =>
    refine ⟨c, rv1.bl, ?_⟩
    cases c with
    | true => exact iteT (o1.now rh1 (by simp [RV]))
    | false => exact iteF ⟨ρ1, F1, sl, h1, rs.ext e1, rh1, o1⟩
  | _ => exact o1.elim
theorem rOne {op} (ha : PE X a (lE X W fa)) : PE X (.BoolOp op [a] pos) (lE X W fa) := pe_one ha
theorem rNot (ha : PE X a (lE X W fa)) : PE X (.UnaryOp .Not a pos) (lE X W (eNot fa)) := by
  refine pe_imp (pe_not ha) fun σ H Q ⟨ρ, F, sl, h, rs, rh, o⟩ => ?_
  refine ⟨ρ, F, sl, h, rs, rh, Out.bind (R := RV X.K X.mg) o fun c h1 ρ1 F1 H1 v e1 rh1 rv1 o1 => ?_⟩
  cases c with
  | bl c => exact ⟨c, rv1.bl, o1.now rh1 (by simp [RV])⟩
  | _ => exact o1.elim
def eIf (t : TM) (fa fb : EM) : EM := fun sl h => (t sl h).bind fun c h1 => if c then fa sl h1 else fb sl h1
theorem rIf {c : Expr} (hc : PT X c (lT X W ta)) (ha : PE X a (lE X W fa)) (hb : PE X b (lE X W fb)) : PE X (.IfExp c a b pos) (lE X W (eIf ta fa fb)) := by
  refine pe_imp (pe_ifExp hc ha hb) fun σ H Q ⟨ρ, F, sl, h, rs, rh, o⟩ => ?_
  refine ⟨ρ, F, sl, h, rs, rh, Out.bind (R := RT) o fun c h1 ρ1 F1 H1 v e1 rh1 rv1 o1 => ?_⟩
  cases rv1
  cases c with
  | true => exact iteT ⟨ρ1, F1, sl, h1, rs.ext e1, rh1, o1⟩
  | false => exact iteF ⟨ρ1, F1, sl, h1, rs.ext e1, rh1, o1⟩
/-! ### argument lists, displays -/
def aNil : AM := fun _ h => .ok [] h
def aCons (f : EM) (r : AM) : AM := fun sl h => (f sl h).bind fun x h1 => (r sl h1).bind fun xs h2 => .ok (x :: xs) h2
variable {es : List Expr} {fr : AM}
theorem raNil : PA X [] (lA X W aNil) := pa_imp pa_nil fun σ H Q ⟨ρ, F, sl, h, rs, rh, o⟩ => Out.now (R := RVs X.K X.mg) o rh .nil
theorem raCons (ha : PE X a (lE X W fa)) (hr : PA X es (lA X W fr)) (hs : starEach (a :: es) X.env = (false, eval a X.env) :: starEach es X.env := by rfl) : PA X (a :: es) (lA X W (aCons fa fr)) := by
  refine pa_imp (pa_cons ha hr hs) fun σ H Q ⟨ρ, F, sl, h, rs, rh, o⟩ => ?_
  refine ⟨ρ, F, sl, h, rs, rh, Out.bind (R := RV X.K X.mg) o fun x h1 ρ1 F1 H1 v e1 rh1 rv1 o1 => ?_⟩
  refine ⟨ρ1, F1, sl, h1, rs.ext e1, rh1, Out.bind (R := RVs X.K X.mg) o1 fun xs h2 ρ2 F2 H2 vs e2 rh2 rv2 o2 => ?_⟩
  exact Out.now (R := RVs X.K X.mg) o2 rh2 (.cons (rv1.ext e2) rv2)
def lineOk (l : List AV) : Bool := decide (l.length ≤ sizeLine)
def eTup (f : AM) : EM := fun sl h => (f sl h).bind fun xs h1 => if lineOk xs then .ok (.tup xs) h1 else .stuck
def eLst (nm : Bool) (f : AM) : EM := fun sl h => (f sl h).bind fun xs h1 => if lineOk xs then mkL nm xs h1 else .stuck
theorem rTup {x1} (ha : PA X es (lA X W fr)) : PE X (.Tuple es x1 pos) (lE X W (eTup fr)) := by
  refine pe_imp (pe_tup ha) fun σ H Q ⟨ρ, F, sl, h, rs, rh, o⟩ => ?_
  refine ⟨ρ, F, sl, h, rs, rh, Out.bind (R := RVs X.K X.mg) o fun xs h1 ρ1 F1 H1 vs e1 rh1 rv1 o1 => ?_⟩
  split at o1
  · rename_i hl
    exact ⟨by rw [← rv1.length]; exact of_decide_eq_true hl, fun p hp => out_tup rh1 rv1 o1 hp⟩
  · exact o1.elim
theorem rLst {nm : Bool} (ha : PA X es (lA X W fr)) : PE X (.List es pos) (lE X W (eLst nm fr)) := by
  refine pe_imp (pe_lst ha) fun σ H Q ⟨ρ, F, sl, h, rs, rh, o⟩ => ?_
  refine ⟨ρ, F, sl, h, rs, rh, Out.bind (R := RVs X.K X.mg) o fun xs h1 ρ1 F1 H1 vs e1 rh1 rv1 o1 => ?_⟩
  split at o1
  · rename_i hl
    exact ⟨by rw [← rv1.length]; exact of_decide_eq_true hl, fun p hp => out_mkL rh1 rv1 o1 hp⟩
  · exact o1.elim
end
end AVL

namespace AVL
open PySem PySem.Spec L2
section
variable {X : Cx}
/-- a rule by a reading r, where the function's answer says what r asks -/
theorem OpOk.of {f : Value → Value → Sem Value} {r : R2} {m : AV → AV → AH → Res AV} (ho : OpR X f r)
    (h : ∀ ρ F x y h v w H Q, RV X.K X.mg ρ F x v → RV X.K X.mg ρ F y w → RH X.K X.mg ρ F h H → Out X.K X.mg (RV X.K X.mg) ρ F H (m x y h) Q (fun _ _ _ => False) → r v w H Q) : OpOk X f m :=
  fun pins s σ H v w u u' Q I r1 r2 ⟨ρ, F, x, y, hh, a, b, c, d⟩ => ho pins s σ H v w u u' Q I r1 r2 (h ρ F x y hh v w H Q a b c d)
theorem UnOk.of {f : Value → Sem Value} {r : V → Hp → VK → Prop} {m : AV → AH → Res AV} (ho : UnR X f r)
    (h : ∀ ρ F x h v H Q, RV X.K X.mg ρ F x v → RH X.K X.mg ρ F h H → Out X.K X.mg (RV X.K X.mg) ρ F H (m x h) Q (fun _ _ _ => False) → r v H Q) : UnOk X f m :=
  fun pins s σ H v u Q I r1 ⟨ρ, F, x, hh, a, c, d⟩ => ho pins s σ H v u Q I r1 (h ρ F x hh v H Q a c d)
/-- a function of values that is one of several, by the values -/
theorem OpOk.alt {f : Value → Value → Sem Value} {m m1 m2 : AV → AV → AH → Res AV} (h1 : OpOk X f m1) (h2 : OpOk X f m2) (e : ∀ x y h, m x y h = m1 x y h ∨ m x y h = m2 x y h) : OpOk X f m :=
  fun pins s σ H v w u u' Q I r1 r2 ⟨ρ, F, x, y, hh, a, b, c, d⟩ => by
    rcases e x y hh with z | z
    · rw [z] at d; exact h1 pins s σ H v w u u' Q I r1 r2 ⟨ρ, F, x, y, hh, a, b, c, d⟩
    · rw [z] at d; exact h2 pins s σ H v w u u' Q I r1 r2 ⟨ρ, F, x, y, hh, a, b, c, d⟩
/-- two ints, under a condition -/
def mI (c : Int → Int → Bool) (g : Int → Int → AV) : AV → AV → AH → Res AV
  | .int i, .int j, h => if c i j then .ok (g i j) h else .stuck
  | _, _, _ => .stuck
theorem mI_calm {c g} : Calm (mI c g) := fun x y h => by
  unfold mI
  split
  · split <;> trivial
  · trivial
theorem mI_ok {f : Value → Value → Sem Value} {C : Int → Int → Prop} {c : Int → Int → Bool} {gV : Int → Int → V} {g : Int → Int → AV} (ho : OpR X f (rI C gV)) (hc : ∀ i j, c i j = true → C i j) (hg : ∀ ρ F i j, RV X.K X.mg ρ F (g i j) (gV i j)) : OpOk X f (mI c g) :=
  .of ho fun ρ F x y h v w H Q rv rw' rh o => by
    unfold mI at o
    split at o
    · rename_i h' i j
      split at o
      · rename_i hcc
        exact ⟨i, j, rv.int, rw'.int, hc i j hcc, o.now rh (hg _ _ _ _)⟩
      · exact o.elim
    · exact o.elim
theorem mI_ok0 {f : Value → Value → Sem Value} {gV : Int → Int → V} {g : Int → Int → AV} (ho : OpR X f (rI0 gV)) (hg : ∀ ρ F i j, RV X.K X.mg ρ F (g i j) (gV i j)) : OpOk X f (mI (fun _ _ => true) g) :=
  .of ho fun ρ F x y h v w H Q rv rw' rh o => by
    unfold mI at o
    split at o
    · rename_i h' i j
      rw [if_pos rfl] at o
      exact ⟨i, j, rv.int, rw'.int, o.now rh (hg _ _ _ _)⟩
    · exact o.elim

/-! ### + -/
def mAdd (nm : Bool) : AV → AV → AH → Res AV
  | .int i, .int j, h => .ok (.int (i + j)) h
  | .int i, .bl k, h => .ok (.int (i + PyProof.Rows.b2i k)) h
  | .str a, .str b, h => if a.length + b.length ≤ sizeLine then .ok (.str (a ++ b)) h else .stuck
  | .tup a, .tup b, h => if a.length + b.length ≤ sizeLine then .ok (.tup (a ++ b)) h else .stuck
  | x, y, h => match itemsM h x, itemsM h y with
    | some a, some b => if a.length + b.length ≤ sizeLine then mkL nm (a ++ b) h else .stuck
    | _, _ => .stuck
theorem mkL_calm {nm l h} : (mkL nm l h).calm := by
  unfold mkL; split <;> trivial
theorem mAdd_calm {nm} : Calm (mAdd nm) := fun x y h => by
  unfold mAdd
  split
  · trivial
  · trivial
  · split <;> trivial
  · split <;> trivial
  · split
    · split
      · exact mkL_calm
      · trivial
    · trivial
theorem tup_out {K : PySem.W.Frag} {mg : Str → Option Value} {ρ : List Addr} {F H : Hp} {h : AH} {Q : VK} {E : XK} {l : List AV} {vs : List V} {a : Addr} (o : Out K mg (RV K mg) ρ F H (.ok (.tup l) h) Q E) (rh : RH K mg ρ F h H) (q : SqT K F a vs) (r : RVs K mg ρ F l vs) : Q (.ref a) H :=
  o.now rh (by simp only [RV]; exact ⟨a, vs, rfl, q, r⟩)
theorem RVs.nil_iff {K : PySem.W.Frag} {mg : Str → Option Value} {ρ : List Addr} {F : Hp} {l : List AV} {vs : List V} (r : RVs K mg ρ F l vs) (e : vs = []) : l = [] := by
  have := r.length
  subst e
  simpa using this
theorem mAdd_ok {nm} : OpOk X (binaryOp .Add) (mAdd nm) := by
  intro pins s σ H v w u u' Q I r1 r2 ⟨ρ, F, x, y, h, a, b, rh, o⟩
  unfold mAdd at o
  split at o
  · rename_i h i j
    exact op_add pins s σ H v w u u' Q I r1 r2 ⟨i, j, a.int, b.int, o.now rh (by simp [RV])⟩
  · rename_i h i j
    exact op_add_ib pins s σ H v w u u' Q I r1 r2 ⟨i, j, a.int, b.bl, o.now rh (by simp [RV])⟩
  · rename_i h i j
    split at o
    · rename_i hl
      exact op_add_str pins s σ H v w u u' Q I r1 r2 ⟨i, j, a.str, b.str, hl, o.now rh (by simp [RV])⟩
    · exact o.elim
  · rename_i h i j
    split at o
    · rename_i hl
      simp only [RV] at a b
      obtain ⟨p, vs, ep, qa, ra⟩ := a
      obtain ⟨q, ws, eq, qb, rb⟩ := b
      refine op_catA pins s σ H v w u u' Q I r1 r2 ⟨p, q, vs, ws, ep, eq, SqT.mono rh.sub qa, SqT.mono rh.sub qb, by rw [← ra.length, ← rb.length]; exact hl, fun e => ?_, fun e e2 => ?_, fun e e2 c hc => out_tup rh (ra.append rb) o hc⟩
      · have := ra.nil_iff e
        subst this
        exact tup_out o rh qb (by simpa using rb)
      · have := rb.nil_iff e2
        subst this
        exact tup_out o rh qa (by simpa using ra)
    · exact o.elim
  · rename_i h _ _ _ _
    split at o
    · rename_i i j hi hj
      split at o
      · rename_i hl
        obtain ⟨p, vs, ep, qa, ra⟩ := items_M rh a hi
        obtain ⟨q, ws, eq, qb, rb⟩ := items_M rh b hj
        exact op_cat pins s σ H v w u u' Q I r1 r2 ⟨p, q, vs, ws, ep, eq, qa, qb, by rw [← ra.length, ← rb.length]; exact hl, fun c hc => out_mkL rh (ra.append rb) o hc⟩
      · exact o.elim
    · exact o.elim
/-! ### - * // % ** -/
def mSub := mI (fun _ _ => true) fun i j => .int (i - j)
theorem mSub_ok : OpOk X (binaryOp .Sub) mSub := mI_ok0 op_sub fun _ _ _ _ => by simp [RV]
def mulOk (i j : Int) : Bool := decide ((Builtin.Int.intBits i : Int) + (Builtin.Int.intBits j : Int) ≤ 134217728)
def repOk (n : Nat) (k : Int) : Bool := decide (-(2 ^ 63) ≤ k) && (decide (k < 2 ^ 63) && decide (n * k.toNat ≤ sizeLine))
def mMul (nm : Bool) : AV → AV → AH → Res AV
  | .int i, .int j, h => if mulOk i j then .ok (.int (i * j)) h else .stuck
  | x, .int k, h => match itemsM h x with
    | some l => if repOk l.length k then mkL nm (List.replicate k.toNat l).flatten h else .stuck
    | none => .stuck
  | _, _, _ => .stuck
theorem mMul_calm {nm} : Calm (mMul nm) := fun x y h => by
  unfold mMul
  split
  · split <;> trivial
  · split
    · split
      · exact mkL_calm
      · trivial
    · trivial
  · trivial
theorem RVs.rep {K : PySem.W.Frag} {mg : Str → Option Value} {ρ : List Addr} {F : Hp} {l : List AV} {vs : List V} (r : RVs K mg ρ F l vs) : ∀ n : Nat, RVs K mg ρ F (List.replicate n l).flatten (List.replicate n vs).flatten
  | 0 => by simp [RVs]
  | n + 1 => by simp only [List.replicate_succ, List.flatten_cons]; exact r.append (RVs.rep r n)
theorem mMul_ok {nm} : OpOk X (binaryOp .Mult) (mMul nm) := by
  intro pins s σ H v w u u' Q I r1 r2 ⟨ρ, F, x, y, h, a, b, rh, o⟩
  unfold mMul at o
  split at o
  · rename_i h i j
    split at o
    · rename_i hc
      exact op_mulX pins s σ H v w u u' Q I r1 r2 ⟨i, j, a.int, b.int, (by unfold CMulX; exact of_decide_eq_true hc), o.now rh (by simp [RV])⟩
    · exact o.elim
  · rename_i h x k _
    split at o
    · rename_i l hi
      split at o
      · rename_i hc
        simp only [repOk, Bool.and_eq_true, decide_eq_true_eq] at hc
        obtain ⟨p, vs, ep, qa, ra⟩ := items_M rh a hi
        exact op_rep pins s σ H v w u u' Q I r1 r2 ⟨p, k, vs, ep, b.int, qa, hc.1, hc.2.1, by rw [← ra.length]; exact hc.2.2, fun c hc => out_mkL rh (ra.rep _) o hc⟩
      · exact o.elim
    · exact o.elim
  · exact o.elim
def divOk (_ j : Int) : Bool := decide (j ≠ 0) && decide (j.natAbs.log2 < 9000)
def mDiv := mI divOk fun i j => .int (i.fdiv j)
theorem op_fdivX : OpR X (binaryOp .FloorDiv) (rI (fun _ j => j ≠ 0 ∧ j.natAbs.log2 < 9000) fun i j => .int (i.fdiv j)) := opI fun i j _ _ _ _ _ hc q => PyProof.Rows.floordiv_int hc.1 q (.inl (PyProof.noPylong_of_log2 hc.2))
theorem mDiv_ok : OpOk X (binaryOp .FloorDiv) mDiv := mI_ok op_fdivX (fun i j h => by simpa [divOk] using h) fun _ _ _ _ => by simp [RV]
def mMod := mI (fun _ j => decide (j ≠ 0)) fun i j => .int (i.fmod j)
theorem mMod_ok : OpOk X (binaryOp .Mod) mMod := mI_ok op_modN (fun i j h => of_decide_eq_true h) fun _ _ _ _ => by simp [RV]
def powOk (i n : Int) : Bool := decide (0 ≤ n) && decide ((Builtin.Int.intBits i : Int) * n ≤ 2 ^ 27)
def mPow := mI powOk fun i j => .int (i ^ j.toNat)
theorem op_powX : OpR X (binaryOp .Pow) (rI (fun i j => 0 ≤ j ∧ (Builtin.Int.intBits i : Int) * j ≤ 2 ^ 27) fun i j => .int (i ^ j.toNat)) := opI fun _ _ _ _ _ _ _ hc q => PyProof.Rows.pow_int hc.1 hc.2 q
theorem mPow_ok : OpOk X (binaryOp .Pow) mPow := mI_ok op_powX (fun i j h => by simpa [powOk] using h) fun _ _ _ _ => by simp [RV]
def mNeg : AV → AH → Res AV
  | .int i, h => .ok (.int (-i)) h
  | _, _ => .stuck
theorem mNeg_calm : Calm1 mNeg := fun x h => by unfold mNeg; split <;> trivial
theorem mNeg_ok : UnOk X (unaryOp .USub) mNeg := .of un_neg fun ρ F x h v H Q rv rh o => by
  unfold mNeg at o
  split at o
  · exact ⟨_, rv.int, o.now rh (by simp [RV])⟩
  · exact o.elim
/-! ### comparisons -/
def mLt := mI (fun _ _ => true) fun i j => .bl (decide (i < j))
def mLe := mI (fun _ _ => true) fun i j => .bl (decide (i ≤ j))
def mGt := mI (fun _ _ => true) fun i j => .bl (decide (j < i))
def mGe := mI (fun _ _ => true) fun i j => .bl (decide (j ≤ i))
theorem mLt_ok : OpOk X (compareOp .Lt) mLt := mI_ok0 op_lt fun _ _ _ _ => by simp [RV]
theorem mLe_ok : OpOk X (compareOp .LtE) mLe := mI_ok0 op_le fun _ _ _ _ => by simp [RV]
theorem mGt_ok : OpOk X (compareOp .Gt) mGt := mI_ok0 op_gt fun _ _ _ _ => by simp [RV]
theorem mGe_ok : OpOk X (compareOp .GtE) mGe := mI_ok0 op_ge fun _ _ _ _ => by simp [RV]
/-- is None, is not None -/
def isN : AV → Bool
  | .non => true
  | _ => false
def mIs (neg : Bool) : AV → AV → AH → Res AV
  | x, .non, h => .ok (.bl (isN x != neg)) h
  | _, _, _ => .stuck
theorem mIs_calm {b} : Calm (mIs b) := fun x y h => by unfold mIs; split <;> trivial
theorem RV.isN {K : PySem.W.Frag} {mg : Str → Option Value} {ρ : List Addr} {F : Hp} {x : AV} {v : V} (r : RV K mg ρ F x v) : decide (v = .non) = isN x := by
  cases x <;> simp only [RV] at r
  · subst r; rfl
  all_goals first
    | (subst r; rfl)
    | (obtain ⟨a, e⟩ := r; first | (obtain ⟨_, e⟩ := e; subst_vars; rfl) | (subst_vars; rfl) | (obtain ⟨e, _⟩ := e; subst_vars; rfl))
    | (obtain ⟨a, b, e, _⟩ := r; subst_vars; rfl)
    | (obtain ⟨a, b, c, d, e, _⟩ := r; subst_vars; rfl)
theorem mIs_ok : OpOk X (compareOp .Is) (mIs false) := .of op_isN fun ρ F x y h v w H Q rv rw' rh o => by
  unfold mIs at o
  split at o
  · exact ⟨rw'.non, o.now rh (by simp only [RV]; rw [rv.isN]; simp)⟩
  · exact o.elim
theorem mIsNot_ok : OpOk X (compareOp .IsNot) (mIs true) := .of op_notN fun ρ F x y h v w H Q rv rw' rh o => by
  unfold mIs at o
  split at o
  · exact ⟨rw'.non, o.now rh (by simp only [RV]; rw [rv.isN]; simp)⟩
  · exact o.elim
end
end AVL

namespace AVL
open PySem PySem.Spec L2

/-! ### a def is left: its own names go, what it hands back is frozen -/
mutual
def frzV (g : Nat → Option AV) : AV → Option AV
  | .ref k => g k
  | .tup l => (frzVs g l).map .tup
  | .lst l => (frzVs g l).map .lst
  | .klst l => (frzVs g l).map .klst
  | .dct ks l => (frzVs g l).map (.dct ks)
  | .obj c ks l => (frzVs g l).map (.obj c ks)
  | .exc c ks l => (frzVs g l).map (.exc c ks)
  | .non => some .non
  | .bl b => some (.bl b)
  | .int i => some (.int i)
  | .str x => some (.str x)
  | .ty n => some (.ty n)
  | .cls c => some (.cls c)
def frzVs (g : Nat → Option AV) : List AV → Option (List AV)
  | [] => some []
  | x :: xs => match frzV g x, frzVs g xs with
    | some y, some ys => some (y :: ys)
    | _, _ => none
end
def frzN (h : AH) (m : Nat) : Nat → Nat → Option AV
  | 0, _ => none
  | f + 1, k => if k < m then some (.ref k) else match h[k]? with
    | some (.lst l) => (frzVs (frzN h m f) l).map .lst
    | some (.dct ks l) => (frzVs (frzN h m f) l).map (.dct ks)
    | some (.ins c ks l) => (frzVs (frzN h m f) l).map (.obj c ks)
    | _ => none
def frz (h : AH) (m : Nat) (x : AV) : Option AV := frzV (frzN h m (h.length + 1)) x
def frzs (h : AH) (m : Nat) (x : List AV) : Option (List AV) := frzVs (frzN h m (h.length + 1)) x
def leave (m : Nat) (x : AV) (h : AH) : Res AV := match frz h m x with
  | some y => .ok y (h.take m)
  | none => .stuck
/-- a list of its own is handed back, still to be written -/
def leaveK (m : Nat) (x : AV) (h : AH) : Res AV := match x with
  | .ref k => if k < m then .ok (.ref k) (h.take m) else match h[k]? with
    | some (.lst l) => if bnds k l then match frzs h m l with
      | some l' => .ok (.ref m) (h.take m ++ [.lst l'])
      | none => .stuck
      else .stuck
    | _ => .stuck
  | x => leave m x h
def leaveX (m : Nat) (c : Str) (ks : List Str) (l : List AV) (h : AH) : Res AV := match frzs h m l with
  | some l' => .exc c ks l' (h.take m)
  | none => .stuck

section
variable {K : PySem.W.Frag} {mg : Str → Option Value} {ρ ρ' : List Addr} {F H F' : Hp} {h : AH}
mutual
theorem RV.cut {m : Nat} (f : ∀ a o, F a = some o → F' a = some o) (p : ∀ (n : Nat) (a : Addr), n < m → ρ[n]? = some a → ρ'[n]? = some a) : ∀ (x : AV) (v : V), bnd m x = true → RV K mg ρ F x v → RV K mg ρ' F' x v
  | .non, v, _, h => by simpa [RV] using h
  | .bl b, v, _, h => by simpa [RV] using h
  | .int i, v, _, h => by simpa [RV] using h
  | .str x, v, _, h => by simpa [RV] using h
  | .ty n, v, _, h => by simpa [RV] using h
  | .cls c, v, _, h => by simpa [RV] using h
  | .tup l, v, b, h => by
    simp only [RV] at h ⊢
    obtain ⟨a, vs, e, q, r⟩ := h
    exact ⟨a, vs, e, SqT.mono f q, RVs.cut f p l vs b r⟩
  | .lst l, v, b, h => by
    simp only [RV] at h ⊢
    obtain ⟨a, vs, e, q, r⟩ := h
    exact ⟨a, vs, e, f _ _ q, RVs.cut f p l vs b r⟩
  | .klst l, v, b, h => by
    simp only [RV] at h ⊢
    obtain ⟨a, vs, e, q, r⟩ := h
    exact ⟨a, vs, e, SqL.mono f q, RVs.cut f p l vs b r⟩
  | .dct ks l, v, b, h => by
    simp only [RV] at h ⊢
    obtain ⟨a, kvs, e, q, k, r⟩ := h
    exact ⟨a, kvs, e, f _ _ q, k, RVs.cut f p l _ b r⟩
  | .obj c ks l, v, b, h => by
    simp only [RV] at h ⊢
    obtain ⟨a, C, dx, fs, e, m, q, k, r⟩ := h
    exact ⟨a, C, dx, fs, e, m, f _ _ q, k, RVs.cut f p l _ b r⟩
  | .exc c ks l, v, b, h => by
    simp only [RV] at h ⊢
    obtain ⟨a, C, d, fs, e, m, q, q', k, r⟩ := h
    exact ⟨a, C, d, fs, e, m, f _ _ q, f _ _ q', k, RVs.cut f p l _ b r⟩
  | .ref n, v, b, h => by
    simp only [RV] at h ⊢
    obtain ⟨a, e, q⟩ := h
    exact ⟨a, e, p _ _ (of_decide_eq_true b) q⟩
theorem RVs.cut {m : Nat} (f : ∀ a o, F a = some o → F' a = some o) (p : ∀ (n : Nat) (a : Addr), n < m → ρ[n]? = some a → ρ'[n]? = some a) : ∀ (x : List AV) (v : List V), bnds m x = true → RVs K mg ρ F x v → RVs K mg ρ' F' x v
  | [], v, _, h => by simpa [RVs] using h
  | x :: xs, v, b, h => by
    simp only [RVs] at h ⊢
    obtain ⟨w, r, e, q, t⟩ := h
    have b' : (bnd m x && bnds m xs) = true := b
    rw [Bool.and_eq_true] at b'
    exact ⟨w, r, e, RV.cut f p x w b'.1 q, RVs.cut f p xs r b'.2 t⟩
end
theorem RC.cut {m : Nat} (f : ∀ a o, F a = some o → F' a = some o) (p : ∀ (n : Nat) (a : Addr), n < m → ρ[n]? = some a → ρ'[n]? = some a) {c : Cell} {o : HO} (b : bndC m c = true) (h : RC K mg ρ F c o) : RC K mg ρ' F' c o := by
  cases c with
  | lst l => obtain ⟨vs, e, q⟩ := h; exact ⟨vs, e, q.cut f p _ _ b⟩
  | dct ks l => obtain ⟨vs, e, k, q⟩ := h; exact ⟨vs, e, k, q.cut f p _ _ b⟩
  | ins c ks l => obtain ⟨C, dx, fs, e, m, k, q⟩ := h; exact ⟨C, dx, fs, e, m, k, q.cut f p _ _ b⟩
  | dead => exact h
mutual
theorem frzV_ok {g : Nat → Option AV} {b : Nat} (f : ∀ a o, F a = some o → F' a = some o) (hg : ∀ k a y, k < b → ρ[k]? = some a → g k = some y → RV K mg ρ' F' y (.ref a)) : ∀ (x y : AV) (v : V), bnd b x = true → RV K mg ρ F x v → frzV g x = some y → RV K mg ρ' F' y v
  | .non, y, v, _, h, e => by simp only [frzV, Option.some.injEq] at e; subst e; simpa [RV] using h
  | .bl _, y, v, _, h, e => by simp only [frzV, Option.some.injEq] at e; subst e; simpa [RV] using h
  | .int _, y, v, _, h, e => by simp only [frzV, Option.some.injEq] at e; subst e; simpa [RV] using h
  | .str _, y, v, _, h, e => by simp only [frzV, Option.some.injEq] at e; subst e; simpa [RV] using h
  | .ty _, y, v, _, h, e => by simp only [frzV, Option.some.injEq] at e; subst e; simpa [RV] using h
  | .cls _, y, v, _, h, e => by simp only [frzV, Option.some.injEq] at e; subst e; simpa [RV] using h
  | .ref k, y, v, hb, h, e => by
    simp only [frzV] at e
    simp only [RV] at h
    obtain ⟨a, rfl, q⟩ := h
    exact hg k a y (of_decide_eq_true hb) q e
  | .tup l, y, v, hb, h, e => by
    simp only [frzV, Option.map_eq_some_iff] at e
    obtain ⟨l', e, rfl⟩ := e
    simp only [RV] at h ⊢
    obtain ⟨a, vs, ev, q, r⟩ := h
    exact ⟨a, vs, ev, SqT.mono f q, frzVs_ok f hg l l' vs hb r e⟩
  | .lst l, y, v, hb, h, e => by
    simp only [frzV, Option.map_eq_some_iff] at e
    obtain ⟨l', e, rfl⟩ := e
    simp only [RV] at h ⊢
    obtain ⟨a, vs, ev, q, r⟩ := h
    exact ⟨a, vs, ev, f _ _ q, frzVs_ok f hg l l' vs hb r e⟩
  | .klst l, y, v, hb, h, e => by
    simp only [frzV, Option.map_eq_some_iff] at e
    obtain ⟨l', e, rfl⟩ := e
    simp only [RV] at h ⊢
    obtain ⟨a, vs, ev, q, r⟩ := h
    exact ⟨a, vs, ev, SqL.mono f q, frzVs_ok f hg l l' vs hb r e⟩
  | .dct ks l, y, v, hb, h, e => by
    simp only [frzV, Option.map_eq_some_iff] at e
    obtain ⟨l', e, rfl⟩ := e
    simp only [RV] at h ⊢
    obtain ⟨a, vs, ev, q, k, r⟩ := h
    exact ⟨a, vs, ev, f _ _ q, k, frzVs_ok f hg l l' _ hb r e⟩
  | .obj c ks l, y, v, hb, h, e => by
    simp only [frzV, Option.map_eq_some_iff] at e
    obtain ⟨l', e, rfl⟩ := e
    simp only [RV] at h ⊢
    obtain ⟨a, C, dx, fs, ev, m, q, k, r⟩ := h
    exact ⟨a, C, dx, fs, ev, m, f _ _ q, k, frzVs_ok f hg l l' _ hb r e⟩
  | .exc c ks l, y, v, hb, h, e => by
    simp only [frzV, Option.map_eq_some_iff] at e
    obtain ⟨l', e, rfl⟩ := e
    simp only [RV] at h ⊢
    obtain ⟨a, C, dx, fs, ev, m, q, q', k, r⟩ := h
    exact ⟨a, C, dx, fs, ev, m, f _ _ q, f _ _ q', k, frzVs_ok f hg l l' _ hb r e⟩
theorem frzVs_ok {g : Nat → Option AV} {b : Nat} (f : ∀ a o, F a = some o → F' a = some o) (hg : ∀ k a y, k < b → ρ[k]? = some a → g k = some y → RV K mg ρ' F' y (.ref a)) : ∀ (x y : List AV) (v : List V), bnds b x = true → RVs K mg ρ F x v → frzVs g x = some y → RVs K mg ρ' F' y v
  | [], y, v, _, h, e => by simp only [frzVs, Option.some.injEq] at e; subst e; simpa [RVs] using h
  | x :: xs, y, v, hb, h, e => by
    simp only [frzVs] at e
    have b' : (bnd b x && bnds b xs) = true := hb
    rw [Bool.and_eq_true] at b'
    split at e
    · rename_i y1 ys e1 e2
      cases e
      simp only [RVs] at h ⊢
      obtain ⟨w, r, rfl, q, t⟩ := h
      exact ⟨w, r, rfl, frzV_ok f hg x y1 w b'.1 q e1, frzVs_ok f hg xs ys r b'.2 t e2⟩
    · cases e
end
theorem frzN_ok {m b : Nat} (rh : RH K mg ρ F h H) (f : ∀ a o, F a = some o → F' a = some o) (lo : ∀ (k : Nat) (a : Addr), k < m → ρ[k]? = some a → ρ'[k]? = some a)
    (hi : ∀ (k : Nat) (a : Addr) (c : Cell), m ≤ k → k < b → ρ[k]? = some a → h[k]? = some c → c.live = true → F' a = H a) : ∀ (n k : Nat) (a : Addr) (y : AV), k < b → ρ[k]? = some a → frzN h m n k = some y → RV K mg ρ' F' y (.ref a)
  | 0, k, a, y, _, _, e => by simp [frzN] at e
  | n + 1, k, a, y, hk, ea, e => by
    simp only [frzN] at e
    split at e
    · rename_i hm
      cases e
      simp only [RV]
      exact ⟨a, rfl, lo k a hm ea⟩
    · rename_i hm
      have ih : ∀ b', b' ≤ b → ∀ (j : Nat) (a : Addr) (y : AV), j < b' → ρ[j]? = some a → frzN h m n j = some y → RV K mg ρ' F' y (.ref a) := fun b' hb' j a y hj => frzN_ok rh f lo hi n j a y (by omega)
      have old : ∀ {c : Cell}, h[k]? = some c → bndC (k + 1) c = true := fun e => rh.old k _ e
      split at e
      · rename_i l q
        simp only [Option.map_eq_some_iff] at e
        obtain ⟨l', e, rfl⟩ := e
        obtain ⟨o, e1, vs, rfl, r⟩ := rh.cell k _ q a ea
        simp only [RV]
        exact ⟨a, vs, rfl, by rw [hi k a _ (by omega) hk ea q rfl]; exact e1, frzVs_ok f (ih (k + 1) (by omega)) l l' vs (old q) r e⟩
      · rename_i ks l q
        simp only [Option.map_eq_some_iff] at e
        obtain ⟨l', e, rfl⟩ := e
        obtain ⟨o, e1, kvs, rfl, ek, r⟩ := rh.cell k _ q a ea
        simp only [RV]
        exact ⟨a, kvs, rfl, by rw [hi k a _ (by omega) hk ea q rfl]; exact e1, ek, frzVs_ok f (ih (k + 1) (by omega)) l l' _ (old q) r e⟩
      · rename_i c ks l q
        simp only [Option.map_eq_some_iff] at e
        obtain ⟨l', e, rfl⟩ := e
        obtain ⟨o, e1, C, dx, fs, rfl, em, ek, r⟩ := rh.cell k _ q a ea
        simp only [RV]
        exact ⟨a, C, dx, fs, rfl, em, by rw [hi k a _ (by omega) hk ea q rfl]; exact e1, ek, frzVs_ok f (ih (k + 1) (by omega)) l l' _ (old q) r e⟩
      · cases e
/-- the names from m on are frozen, but perhaps x -/
def Fdrop (ρ : List Addr) (F H : Hp) (m : Nat) (x : Option Addr) : Hp := fun a => match F a with
  | some o => some o
  | none => if a ∈ ρ.drop m ∧ some a ≠ x then H a else none
theorem Fdrop_fz {m : Nat} {x : Option Addr} : ∀ a o, F a = some o → Fdrop ρ F H m x a = some o := fun a o e => by unfold Fdrop; rw [e]
theorem Fdrop_sub {m : Nat} {x : Option Addr} (rh : RH K mg ρ F h H) : ∀ a o, Fdrop ρ F H m x a = some o → H a = some o := fun a o e => by
  unfold Fdrop at e
  split at e
  · rename_i u q
    cases e
    exact rh.sub a _ q
  · split at e
    · exact e
    · cases e
theorem Fdrop_hi {m k : Nat} {a : Addr} {x : Option Addr} {c : Cell} (rh : RH K mg ρ F h H) (hm : m ≤ k) (ea : ρ[k]? = some a) (ec : h[k]? = some c) (hl : c.live = true) (hx : some a ≠ x) : Fdrop ρ F H m x a = H a := by
  unfold Fdrop
  rw [rh.sep k c ec hl a ea]
  have : a ∈ ρ.drop m := by
    refine List.mem_of_getElem? (i := k - m) ?_
    rw [List.getElem?_drop]
    have : m + (k - m) = k := by omega
    rw [this]; exact ea
  show (if a ∈ ρ.drop m ∧ some a ≠ x then H a else none) = H a
  rw [if_pos ⟨this, hx⟩]
theorem not_drop {m k : Nat} {a : Addr} (nd : ρ.Nodup) (hk : k < m) (ea : ρ[k]? = some a) : a ∉ ρ.drop m := fun hm => by
  obtain ⟨j, hj⟩ := List.getElem?_of_mem hm
  rw [List.getElem?_drop] at hj
  have := nodup_get nd ea hj
  omega
theorem rh_drop {m : Nat} {x : Option Addr} (rh : RH K mg ρ F h H) : RH K mg (ρ.take m) (Fdrop ρ F H m x) (h.take m) H where
  len := by simp [rh.len]
  tab := rh.tab
  ntb := fun a ps e => by
    unfold Fdrop at e
    split at e
    · rename_i u q
      cases e
      exact rh.ntb a ps q
    · split at e
      · rename_i hm
        obtain ⟨k, ek⟩ := List.getElem?_of_mem hm.1
        rw [List.getElem?_drop] at ek
        have hl : m + k < h.length := by rw [← rh.len]; exact (List.getElem?_eq_some_iff.mp ek).1
        obtain ⟨o, e1, r⟩ := rh.cell (m + k) h[m + k] (by simp [hl]) a ek
        rw [e] at e1; cases e1
        exact r.ntb ps rfl
      · cases e
  nd := List.Nodup.sublist (List.take_sublist m ρ) rh.nd
  sub := Fdrop_sub rh
  sep := fun n c e hl a ea => by
    have hn : n < m := by
      have := (List.getElem?_eq_some_iff.mp e).1
      simp at this; omega
    rw [List.getElem?_take, if_pos hn] at e ea
    unfold Fdrop
    rw [rh.sep n c e hl a ea]
    show (if a ∈ ρ.drop m ∧ some a ≠ x then H a else none) = none
    rw [if_neg fun z => not_drop rh.nd hn ea z.1]
  old := fun n c e => by
    have hn : n < m := by
      have := (List.getElem?_eq_some_iff.mp e).1
      simp at this; omega
    rw [List.getElem?_take, if_pos hn] at e
    exact rh.old n c e
  cell := fun n c e a ea => by
    have hn : n < m := by
      have := (List.getElem?_eq_some_iff.mp e).1
      simp at this; omega
    rw [List.getElem?_take, if_pos hn] at e ea
    obtain ⟨o, e1, r⟩ := rh.cell n c e a ea
    exact ⟨o, e1, r.cut (m := m) Fdrop_fz (fun j b hj eb => by rw [List.getElem?_take, if_pos hj]; exact eb) (bndC_mono (by omega) c (rh.old n c e))⟩
theorem ext_drop {ρ0 : List Addr} {F0 H0 : Hp} {x : Option Addr} (e : Ext ρ0 F0 H0 ρ F H) (nd : ρ.Nodup) : Ext ρ0 F0 H0 (ρ.take ρ0.length) (Fdrop ρ F H ρ0.length x) H := by
  obtain ⟨t, et⟩ := e.pre
  have ht : ρ.take ρ0.length = ρ0 := by rw [et]; simp
  refine ⟨⟨[], by rw [ht]; simp⟩, fun a o q => Fdrop_fz a o (e.fz a o q), e.keep, fun a ha => .inl (by rw [ht] at ha; exact ha), fun a o q => ?_⟩
  unfold Fdrop at q
  split at q
  · rename_i u q'
    exact e.fnew a o (q'.trans q)
  · split at q
    · rename_i hd
      rcases e.new a (List.mem_of_mem_drop hd.1) with z | z
      · exact .inr (.inr z)
      · exact .inr (.inl z)
    · cases q
theorem lo_take {m : Nat} : ∀ (k : Nat) (a : Addr), k < m → ρ[k]? = some a → (ρ.take m)[k]? = some a := fun k a hk e => by rw [List.getElem?_take, if_pos hk]; exact e
theorem leave_ok {ρ0 : List Addr} {F0 H0 : Hp} {h0 : AH} {x : AV} {v : V} {Q : VK} {E : XK} (rh0 : RH K mg ρ0 F0 h0 H0) (o : Out K mg (RV K mg) ρ0 F0 H0 (leave h0.length x h) Q E) (e : Ext ρ0 F0 H0 ρ F H) (rh : RH K mg ρ F h H) (rv : RV K mg ρ F x v) : Q v H := by
  unfold leave at o
  split at o
  · rename_i y ey
    refine o _ _ _ v (ext_drop (x := none) e rh.nd) (by rw [← rh0.len]; exact rh_drop rh) ?_
    rw [rh0.len]
    refine frzV_ok (b := ρ.length) Fdrop_fz (fun k a y hk ea ey => ?_) x y v (rv.bnd _ _) rv ey
    exact frzN_ok rh Fdrop_fz lo_take (fun k a c hm _ ea ec hl => Fdrop_hi rh hm ea ec hl (by simp)) _ k a y hk ea ey
  · exact o.elim
theorem leaveX_ok {ρ0 : List Addr} {F0 H0 : Hp} {h0 : AH} {c : Str} {ks : List Str} {l : List AV} {C : Addr} {d : Option Addr} {Q : VK} {E : XK} (rh0 : RH K mg ρ0 F0 h0 H0) (o : Out K mg (RV K mg) ρ0 F0 H0 (leaveX h0.length c ks l h) Q E) (e : Ext ρ0 F0 H0 ρ F H) (rh : RH K mg ρ F h H) (em : mg c = some (.ref C)) (rx : RX K mg ρ F ks l d) : E (.ref C) d H := by
  unfold leaveX at o
  split at o
  · rename_i y ey
    obtain ⟨dd, fs, ed, ef, ek, r⟩ := rx
    refine o _ _ _ C d (ext_drop (x := none) e rh.nd) (by rw [← rh0.len]; exact rh_drop rh) em ⟨dd, fs, ed, Fdrop_fz _ _ ef, ek, ?_⟩
    rw [rh0.len]
    refine frzVs_ok (b := ρ.length) Fdrop_fz (fun k a y hk ea ey => ?_) l y _ (r.bnd _ _) r ey
    exact frzN_ok rh Fdrop_fz lo_take (fun k a c hm _ ea ec hl => Fdrop_hi rh hm ea ec hl (by simp)) _ k a y hk ea ey
  · exact o.elim
theorem leaveK_eq {m : Nat} {x : AV} {h : AH} (hx : ∀ k, x ≠ .ref k) : leaveK m x h = leave m x h := by
  cases x <;> first | rfl | exact absurd rfl (hx _)
theorem leaveK_ok {ρ0 : List Addr} {F0 H0 : Hp} {h0 : AH} {x : AV} {v : V} {Q : VK} {E : XK} (rh0 : RH K mg ρ0 F0 h0 H0) (o : Out K mg (RV K mg) ρ0 F0 H0 (leaveK h0.length x h) Q E) (e : Ext ρ0 F0 H0 ρ F H) (rh : RH K mg ρ F h H) (rv : RV K mg ρ F x v) : Q v H := by
  have hlen : h0.length ≤ ρ.length := by
    obtain ⟨t, et⟩ := e.pre
    rw [et, ← rh0.len]; simp
  by_cases hx : ∃ k, x = .ref k
  case neg =>
    rw [leaveK_eq fun k z => hx ⟨k, z⟩] at o
    exact leave_ok rh0 o e rh rv
  case pos =>
    obtain ⟨k, rfl⟩ := hx
    simp only [RV] at rv
    obtain ⟨a, rfl, ea⟩ := rv
    simp only [leaveK] at o
    split at o
    · rename_i hk
      refine o _ _ _ _ (ext_drop (x := none) e rh.nd) (by rw [← rh0.len]; exact rh_drop rh) ?_
      simp only [RV]
      exact ⟨a, rfl, by rw [rh0.len]; exact lo_take k a hk ea⟩
    · rename_i hk
      split at o
      · rename_i l q
        split at o
        · rename_i hb
          split at o
          · rename_i l' el
            obtain ⟨u, e1, vs, rfl, r⟩ := rh.cell k _ q a ea
            have FN : Fdrop ρ F H h0.length (some a) a = none := by
              unfold Fdrop
              rw [rh.sep k _ q rfl a ea]
              show (if a ∈ ρ.drop h0.length ∧ some a ≠ some a then H a else none) = none
              rw [if_neg fun z => z.2 rfl]
            have RD := rh_drop (m := h0.length) (x := some a) rh
            have na : a ∉ ρ.take h0.length := fun hm => by
              obtain ⟨j, hj⟩ := List.getElem?_of_mem hm
              have hlt : j < h0.length := by
                have := (List.getElem?_eq_some_iff.mp hj).1
                simp at this; omega
              rw [List.getElem?_take, if_pos hlt] at hj
              have := nodup_get rh.nd hj ea
              omega
            have hi : ∀ (j : Nat) (b : Addr) (c : Cell), h0.length ≤ j → j < k → ρ[j]? = some b → h[j]? = some c → c.live = true → Fdrop ρ F H h0.length (some a) b = H b := fun j b c hm hj eb ec hl =>
              Fdrop_hi rh hm eb ec hl fun z => by
                have z' : b = a := Option.some.inj z
                subst z'
                have := nodup_get rh.nd eb ea
                omega
            have RL : RVs K mg (ρ.take h0.length ++ [a]) (Fdrop ρ F H h0.length (some a)) l' vs := by
              refine RVs.mono (fun _ _ z => z) (fun n b eb => ?_) l' vs (frzVs_ok (ρ' := ρ.take h0.length) (b := k) Fdrop_fz (fun j b y hj eb ey => frzN_ok rh Fdrop_fz lo_take hi _ j b y hj eb ey) l l' vs hb r el)
              rw [List.getElem?_append_left (List.getElem?_eq_some_iff.mp eb).1]
              exact eb
            have hmm : h0.length = (ρ.take h0.length).length := by rw [List.length_take]; omega
            have hhl : (h.take h0.length).length = h0.length := by rw [List.length_take, ← rh.len]; omega
            refine o (ρ.take h0.length ++ [a]) (Fdrop ρ F H h0.length (some a)) H _ ?_ ⟨by simp [rh.len], rh.tab, RD.ntb, ?_, RD.sub, ?_, ?_, ?_⟩ ?_
            · have E1 := ext_drop (x := some a) e rh.nd
              rw [rh0.len] at E1
              refine ⟨?_, E1.fz, E1.keep, fun b hb => ?_, E1.fnew⟩
              · obtain ⟨t, et⟩ := E1.pre
                exact ⟨t ++ [a], by rw [et, List.append_assoc]⟩
              · rcases List.mem_append.mp hb with z | z
                · exact E1.new b z
                · have : b = a := by simpa using z
                  subst this
                  exact e.new b (List.mem_of_getElem? ea)
            · rw [List.nodup_append]
              exact ⟨RD.nd, by simp, fun x hx y hy z => by
                have : y = a := by simpa using hy
                subst this; subst z
                exact na hx⟩
            · intro n c ec hl b eb
              by_cases hn : n < h0.length
              · rw [List.getElem?_append_left (by omega)] at ec eb
                exact RD.sep n c ec hl b eb
              · have hn2 : n = h0.length := by
                  have := (List.getElem?_eq_some_iff.mp ec).1
                  simp at this; omega
                subst hn2
                rw [List.getElem?_append_right (by omega)] at eb
                have : b = a := by
                  have z : h0.length - (ρ.take h0.length).length = 0 := by omega
                  rw [z] at eb; simpa using eb.symm
                rw [this]; exact FN
            · intro n c ec
              by_cases hn : n < h0.length
              · rw [List.getElem?_append_left (by omega)] at ec
                exact RD.old n c ec
              · have hn2 : n = h0.length := by
                  have := (List.getElem?_eq_some_iff.mp ec).1
                  simp at this; omega
                subst hn2
                rw [List.getElem?_append_right (by omega)] at ec
                have : c = .lst l' := by
                  have z : h0.length - (h.take h0.length).length = 0 := by omega
                  rw [z] at ec; simpa using ec.symm
                subst this
                have b1 := RL.bnd
                rw [List.length_append, ← hmm] at b1
                exact b1
            · intro n c ec b eb
              by_cases hn : n < h0.length
              · rw [List.getElem?_append_left (by omega)] at ec eb
                obtain ⟨u, e2, r2⟩ := RD.cell n c ec b eb
                refine ⟨u, e2, ?_⟩
                cases c with
                | lst l => obtain ⟨vs, e, q⟩ := r2; exact ⟨vs, e, q.mono (fun _ _ z => z) (fun n b eb => by rw [List.getElem?_append_left (List.getElem?_eq_some_iff.mp eb).1]; exact eb) _ _⟩
                | dct ks l => obtain ⟨vs, e, k, q⟩ := r2; exact ⟨vs, e, k, q.mono (fun _ _ z => z) (fun n b eb => by rw [List.getElem?_append_left (List.getElem?_eq_some_iff.mp eb).1]; exact eb) _ _⟩
                | ins c ks l => obtain ⟨C, dx, fs, e, m, k, q⟩ := r2; exact ⟨C, dx, fs, e, m, k, q.mono (fun _ _ z => z) (fun n b eb => by rw [List.getElem?_append_left (List.getElem?_eq_some_iff.mp eb).1]; exact eb) _ _⟩
                | dead => exact r2
              · have hn2 : n = h0.length := by
                  have := (List.getElem?_eq_some_iff.mp ec).1
                  simp at this; omega
                subst hn2
                rw [List.getElem?_append_right (by omega)] at ec eb
                have e3 : c = .lst l' := by
                  have z : h0.length - (h.take h0.length).length = 0 := by omega
                  rw [z] at ec; simpa using ec.symm
                have e4 : b = a := by
                  have z : h0.length - (ρ.take h0.length).length = 0 := by omega
                  rw [z] at eb; simpa using eb.symm
                subst e3; subst e4
                exact ⟨_, e1, vs, rfl, RL⟩
            · simp only [RV]
              refine ⟨a, rfl, ?_⟩
              rw [List.getElem?_append_right (by omega)]
              have z : h0.length - (ρ.take h0.length).length = 0 := by omega
              rw [z]; rfl
          · exact o.elim
        · exact o.elim
      · exact o.elim
end
end AVL

namespace AVL
open PySem PySem.Spec L2
abbrev SM := SL → AH → SRes
abbrev GM := AV → SL → AH → Option (SL × AH)
abbrev GsM := List AV → SL → AH → Option (SL × AH)
section
variable (X : Cx) (W : WX)
def lS (f : SM) : TS := fun D σ H => ∃ ρ F sl h, RSl X.K X.mg ρ F sl σ ∧ RH X.K X.mg ρ F h H ∧ OutS X.K X.mg ρ F H (f sl h) D W
/-- a target -/
def OutG (ρ : List Addr) (F H : Hp) (r : Option (SL × AH)) (Q : L2.St → Hp → Prop) : Prop := match r with
  | some (sl', h') => ∀ ρ' F' H' σ', Ext ρ F H ρ' F' H' → RH X.K X.mg ρ' F' h' H' → RSl X.K X.mg ρ' F' sl' σ' → Q σ' H'
  | none => False
def lG (f : AV → SL → AH → Option (SL × AH)) : TG := fun v σ H Q => ∃ ρ F x sl h, RV X.K X.mg ρ F x v ∧ RSl X.K X.mg ρ F sl σ ∧ RH X.K X.mg ρ F h H ∧ OutG X ρ F H (f x sl h) Q
def lGs (f : List AV → SL → AH → Option (SL × AH)) : TGs := fun v σ H Q => ∃ ρ F x sl h, RVs X.K X.mg ρ F x v ∧ RSl X.K X.mg ρ F sl σ ∧ RH X.K X.mg ρ F h H ∧ OutG X ρ F H (f x sl h) Q
end
theorem ps_imp {X : Cx} {e : Stmt} {t t' : TS} (h : PS X e t) (i : ∀ D σ H, t' D σ H → t D σ H) : PS X e t' := ⟨fun pins s σ H D I q => h.run pins s σ H D I (i D σ H q)⟩
theorem pss_imp {X : Cx} {e : List Stmt} {t t' : TS} (h : PSs X e t) (i : ∀ D σ H, t' D σ H → t D σ H) : PSs X e t' := ⟨fun pins s σ H D I q => h.run pins s σ H D I (i D σ H q)⟩
theorem pg_imp {X : Cx} {e : Expr} {t t' : TG} (h : PG X e t) (i : ∀ v σ H Q, t' v σ H Q → t v σ H Q) : PG X e t' := ⟨fun pins s σ H v u Q I r q => h.run pins s σ H v u Q I r (i v σ H Q q)⟩
theorem pgs_imp {X : Cx} {e : List Expr} {t t' : TGs} (h : PGs X e t) (i : ∀ v σ H Q, t' v σ H Q → t v σ H Q) : PGs X e t' := ⟨fun pins s σ H v u Q I r q => h.run pins s σ H v u Q I r (i v σ H Q q)⟩
theorem RSl.set {K : PySem.W.Frag} {mg : Str → Option Value} {ρ : List Addr} {F : Hp} {sl : SL} {σ : L2.St} (rs : RSl K mg ρ F sl σ) (i : Nat) {x : AV} {v : V} (r : RV K mg ρ F x v) : RSl K mg ρ F (sl.set i (some x)) (σ.set i (some v)) := by
  refine ⟨by simpa using rs.1, fun j y e => ?_⟩
  by_cases hj : i = j
  · subst hj
    have hl : i < sl.length := by
      have := (List.getElem?_eq_some_iff.mp e).1
      simpa using this
    rw [List.getElem?_set_self hl] at e
    cases e
    exact ⟨v, by rw [List.getElem?_set_self (by rw [← rs.1]; exact hl)], r⟩
  · rw [List.getElem?_set_ne hj] at e ⊢
    exact rs.2 j y e

/-! ### blocks -/
def sNext : SM := fun sl h => .next sl h
def sSeq (f g : SM) : SM := fun sl h => (f sl h).seq g
def sRet (f : EM) : SM := fun sl h => (f sl h).toS sl fun x h1 => .ret x h1
def sRetN : SM := fun _ h => .ret .non h
def sExpr (f : EM) : SM := fun sl h => (f sl h).toS sl fun _ h1 => .next sl h1
def sIf (t : TM) (f g : SM) : SM := fun sl h => (t sl h).toS sl fun b h1 => if b then f sl h1 else g sl h1
def sBrk : SM := fun sl h => .brk sl h
def sCont : SM := fun sl h => .cont sl h
def sOpt (r : Option (SL × AH)) : SRes := match r with
  | some (sl, h) => .next sl h
  | none => .stuck
def sAsg (f : EM) (g : GM) : SM := fun sl h => (f sl h).toS sl fun x h1 => sOpt (g x sl h1)
def gName (i : Nat) : GM := fun x sl h => some (sl.set i (some x), h)
def gsNil : GsM := fun xs sl h => match xs with
  | [] => some (sl, h)
  | _ => none
def gsCons (t : GM) (u : GsM) : GsM := fun xs sl h => match xs with
  | x :: r => match t x sl h with
    | some (sl', h') => u r sl' h'
    | none => none
  | [] => none
def gTup (n : Nat) (t : GsM) : GM := fun x sl h => match itemsT x with
  | some l => if l.length = n then t l sl h else none
  | none => none
/-- a, b = e, f (names) -/
def setAll : List Nat → List AV → SL → SL
  | i :: is, x :: xs, sl => setAll is xs (sl.set i (some x))
  | _, _, sl => sl
def sPar (is : List Nat) (f : AM) : SM := fun sl h => (f sl h).toS sl fun xs h1 => if xs.length = is.length then .next (setAll is xs sl) h1 else .stuck
section
variable {X : Cx} {W : WX} {st : Stmt} {rest : List Stmt} {f g : SM} {fe : EM} {ft : TM} {e : Expr} {pos : Pos}
theorem rsNil : PSs X [] (lS X W sNext) := pss_imp pss_nil fun D σ H ⟨ρ, F, sl, h, rs, rh, o⟩ => o ρ F H σ (Ext.refl _ _ _) rh rs
theorem rsCons (h1 : PS X st (lS X W f)) (h2 : PSs X rest (lS X W g)) : PSs X (st :: rest) (lS X W (sSeq f g)) := by
  refine pss_imp (pss_cons h1 h2) fun D σ H ⟨ρ, F, sl, h, rs, rh, o⟩ => ?_
  refine ⟨ρ, F, sl, h, rs, rh, ?_⟩
  unfold sSeq at o
  cases q : f sl h with
  | next sl' h' =>
    rw [q] at o
    exact fun ρ' F' H' σ' ex rh' rs' => ⟨ρ', F', sl', h', rs', rh', OutS.ext (show OutS X.K X.mg ρ F H (g sl' h') D W from o) ex⟩
  | ret x h' => rw [q] at o; exact o
  | brk x h' => rw [q] at o; exact o
  | cont x h' => rw [q] at o; exact o
  | exc c ks l x h' => rw [q] at o; exact o
  | stuck => rw [q] at o; exact o
theorem rsOne (h1 : PS X st (lS X W f)) : PSs X [st] (lS X W f) := pss_one h1
theorem rsRet (he : PE X e (lE X W fe)) : PS X (.Return (some e) pos) (lS X W (sRet fe)) :=
  ps_imp (ps_ret he) fun D σ H ⟨ρ, F, sl, h, rs, rh, o⟩ => ⟨ρ, F, sl, h, rs, rh, Out.bindS (R := RV X.K X.mg) o rs fun x h1 ρ1 F1 H1 v ex rh1 rv o1 => o1 _ _ _ _ (Ext.refl _ _ _) rh1 rv⟩
theorem rsRetN : PS X (.Return none pos) (lS X W sRetN) := ps_imp ps_retN fun D σ H ⟨ρ, F, sl, h, rs, rh, o⟩ => o _ _ _ _ (Ext.refl _ _ _) rh (by simp [RV])
theorem rsPass : PS X (.Pass pos) (lS X W sNext) := ps_imp ps_pass fun D σ H ⟨ρ, F, sl, h, rs, rh, o⟩ => o ρ F H σ (Ext.refl _ _ _) rh rs
theorem rsBrk : PS X (.Break pos) (lS X W sBrk) := ps_imp ps_break fun D σ H ⟨ρ, F, sl, h, rs, rh, o⟩ => o ρ F H σ (Ext.refl _ _ _) rh rs
theorem rsCont : PS X (.Continue pos) (lS X W sCont) := ps_imp ps_continue fun D σ H ⟨ρ, F, sl, h, rs, rh, o⟩ => o ρ F H σ (Ext.refl _ _ _) rh rs
theorem rsExpr (he : PE X e (lE X W fe)) (hs : swapsWith e none pos.line X.env = pure false := by rfl) : PS X (.Expr e pos) (lS X W (sExpr fe)) :=
  ps_imp (ps_expr he hs) fun D σ H ⟨ρ, F, sl, h, rs, rh, o⟩ => ⟨ρ, F, sl, h, rs, rh, Out.bindS (R := RV X.K X.mg) o rs fun x h1 ρ1 F1 H1 v ex rh1 rv o1 => o1 _ _ _ _ (Ext.refl _ _ _) rh1 (rs.ext ex)⟩
theorem rsIf {c : Expr} {a b : List Stmt} (hc : PT X c (lT X W ft)) (ha : PSs X a (lS X W f)) (hb : PSs X b (lS X W g)) : PS X (.If c a b pos) (lS X W (sIf ft f g)) := by
  refine ps_imp (ps_if hc ha hb) fun D σ H ⟨ρ, F, sl, h, rs, rh, o⟩ => ⟨ρ, F, sl, h, rs, rh, Out.bindS (R := RT) o rs fun x h1 ρ1 F1 H1 v ex rh1 rv o1 => ?_⟩
  cases rv
  cases x with
  | true => exact iteT ⟨ρ1, F1, sl, h1, rs.ext ex, rh1, o1⟩
  | false => exact iteF ⟨ρ1, F1, sl, h1, rs.ext ex, rh1, o1⟩
/-! ### assignments -/
variable {tg : Expr} {gm : GM} {gsm : GsM}
theorem OutG.ext {ρ ρ1 : List Addr} {F H F1 H1 : Hp} {r : Option (SL × AH)} {Q : L2.St → Hp → Prop} (o : OutG X ρ F H r Q) (e : Ext ρ F H ρ1 F1 H1) : OutG X ρ1 F1 H1 r Q := by
  cases r with
  | none => exact o
  | some p => exact fun ρ' F' H' σ' e' => o ρ' F' H' σ' (e.trans e')
theorem rgName (i : Nat) {x : Str} (hN : X.N.Nodup) (hi : X.N[i]? = some x := by rfl) (hx : Loc X.env.scope x := by first | exact Or.inl rfl | exact Or.inr rfl) (hf : X.fn x = true ∨ X.env.scope.names.lookup x = some .local := by first | exact .inl rfl | exact .inr rfl) :
    PG X (.Name x pos) (lG X (gName i)) :=
  pg_imp (pg_name hN hi hx hf) fun v σ H Q ⟨ρ, F, x, sl, h, rv, rs, rh, o⟩ => o ρ F H _ (Ext.refl _ _ _) rh (rs.set i rv)
theorem rgsNil : PGs X [] (lGs X gsNil) := pgs_imp pgs_nil fun vs σ H Q ⟨ρ, F, x, sl, h, rv, rs, rh, o⟩ => by
  cases x with
  | nil => exact ⟨by simpa [RVs] using rv, o ρ F H σ (Ext.refl _ _ _) rh rs⟩
  | cons y ys => exact o.elim
theorem rgsCons {es : List Expr} (h1 : PG X e (lG X gm)) (h2 : PGs X es (lGs X gsm)) (hs : (assignEach (e :: es) X.env).map (·.2) = assign e X.env :: (assignEach es X.env).map (·.2) := by rfl) : PGs X (e :: es) (lGs X (gsCons gm gsm)) :=
  pgs_imp (pgs_cons h1 h2 hs) fun vs σ H Q ⟨ρ, F, x, sl, h, rv, rs, rh, o⟩ => by
    cases x with
    | nil => exact o.elim
    | cons y ys =>
      simp only [RVs] at rv
      obtain ⟨v, r, ev, a, t⟩ := rv
      refine ⟨v, r, ev, ρ, F, y, sl, h, a, rs, rh, ?_⟩
      simp only [gsCons] at o
      cases q : gm y sl h with
      | none => rw [q] at o; exact o
      | some p =>
        obtain ⟨sl', h'⟩ := p
        rw [q] at o
        exact fun ρ' F' H' σ' ex rh' rs' => ⟨ρ', F', ys, sl', h', t.ext ex, rs', rh', OutG.ext (show OutG X ρ F H (gsm ys sl' h') Q from o) ex⟩
theorem rgTup {es : List Expr} {k : Nat} {n : Nat} (h : PGs X es (lGs X gsm)) (hc : X.calm = true := by rfl)
    (hn : (assignEach es X.env).length = n := by rfl) (hst : (assignEach es X.env).findIdx? (·.1) = none := by rfl) : PG X (.Tuple es k pos) (lG X (gTup n gsm)) :=
  pg_imp (pg_tup hc h hn hst) fun v σ H Q ⟨ρ, F, x, sl, h, rv, rs, rh, o⟩ => by
    simp only [AVL.gTup] at o
    split at o
    · rename_i l el
      split at o
      · rename_i hl
        obtain ⟨a, vs, ev, q, r⟩ := items_T rh rv el
        exact ⟨a, vs, ev, q, by rw [← r.length]; exact hl, ρ, F, l, sl, h, r, rs, rh, o⟩
      · exact o.elim
    · exact o.elim
theorem rsAsg (he : PE X e (lE X W fe)) (hg : PG X tg (lG X gm)) (hs : swapsWithSole [tg] e pos.line X.env = pure false := by rfl) (hw : swappedStores [tg] e X.env = pure none := by rfl)
    (h1 : (assignEach [tg] X.env).map (·.2) = [assign tg X.env] := by rfl) : PS X (.Assign [tg] e pos) (lS X W (sAsg fe gm)) := by
  refine ps_imp (ps_asg he hg hs hw h1) fun D σ H ⟨ρ, F, sl, h, rs, rh, o⟩ => ⟨ρ, F, sl, h, rs, rh, Out.bindS (R := RV X.K X.mg) o rs fun x h1 ρ1 F1 H1 v ex rh1 rv o1 => ?_⟩
  refine ⟨ρ1, F1, x, sl, h1, rv, rs.ext ex, rh1, ?_⟩
  cases q : gm x sl h1 with
  | none => rw [q] at o1; exact o1
  | some p => rw [q] at o1; exact o1
theorem rsPar2 {i j : Nat} {x y : Str} {a b : Expr} {fa : AM} {px py pt : Pos} {kt k2 pt2} (hN : X.N.Nodup) (ha : PA X [a, b] (lA X W fa)) (hc : X.calm = true := by rfl) (hi : X.N[i]? = some x := by rfl) (hj : X.N[j]? = some y := by rfl) (hij : i ≠ j := by decide)
    (hx : X.env.scope.names.lookup x = some .local := by rfl) (hy : X.env.scope.names.lookup y = some .local := by rfl)
    (hw : swappedStores [.Tuple [.Name x px, .Name y py] kt pt] (.Tuple [a, b] k2 pt2) X.env = pure (some [x, y]) := by rfl)
    (hs : swapsWithSole [.Tuple [.Name x px, .Name y py] kt pt] (.Tuple [a, b] k2 pt2) pos.line X.env = pure false := by rfl) :
    PS X (.Assign [.Tuple [.Name x px, .Name y py] kt pt] (.Tuple [a, b] k2 pt2) pos) (lS X W (sPar [i, j] fa)) := by
  refine ps_imp (ps_par hc hN hi hj hij hx hy ha hw hs) fun D σ H ⟨ρ, F, sl, h, rs, rh, o⟩ => ⟨ρ, F, sl, h, rs, rh, Out.bindS (R := RVs X.K X.mg) o rs fun xs h1 ρ1 F1 H1 vs ex rh1 rv o1 => ?_⟩
  split at o1
  · rename_i hl
    match xs, hl with
    | [u, w], _ =>
      simp only [RVs] at rv
      obtain ⟨v1, r1, e1, a1, v2, r2, e2, a2, e3⟩ := rv
      subst e3; subst e2; subst e1
      exact ⟨v1, v2, rfl, o1 _ _ _ _ (Ext.refl _ _ _) rh1 (((rs.ext ex).set i a1).set j a2)⟩
  · exact o1.elim
end
end AVL

namespace AVL
open PySem PySem.Spec L2
abbrev MF := List AV → AH → Res AV
/-- a def's promise by its function -/
def spOf (K : PySem.W.Frag) (mg : Str → Option Value) (n : Nat) (mf : MF) : Sp := fun vs H Q E => ∃ ρ F args h, RVs K mg ρ F args vs ∧ RH K mg ρ F h H ∧ args.length = n ∧ Out K mg (RV K mg) ρ F H (mf args h) Q E
def finF (m : Nat) (kp : Bool) : SRes → Res AV
  | .ret x h => if kp then leaveK m x h else leave m x h
  | .next _ h => leave m .non h
  | .exc c ks l _ h => leaveX m c ks l h
  | _ => .stuck
/-- a def: n names of its own beside the parameters -/
def mkF (n : Nat) (kp : Bool) (bm : SM) : MF := fun args h => finF h.length kp (bm (args.map some ++ List.replicate n none) h)
theorem RVs.start {K : PySem.W.Frag} {mg : Str → Option Value} {ρ : List Addr} {F : Hp} {args : List AV} {vs : List V} {N : List Str} {n : Nat} (r : RVs K mg ρ F args vs) (hn : N.length = args.length + n) : RSl K mg ρ F (args.map some ++ List.replicate n none) (L2.start N vs) := by
  have hl := r.length
  refine ⟨by unfold L2.start; simp; omega, fun i x e => ?_⟩
  by_cases hi : i < args.length
  · rw [List.getElem?_append_left (by simpa using hi), List.getElem?_map] at e
    cases q : args[i]? with
    | none => rw [q] at e; simp at e
    | some y =>
      rw [q] at e
      simp at e
      subst e
      obtain ⟨v, ev, rv⟩ := r.get q
      refine ⟨v, ?_, rv⟩
      unfold L2.start
      rw [List.getElem?_append_left (by simp; omega), List.getElem?_map, ev]
      rfl
  · rw [List.getElem?_append_right (by simp; omega), List.getElem?_replicate] at e
    split at e <;> simp at e
/-- a def, called where no container's repr is under way -/
structure FnG (P : Program) (w : World) (K : PySem.W.Frag) (mg : Str → Option Value) (base : Heap) (k : Nat) (f : Addr) (fd : FuncData) (ps : List Str) (sp : Sp) : Prop where
  run : ∀ (A : Around) (outer : List Env) (s : Shared) (H : Hp) (args : Args) (us : List Value) (vs : List V) (Q : VK) (E : XK), A.guards = some [] → Room k A → Env0 P w K mg base A outer s H → BindsTo s fd args (ps.zip us) → Vals vs us → vs.length = ps.length → sp vs H Q E →
    codeAny (model P w) A (.call (.ref f) args) (CR (L2.CX P w) outer P w H s Q E) s
theorem fn_mk {P : Program} {w : World} {K : PySem.W.Frag} {mg : Str → Option Value} {base : Heap} {x qual : Str} {params : Arguments} {body : List Stmt} {scope : Scope} {dvs : List V} {kws : List (Str × V)} {f : Addr} {fd : FuncData} {N ps : List Str} {k n : Nat} {kp : Bool} {bm : SM}
    (F : FunD K x qual params body scope dvs kws f fd) (S : FnScope N ps scope) (hn : N.length = ps.length + n)
    (hb : ∀ (cdv : Value) (A : Around) (outer : List Env) (s : Shared) (H : Hp) (E : XK), fd.code = cdv → (A.deeper (PyProof.Rows.envOfC qual scope s.heap.objs.size f cdv)).guards = some [] → Room k (A.deeper (PyProof.Rows.envOfC qual scope s.heap.objs.size f cdv)) →
      PSs (cxOf (L2.CX P w) P w K mg base N qual scope f cdv A outer s H E) body (lS (cxOf (L2.CX P w) P w K mg base N qual scope f cdv A outer s H E) (fun c d _ H => E c d H) bm)) :
    FnG P w K mg base (k + 1) f fd ps (spOf K mg ps.length (mkF n kp bm)) := by
  obtain ⟨oc, od, dV, kV, doc, pm, an, cdv, ct, osl, rfl, lk, hcd, _, _⟩ := F.ex
  refine ⟨fun A outer s H args us vs Q E gd hr e0 hbd r hlen h => LamX.run_ofS lk hcd S hr e0 hbd r hlen fun hr2 => ⟨_, hb cdv A outer s H E rfl gd hr2, ?_⟩⟩
  obtain ⟨ρ, F0, args, h, r, rh, hl, o⟩ := h
  refine ⟨ρ, F0, args.map some ++ List.replicate n none, h, r.start (by rw [hn, hl]), rh, ?_⟩
  unfold mkF at o
  cases q : bm (args.map some ++ List.replicate n none) h with
  | next sl h' => rw [q] at o; exact fun ρ' F' H' σ' ex rh' rs' => leave_ok (x := .non) rh o ex rh' (by simp [RV])
  | ret y h' =>
    rw [q] at o
    refine fun ρ' F' H' v ex rh' rv => ?_
    cases kp with
    | true => exact leaveK_ok rh o ex rh' rv
    | false => exact leave_ok rh o ex rh' rv
  | brk sl h' => rw [q] at o; exact o.elim
  | cont sl h' => rw [q] at o; exact o.elim
  | exc c ks l sl h' => rw [q] at o; exact fun ρ' F' H' σ' C d ex rh' _ em rx => leaveX_ok rh o ex rh' em rx
  | stuck => rw [q] at o; exact o.elim
/-- the def x of the module keeps its function -/
def Has (P : Program) (w : World) (K : PySem.W.Frag) (mg : Str → Option Value) (base : Heap) (x : Str) (k : Nat) (ps : List Str) (mf : MF) : Prop :=
  ∃ f fd, mg x = some (.ref f) ∧ PySem.W.keepIn K (.ref f) = true ∧ Binds K fd ps [] ∧ FnG P w K mg base k f fd ps (spOf K mg ps.length mf)
def eCall (n : Nat) (mf : MF) (fa : AM) : EM := fun sl h => (fa sl h).bind fun args h1 => if args.length = n then mf args h1 else .stuck
section
variable {X : Cx} {W : WX} {fa : AM} {fe fe2 : EM} {f g : SM} {e e' : Expr} {es : List Expr} {k : Nat} {x : Str} {ps : List Str} {mf : MF} {p pos : Pos}
theorem out_call {σ : L2.St} {H : Hp} {Q : VK} (o : lE X W (eCall ps.length mf fa) σ H Q) : lA X W fa σ H fun vs H1 => spOf X.K X.mg ps.length mf vs H1 Q (WE W σ) := by
  obtain ⟨ρ, F, sl, h, rs, rh, o⟩ := o
  refine ⟨ρ, F, sl, h, rs, rh, Out.bind (R := RVs X.K X.mg) o fun xs h1 ρ1 F1 H1 vs ex rh1 rv o1 => ?_⟩
  split at o1
  · rename_i hl
    exact ⟨ρ1, F1, xs, h1, rv, rh1, hl, o1⟩
  · exact o1.elim
theorem run_g {pins : List (Addr × Obj)} {σ : L2.St} {H : Hp} {s : Shared} {Q : VK} {us : List Value} {vs : List V} {f : Addr} {fd : FuncData} {args : Args} (F : FnG X.prog X.w X.K X.mg X.base k f fd ps (spOf X.K X.mg ps.length mf)) (gd : X.A.guards = some []) (hr : Room k X.A) (tk : Takes X W)
    (hb : BindsTo s fd args (ps.zip us)) (I : L2.Inv X pins σ H s) (r : Vals vs us) (hl : vs.length = ps.length) (h : spOf X.K X.mg ps.length mf vs H Q (WE W σ)) : wpAny (model X.prog X.w) X.A (call (.ref f) args.pos args.kw) (EP X pins σ Q) X.xe s := by
  refine wpAny_call (codeAny_mono (F.run X.A X.stack s H ⟨args.pos, args.kw⟩ us vs Q (WE W σ) gd hr I.env0 hb r hl h) fun r s' hq => ?_)
  cases r with
  | error e => exact passAt tk σ pins H s e s' I hq
  | ok fl =>
    cases fl with
    | ret u => exact I.after hq
    | next => exact False.elim hq
    | brk => exact False.elim hq
    | cont => exact False.elim hq
theorem sp_len {K : PySem.W.Frag} {mg : Str → Option Value} {n : Nat} {vs : List V} {H : Hp} {Q : VK} {E : XK} (h : spOf K mg n mf vs H Q E) : vs.length = n := by
  obtain ⟨_, _, args, _, r, _, hl, _⟩ := h
  rw [← r.length]; exact hl
theorem rCall (G : Has X.prog X.w X.K X.mg X.base x k ps mf) (gd : X.A.guards = some []) (hr : Room k X.A) (tk : Takes X W) (ha : PA X (e :: es) (lA X W fa)) (hg : Gl X x := by rfl) (hdb : (x == ("__debug__" : Str)) = false := by decide)
    (he : starEach (e :: es) X.env = (false, eval e X.env) :: starEach es X.env := by rfl) (hpl : (backTo pos (starEach es X.env)).any (·.1) = false := by rfl) :
    PE X (.Call (.Name x p) (e :: es) [] pos) (lE X W (eCall ps.length mf fa)) := by
  obtain ⟨f, fd, hm, hk, hb, F⟩ := G
  refine ⟨fun pins s σ H Q I o => wpAny_Call_Name_kw (ld_glob I hg hm ?_ hdb)⟩
  refine PySem.W.callWith_K (h₀ := X.base) I.ok.mod.kin hk (thn (ha.run pos pins s σ H _ I (out_call o)) fun us s1 ⟨vs, H1, I1, r, q⟩ => ⟨I1.kIn, ?_⟩) he hpl
  have hl := sp_len q
  have b := hb s1 us I1.kIn (by rw [List.append_nil, ← r.length]; exact hl)
  rw [List.append_nil] at b
  exact run_g (args := ⟨us, []⟩) F gd hr tk b I1 r hl q
theorem rCall0 (G : Has X.prog X.w X.K X.mg X.base x k ps mf) (gd : X.A.guards = some []) (hr : Room k X.A) (tk : Takes X W) (hg : Gl X x := by rfl) (hdb : (x == ("__debug__" : Str)) = false := by decide) : PE X (.Call (.Name x p) [] [] pos) (lE X W (eCall ps.length mf aNil)) := by
  obtain ⟨f, fd, hm, hk, hb, F⟩ := G
  refine ⟨fun pins s σ H Q I h => ?_⟩
  refine wpAny_Call_Name_kw (ld_glob I hg hm ?_ hdb)
  obtain ⟨ρ, F', sl, h, rs, rh, o⟩ := out_call h
  have sp := Out.now (R := RVs X.K X.mg) o rh .nil
  have hl := sp_len sp
  have b := hb s [] I.kIn (by rw [List.append_nil]; exact hl)
  exact PySem.W.callWith_K0 I.kIn hk (run_g (args := ⟨[], []⟩) F gd hr tk b I .nil hl sp)
/-! calls with keywords, with defaults -/
inductive ASrc where
  | p (i : Nat) | k (j : Nat)
def srcG {α : Type} (ss : List ASrc) (xs zs : List α) : List α := ss.filterMap fun s => match s with
  | .p i => xs[i]?
  | .k j => zs[j]?
theorem vals_ix {vs : List V} {us : List Value} (r : Vals vs us) : ∀ i : Nat, (vs[i]? = none ∧ us[i]? = none) ∨ ∃ v u, vs[i]? = some v ∧ us[i]? = some u ∧ RelV v u := by
  induction r with
  | nil => exact fun i => .inl ⟨by simp, by simp⟩
  | cons r1 _ ih =>
    intro i
    cases i with
    | zero => exact .inr ⟨_, _, rfl, rfl, r1⟩
    | succ i => simpa using ih i
theorem srcG_vals {vs zs : List V} {us ws : List Value} (r : Vals vs us) (rz : Vals zs ws) : ∀ ss : List ASrc, Vals (srcG ss vs zs) (srcG ss us ws)
  | [] => .nil
  | .p i :: ss => by
    have ih := srcG_vals r rz ss
    unfold srcG at ih ⊢
    rcases vals_ix r i with ⟨a, b⟩ | ⟨v, u, a, b, c⟩
    · simp only [List.filterMap_cons, a, b]; exact ih
    · simp only [List.filterMap_cons, a, b]; exact .cons c ih
  | .k i :: ss => by
    have ih := srcG_vals r rz ss
    unfold srcG at ih ⊢
    rcases vals_ix rz i with ⟨a, b⟩ | ⟨v, u, a, b, c⟩
    · simp only [List.filterMap_cons, a, b]; exact ih
    · simp only [List.filterMap_cons, a, b]; exact .cons c ih
theorem rvs_ix {K : PySem.W.Frag} {mg : Str → Option Value} {ρ : List Addr} {F : Hp} : ∀ {xs : List AV} {vs : List V}, RVs K mg ρ F xs vs → ∀ i : Nat, (xs[i]? = none ∧ vs[i]? = none) ∨ ∃ x v, xs[i]? = some x ∧ vs[i]? = some v ∧ RV K mg ρ F x v
  | [], vs, r, i => by
    simp only [RVs] at r
    subst r
    exact .inl ⟨by simp, by simp⟩
  | x :: xs, vs, r, i => by
    simp only [RVs] at r
    obtain ⟨v, r', rfl, a, b⟩ := r
    cases i with
    | zero => exact .inr ⟨_, _, rfl, rfl, a⟩
    | succ i => simpa using rvs_ix b i
theorem srcG_rvs {K : PySem.W.Frag} {mg : Str → Option Value} {ρ : List Addr} {F : Hp} {xs ys : List AV} {vs zs : List V} (r : RVs K mg ρ F xs vs) (rz : RVs K mg ρ F ys zs) : ∀ ss : List ASrc, RVs K mg ρ F (srcG ss xs ys) (srcG ss vs zs)
  | [] => by simp [srcG, RVs]
  | .p i :: ss => by
    have ih := srcG_rvs r rz ss
    unfold srcG at ih ⊢
    rcases rvs_ix r i with ⟨a, b⟩ | ⟨v, u, a, b, c⟩
    · simp only [List.filterMap_cons, a, b]; exact ih
    · simp only [List.filterMap_cons, a, b, RVs]; exact ⟨_, _, rfl, c, ih⟩
  | .k i :: ss => by
    have ih := srcG_rvs r rz ss
    unfold srcG at ih ⊢
    rcases rvs_ix rz i with ⟨a, b⟩ | ⟨v, u, a, b, c⟩
    · simp only [List.filterMap_cons, a, b]; exact ih
    · simp only [List.filterMap_cons, a, b, RVs]; exact ⟨_, _, rfl, c, ih⟩
/-- the def x, called with n values and the keywords ks -/
def HasK (P : Program) (w : World) (K : PySem.W.Frag) (mg : Str → Option Value) (base : Heap) (x : Str) (k n : Nat) (ks : List Str) (ss : List ASrc) (ps : List Str) (mf : MF) : Prop :=
  ∃ f fd, mg x = some (.ref f) ∧ PySem.W.keepIn K (.ref f) = true ∧ (∀ (s : Shared) (us ws : List Value), K.In s.heap → us.length = n → ws.length = ks.length → BindsTo s fd ⟨us, ks.zip ws⟩ (ps.zip (srcG ss us ws))) ∧ FnG P w K mg base k f fd ps (spOf K mg ps.length mf)
theorem bindsK {K : PySem.W.Frag} {x qual : Str} {params : Arguments} {body : List Stmt} {scope : Scope} {f : Addr} {fd : FuncData} {ps ks : List Str} {n : Nat} {ss : List ASrc} {kws : List (Str × V)} (F : FunD K x qual params body scope [] kws f fd)
    (h : ∀ (kV doc pm : Value) (an : Option Addr) (cdv ct : Value) (us ws : List Value), us.length = n → ws.length = ks.length → bindArgs (PySem.W.fnOf x qual params body scope .none kV doc pm an cdv ct) ⟨us, ks.zip ws⟩ = pure (ps.zip (srcG ss us ws))) :
    ∀ (s : Shared) (us ws : List Value), K.In s.heap → us.length = n → ws.length = ks.length → BindsTo s fd ⟨us, ks.zip ws⟩ (ps.zip (srcG ss us ws)) := by
  obtain ⟨oc, od, dV, kV, doc, pm, an, cdv, ct, osl, rfl, lk, hcd, hD, hK⟩ := F.ex
  rcases hD with ⟨_, rfl⟩ | ⟨e, _⟩
  · exact fun s us ws _ l1 l2 => .of_eq (h kV doc pm an cdv ct us ws l1 l2)
  · exact absurd rfl e
def lK (X : Cx) (W : WX) (f : AM) : TA := lA X W f
def eCallK (n m pn : Nat) (ss : List ASrc) (mf : MF) (fa fk : AM) : EM := fun sl h => (fa sl h).bind fun xs h1 => (fk sl h1).bind fun zs h2 => if xs.length = n ∧ zs.length = m ∧ (srcG ss xs zs).length = pn then mf (srcG ss xs zs) h2 else .stuck
theorem rCallK {fk : AM} {n : Nat} {ks : List Str} {ss : List ASrc} {kws : List Keyword} (G : HasK X.prog X.w X.K X.mg X.base x k n ks ss ps mf) (gd : X.A.guards = some []) (hr : Room k X.A) (tk : Takes X W) (ha : PA X (e :: es) (lA X W fa)) (hkw : PK X kws (lA X W fk))
    (hall : (backToKw pos (keywordEach kws X.env)).all (·.1.isSome) = true := by rfl) (hks : (backToKw pos (keywordEach kws X.env)).filterMap (·.1) = ks := by rfl) (hg : Gl X x := by rfl) (hdb : (x == ("__debug__" : Str)) = false := by decide)
    (he : starEach (e :: es) X.env = (false, eval e X.env) :: starEach es X.env := by rfl) (hpl : ((backTo pos (starEach (e :: es) X.env)).any (·.1) || (backToKw pos (keywordEach kws X.env)).any (·.1.isNone)) = false := by rfl) :
    PE X (.Call (.Name x p) (e :: es) kws pos) (lE X W (eCallK n ks.length ps.length ss mf fa fk)) := by
  obtain ⟨f, fd, hm, hk, hb, F⟩ := G
  refine ⟨fun pins s σ H Q I o => wpAny_Call_Name_kw (ld_glob I hg hm ?_ hdb)⟩
  obtain ⟨ρ, F0, sl, h, rs, rh, o⟩ := o
  refine PySem.W.callWith_KW (h₀ := X.base) I.ok.mod.kin hk hall (thn (ha.run pos pins s σ H (fun vs H1 => lA X W fk σ H1 fun zs H2 => ∃ ρ2 F2 xs ys h2, RVs X.K X.mg ρ2 F2 xs vs ∧ RVs X.K X.mg ρ2 F2 ys zs ∧ RH X.K X.mg ρ2 F2 h2 H2 ∧ Out X.K X.mg (RV X.K X.mg) ρ2 F2 H2 (if xs.length = n ∧ ys.length = ks.length ∧ (srcG ss xs ys).length = ps.length then mf (srcG ss xs ys) h2 else .stuck) Q (WE W σ)) I
    ⟨ρ, F0, sl, h, rs, rh, Out.bind (R := RVs X.K X.mg) o fun xs h1 ρ1 F1 H1 vs ex rh1 rv o1 => ⟨ρ1, F1, sl, h1, rs.ext ex, rh1, Out.bind (R := RVs X.K X.mg) o1 fun ys h2 ρ2 F2 H2 zs ex2 rh2 rz o2 => ⟨ρ2, F2, xs, ys, h2, rv.ext ex2, rz, rh2, o2⟩⟩⟩) fun us s1 ⟨vs, H1, I1, r, q⟩ => ?_) hpl he
  refine thn (hkw.run pos pins s1 σ H1 _ I1 q) fun ws s2 ⟨zs, H2, I2, rz, ρ2, F2, xs, ys, h2, q1, q2, rh2, o2⟩ => ⟨I2.kIn, ?_⟩
  rw [hks]
  split at o2
  case isFalse => exact o2.elim
  rename_i hc
  have l1 : us.length = n := by rw [← r.length, ← q1.length]; exact hc.1
  have l2 : ws.length = ks.length := by rw [← rz.length, ← q2.length]; exact hc.2.1
  have rr := srcG_rvs q1 q2 ss
  exact run_g (args := ⟨us, ks.zip ws⟩) F gd hr tk (hb s2 us ws I2.kIn l1 l2) I2 (srcG_vals r rz ss) (by rw [← rr.length]; exact hc.2.2) ⟨ρ2, F2, _, h2, rr, rh2, hc.2.2, o2⟩
theorem pk_imp {kws : List Keyword} {t t' : TA} (h : PK X kws t) (i : ∀ σ H Q, t' σ H Q → t σ H Q) : PK X kws t' := ⟨fun pos pins s σ H Q I q => h.run pos pins s σ H Q I (i σ H Q q)⟩
theorem rkNil : PK X [] (lA X W aNil) := pk_imp pk_nil fun σ H Q ⟨ρ, F, sl, h, rs, rh, o⟩ => Out.now (R := RVs X.K X.mg) o rh .nil
theorem rkCons {kws : List Keyword} {nm : Option Str} {kpos : Pos} (ha : PE X e (lE X W fe)) (hr : PK X kws (lA X W fa)) : PK X (⟨nm, e, kpos⟩ :: kws) (lA X W (aCons fe fa)) := by
  refine pk_imp (pk_cons ha hr) fun σ H Q ⟨ρ, F, sl, h, rs, rh, o⟩ => ?_
  refine ⟨ρ, F, sl, h, rs, rh, Out.bind (R := RV X.K X.mg) o fun x h1 ρ1 F1 H1 v e1 rh1 rv1 o1 => ?_⟩
  refine ⟨ρ1, F1, sl, h1, rs.ext e1, rh1, Out.bind (R := RVs X.K X.mg) o1 fun xs h2 ρ2 F2 H2 vs e2 rh2 rv2 o2 => ?_⟩
  exact Out.now (R := RVs X.K X.mg) o2 rh2 (.cons (rv1.ext e2) rv2)

/-! ### while -/
section
open Classical
/-- n turns at most; none: not through -/
def whileN (t : TM) (b : SM) : Nat → SL → AH → Option SRes
  | 0, _, _ => none
  | n + 1, sl, h => match t sl h with
    | .ok true h1 => match b sl h1 with
      | .next sl' h' => whileN t b n sl' h'
      | .cont sl' h' => whileN t b n sl' h'
      | .brk sl' h' => some (.next sl' h')
      | r => some r
    | .ok false h1 => some (.next sl h1)
    | .exc c ks l h1 => some (.exc c ks l sl h1)
    | .stuck => some .stuck
noncomputable def sWhile (t : TM) (b : SM) : SM := fun sl h => if q : ∃ r, ∃ n, whileN t b n sl h = some r then q.choose else .stuck
theorem whileN_mono {t : TM} {b : SM} : ∀ (n : Nat) {sl : SL} {h : AH} {r : SRes}, whileN t b n sl h = some r → whileN t b (n + 1) sl h = some r
  | 0, sl, h, r, e => by simp [whileN] at e
  | n + 1, sl, h, r, e => by
    rw [whileN] at e ⊢
    cases q : t sl h with
    | ok c h1 =>
      rw [q] at e
      cases c with
      | true =>
        cases q2 : b sl h1 with
        | next sl' h' => simp only [q2] at e ⊢; exact whileN_mono n e
        | cont sl' h' => simp only [q2] at e ⊢; exact whileN_mono n e
        | brk sl' h' => simp only [q2] at e ⊢; exact e
        | ret _ _ => simp only [q2] at e ⊢; exact e
        | exc _ _ _ _ _ => simp only [q2] at e ⊢; exact e
        | stuck => simp only [q2] at e ⊢; exact e
      | false => exact e
    | exc _ _ _ _ => rw [q] at e; exact e
    | stuck => rw [q] at e; exact e
theorem whileN_le {t : TM} {b : SM} {n m : Nat} (hnm : n ≤ m) {sl : SL} {h : AH} {r : SRes} (e : whileN t b n sl h = some r) : whileN t b m sl h = some r := by
  induction hnm with
  | refl => exact e
  | step _ ih => exact whileN_mono _ ih
theorem whileN_det {t : TM} {b : SM} {n m : Nat} {sl : SL} {h : AH} {r r' : SRes} (e : whileN t b n sl h = some r) (e' : whileN t b m sl h = some r') : r = r' := by
  have h1 := whileN_le (Nat.le_max_left n m) e
  have h2 := whileN_le (Nat.le_max_right n m) e'
  rw [h1] at h2
  exact Option.some.inj h2
theorem sWhile_of {t : TM} {b : SM} {n : Nat} {sl : SL} {h : AH} {r : SRes} (e : whileN t b n sl h = some r) : sWhile t b sl h = r := by
  unfold sWhile
  have q : ∃ r, ∃ n, whileN t b n sl h = some r := ⟨r, n, e⟩
  rw [dif_pos q]
  obtain ⟨m, hm⟩ := q.choose_spec
  exact whileN_det hm e
/-- one turn -/
theorem sWhile_eq {t : TM} {b : SM} {sl : SL} {h : AH} : sWhile t b sl h = (t sl h).toS sl fun c h1 => if c then (match b sl h1 with
    | .next sl' h' => sWhile t b sl' h'
    | .cont sl' h' => sWhile t b sl' h'
    | .brk sl' h' => .next sl' h'
    | r => r) else .next sl h1 := by
  have go : ∀ r, (∃ n, whileN t b (n + 1) sl h = some r) → sWhile t b sl h = r := fun r ⟨n, e⟩ => sWhile_of e
  cases q : t sl h with
  | ok c h1 =>
    cases c with
    | false => exact go _ ⟨0, by simp [whileN, q, Res.toS]⟩
    | true =>
      have step : ∀ sl' h', (∀ n, whileN t b (n + 1) sl h = whileN t b n sl' h') → sWhile t b sl h = sWhile t b sl' h' := fun sl' h' hn => by
        by_cases z : ∃ r, ∃ n, whileN t b n sl' h' = some r
        · obtain ⟨r, n, e⟩ := z
          rw [sWhile_of e]
          exact go r ⟨n, by rw [hn]; exact e⟩
        · have z' : ¬ ∃ r, ∃ n, whileN t b n sl h = some r := fun ⟨r, n, e⟩ => z ⟨r, n, by rw [← hn]; exact whileN_mono n e⟩
          unfold sWhile
          rw [dif_neg z, dif_neg z']
      show _ = (match b sl h1 with
        | .next sl' h' => sWhile t b sl' h'
        | .cont sl' h' => sWhile t b sl' h'
        | .brk sl' h' => .next sl' h'
        | r => r)
      cases q2 : b sl h1 with
      | next sl' h' => exact step sl' h' fun n => by simp [whileN, q, q2]
      | cont sl' h' => exact step sl' h' fun n => by simp [whileN, q, q2]
      | brk sl' h' => exact go _ ⟨0, by simp [whileN, q, q2]⟩
      | ret _ _ => exact go _ ⟨0, by simp [whileN, q, q2]⟩
      | exc _ _ _ _ _ => exact go _ ⟨0, by simp [whileN, q, q2]⟩
      | stuck => exact go _ ⟨0, by simp [whileN, q, q2]⟩
  | exc c ks l h1 => exact go _ ⟨0, by simp [whileN, q, Res.toS]⟩
  | stuck => exact go _ ⟨0, by simp [whileN, q, Res.toS]⟩
theorem sWhile_some {t : TM} {b : SM} {sl : SL} {h : AH} (hn : sWhile t b sl h ≠ .stuck) : ∃ n, whileN t b n sl h = some (sWhile t b sl h) := by
  unfold sWhile at hn ⊢
  split
  · rename_i q
    exact q.choose_spec
  · rename_i q
    rw [dif_neg q] at hn
    exact absurd rfl hn
end
variable {ft : TM}
theorem rsWhile {c : Expr} {body : List Stmt} (hp : PassesOwn (model X.prog X.w) X.A X.env X.xe) (hc : PT X c (lT X W ft)) (hb : PSs X body (lS X W f)) : PS X (.While c body [] pos) (lS X W (sWhile ft f)) := by
  refine ps_imp (ps_while hp hc hb) fun D σ H ⟨ρ, F, sl, h, rs, rh, o⟩ => ?_
  have hns : sWhile ft f sl h ≠ .stuck := fun z => by rw [z] at o; exact o
  obtain ⟨n, hn⟩ := sWhile_some hns
  refine ⟨fun m σ' H' => ∃ ρ' F' sl' h' r, Ext ρ F H ρ' F' H' ∧ RSl X.K X.mg ρ' F' sl' σ' ∧ RH X.K X.mg ρ' F' h' H' ∧ whileN ft f m sl' h' = some r ∧ OutS X.K X.mg ρ' F' H' r D W, ⟨n, ρ, F, sl, h, _, Ext.refl _ _ _, rs, rh, hn, o⟩, ?_⟩
  rintro m σ1 H1 ⟨ρ1, F1, sl1, h1, r, ex, rs1, rh1, hw, o1⟩
  refine ⟨ρ1, F1, sl1, h1, rs1, rh1, ?_⟩
  cases m with
  | zero => simp [whileN] at hw
  | succ m =>
    rw [whileN] at hw
    cases q : ft sl1 h1 with
    | stuck => rw [q] at hw; cases hw; exact o1.elim
    | exc c ks l h2 => rw [q] at hw; cases hw; exact fun ρ' F' H' C d e' rh' em rx => o1 ρ' F' H' σ1 C d e' rh' (rs1.ext e') em rx
    | ok b h2 =>
      rw [q] at hw
      intro ρ2 F2 H2 v e2 rh2 rv
      cases rv
      cases b with
      | false => cases hw; exact iteF (o1 ρ2 F2 H2 σ1 e2 rh2 (rs1.ext e2))
      | true =>
        refine iteT ⟨fun σ' H' => ∃ ρ' F' sl' h', Ext ρ F H ρ' F' H' ∧ RSl X.K X.mg ρ' F' sl' σ' ∧ RH X.K X.mg ρ' F' h' H' ∧ whileN ft f m sl' h' = some r ∧ OutS X.K X.mg ρ' F' H' r D W,
          fun σ' H' ⟨ρ', F', sl', h', a1, a2, a3, a4, a5⟩ => ⟨m, Nat.lt_succ_self m, ρ', F', sl', h', r, a1, a2, a3, a4, a5⟩, ρ2, F2, sl1, h2, rs1.ext e2, rh2, ?_⟩
        have oo := OutS.ext o1 e2
        cases q2 : f sl1 h2 with
        | next sl' h' => simp only [q2] at hw; exact fun ρ3 F3 H3 σ3 e3 rh3 rs3 => ⟨ρ3, F3, sl', h', ex.trans (e2.trans e3), rs3, rh3, hw, oo.ext e3⟩
        | cont sl' h' => simp only [q2] at hw; exact fun ρ3 F3 H3 σ3 e3 rh3 rs3 => ⟨ρ3, F3, sl', h', ex.trans (e2.trans e3), rs3, rh3, hw, oo.ext e3⟩
        | brk sl' h' => simp only [q2] at hw; cases hw; exact oo
        | ret y h' => simp only [q2] at hw; cases hw; exact oo
        | exc c ks l sl' h' => simp only [q2] at hw; cases hw; exact oo
        | stuck => simp only [q2] at hw; cases hw; exact oo.elim
end
end AVL

namespace AVL
open PySem PySem.Spec L2
/-! ### calls of built-ins, by values -/
def CallOk (X : Cx) (f : Value) (m : List AV → AH → Res AV) : Prop :=
  CallR X f fun vs H Q => ∃ ρ F xs h, RVs X.K X.mg ρ F xs vs ∧ RH X.K X.mg ρ F h H ∧ Out X.K X.mg (RV X.K X.mg) ρ F H (m xs h) Q fun _ _ _ => False
def eBlt (m : List AV → AH → Res AV) (fa : AM) : EM := fun sl h => (fa sl h).bind fun xs h1 => m xs h1
def CalmA (m : List AV → AH → Res AV) : Prop := ∀ xs h, (m xs h).calm
section
variable {X : Cx} {W : WX} {fa : AM} {fe fi : EM} {e a b : Expr} {es : List Expr} {x : Str} {p pos : Pos} {m : List AV → AH → Res AV}
theorem CallOk.of {f : Value} {r : List V → Hp → VK → Prop} (ho : CallR X f r)
    (h : ∀ ρ F xs h vs H Q, RVs X.K X.mg ρ F xs vs → RH X.K X.mg ρ F h H → Out X.K X.mg (RV X.K X.mg) ρ F H (m xs h) Q (fun _ _ _ => False) → r vs H Q) : CallOk X f m :=
  fun pins s σ H vs us Q I r1 ⟨ρ, F, xs, hh, a, c, d⟩ => ho pins s σ H vs us Q I r1 (h ρ F xs hh vs H Q a c d)
theorem blt_in {σ : L2.St} {H : Hp} {Q : VK} (c : CalmA m) (o : lE X W (eBlt m fa) σ H Q) :
    lA X W fa σ H fun vs H1 => ∃ ρ F xs h, RVs X.K X.mg ρ F xs vs ∧ RH X.K X.mg ρ F h H1 ∧ Out X.K X.mg (RV X.K X.mg) ρ F H1 (m xs h) Q fun _ _ _ => False := by
  obtain ⟨ρ, F, sl, h, rs, rh, o⟩ := o
  refine ⟨ρ, F, sl, h, rs, rh, Out.bind (R := RVs X.K X.mg) o fun xs h1 ρ1 F1 H1 vs ex rh1 rv o1 => ?_⟩
  exact ⟨ρ1, F1, xs, h1, rv, rh1, Out.calm o1 (c xs h1)⟩
theorem rBlt {id : String} (ho : CallOk X (.builtin id) m) (c : CalmA m) (hm : X.mg x = none) (hv : bootBuiltins x = some (.builtin id)) (ha : PA X (e :: es) (lA X W fa)) (hg : Gl X x := by rfl) (hn : x ≠ "__name__" := by decide) (hdb : (x == ("__debug__" : Str)) = false := by decide)
    (he : starEach (e :: es) X.env = (false, eval e X.env) :: starEach es X.env := by rfl) (hpl : (backTo pos (starEach es X.env)).any (·.1) = false := by rfl) :
    PE X (.Call (.Name x p) (e :: es) [] pos) (lE X W (eBlt m fa)) := pe_imp (pe_callB ho hg hm hv ha hn hdb he hpl) fun σ H Q o => blt_in c o
theorem rBltTy {T : String} (ho : CallOk X (.type T) m) (c : CalmA m) (hm : X.mg x = none) (hv : bootBuiltins x = some (.type T)) (ha : PA X (e :: es) (lA X W fa)) (hg : Gl X x := by rfl) (hn : x ≠ "__name__" := by decide) (hdb : (x == ("__debug__" : Str)) = false := by decide)
    (he : starEach (e :: es) X.env = (false, eval e X.env) :: starEach es X.env := by rfl) (hpl : (backTo pos (starEach es X.env)).any (·.1) = false := by rfl) :
    PE X (.Call (.Name x p) (e :: es) [] pos) (lE X W (eBlt m fa)) := pe_imp (pe_callTy ho hg hm hv ha hn hdb he hpl) fun σ H Q o => blt_in c o
/-- a module's name that stands for a built-in function (from math import gcd) -/
theorem rBltFun {id : String} (ho : CallOk X (.builtin id) m) (c : CalmA m) (hm : X.mg x = some (.builtin id)) (ha : PA X (e :: es) (lA X W fa)) (hg : Gl X x := by rfl) (hdb : (x == ("__debug__" : Str)) = false := by decide)
    (he : starEach (e :: es) X.env = (false, eval e X.env) :: starEach es X.env := by rfl) (hpl : (backTo pos (starEach es X.env)).any (·.1) = false := by rfl) :
    PE X (.Call (.Name x p) (e :: es) [] pos) (lE X W (eBlt m fa)) := pe_imp (pe_callBfun ho hg hm ha hdb he hpl) fun σ H Q o => blt_in c o
theorem RVs.one {K : PySem.W.Frag} {mg : Str → Option Value} {ρ : List Addr} {F : Hp} {x : AV} {vs : List V} (r : RVs K mg ρ F [x] vs) : ∃ v, vs = [v] ∧ RV K mg ρ F x v := by
  simp only [RVs] at r
  obtain ⟨v, r, e, a, e2⟩ := r
  subst e2; exact ⟨v, e, a⟩
theorem RVs.two {K : PySem.W.Frag} {mg : Str → Option Value} {ρ : List Addr} {F : Hp} {x y : AV} {vs : List V} (r : RVs K mg ρ F [x, y] vs) : ∃ v w, vs = [v, w] ∧ RV K mg ρ F x v ∧ RV K mg ρ F y w := by
  simp only [RVs] at r
  obtain ⟨v, r, e, a, w, r2, e3, b, e2⟩ := r
  subst e2; subst e3; exact ⟨v, w, e, a, b⟩
/-! len -/
def lenA (h : AH) (x : AV) : Option Nat := match x with
  | .str z => if z.length ≤ sizeLine then some z.length else none
  | .dct ks _ => some ks.length
  | .ref n => match h[n]? with
    | some (.lst l) => some l.length
    | some (.dct ks _) => some ks.length
    | _ => none
  | x => (items h x).map List.length
def mLen : List AV → AH → Res AV
  | [x], h => match lenA h x with
    | some n => .ok (.int n) h
    | none => .stuck
  | _, _ => .stuck
theorem mLen_calm : CalmA mLen := fun xs h => by
  unfold mLen
  split
  · split <;> trivial
  · trivial
theorem dct_len {K : PySem.W.Frag} {mg : Str → Option Value} {ρ : List Addr} {F : Hp} {ks : List Key} {kvs : List (Key × V)} (e : kvs.map (·.1) = ks) : kvs.length = ks.length := by rw [← e]; simp
theorem mLen_ok : CallOk X (.builtin "len") mLen := by
  intro pins s σ H vs us Q I r1 ⟨ρ, F, xs, h, rv, rh, o⟩
  unfold mLen at o
  split at o
  · rename_i _ _ x
    obtain ⟨v, rfl, r⟩ := rv.one
    split at o
    · rename_i n e
      have fin : Q (.int n) H := o.now rh (by simp [RV])
      have seq : ∀ {l : List AV}, items h x = some l → n = l.length → wpAny (model X.prog X.w) X.A (call (.builtin "len") us) (EP X pins σ Q) X.xe s := fun {l} hl hn => by
        rcases items_cases hl with z | z
        · obtain ⟨a, ws, rfl, q, rr⟩ := items_T rh r z
          exact call_len_seq pins s σ H _ us Q I r1 ⟨a, ws, rfl, .inr q, by rw [← rr.length, ← hn]; exact fin⟩
        · obtain ⟨a, ws, rfl, q, rr⟩ := items_L rh r z
          exact call_len_seq pins s σ H _ us Q I r1 ⟨a, ws, rfl, .inl q, by rw [← rr.length, ← hn]; exact fin⟩
      have dict : ∀ {a : Addr} {kvs : List (Key × V)}, v = .ref a → H a = some (.dK kvs) → n = kvs.length → wpAny (model X.prog X.w) X.A (call (.builtin "len") us) (EP X pins σ Q) X.xe s := fun {a kvs} ea hd hn => by
        subst ea
        exact call_lenD pins s σ H _ us Q I r1 ⟨a, kvs, rfl, hd, by rw [← hn]; exact fin⟩
      unfold lenA at e
      split at e
      · rename_i z
        split at e
        · rename_i hz
          cases e
          exact call_len pins s σ H _ us Q I r1 ⟨v, z.length, rfl, by rw [r.str]; exact ⟨hz, rfl⟩, fin⟩
        · cases e
      · rename_i ks l
        cases e
        simp only [RV] at r
        obtain ⟨a, kvs, rfl, ef, ek, _⟩ := r
        exact dict rfl (rh.sub _ _ ef) (by rw [← ek]; simp)
      · rename_i k
        split at e
        · rename_i l q
          cases e
          exact seq (l := l) (by simp [items, itemsL, itemsM, q]) rfl
        · rename_i ks l q
          cases e
          simp only [RV] at r
          obtain ⟨a, rfl, ea⟩ := r
          obtain ⟨u, e1, kvs, rfl, ek, _⟩ := rh.cell k _ q a ea
          exact dict rfl e1 (by rw [← ek]; simp)
        · cases e
      · simp only [Option.map_eq_some_iff] at e
        obtain ⟨l, hl, e⟩ := e
        exact seq hl e.symm
    · exact o.elim
  · exact o.elim
/-! abs, int, bool, gcd -/
def mAbs : List AV → AH → Res AV
  | [.int i], h => .ok (.int (if i < 0 then -i else i)) h
  | _, _ => .stuck
theorem mAbs_calm : CalmA mAbs := fun xs h => by unfold mAbs; split <;> trivial
theorem mAbs_ok : CallOk X (.builtin "abs") mAbs := .of call_abs fun ρ F xs h vs H Q rv rh o => by
  unfold mAbs at o
  split at o
  · obtain ⟨v, rfl, r⟩ := rv.one
    exact ⟨_, by rw [r.int], o.now rh (by simp [RV])⟩
  · exact o.elim
def mInt : List AV → AH → Res AV
  | [.int i], h => .ok (.int i) h
  | [.bl k], h => .ok (.int (if k then 1 else 0)) h
  | _, _ => .stuck
theorem mInt_calm : CalmA mInt := fun xs h => by unfold mInt; split <;> trivial
theorem mInt_ok : CallOk X (.type "int") mInt := .of call_int1 fun ρ F xs h vs H Q rv rh o => by
  unfold mInt at o
  split at o
  · obtain ⟨v, rfl, r⟩ := rv.one
    exact .inl ⟨_, by rw [r.int], o.now rh (by simp [RV])⟩
  · obtain ⟨v, rfl, r⟩ := rv.one
    exact .inr ⟨_, by rw [r.bl], o.now rh (by simp [RV])⟩
  · exact o.elim
def mGcd : List AV → AH → Res AV
  | [.int i, .int j], h => .ok (.int ((Nat.gcd i.natAbs j.natAbs : Nat) : Int)) h
  | _, _ => .stuck
theorem mGcd_calm : CalmA mGcd := fun xs h => by unfold mGcd; split <;> trivial
theorem mGcd_ok : CallOk X (.builtin "math.gcd") mGcd := .of cr_gcd fun ρ F xs h vs H Q rv rh o => by
  unfold mGcd at o
  split at o
  · obtain ⟨v, w, rfl, r, r2⟩ := rv.two
    exact ⟨_, _, by rw [r.int, r2.int], o.now rh (by simp [RV])⟩
  · exact o.elim
/-! list(xs), tuple(xs) -/
def mList (nm : Bool) : List AV → AH → Res AV
  | [x], h => match items h x with
    | some l => mkL nm l h
    | none => .stuck
  | _, _ => .stuck
theorem mList_calm {nm} : CalmA (mList nm) := fun xs h => by
  unfold mList
  split
  · split
    · exact mkL_calm
    · trivial
  · trivial
theorem mList_ok {nm} : CallOk X (.type "list") (mList nm) := .of call_list_of fun ρ F xs h vs H Q rv rh o => by
  unfold mList at o
  split at o
  · obtain ⟨v, rfl, r⟩ := rv.one
    split at o
    · rename_i l hl
      rcases items_cases hl with z | z
      · obtain ⟨a, ws, rfl, q, rr⟩ := items_T rh r z
        exact ⟨a, ws, rfl, .inr q, fun p hp => out_mkL rh rr o hp⟩
      · obtain ⟨a, ws, rfl, q, rr⟩ := items_L rh r z
        exact ⟨a, ws, rfl, .inl q, fun p hp => out_mkL rh rr o hp⟩
    · exact o.elim
  · exact o.elim
def mTuple : List AV → AH → Res AV
  | [x], h => match items h x with
    | some l => .ok (.tup l) h
    | none => .stuck
  | _, _ => .stuck
theorem mTuple_calm : CalmA mTuple := fun xs h => by
  unfold mTuple
  split
  · split <;> trivial
  · trivial
theorem mTuple_ok : CallOk X (.type "tuple") mTuple := .of call_tuple_of fun ρ F xs h vs H Q rv rh o => by
  unfold mTuple at o
  split at o
  · rename_i _ _ x
    obtain ⟨v, rfl, r⟩ := rv.one
    split at o
    · rename_i l hl
      rcases items_cases hl with z | z
      · cases x with
        | tup l' =>
          simp only [itemsT, Option.some.injEq] at z
          subst z
          have r' := r
          simp only [RV] at r
          obtain ⟨a, ws, rfl, q, rr⟩ := r
          exact ⟨a, ws, rfl, .inr ⟨SqT.mono rh.sub q, o.now rh r'⟩⟩
        | _ => simp [itemsT] at z
      · obtain ⟨a, ws, rfl, q, rr⟩ := items_L rh r z
        exact ⟨a, ws, rfl, .inl ⟨q, fun p hp => out_tup rh rr o hp⟩⟩
    · exact o.elim
  · exact o.elim
/-! all, any of a list of truths -/
def bools : List AV → Option (List Bool)
  | [] => some []
  | .bl b :: xs => (bools xs).map (b :: ·)
  | _ => none
theorem RVs.bools {K : PySem.W.Frag} {mg : Str → Option Value} {ρ : List Addr} {F : Hp} : ∀ {l : List AV} {vs : List V} {bs : List Bool}, RVs K mg ρ F l vs → AVL.bools l = some bs → vs = bs.map V.bl
  | [], vs, bs, r, e => by
    simp only [AVL.bools, Option.some.injEq] at e
    subst e
    simpa [RVs] using r
  | x :: xs, vs, bs, r, e => by
    cases x with
    | bl b =>
      simp only [AVL.bools, Option.map_eq_some_iff] at e
      obtain ⟨bs', e, rfl⟩ := e
      simp only [RVs] at r
      obtain ⟨v, r, rfl, a, t⟩ := r
      rw [t.bools e, a.bl]; rfl
    | _ => simp [AVL.bools] at e
def mAllAny (f : List Bool → Bool) : List AV → AH → Res AV
  | [x], h => match itemsL h x with
    | some l => match bools l with
      | some bs => .ok (.bl (f bs)) h
      | none => .stuck
    | none => .stuck
  | _, _ => .stuck
def mAll := mAllAny fun bs => bs.all id
def mAny := mAllAny fun bs => bs.any id
theorem mAllAny_calm {f} : CalmA (mAllAny f) := fun xs h => by
  unfold mAllAny
  split
  · split
    · split <;> trivial
    · trivial
  · trivial
theorem mAllAny_in {f : List Bool → Bool} {ρ F xs h vs H Q} (rv : RVs X.K X.mg ρ F xs vs) (rh : RH X.K X.mg ρ F h H) (o : Out X.K X.mg (RV X.K X.mg) ρ F H (mAllAny f xs h) Q fun _ _ _ => False) :
    ∃ (a : Addr) (bs : List Bool), vs = [V.ref a] ∧ SqL X.K H a (bs.map V.bl) ∧ Q (.bl (f bs)) H := by
  unfold mAllAny at o
  split at o
  · obtain ⟨v, rfl, r⟩ := rv.one
    split at o
    · rename_i l hl
      split at o
      · rename_i bs hb
        obtain ⟨a, ws, rfl, q, rr⟩ := items_L rh r hl
        exact ⟨a, bs, rfl, by rw [← rr.bools hb]; exact q, o.now rh (by simp [RV])⟩
      · exact o.elim
    · exact o.elim
  · exact o.elim
theorem mAll_ok (hc : X.calm = true) : CallOk X (.builtin "all") mAll := .of (cr_all hc) fun ρ F xs h vs H Q rv rh o => mAllAny_in rv rh o
theorem mAny_ok (hc : X.calm = true) : CallOk X (.builtin "any") mAny := .of (cr_any hc) fun ρ F xs h vs H Q rv rh o => mAllAny_in rv rh o
/-! isinstance -/
inductive Tag where
  | ty (n : String) | own (c : Str) | exn (c : Str)
  deriving DecidableEq
/-- a value's type -/
def tagOf (h : AH) : AV → Option Tag
  | .non => some (.ty "NoneType")
  | .bl _ => some (.ty "bool")
  | .int _ => some (.ty "int")
  | .str _ => some (.ty "str")
  | .tup _ => some (.ty "tuple")
  | .lst _ => some (.ty "list")
  | .dct _ _ => some (.ty "dict")
  | .obj c _ _ => some (.own c)
  | .exc c _ _ => some (.exn c)
  | .ref n => match h[n]? with
    | some (.lst _) => some (.ty "list")
    | some (.dct _ _) => some (.ty "dict")
    | some (.ins c _ _) => some (.own c)
    | _ => none
  | _ => none
def clsTag : AV → Option Tag
  | .ty n => some (.ty n)
  | .cls c => some (.own c)
  | _ => none
def TagV (mg : Str → Option Value) : Tag → Value → Prop
  | .ty n, v => v = .type n
  | .own c, v => ∃ C, v = .ref C ∧ mg c = some (.ref C)
  | .exn c, v => ∃ C, v = .ref C ∧ mg c = some (.ref C)
abbrev IsaF := Tag → Tag → Option Bool
def isaAny (isa : IsaF) (t : Tag) : List Tag → Option Bool
  | [] => some false
  | c :: r => match isa t c with
    | some true => some true
    | some false => isaAny isa t r
    | none => none
def clsTags (x : AV) : Option (List Tag) := match x with
  | .tup (c :: l) => (c :: l).mapM clsTag
  | x => (clsTag x).map fun t => [t]
def mIsi (isa : IsaF) : List AV → AH → Res AV
  | [x, c], h => match tagOf h x, clsTags c with
    | some t, some cs => match isaAny isa t cs with
      | some b => .ok (.bl b) h
      | none => .stuck
    | _, _ => .stuck
  | _, _ => .stuck
theorem mIsi_calm {isa} : CalmA (mIsi isa) := fun xs h => by
  unfold mIsi
  split
  · split
    · split <;> trivial
    · trivial
  · trivial
/-- an instance of an own class, an own exception, may be asked -/
structure OwnIs (K : PySem.W.Frag) (C : Addr) : Prop where
  kit : ∀ (X : Cx) (pins : List (Addr × Obj)) (σ : L2.St) (H : Hp) (s : Shared) (a dx : Addr) (fs : List (Str × V)), X.K = K → L2.Inv X pins σ H s → H a = some (.ins C dx fs) → ∃ P : Heap → Prop, PySem.W.KitX K (.ref a) (.ref C) P ∧ P s.heap
structure ExcIs (K : PySem.W.Frag) (C : Addr) : Prop where
  kit : ∀ (a d : Addr) (h : Heap) (oe : Obj) (vs : Array Value) (mA : Str → Option Value), h.get? a = some oe → oe.cls = .ref C → oe.dict = some d → oe.data = .fields vs → h.Ns1 d mA → ∃ P : Heap → Prop, PySem.W.KitX K (.ref a) (.ref C) P ∧ P h
structure IsaOk (K : PySem.W.Frag) (mg : Str → Option Value) (isa : IsaF) : Prop where
  ok : ∀ t u b, isa t u = some b → ∀ tv uv, TagV mg t tv → TagV mg u uv → PySem.W.kitOne K tv uv = some b
  obj : ∀ c u b, isa (.own c) u = some b → ∀ C, mg c = some (.ref C) → OwnIs K C
  exn : ∀ c u b, isa (.exn c) u = some b → ∀ C, mg c = some (.ref C) → ExcIs K C
end
end AVL

namespace AVL
open PySem PySem.Spec L2
section
variable {X : Cx} {W : WX}
/-! ### isinstance -/
theorem tag_kit {pins : List (Addr × Obj)} {σ : L2.St} {H : Hp} {s : Shared} {ρ : List Addr} {F : Hp} {h : AH} {x : AV} {v : V} {u : Value} {t : Tag} {isa : IsaF} (I : L2.Inv X pins σ H s) (rh : RH X.K X.mg ρ F h H) (rv : RV X.K X.mg ρ F x v) (ru : RelV v u) (e : tagOf h x = some t)
    (ok : IsaOk X.K X.mg isa) (hc : ∀ n, t = .own n ∨ t = .exn n → ∃ c b, isa t c = some b) : ∃ tv, TagV X.mg t tv ∧ ∃ P : Heap → Prop, PySem.W.KitX X.K u tv P ∧ P s.heap ∧ u ≠ .builtin "__main__.__loader__#opaque" := by
  have lst : ∀ {a : Addr} {vs : List V}, v = .ref a → H a = some (.lst vs) → ∃ P : Heap → Prop, PySem.W.KitX X.K u (.type "list") P ∧ P s.heap ∧ u ≠ .builtin "__main__.__loader__#opaque" := fun ev eh => by
    subst ev; exact kit_of I ru (.base (.lst eh))
  have dct : ∀ {a : Addr} {vs : List (Key × V)}, v = .ref a → H a = some (.dK vs) → ∃ P : Heap → Prop, PySem.W.KitX X.K u (.type "dict") P ∧ P s.heap ∧ u ≠ .builtin "__main__.__loader__#opaque" := fun ev eh => by
    subst ev; exact kit_of I ru (.base (.dK eh))
  have ins : ∀ {n : Str} {a C dx : Addr} {fs : List (Str × V)}, t = .own n → X.mg n = some (.ref C) → v = .ref a → H a = some (.ins C dx fs) → ∃ tv, TagV X.mg t tv ∧ ∃ P : Heap → Prop, PySem.W.KitX X.K u tv P ∧ P s.heap ∧ u ≠ .builtin "__main__.__loader__#opaque" := fun et em ev eh => by
    subst ev; subst et
    obtain ⟨c, b, ei⟩ := hc _ (.inl rfl)
    obtain ⟨P, kx, p⟩ := (ok.obj _ _ _ ei _ em).kit X pins σ H s _ _ _ rfl I eh
    cases ru
    exact ⟨_, ⟨_, rfl, em⟩, P, kx, p, fun z => by cases z⟩
  cases x with
  | non => cases e; rw [rv.non] at ru; exact ⟨_, rfl, kit_of I ru (.base .non)⟩
  | bl i => cases e; rw [rv.bl] at ru; exact ⟨_, rfl, kit_of I ru (.base (.bl _))⟩
  | int i => cases e; rw [rv.int] at ru; exact ⟨_, rfl, kit_of I ru (.base (.int _))⟩
  | str i => cases e; rw [rv.str] at ru; exact ⟨_, rfl, kit_of I ru (.base (.str _))⟩
  | tup l =>
    cases e
    simp only [RV] at rv
    obtain ⟨a, vs, rfl, q, _⟩ := rv
    rcases SqT.mono rh.sub q with (q | ⟨o, q⟩) | ⟨o, its, n, q, qc, _⟩
    · exact ⟨_, rfl, kit_of I ru (.base (.tup q))⟩
    · exact ⟨_, rfl, kit_of I ru (.fTuple q)⟩
    · exact ⟨_, rfl, kit_of I ru (.kTuple q qc)⟩
  | lst l =>
    cases e
    simp only [RV] at rv
    obtain ⟨a, vs, ev, q, _⟩ := rv
    exact ⟨_, rfl, lst ev (rh.sub _ _ q)⟩
  | dct ks l =>
    cases e
    simp only [RV] at rv
    obtain ⟨a, vs, ev, q, _⟩ := rv
    exact ⟨_, rfl, dct ev (rh.sub _ _ q)⟩
  | obj c ks l =>
    cases e
    simp only [RV] at rv
    obtain ⟨a, C, dx, fs, ev, em, q, _⟩ := rv
    exact ins rfl em ev (rh.sub _ _ q)
  | exc c ks l =>
    cases e
    simp only [RV] at rv
    obtain ⟨a, C, d, fs, rfl, em, q, q2, _⟩ := rv
    obtain ⟨c', b, ei⟩ := hc _ (.inr rfl)
    have x1 : ObjOk X.prog X.w H s.heap a (EXV a (.ref C) (some d)) := I.hok a _ (rh.sub _ _ q)
    obtain ⟨⟨oe, vs, g1, g2, g3, g4⟩, _, _⟩ := x1
    have x2 : ObjOk X.prog X.w H s.heap d (.xd fs) := I.hok d _ (rh.sub _ _ q2)
    obtain ⟨mA, hn, _⟩ := x2
    obtain ⟨P, kx, p⟩ := (ok.exn _ _ _ ei _ em).kit a d s.heap oe vs mA g1 g2 g3 g4 hn
    cases ru
    exact ⟨_, ⟨_, rfl, em⟩, P, kx, p, fun z => by cases z⟩
  | ref k =>
    simp only [RV] at rv
    obtain ⟨a, ev, ea⟩ := rv
    simp only [tagOf] at e
    split at e
    · rename_i l q
      cases e
      obtain ⟨o, e1, vs, rfl, _⟩ := rh.cell k _ q a ea
      exact ⟨_, rfl, lst ev e1⟩
    · rename_i l q
      cases e
      obtain ⟨o, e1, vs, rfl, _⟩ := rh.cell k _ q a ea
      exact ⟨_, rfl, dct ev e1⟩
    · rename_i l q
      cases e
      obtain ⟨o, e1, C, dx, fs, rfl, em, _⟩ := rh.cell k _ q a ea
      exact ins rfl em ev e1
    · cases e
  | _ => simp [tagOf] at e
theorem isaAny_kit {K : PySem.W.Frag} {mg : Str → Option Value} {isa : IsaF} (ok : IsaOk K mg isa) {t : Tag} {tv : Value} (ht : TagV mg t tv) : ∀ {cs : List Tag} {us : List Value} {b : Bool}, isaAny isa t cs = some b → Paired (TagV mg) cs us → PySem.W.kitAny K tv us = some b
  | [], _, b, e, .nil => e
  | c :: cs, _, b, e, .cons r rr => by
    unfold isaAny at e
    unfold PySem.W.kitAny
    split at e
    · rename_i q; rw [ok.ok _ _ _ q _ _ ht r]; exact e
    · rename_i q; rw [ok.ok _ _ _ q _ _ ht r]; exact isaAny_kit ok ht e rr
    · cases e
theorem isaAny_some {isa : IsaF} {t : Tag} {cs : List Tag} {b : Bool} (e : isaAny isa t cs = some b) (hn : cs ≠ []) : ∃ c b, isa t c = some b := by
  cases cs with
  | nil => exact absurd rfl hn
  | cons c cs =>
    unfold isaAny at e
    split at e
    · rename_i q; exact ⟨_, _, q⟩
    · rename_i q; exact ⟨_, _, q⟩
    · cases e
theorem clsTag_val {K : PySem.W.Frag} {mg : Str → Option Value} {ρ : List Addr} {F : Hp} {x : AV} {v : V} {u : Value} {t : Tag} (rv : RV K mg ρ F x v) (ru : RelV v u) (e : clsTag x = some t) : TagV mg t u ∧ ClsV v u := by
  cases x with
  | ty n =>
    cases e
    simp only [RV] at rv
    subst rv
    have : u = .type n := ru
    subst this
    exact ⟨rfl, .ty n⟩
  | cls c =>
    cases e
    simp only [RV] at rv
    obtain ⟨C, rfl, em⟩ := rv
    have : u = .ref C := ru
    subst this
    exact ⟨⟨C, rfl, em⟩, .own C⟩
  | _ => simp [clsTag] at e
theorem clsTag_vals {K : PySem.W.Frag} {mg : Str → Option Value} {ρ : List Addr} {F : Hp} : ∀ {xs : List AV} {vs : List V} {us : List Value} {ts : List Tag}, RVs K mg ρ F xs vs → Vals vs us → xs.mapM clsTag = some ts → Paired (TagV mg) ts us ∧ Paired ClsV vs us
  | [], vs, us, ts, r, ru, e => by
    simp only [RVs] at r
    subst r
    cases ru
    simp at e
    subst e
    exact ⟨.nil, .nil⟩
  | x :: xs, vs, us, ts, r, ru, e => by
    simp only [RVs] at r
    obtain ⟨v, r, rfl, a, t⟩ := r
    cases ru with
    | cons r1 r2 =>
      rw [List.mapM_cons] at e
      cases q : clsTag x with
      | none => rw [q] at e; simp at e
      | some c =>
        cases q2 : xs.mapM clsTag with
        | none => rw [q, q2] at e; simp at e
        | some cs =>
          rw [q, q2] at e
          simp at e
          subst e
          obtain ⟨a1, a2⟩ := clsTag_val a r1 q
          obtain ⟨b1, b2⟩ := clsTag_vals t r2 q2
          exact ⟨.cons a1 b1, .cons a2 b2⟩
theorem mIsi_ok {isa : IsaF} (ok : IsaOk X.K X.mg isa) : CallOk X (.builtin "isinstance") (mIsi isa) := by
  intro pins s σ H vs us Q I r1 ⟨ρ, F, xs, h, rv, rh, o⟩
  unfold mIsi at o
  split at o
  · rename_i _ _ x c
    obtain ⟨v, w, rfl, rx, rc⟩ := rv.two
    obtain ⟨u1, u2, rfl, ru1, ru2⟩ := vals2 r1
    split at o
    · rename_i t cs et ecs
      split at o
      · rename_i b eb
        have fin : ∀ tk, EP X pins σ Q (.bool b) { s with toks := tk } := fun tk => ⟨.bl b, H, I.tok tk, rfl, o.now rh (by simp [RV])⟩
        have one : ∀ {t1 : Tag}, clsTag c = some t1 → cs = [t1] → wpAny (model X.prog X.w) X.A (call (.builtin "isinstance") [u1, u2]) (EP X pins σ Q) X.xe s := fun {t1} e1 e2 => by
          subst e2
          have hone : isa t t1 = some b := by
            unfold isaAny at eb
            split at eb
            · rename_i q; rw [q]; exact eb
            · rename_i q; rw [q]; simpa [isaAny] using eb
            · cases eb
          obtain ⟨tv, ht, P, kx, p, hx⟩ := tag_kit (isa := isa) I rh rx ru1 et ok fun n en => ⟨_, _, hone⟩
          obtain ⟨tc, cv⟩ := clsTag_val rc ru2 e1
          exact PySem.W.kia_one kx I.kIn p (ok.ok _ _ _ hone _ _ ht tc) hx fin
        cases c with
        | tup l =>
          simp only [RV] at rc
          obtain ⟨a, ws, rfl, q, rr⟩ := rc
          have : u2 = .ref a := ru2
          subst this
          cases l with
          | nil => simp [clsTags, clsTag] at ecs
          | cons c1 l =>
            simp only [clsTags] at ecs
            have hl : cs ≠ [] := fun z => by
              subst z
              rw [List.mapM_cons] at ecs
              cases q1 : clsTag c1 with
              | none => rw [q1] at ecs; simp at ecs
              | some _ =>
                cases q2 : l.mapM clsTag with
                | none => rw [q1, q2] at ecs; simp at ecs
                | some _ => rw [q1, q2] at ecs; simp at ecs
            obtain ⟨tv, ht, P, kx, p, hx⟩ := tag_kit (isa := isa) I rh rx ru1 et ok fun n en => isaAny_some eb hl
            obtain ⟨its, ri, ⟨o', h1, h2, n, h3⟩, _⟩ := I.tuple (SqT.mono rh.sub q)
            obtain ⟨b1, b2⟩ := clsTag_vals rr ri ecs
            obtain ⟨oc, od, dt, sl⟩ := o'
            simp only at h2 h3
            subst h2 h3
            exact PySem.W.kia_tup kx I.kIn p h1 (isaAny_kit ok ht eb b1) hx fin
        | ty n => exact one (t1 := .ty n) rfl (by simpa [clsTags, clsTag] using ecs.symm)
        | cls n => exact one (t1 := .own n) rfl (by simpa [clsTags, clsTag] using ecs.symm)
        | _ => simp [clsTags, clsTag] at ecs
      · exact o.elim
    · exact o.elim
  · exact o.elim
end
end AVL

namespace AVL
open PySem PySem.Spec L2
/-! ### == of data -/
def pd : Nat → AH → AV → Option PyData
  | 0, _, _ => none
  | n + 1, h, x => match x with
    | .non => some .none
    | .bl b => some (.bool b)
    | .int i => some (.int i)
    | .str z => if PyData.strOk z then some (.str z) else none
    | .tup l => (l.mapM (pd n h)).map .tuple
    | x => match itemsL h x with
      | some l => (l.mapM (pd n h)).map .list
      | none => none
def mEq (neg : Bool) : AV → AV → AH → Res AV := fun x y h => match pd 60 h x, pd 60 h y with
  | some d, some e => .ok (.bl (PyData.eqv d e != neg)) h
  | _, _ => .stuck
theorem mEq_calm {neg} : Calm (mEq neg) := fun x y h => by unfold mEq; split <;> trivial
section
variable {X : Cx} {W : WX} {K : PySem.W.Frag} {mg : Str → Option Value} {ρ : List Addr} {F H : Hp} {h : AH}
theorem pd_all {n : Nat} (ih : ∀ (x : AV) (v : V) (d : PyData), RV K mg ρ F x v → pd n h x = some d → Dp K H v d ∧ d.canLay0 = true ∧ d.depth ≤ n) : ∀ (l : List AV) (vs : List V) (ds : List PyData), RVs K mg ρ F l vs → l.mapM (pd n h) = some ds → DpAll K H vs ds ∧ PyData.canLayAll0 ds = true ∧ PyData.depthAll ds ≤ n
  | [], vs, ds, r, e => by
    simp only [RVs] at r
    subst r
    simp at e
    subst e
    exact ⟨.nil, rfl, Nat.zero_le _⟩
  | x :: xs, vs, ds, r, e => by
    simp only [RVs] at r
    obtain ⟨v, r, rfl, a, t⟩ := r
    rw [List.mapM_cons] at e
    cases q : pd n h x with
    | none => rw [q] at e; simp at e
    | some d =>
      cases q2 : xs.mapM (pd n h) with
      | none => rw [q, q2] at e; simp at e
      | some ds' =>
        rw [q, q2] at e
        simp at e
        subst e
        obtain ⟨a1, a2, a3⟩ := ih x v d a q
        obtain ⟨b1, b2, b3⟩ := pd_all ih xs r ds' t q2
        refine ⟨.cons a1 b1, ?_, ?_⟩
        · simp only [PyData.canLayAll0, Bool.and_eq_true]; exact ⟨a2, b2⟩
        · simp only [PyData.depthAll]; exact Nat.max_le.mpr ⟨a3, b3⟩
theorem pd_ok (rh : RH K mg ρ F h H) : ∀ (n : Nat) (x : AV) (v : V) (d : PyData), RV K mg ρ F x v → pd n h x = some d → Dp K H v d ∧ d.canLay0 = true ∧ d.depth ≤ n
  | 0, x, v, d, _, e => by simp [pd] at e
  | n + 1, x, v, d, rv, e => by
    have ih := pd_ok rh n
    have seq : ∀ {l : List AV} {ds : List PyData}, itemsL h x = some l → l.mapM (pd n h) = some ds → Dp K H v (.list ds) ∧ (PyData.list ds).canLay0 = true ∧ (PyData.list ds).depth ≤ n + 1 := fun {l ds} hl e => by
      obtain ⟨a, vs, rfl, q, r⟩ := items_L rh rv hl
      obtain ⟨b1, b2, b3⟩ := pd_all ih l vs ds r e
      exact ⟨.lst q b1, by simpa [PyData.canLay0] using b2, by simp only [PyData.depth]; omega⟩
    unfold pd at e
    split at e
    · cases e; rw [rv.non]; exact ⟨.non, rfl, Nat.zero_le _⟩
    · cases e; rw [rv.bl]; exact ⟨.bl _, rfl, Nat.zero_le _⟩
    · cases e; rw [rv.int]; exact ⟨.int _, rfl, Nat.zero_le _⟩
    · split at e
      · rename_i hz; cases e; rw [rv.str]; exact ⟨.str _, by simpa [PyData.canLay0] using hz, Nat.zero_le _⟩
      · cases e
    · rename_i l
      simp only [Option.map_eq_some_iff] at e
      obtain ⟨ds, e, rfl⟩ := e
      simp only [RV] at rv
      obtain ⟨a, vs, rfl, q, r⟩ := rv
      obtain ⟨b1, b2, b3⟩ := pd_all ih l vs ds r e
      exact ⟨.tup (SqT.mono rh.sub q) b1, by simpa [PyData.canLay0] using b2, by simp only [PyData.depth]; omega⟩
    · split at e
      · rename_i l hl
        simp only [Option.map_eq_some_iff] at e
        obtain ⟨ds, e, rfl⟩ := e
        exact seq hl e
      · cases e
theorem pd_shaped (rh : RH K mg ρ F h H) {x : AV} {v : V} {d : PyData} (rv : RV K mg ρ F x v) (e : pd 60 h x = some d) : Dp K H v d ∧ SeqAt.shaped d = true := by
  obtain ⟨a, b, c⟩ := pd_ok rh 60 x v d rv e
  exact ⟨a, by unfold SeqAt.shaped; rw [b]; simp; omega⟩
theorem mEq_ok (hu : X.A.units + 64 < cLine) : OpOk X (compareOp .Eq) (mEq false) := .of (op_eqD hu) fun ρ F x y h v w H Q rv rw' rh o => by
  unfold mEq at o
  split at o
  · rename_i d e hd he
    obtain ⟨a, b⟩ := pd_shaped rh rv hd
    obtain ⟨a', b'⟩ := pd_shaped rh rw' he
    exact ⟨d, e, a, a', b, b', o.now rh (by simp [RV])⟩
  · exact o.elim
theorem mNe_ok (hu : X.A.units + 64 < cLine) : OpOk X (compareOp .NotEq) (mEq true) := .of (op_neD hu) fun ρ F x y h v w H Q rv rw' rh o => by
  unfold mEq at o
  split at o
  · rename_i d e hd he
    obtain ⟨a, b⟩ := pd_shaped rh rv hd
    obtain ⟨a', b'⟩ := pd_shaped rh rw' he
    exact ⟨d, e, a, a', b, b', o.now rh (by simp [RV])⟩
  · exact o.elim
/-! ### in, of flat items -/
def flatA : AV → Bool
  | .non => true
  | .bl _ => true
  | .int _ => true
  | .str _ => true
  | _ => false
def eqA : AV → AV → Bool
  | .non, .non => true
  | .bl a, .bl b => a == b
  | .bl a, .int b => (if a then 1 else 0) == b
  | .int a, .bl b => a == (if b then 1 else 0)
  | .int a, .int b => a == b
  | .str a, .str b => a == b
  | _, _ => false
def inA (x : AV) (xs : List AV) : Bool := xs.any fun y => eqA y x
def mIn (neg : Bool) : AV → AV → AH → Res AV
  | .str i, .str j, h => .ok (.bl (!(Builtin.Str.occurrences j i 0 j.length 1).isEmpty != neg)) h
  | x, y, h => match items h y with
    | some l => if flatA x && l.all flatA then .ok (.bl (inA x l != neg)) h else .stuck
    | none => .stuck
theorem mIn_calm {neg} : Calm (mIn neg) := fun x y h => by
  unfold mIn
  split
  · trivial
  · split
    · split <;> trivial
    · trivial
theorem RV.flat {x : AV} {v : V} (r : RV K mg ρ F x v) (f : flatA x = true) : flatV v = true := by
  cases x with
  | non => rw [r.non]; rfl
  | bl _ => rw [r.bl]; rfl
  | int _ => rw [r.int]; rfl
  | str _ => rw [r.str]; rfl
  | _ => simp [flatA] at f
theorem RV.eqA {x y : AV} {v w : V} (r : RV K mg ρ F x v) (f : flatA x = true) (r2 : RV K mg ρ F y w) (f2 : flatA y = true) : eqV v w = AVL.eqA x y := by
  cases x with
  | non => rw [r.non]; cases y <;> first | (simp [flatA] at f2; done) | (first | rw [r2.non] | rw [r2.bl] | rw [r2.int] | rw [r2.str]) <;> rfl
  | bl _ => rw [r.bl]; cases y <;> first | (simp [flatA] at f2; done) | (first | rw [r2.non] | rw [r2.bl] | rw [r2.int] | rw [r2.str]) <;> rfl
  | int _ => rw [r.int]; cases y <;> first | (simp [flatA] at f2; done) | (first | rw [r2.non] | rw [r2.bl] | rw [r2.int] | rw [r2.str]) <;> rfl
  | str _ => rw [r.str]; cases y <;> first | (simp [flatA] at f2; done) | (first | rw [r2.non] | rw [r2.bl] | rw [r2.int] | rw [r2.str]) <;> rfl
  | _ => simp [flatA] at f
theorem RVs.inA {x : AV} {v : V} (r : RV K mg ρ F x v) (f : flatA x = true) : ∀ {l : List AV} {vs : List V}, RVs K mg ρ F l vs → l.all flatA = true → inV v vs = AVL.inA x l ∧ vs.all flatV = true
  | [], vs, rs, _ => by
    simp only [RVs] at rs
    subst rs
    exact ⟨rfl, rfl⟩
  | y :: ys, vs, rs, fs => by
    simp only [RVs] at rs
    obtain ⟨w, r', rfl, a, t⟩ := rs
    rw [List.all_cons, Bool.and_eq_true] at fs
    obtain ⟨h1, h2⟩ := RVs.inA r f t fs.2
    refine ⟨?_, by rw [List.all_cons, a.flat fs.1, h2]; rfl⟩
    show (eqV w v || inV v r') = (AVL.eqA y x || AVL.inA x ys)
    rw [a.eqA fs.1 r f, h1]
theorem mIn_in {neg : Bool} {ρ F x y h v w H Q} (rv : RV X.K X.mg ρ F x v) (rw' : RV X.K X.mg ρ F y w) (rh : RH X.K X.mg ρ F h H) (o : Out X.K X.mg (RV X.K X.mg) ρ F H (mIn neg x y h) Q fun _ _ _ => False) :
    (∃ i j, v = .str i ∧ w = .str j ∧ Q (.bl (!(Builtin.Str.occurrences j i 0 j.length 1).isEmpty != neg)) H) ∨ rIn X.K neg v w H Q := by
  unfold mIn at o
  split at o
  · rename_i i j
    exact .inl ⟨_, _, rv.str, rw'.str, o.now rh (by simp [RV])⟩
  · split at o
    · rename_i l hl
      split at o
      · rename_i hf
        rw [Bool.and_eq_true] at hf
        have fin : Q (.bl (inA x l != neg)) H := o.now rh (by simp [RV])
        have go : ∀ {a : Addr} {ws : List V}, w = .ref a → (SqL X.K H a ws ∨ SqT X.K H a ws) → RVs X.K X.mg ρ F l ws → rIn X.K neg v w H Q := fun {a ws} ew q rr => by
          obtain ⟨h1, h2⟩ := RVs.inA rv hf.1 rr hf.2
          refine ⟨a, ws, ew, q, rv.flat hf.1, h2, ?_⟩
          rw [h1]
          cases neg with
          | true => simpa using fin
          | false => simpa using fin
        rcases items_cases hl with z | z
        · obtain ⟨a, ws, e, q, rr⟩ := items_T rh rw' z
          exact .inr (go e (.inr q) rr)
        · obtain ⟨a, ws, e, q, rr⟩ := items_L rh rw' z
          exact .inr (go e (.inl q) rr)
      · exact o.elim
    · exact o.elim
theorem mIn_ok : OpOk X (compareOp .In) (mIn false) := .of (OpR.or op_in_str op_in_seq) fun ρ F x y h v w H Q rv rw' rh o => by
  rcases mIn_in rv rw' rh o with ⟨i, j, e1, e2, q⟩ | q
  · exact .inl ⟨i, j, e1, e2, by simpa using q⟩
  · exact .inr q
theorem mNotIn_ok : OpOk X (compareOp .NotIn) (mIn true) := .of (OpR.or op_notin_str op_notIn_seq) fun ρ F x y h v w H Q rv rw' rh o => by
  rcases mIn_in rv rw' rh o with ⟨i, j, e1, e2, q⟩ | q
  · exact .inl ⟨i, j, e1, e2, by simpa using q⟩
  · exact .inr q
/-! ### items by their place -/
def mIx : AV → AV → AH → Res AV
  | .str z, .int i, h => match (if z.length ≤ sizeLine then atI z.cps.toList i else none) with
    | some c => .ok (.str ⟨#[c]⟩) h
    | none => .stuck
  | x, .int i, h => match items h x with
    | some l => match atI l i with
      | some y => .ok y h
      | none => .stuck
    | none => .stuck
  | _, _, _ => .stuck
theorem mIx_calm : Calm mIx := fun x y h => by
  unfold mIx
  split
  · split <;> trivial
  · split
    · split <;> trivial
    · trivial
  · trivial
theorem RVs.atI {l : List AV} {vs : List V} {i : Int} {x : AV} (r : RVs K mg ρ F l vs) (e : L2.atI l i = some x) : ∃ v, L2.atI vs i = some v ∧ RV K mg ρ F x v := by
  unfold L2.atI at e ⊢
  rw [← r.length]
  cases q : ixN l.length i with
  | none => rw [q] at e; cases e
  | some j =>
    rw [q] at e
    exact r.get e
def IxOk (X : Cx) (m : AV → AV → AH → Res AV) : Prop := IxR X fun v w H Q => ∃ ρ F x y h, RV X.K X.mg ρ F x v ∧ RV X.K X.mg ρ F y w ∧ RH X.K X.mg ρ F h H ∧ Out X.K X.mg (RV X.K X.mg) ρ F H (m x y h) Q fun _ _ _ => False
theorem mIx_ok : IxOk X mIx := by
  intro value slice pins s σ H v w u u' Q I r1 r2 ⟨ρ, F, x, y, h, a, b, rh, o⟩ hs
  refine ix_seq value slice pins s σ H v w u u' Q I r1 r2 ?_ hs
  unfold mIx at o
  split at o
  · rename_i _ z i
    split at o
    · rename_i c hc
      split at hc
      · rename_i hz
        exact .inr (.inr ⟨z, i, c, a.str, b.int, hz, hc, o.now rh (by simp [RV])⟩)
      · cases hc
    · exact o.elim
  · rename_i _ x i _
    split at o
    · rename_i l hl
      split at o
      · rename_i y' hy
        rcases items_cases hl with z | z
        · obtain ⟨p, ws, e, q, rr⟩ := items_T rh a z
          obtain ⟨v', e1, rv'⟩ := rr.atI hy
          exact .inr (.inl ⟨p, ws, i, v', e, b.int, q, e1, o.now rh rv'⟩)
        · obtain ⟨p, ws, e, q, rr⟩ := items_L rh a z
          obtain ⟨v', e1, rv'⟩ := rr.atI hy
          exact .inl ⟨p, ws, i, v', e, b.int, q, e1, o.now rh rv'⟩
      · exact o.elim
    · exact o.elim
  · exact o.elim
variable {fa fb fc : EM} {a b c e : Expr} {pos p2 : Pos}
theorem rIx (ha : PE X a (lE X W fa)) (hb : PE X b (lE X W fb)) (hs : PlainIx b := by exact fun _ _ => rfl) : PE X (.Subscript a b pos) (lE X W (eBin mIx fa fb)) :=
  pe_imp (pe_ix mIx_ok ha hb hs) fun σ H Q h => two mIx_calm h
/-! ### slices -/
def cutA (xs : List AV) (lo hi : Option Int) : List AV := (xs.drop (HT.sIx xs.length 0 lo)).take (HT.sIx xs.length xs.length hi - HT.sIx xs.length 0 lo)
abbrev OM := SL → AH → Res (Option Int)
def oNo : OM := fun _ h => .ok none h
def oPart (f : EM) : OM := fun sl h => (f sl h).bind fun x h1 => match x with
  | .int i => .ok (some i) h1
  | _ => .stuck
def ROp : List Addr → Hp → Option Int → Option Int → Prop := fun _ _ a b => a = b
def lO (X : Cx) (W : WX) (f : OM) : TO := fun σ H Q => ∃ ρ F sl h, RSl X.K X.mg ρ F sl σ ∧ RH X.K X.mg ρ F h H ∧ Out X.K X.mg ROp ρ F H (f sl h) Q (fun c d H' => W c d σ H')
theorem po_imp {X : Cx} {e : Option Expr} {t t' : TO} (h : PO X e t) (i : ∀ σ H Q, t' σ H Q → t σ H Q) : PO X e t' := ⟨fun pins s σ H Q I q => h.run pins s σ H Q I (i σ H Q q)⟩
theorem roNo : PO X none (lO X W oNo) := po_imp po_none fun σ H Q ⟨ρ, F, sl, h, rs, rh, o⟩ => Out.now (R := ROp) o rh rfl
theorem roPart (h : PE X e (lE X W fa)) : PO X (some e) (lO X W (oPart fa)) := po_imp (po_some h) fun σ H Q ⟨ρ, F, sl, h, rs, rh, o⟩ =>
  ⟨ρ, F, sl, h, rs, rh, Out.bind (R := RV X.K X.mg) o fun x h1 ρ1 F1 H1 v ex rh1 rv o1 => by
    cases x with
    | int i => exact ⟨i, rv.int, Out.now (R := ROp) o1 rh1 rfl⟩
    | _ => exact o1.elim⟩
def mSl (nm : Bool) (x : AV) (lo hi : Option Int) (h : AH) : Res AV := match x with
  | .str z => if z.length ≤ sizeLine then .ok (.str (cutS z lo hi)) h else .stuck
  | .tup l => .ok (.tup (cutA l lo hi)) h
  | x => match itemsL h x with
    | some l => mkL nm (cutA l lo hi) h
    | none => .stuck
theorem mSl_calm {nm x lo hi h} : (mSl nm x lo hi h).calm := by
  unfold mSl
  split
  · split <;> trivial
  · trivial
  · split
    · exact mkL_calm
    · trivial
def eSl (nm : Bool) (f : EM) (fl fh : OM) : EM := fun sl h => (f sl h).bind fun x h1 => (fl sl h1).bind fun lo h2 => (fh sl h2).bind fun hi h3 => mSl nm x lo hi h3
theorem RVs.cutA {l : List AV} {vs : List V} (r : RVs K mg ρ F l vs) (lo hi : Option Int) : RVs K mg ρ F (AVL.cutA l lo hi) (cutV vs lo hi) := by
  unfold AVL.cutA cutV
  rw [r.length]
  exact (r.drop _).take _
theorem rSl {nm : Bool} {lo hi : Option Expr} {fl fh : OM} (he : PE X e (lE X W fa)) (hl : PO X lo (lO X W fl)) (hh : PO X hi (lO X W fh)) : PE X (.Subscript e (.Slice lo hi none p2) pos) (lE X W (eSl nm fa fl fh)) := by
  refine pe_imp (pe_slice (SlR.or sl_str (SlR.or sl_tupA sl_list)) he hl hh) fun σ H Q ⟨ρ, F, sl, h, rs, rh, o⟩ => ?_
  refine ⟨ρ, F, sl, h, rs, rh, Out.bind (R := RV X.K X.mg) o fun x h1 ρ1 F1 H1 v ex rh1 rv o1 => ?_⟩
  refine ⟨ρ1, F1, sl, h1, rs.ext ex, rh1, Out.bind (R := ROp) o1 fun lo h2 ρ2 F2 H2 lo' ex2 rh2 e2 o2 => ?_⟩
  cases e2
  refine ⟨ρ2, F2, sl, h2, (rs.ext ex).ext ex2, rh2, Out.bind (R := ROp) o2 fun hi h3 ρ3 F3 H3 hi' ex3 rh3 e3 o3 => ?_⟩
  cases e3
  have rv3 := (rv.ext ex2).ext ex3
  unfold mSl at o3
  split at o3
  · rename_i z
    split at o3
    · rename_i hz
      exact .inl ⟨z, rv3.str, hz, o3.now rh3 (by simp [RV])⟩
    · exact o3.elim
  · rename_i l
    simp only [RV] at rv3
    obtain ⟨a, vs, ev, q, r⟩ := rv3
    refine .inr (.inl ⟨a, vs, ev, SqT.mono rh3.sub q, fun hw => ?_, fun _ p hp => out_tup rh3 (r.cutA lo hi) o3 hp⟩)
    have e : AVL.cutA l lo hi = l := by
      unfold AVL.cutA
      rw [r.length, hw.1, hw.2]
      simp [← r.length]
    rw [e] at o3
    exact tup_out o3 rh3 q r
  · split at o3
    · rename_i l hl
      obtain ⟨a, vs, ev, q, r⟩ := items_L rh3 rv3 hl
      exact .inr (.inr ⟨a, vs, ev, q, fun p hp => out_mkL rh3 (r.cutA lo hi) o3 hp⟩)
    · exact o3.elim
/-! ### a store by its place -/
def mSet : AV → AV → AV → AH → Option AH
  | .ref n, .int i, y, h => match h[n]? with
    | some (.lst l) => match ixN l.length i with
      | some j => if bnd (n + 1) y then some (h.set n (.lst (l.set j y))) else none
      | none => none
    | _ => none
  | _, _, _, _ => none
def gSub (fo fi : EM) : GM := fun y sl h => match fo sl h with
  | .ok o h1 => match fi sl h1 with
    | .ok i h2 => match mSet o i y h2 with
      | some h3 => some (sl, h3)
      | none => none
    | _ => none
  | _ => none
theorem rgSub {o i : Expr} {fo fi : EM} (ho : PE X o (lE X W fo)) (hi : PE X i (lE X W fi)) (hs : ∀ v, assign (.Subscript o i pos) X.env v = (do
      let ov ← holding [v] (eval o X.env)
      let iv ← holding [v, ov] (eval i X.env)
      standAt pos
      holding [v, ov, iv] (setItem ov iv v)
      release [v, ov, iv] []) := by intro _; rfl) : PG X (.Subscript o i pos) (lG X (gSub fo fi)) := by
  refine pg_imp (pg_sub ho hi set_list hs) fun v σ H Q ⟨ρ, F, y, sl, h, rv, rs, rh, o⟩ => ?_
  refine ⟨ρ, F, sl, h, rs, rh, ?_⟩
  unfold AVL.gSub at o
  cases q : fo sl h with
  | stuck => rw [q] at o; exact o.elim
  | exc _ _ _ _ => rw [q] at o; exact o.elim
  | ok x1 h1 =>
    rw [q] at o
    intro ρ1 F1 H1 v1 ex1 rh1 rv1
    refine ⟨ρ1, F1, sl, h1, rs.ext ex1, rh1, ?_⟩
    simp only at o
    cases q2 : fi sl h1 with
    | stuck => rw [q2] at o; exact o.elim
    | exc _ _ _ _ => rw [q2] at o; exact o.elim
    | ok x2 h2 =>
      rw [q2] at o
      intro ρ2 F2 H2 v2 ex2 rh2 rv2
      simp only at o
      cases q3 : mSet x1 x2 y h2 with
      | none => rw [q3] at o; exact o.elim
      | some h3 =>
        rw [q3] at o
        simp only at o
        unfold mSet at q3
        split at q3
        · rename_i n j
          split at q3
          · rename_i l el
            split at q3
            · rename_i jj ej
              split at q3
              · rename_i hb
                cases q3
                have rr := rv1.ext ex2
                simp only [RV] at rr
                obtain ⟨a, rfl, ea⟩ := rr
                obtain ⟨u, e1, vs, rfl, r⟩ := rh2.cell n _ el a ea
                have rset := r.set jj ((rv.ext ex1).ext ex2)
                have ob : bndC (n + 1) (.lst l) = true := rh2.old n _ el
                refine ⟨a, vs, j, jj, rfl, rv2.int, e1, by rw [← r.length]; exact ej, ?_⟩
                have hm : a ∈ ρ2 := List.mem_of_getElem? ea
                refine o ρ2 F2 _ σ (ex1.trans (ex2.trans (ext_set rh2 hm e1 fun ps => by simp))) (rh_set rh2 ea el rfl (bnds_set jj ob hb) ⟨_, rfl, rset⟩) (((rs.ext ex1).ext ex2).ext (ext_set (o := .lst (vs.set jj v)) rh2 hm e1 fun ps => by simp))
              · cases q3
            · cases q3
          · cases q3
        · cases q3
end
end AVL

namespace AVL
open PySem PySem.Spec L2
abbrev Src := List AV × (AH → Bool)
abbrev IM := SL → AH → Res Src
structure WalkOk (X : Cx) (J : It) (ρ : List Addr) (F : Hp) (l : List AV) (ok : AH → Bool) : Prop where
  go : ∀ ρ' F' h' H' (i : Nat) (y : AV), (∃ t, ρ' = ρ ++ t) → (∀ a o, F a = some o → F' a = some o) → RH X.K X.mg ρ' F' h' H' → ok h' = true → l[i]? = some y →
    J.go i H' ∧ ∀ v H'', J.yld i H' v H'' → ∃ ρ'' F'', Ext ρ' F' H' ρ'' F'' H'' ∧ RH X.K X.mg ρ'' F'' h' H'' ∧ RV X.K X.mg ρ'' F'' y v
  stop : ∀ ρ' F' h' H', (∃ t, ρ' = ρ ++ t) → (∀ a o, F a = some o → F' a = some o) → RH X.K X.mg ρ' F' h' H' → ok h' = true → J.stop l.length H'
def RI (X : Cx) : List Addr → Hp → Src → It → Prop := fun ρ F p J => WalkOk X J ρ F p.1 p.2
def lI (X : Cx) (W : WX) (it : IM) : TI := fun σ H R => ∃ ρ F sl h, RSl X.K X.mg ρ F sl σ ∧ RH X.K X.mg ρ F h H ∧ Out X.K X.mg (RI X) ρ F H (it sl h) R (fun c d H' => W c d σ H')
theorem pi_imp {X : Cx} {tg e : Expr} {t t' : TI} (h : PI X tg e t) (i : ∀ σ H R, t' σ H R → t σ H R) : PI X tg e t' := ⟨fun pins s σ H R I q => h.run pins s σ H R I (i σ H R q)⟩
def forL (ok : AH → Bool) (g : GM) (b : SM) : List AV → SM
  | [], sl, h => if ok h then .next sl h else .stuck
  | y :: r, sl, h => if ok h then match g y sl h with
    | none => .stuck
    | some (sl1, h1) => match b sl1 h1 with
      | .next sl2 h2 => forL ok g b r sl2 h2
      | .cont sl2 h2 => forL ok g b r sl2 h2
      | .brk sl2 h2 => .next sl2 h2
      | x => x
    else .stuck
def sFor (it : IM) (g : GM) (b : SM) : SM := fun sl h => (it sl h).toS sl fun p h1 => forL p.2 g b p.1 sl h1
section
variable {X : Cx} {W : WX} {it : IM} {gm : GM} {bm : SM} {tg iter : Expr} {body : List Stmt} {pos : Pos}
theorem rsFor (hp : PassesOwn (model X.prog X.w) X.A X.env X.xe) (hi : PI X tg iter (lI X W it)) (hg : PG X tg (lG X gm)) (hb : PSs X body (lS X W bm)) (hc : X.calm = true := by rfl)
    (hs : ∀ x, foldedSetIterable iter X.env x = pure x := by intro _; rfl) : PS X (.For tg iter body [] pos) (lS X W (sFor it gm bm)) := by
  refine ps_imp (ps_for hp hc hi hg hb hs) fun D σ H ⟨ρ0, F0, sl0, h0, rs0, rh0, o⟩ => ?_
  refine ⟨ρ0, F0, sl0, h0, rs0, rh0, Out.bindS (R := RI X) o rs0 fun p h1 ρ F H1 J ex rh wk o1 => ?_⟩
  obtain ⟨l, ok⟩ := p
  have rs := rs0.ext ex
  refine ⟨fun i m σ' H' => m = l.length - i ∧ i ≤ l.length ∧ ∃ ρ' F' sl' h', Ext ρ F H1 ρ' F' H' ∧ RSl X.K X.mg ρ' F' sl' σ' ∧ RH X.K X.mg ρ' F' h' H' ∧ OutS X.K X.mg ρ' F' H' (forL ok gm bm (l.drop i) sl' h') D W,
    ⟨l.length, by simp, Nat.zero_le _, ρ, F, sl0, h1, Ext.refl _ _ _, rs, rh, by simpa using o1⟩, ?_⟩
  rintro i m σ1 H2 ⟨rfl, hi', ρ1, F1, sl1, h2, e1, rs1, rh1, o2⟩
  by_cases hlt : i < l.length
  · rw [List.drop_eq_getElem_cons hlt] at o2
    unfold forL at o2
    split at o2
    case isFalse => exact o2.elim
    rename_i hok
    obtain ⟨hgo, hy⟩ := wk.go ρ1 F1 h2 H2 i l[i] e1.pre e1.fz rh1 hok (by simp [hlt])
    cases q : gm l[i] sl1 h2 with
    | none => rw [q] at o2; exact o2.elim
    | some pp =>
      obtain ⟨sl3, h3⟩ := pp
      rw [q] at o2
      refine .inr ⟨hgo, fun σ' H' => ∃ ρ' F' sl' h', Ext ρ F H1 ρ' F' H' ∧ RSl X.K X.mg ρ' F' sl' σ' ∧ RH X.K X.mg ρ' F' h' H' ∧ OutS X.K X.mg ρ' F' H' (forL ok gm bm (l.drop (i + 1)) sl' h') D W, fun σ' H' hN => ⟨l.length - (i + 1), by omega, rfl, hlt, hN⟩, fun v H'' yl => ?_⟩
      obtain ⟨ρ2, F2, e2, rh2, rv2⟩ := hy v H'' yl
      refine ⟨ρ2, F2, l[i], sl1, h2, rv2, rs1.ext e2, rh2, ?_⟩
      rw [q]
      intro ρ3 F3 H3 σ3 e3 rh3 rs3
      refine ⟨ρ3, F3, sl3, h3, rs3, rh3, ?_⟩
      have o3 := OutS.ext o2 (e2.trans e3)
      have ex3 := e1.trans (e2.trans e3)
      simp only at o3
      cases q2 : bm sl3 h3 with
      | next sl4 h4 => simp only [q2] at o3; exact fun ρ4 F4 H4 σ4 e4 rh4 rs4 => ⟨ρ4, F4, sl4, h4, ex3.trans e4, rs4, rh4, o3.ext e4⟩
      | cont sl4 h4 => simp only [q2] at o3; exact fun ρ4 F4 H4 σ4 e4 rh4 rs4 => ⟨ρ4, F4, sl4, h4, ex3.trans e4, rs4, rh4, o3.ext e4⟩
      | brk sl4 h4 => simp only [q2] at o3; exact o3
      | ret y4 h4 => simp only [q2] at o3; exact o3
      | exc c ks l sl4 h4 => simp only [q2] at o3; exact o3
      | stuck => simp only [q2] at o3; exact o3
  · have e : i = l.length := by omega
    subst e
    rw [List.drop_length] at o2
    unfold forL at o2
    split at o2
    case isFalse => exact o2.elim
    rename_i hok
    exact .inl ⟨wk.stop ρ1 F1 h2 H2 e1.pre e1.fz rh1 hok, o2 ρ1 F1 H2 σ1 (Ext.refl _ _ _) rh1 rs1⟩

/-! ### what is walked -/
def okAll : AH → Bool := fun _ => true
/-- the list x still holds l -/
def okL (x : AV) (l : List AV) : AH → Bool := fun h => match itemsL h x with
  | some l' => beqVs l' l
  | none => false
theorem okL_items {x : AV} {l : List AV} {h : AH} (e : okL x l h = true) : itemsL h x = some l := by
  unfold okL at e
  split at e
  · rename_i l' q
    rw [q, beqVs_eq _ _ e]
  · cases e
theorem walk_L {ρ F h H} {x : AV} {v : V} {l : List AV} (rh : RH X.K X.mg ρ F h H) (rv : RV X.K X.mg ρ F x v) (e : itemsL h x = some l) : ∃ a vs, v = .ref a ∧ SqL X.K H a vs ∧ WalkOk X (Itl X.K a) ρ F l (okL x l) := by
  obtain ⟨a, vs, rfl, q, r⟩ := items_L rh rv e
  have at_ : ∀ ρ' F' h' H', (∃ t, ρ' = ρ ++ t) → (∀ a o, F a = some o → F' a = some o) → RH X.K X.mg ρ' F' h' H' → okL x l h' = true → ∃ ws, SqL X.K H' a ws ∧ RVs X.K X.mg ρ' F' l ws := fun ρ' F' h' H' pr fz rh' ok => by
    have rv' : RV X.K X.mg ρ' F' x (.ref a) := RV.mono fz (fun n b eb => by
      obtain ⟨t, rfl⟩ := pr
      rw [List.getElem?_append_left (List.getElem?_eq_some_iff.mp eb).1]; exact eb) x _ rv
    obtain ⟨b, ws, eb, q', r'⟩ := items_L rh' rv' (okL_items ok)
    cases eb
    exact ⟨ws, q', r'⟩
  refine ⟨a, vs, rfl, q, ⟨fun ρ' F' h' H' i y pr fz rh' ok ey => ?_, fun ρ' F' h' H' pr fz rh' ok => ?_⟩⟩
  · obtain ⟨ws, q', r'⟩ := at_ ρ' F' h' H' pr fz rh' ok
    obtain ⟨w', ew, rw'⟩ := r'.get ey
    refine ⟨⟨ws, w', q', ew⟩, fun v H'' ⟨eH, hy⟩ => ?_⟩
    subst eH
    have e2 := hy ws q'
    rw [ew] at e2
    cases e2
    exact ⟨ρ', F', Ext.refl _ _ _, rh', rw'⟩
  · obtain ⟨ws, q', r'⟩ := at_ ρ' F' h' H' pr fz rh' ok
    exact ⟨ws, q', by rw [r'.length]; exact Nat.le_refl _⟩
theorem walk_T {ρ F h H} {x : AV} {v : V} {l : List AV} (rh : RH X.K X.mg ρ F h H) (rv : RV X.K X.mg ρ F x v) (e : itemsT x = some l) : ∃ a vs, v = .ref a ∧ SqT X.K H a vs ∧ WalkOk X (Itt X.K a) ρ F l okAll := by
  cases x with
  | tup l' =>
    simp only [itemsT, Option.some.injEq] at e
    subst e
    simp only [RV] at rv
    obtain ⟨a, vs, rfl, q, r⟩ := rv
    have mono : ∀ {ρ' : List Addr} {F' : Hp}, (∃ t, ρ' = ρ ++ t) → (∀ a o, F a = some o → F' a = some o) → RVs X.K X.mg ρ' F' l' vs := fun pr fz => RVs.mono fz (fun n b eb => by
      obtain ⟨t, rfl⟩ := pr
      rw [List.getElem?_append_left (List.getElem?_eq_some_iff.mp eb).1]; exact eb) _ _ r
    refine ⟨a, vs, rfl, SqT.mono rh.sub q, ⟨fun ρ' F' h' H' i y pr fz rh' ok ey => ?_, fun ρ' F' h' H' pr fz rh' ok => ?_⟩⟩
    · have q' : SqT X.K H' a vs := SqT.mono (fun a o e => rh'.sub a o (fz a o e)) q
      obtain ⟨w', ew, rw'⟩ := (mono pr fz).get ey
      refine ⟨⟨vs, w', q', ew⟩, fun v H'' ⟨eH, hy⟩ => ?_⟩
      subst eH
      have e2 := hy vs q'
      rw [ew] at e2
      cases e2
      exact ⟨ρ', F', Ext.refl _ _ _, rh', rw'⟩
    · exact ⟨vs, SqT.mono (fun a o e => rh'.sub a o (fz a o e)) q, by rw [r.length]; exact Nat.le_refl _⟩
  | _ => simp [itemsT] at e
def chars (z : Str) : List AV := z.cps.toList.map fun c => .str ⟨#[c]⟩
theorem walk_S {ρ F} (z : Str) : WalkOk X (Its z) ρ F (chars z) okAll := by
  refine ⟨fun ρ' F' h' H' i y pr fz rh' ok ey => ?_, fun ρ' F' h' H' pr fz rh' ok => by simp [chars, Its]⟩
  unfold chars at ey
  rw [List.getElem?_map] at ey
  cases q : z.cps.toList[i]? with
  | none => rw [q] at ey; simp at ey
  | some c =>
    rw [q] at ey
    simp at ey
    subst ey
    have hlt : i < z.cps.size := by
      have := (List.getElem?_eq_some_iff.mp q).1
      simpa using this
    refine ⟨hlt, fun v H'' ⟨eH, c', ec, ev⟩ => ?_⟩
    subst eH
    have : c' = c := by
      have q' : z.cps[i]? = some c := by simpa using q
      rw [ec] at q'; exact Option.some.inj q'
    subst this
    exact ⟨ρ', F', Ext.refl _ _ _, rh', by rw [ev]; simp [RV]⟩
def itSeq (f : EM) : IM := fun sl h => (f sl h).bind fun x h1 => match x with
  | .str z => .ok (chars z, okAll) h1
  | .tup l => .ok (l, okAll) h1
  | x => match itemsL h1 x with
    | some l => .ok (l, okL x l) h1
    | none => .stuck
variable {fe : EM} {fa : AM} {e a b c : Expr} {p : Pos}
/-- a list, a tuple, a text -/
theorem riSeq (he : PE X e (lE X W fe)) : PI X tg e (lI X W (itSeq fe)) := by
  refine ⟨fun pins s σ H R I ⟨ρ, F, sl, h, rs, rh, o⟩ => ?_⟩
  refine thn (he.run pins s σ H (fun v H1 => ∃ ρ1 F1 h1 x, RH X.K X.mg ρ1 F1 h1 H1 ∧ RV X.K X.mg ρ1 F1 x v ∧ Out X.K X.mg (RI X) ρ1 F1 H1 (match x with
    | .str z => .ok (chars z, okAll) h1
    | .tup l => .ok (l, okAll) h1
    | x => match itemsL h1 x with
      | some l => .ok (l, okL x l) h1
      | none => .stuck) R (fun c d H' => W c d σ H')) I ⟨ρ, F, sl, h, rs, rh, Out.bind (R := RV X.K X.mg) o fun x h1 ρ1 F1 H1 v ex rh1 rv o1 => ⟨ρ1, F1, h1, x, rh1, rv, o1⟩⟩) fun u s1 hh => ?_
  obtain ⟨v, H1, I1, ru, ρ1, F1, h1, x, rh1, rv, o1⟩ := hh
  have lst : ∀ {l : List AV}, itemsL h1 x = some l → Out X.K X.mg (RI X) ρ1 F1 H1 (.ok (l, okL x l) h1) R (fun c d H' => W c d σ H') → wpAny (model X.prog X.w) X.A (pyIter u) (PIE X pins σ tg R) X.xe s1 := fun {l} hl o2 => by
    obtain ⟨a, vs, rfl, q, wk⟩ := walk_L rh1 rv hl
    cases ru
    obtain ⟨its, rv', p, hz⟩ := I1.list q
    refine PySem.wpAny_pyIter_list p.isList ?_
    refine ⟨s1.heap.objs.size, [s1.heap.objs.size], _, _, H1, rfl, I1.kept (t' := s1.toks) fun b o e => Heap.get?_push_of_some _ e, turn_list a _, ⟨_, Heap.get?_push_size _ rfl, rfl, rfl⟩, fun b hb => ?_, o2.now rh1 wk⟩
    have e : b = s1.heap.objs.size := by simpa using hb
    subst e
    exact I1.fpOk (Nat.le_refl _) (I1.hok.fresh (Nat.le_refl _))
  cases x with
  | str z =>
    rw [rv.str] at ru
    obtain ⟨t, rfl⟩ := ru
    have fin := o1.now rh1 (walk_S z)
    cases ha : z.cps.all (· < 128)
    · exact PySem.wpAny_pyIter_wide ha (pi_one (tk := s1.toks) I1 _ (turn_str _ z t "str_iterator" (.inr rfl)) ⟨_, Heap.get?_push_size _ rfl, rfl, rfl⟩ fin)
    · exact PySem.wpAny_pyIter_ascii ha (pi_one (tk := s1.toks) I1 _ (turn_str _ z t "str_ascii_iterator" (.inl rfl)) ⟨_, Heap.get?_push_size _ rfl, rfl, rfl⟩ fin)
  | tup l =>
    obtain ⟨a, vs, rfl, q, wk⟩ := walk_T rh1 rv (l := l) rfl
    cases ru
    obtain ⟨its, rv', p, hz⟩ := I1.tuple q
    refine PySem.wpAny_pyIter_tuple (show s1.heap.IsTuple a its.toArray from p) ?_
    refine ⟨s1.heap.objs.size, [s1.heap.objs.size], _, _, H1, rfl, I1.kept (t' := s1.toks) fun b o e => Heap.get?_push_of_some _ e, turn_tuple a _, ⟨_, Heap.get?_push_size _ rfl, rfl, rfl⟩, fun b hb => ?_, o1.now rh1 wk⟩
    have e : b = s1.heap.objs.size := by simpa using hb
    subst e
    exact I1.fpOk (Nat.le_refl _) (I1.hok.fresh (Nat.le_refl _))
  | lst l => exact lst rfl o1
  | klst l => exact lst rfl o1
  | ref k =>
    simp only at o1
    split at o1
    · rename_i l hl
      exact lst hl o1
    · exact o1.elim
  | _ => exact o1.elim
/-! range -/
def rangeL (lo : Int) (n : Nat) : List AV := (List.range n).map fun i : Nat => AV.int (lo + (i : Int))
theorem walk_R {ρ F} (lo : Int) (n : Nat) : WalkOk X (Itr lo n) ρ F (rangeL lo n) okAll := by
  refine ⟨fun ρ' F' h' H' i y pr fz rh' ok ey => ?_, fun ρ' F' h' H' pr fz rh' ok => by simp [rangeL, Itr]⟩
  unfold rangeL at ey
  rw [List.getElem?_map] at ey
  by_cases hi : i < n
  · rw [List.getElem?_range hi] at ey
    simp at ey
    subst ey
    refine ⟨hi, fun v H'' ⟨eH, ev⟩ => ?_⟩
    subst eH
    exact ⟨ρ', F', Ext.refl _ _ _, rh', by rw [ev]; simp [RV]⟩
  · rw [List.getElem?_eq_none (by simpa using hi)] at ey
    simp at ey
def b62 (i : Int) : Bool := decide (-(2 ^ 62) ≤ i) && decide (i < 2 ^ 62)
def itRng1 (f : AM) : IM := fun sl h => (f sl h).bind fun xs h1 => match xs with
  | [.int j] => if b62 j then .ok (rangeL 0 j.toNat, okAll) h1 else .stuck
  | _ => .stuck
def itRng2 (f : AM) : IM := fun sl h => (f sl h).bind fun xs h1 => match xs with
  | [.int i, .int j] => if b62 i && b62 j then .ok (rangeL i (j - i).toNat, okAll) h1 else .stuck
  | _ => .stuck
theorem b62_iff {i : Int} (h : b62 i = true) : -(2 ^ 62) ≤ i ∧ i < 2 ^ 62 := by
  unfold b62 at h
  rw [Bool.and_eq_true] at h
  exact ⟨of_decide_eq_true h.1, of_decide_eq_true h.2⟩
theorem riRng1 (hm : X.mg "range" = none) (ha : PA X [a] (lA X W fa)) (hg : Gl X "range" := by rfl) (hs : starEach [a] X.env = [(false, eval a X.env)] := by rfl) : PI X tg (.Call (.Name "range" p) [a] [] pos) (lI X W (itRng1 fa)) := by
  refine pi_imp (pi_range1 hg hm ha hs) fun σ H R ⟨ρ, F, sl, h, rs, rh, o⟩ => ⟨ρ, F, sl, h, rs, rh, Out.bind (R := RVs X.K X.mg) o fun xs h1 ρ1 F1 H1 vs ex rh1 rv o1 => ?_⟩
  split at o1
  · rename_i j
    obtain ⟨v, rfl, r⟩ := rv.one
    split at o1
    · rename_i hb
      exact ⟨j, by rw [r.int], (b62_iff hb).1, (b62_iff hb).2, o1.now rh1 (walk_R 0 _)⟩
    · exact o1.elim
  · exact o1.elim
theorem riRng2 (hm : X.mg "range" = none) (ha : PA X [a, b] (lA X W fa)) (hg : Gl X "range" := by rfl) (hs : starEach [a, b] X.env = [(false, eval a X.env), (false, eval b X.env)] := by rfl) (hs2 : starEach [b] X.env = [(false, eval b X.env)] := by rfl) :
    PI X tg (.Call (.Name "range" p) [a, b] [] pos) (lI X W (itRng2 fa)) := by
  refine pi_imp (pi_range2 hg hm ha hs hs2) fun σ H R ⟨ρ, F, sl, h, rs, rh, o⟩ => ⟨ρ, F, sl, h, rs, rh, Out.bind (R := RVs X.K X.mg) o fun xs h1 ρ1 F1 H1 vs ex rh1 rv o1 => ?_⟩
  split at o1
  · rename_i i j
    obtain ⟨v, w, rfl, r, r2⟩ := rv.two
    split at o1
    · rename_i hb
      rw [Bool.and_eq_true] at hb
      exact ⟨i, j, by rw [r.int, r2.int], ⟨(b62_iff hb.1).1, (b62_iff hb.1).2, (b62_iff hb.2).1, (b62_iff hb.2).2⟩, o1.now rh1 (walk_R i _)⟩
    · exact o1.elim
  · exact o1.elim
/-! enumerate of a list -/
def enumL (n : Nat) : List AV → List AV
  | [] => []
  | x :: xs => .tup [.int n, x] :: enumL (n + 1) xs
theorem enumL_len : ∀ (l : List AV) (n : Nat), (enumL n l).length = l.length
  | [], _ => rfl
  | x :: xs, n => by simp [enumL, enumL_len xs]
theorem enumL_get : ∀ (l : List AV) (n i : Nat) (y : AV), (enumL n l)[i]? = some y → ∃ x, l[i]? = some x ∧ y = .tup [.int ((n + i : Nat) : Int), x]
  | [], n, i, y, e => by simp [enumL] at e
  | x :: xs, n, 0, y, e => by simp [enumL] at e; exact ⟨x, by simp, by rw [← e]; simp⟩
  | x :: xs, n, i + 1, y, e => by
    simp only [enumL, List.getElem?_cons_succ] at e
    obtain ⟨z, e1, e2⟩ := enumL_get xs (n + 1) i y e
    exact ⟨z, by simpa using e1, by rw [e2]; congr 3; omega⟩
def itEnum (f : AM) : IM := fun sl h => (f sl h).bind fun xs h1 => match xs with
  | [x] => match itemsL h1 x with
    | some l => .ok (enumL 0 l, okL x l) h1
    | none => .stuck
  | _ => .stuck
theorem riEnum {elts : List Expr} {kk : Nat} {tpos : Pos} (hm : X.mg "enumerate" = none) (ha : PA X [e] (lA X W fa)) (hg : Gl X "enumerate" := by rfl) (hs : starEach [e] X.env = [(false, eval e X.env)] := by rfl) :
    PI X (.Tuple elts kk tpos) (.Call (.Name "enumerate" p) [e] [] pos) (lI X W (itEnum fa)) := by
  refine pi_imp (pi_enum hg hm ha hs) fun σ H R ⟨ρ, F, sl, h, rs, rh, o⟩ => ⟨ρ, F, sl, h, rs, rh, Out.bind (R := RVs X.K X.mg) o fun xs h1 ρ1 F1 H1 vs ex rh1 rv o1 => ?_⟩
  split at o1
  · rename_i x
    obtain ⟨v, rfl, r⟩ := rv.one
    split at o1
    · rename_i l hl
      obtain ⟨a, ws, rfl, q, wk⟩ := walk_L rh1 r hl
      refine ⟨a, ws, rfl, q, o1.now rh1 ⟨fun ρ' F' h' H' i y pr fz rh' ok ey => ?_, fun ρ' F' h' H' pr fz rh' ok => ?_⟩⟩
      · obtain ⟨z, e1, rfl⟩ := enumL_get l 0 i y ey
        obtain ⟨go, yl⟩ := wk.go ρ' F' h' H' i z pr fz rh' ok e1
        refine ⟨go, fun v H'' ⟨T, u, ev, hT, eH, hu⟩ => ?_⟩
        subst eH; subst ev
        obtain ⟨ρ2, F2, e2, rh2, rv2⟩ := yl u H' ⟨rfl, hu⟩
        have rvs : RVs X.K X.mg ρ2 F2 [.int (i : Nat), z] [.int (i : Nat), u] := .cons (by simp [RV]) (.cons rv2 .nil)
        refine ⟨ρ2, upd F2 T (.tup [.int (i : Nat), u]), e2.trans (ext_frz rh2 hT), rh_frz rh2 hT, ?_⟩
        simp only [RV]
        have := rvs.ext (ext_frz (o := .tup [.int (i : Nat), u]) rh2 hT)
        exact ⟨T, _, rfl, .inl (.inl upd_same), by simpa using this⟩
      · show (Ite X.K a).stop _ _
        rw [enumL_len]
        exact wk.stop ρ' F' h' H' pr fz rh' ok
    · exact o1.elim
  · exact o1.elim
end
end AVL

namespace AVL
open PySem PySem.Spec L2
def wipeA (sl : SL) : List Nat → SL
  | [] => sl
  | v :: vs => (wipeA sl vs).set v none
def Res.nx {α : Type} : Res α → Res α
  | .exc _ _ _ _ => .stuck
  | r => r
def compL (ok : AH → Bool) (g : GM) (t : TM) (fe : EM) (slw : SL) : List AV → List AV → AH → Res (List AV)
  | [], acc, h => if ok h then .ok acc h else .stuck
  | y :: r, acc, h => if ok h then match g y slw h with
    | none => .stuck
    | some (sl2, h1) => (t sl2 h1).nx.bind fun b h2 => if b then (fe sl2 h2).nx.bind fun z h3 => compL ok g t fe slw r (acc ++ [z]) h3 else compL ok g t fe slw r acc h2
    else .stuck
def eComp (nm : Bool) (it : IM) (g : GM) (t : TM) (fe : EM) (vs : List Nat) : EM := fun sl h => (it sl h).bind fun p h1 =>
  if lineOk p.1 then (compL p.2 g t fe (wipeA sl vs) p.1 [] h1).bind fun acc h2 => mkL nm acc h2 else .stuck
def tTrue : TM := fun _ h => .ok true h
section
variable {K : PySem.W.Frag} {mg : Str → Option Value} {ρ ρ1 : List Addr} {F H F1 H1 : Hp} {h : AH}
theorem RSl.wipe {sl : SL} {σ : L2.St} (rs : RSl K mg ρ F sl σ) : ∀ vs : List Nat, RSl K mg ρ F (wipeA sl vs) (L2.wipe σ vs)
  | [] => rs
  | v :: vs => by
    have ih := RSl.wipe rs vs
    unfold wipeA L2.wipe
    refine ⟨by simpa using ih.1, fun i x e => ?_⟩
    by_cases hi : v = i
    · subst hi
      by_cases hl : v < (wipeA sl vs).length
      · rw [List.getElem?_set_self hl] at e; cases e
      · rw [List.getElem?_eq_none (by simpa using hl)] at e; cases e
    · rw [List.getElem?_set_ne hi] at e ⊢
      exact ih.2 i x e
/-- an object beside is written -/
theorem rh_off {D : Addr} {o : HO} (rh : RH K mg ρ F h H) (hD : D ∉ ρ) (hF : F D = none) (hS : Soft H D) : RH K mg ρ F h (upd H D o) where
  len := rh.len
  tab := tabs_upd rh.tab hS
  ntb := rh.ntb
  nd := rh.nd
  sub := fun b u e => by rw [upd_ne (fun z => by rw [z, hF] at e; cases e)]; exact rh.sub b u e
  sep := rh.sep
  old := rh.old
  cell := fun n c e b hb => by
    obtain ⟨u, e1, r⟩ := rh.cell n c e b hb
    exact ⟨u, by rw [upd_ne (fun z => by subst z; exact hD (List.mem_of_getElem? hb))]; exact e1, r⟩
theorem ext_off {D : Addr} {o : HO} (e : Ext ρ F H ρ1 F1 H1) (hD : H D = none) : Ext ρ F H ρ1 F1 (upd H1 D o) where
  pre := e.pre
  fz := e.fz
  keep := fun a u q hn ht => by rw [upd_ne (ne_of_none q hD)]; exact e.keep a u q hn ht
  new := e.new
  fnew := e.fnew
/-- what is beside stays beside -/
theorem Ext.off {D : Addr} {o : HO} (e : Ext ρ F H ρ1 F1 H1) (hD : D ∉ ρ) (hF : F D = Option.none) (hH : H D = some o) (nt : ∀ ps, o ≠ .tbl ps) : D ∉ ρ1 ∧ F1 D = Option.none ∧ H1 D = some o := by
  refine ⟨fun z => ?_, ?_, e.keep D o hH hD nt⟩
  · rcases e.new D z with q | q
    · exact hD q
    · obtain ⟨ps, r⟩ := q _ hH
      exact nt ps r
  · cases q : F1 D with
    | none => rfl
    | some u =>
      rcases e.fnew D u q with z | z | z
      · rw [hF] at z; cases z
      · obtain ⟨ps, r⟩ := z _ hH
        exact absurd r (nt ps)
      · exact absurd z hD
theorem out_mkL_at {nm : Bool} {l : List AV} {vs : List V} {Q : VK} {E : XK} {D : Addr} (o : Out K mg (RV K mg) ρ F H (mkL nm l h) Q E) (e : Ext ρ F H ρ1 F1 H1) (rh : RH K mg ρ1 F1 h H1) (rv : RVs K mg ρ1 F1 l vs)
    (hD : D ∉ ρ1) (hF : F1 D = none) (hH : H1 D = some (.lst vs)) (h0 : H D = none) : Q (.ref D) H1 := by
  have fzF : ∀ a o, F1 a = some o → upd F1 D (.lst vs) a = some o := fun a o q => by rw [upd_ne (fun z => by rw [z, hF] at q; cases q)]; exact q
  cases nm with
  | false =>
    refine o ρ1 (upd F1 D (.lst vs)) H1 _ ⟨e.pre, fun a o q => fzF a o (e.fz a o q), e.keep, e.new, fun a u q => ?_⟩ ⟨rh.len, rh.tab, fun a ps q => ?_, rh.nd, fun a u q => ?_, fun n c ec hl a ea => ?_, rh.old, fun n c ec a ea => ?_⟩ ?_
    · by_cases ha : a = D
      · exact .inr (.inl (by rw [ha]; exact gone_of h0))
      · rw [upd_ne ha] at q; exact e.fnew a u q
    · by_cases ha : a = D
      · rw [ha, upd_same] at q; cases q
      · rw [upd_ne ha] at q; exact rh.ntb a ps q
    · by_cases ha : a = D
      · rw [ha, upd_same] at q; cases q; rw [ha]; exact hH
      · rw [upd_ne ha] at q; exact rh.sub a u q
    · rw [upd_ne (fun z => by subst z; exact hD (List.mem_of_getElem? ea))]; exact rh.sep n c ec hl a ea
    · obtain ⟨u, e1, r⟩ := rh.cell n c ec a ea
      exact ⟨u, e1, by
        cases c with
        | lst l => obtain ⟨ws, a, b⟩ := r; exact ⟨ws, a, RVs.mono fzF (fun _ _ z => z) _ _ b⟩
        | dct ks l => obtain ⟨ws, a, k, b⟩ := r; exact ⟨ws, a, k, RVs.mono fzF (fun _ _ z => z) _ _ b⟩
        | ins c ks l => obtain ⟨C, dx, fs, a, m, k, b⟩ := r; exact ⟨C, dx, fs, a, m, k, RVs.mono fzF (fun _ _ z => z) _ _ b⟩
        | dead => exact r⟩
    · simp only [RV]
      exact ⟨D, vs, rfl, upd_same, RVs.mono fzF (fun _ _ z => z) _ _ rv⟩
  | true =>
    have pp : ∀ (n : Nat) (a : Addr), ρ1[n]? = some a → (ρ1 ++ [D])[n]? = some a := fun n a q => by rw [List.getElem?_append_left (List.getElem?_eq_some_iff.mp q).1]; exact q
    have rcm : ∀ {c : Cell} {u : HO}, RC K mg ρ1 F1 c u → RC K mg (ρ1 ++ [D]) F1 c u := fun {c u} r => by
      cases c with
      | lst l => obtain ⟨ws, a, b⟩ := r; exact ⟨ws, a, RVs.mono (fun _ _ z => z) pp _ _ b⟩
      | dct ks l => obtain ⟨ws, a, k, b⟩ := r; exact ⟨ws, a, k, RVs.mono (fun _ _ z => z) pp _ _ b⟩
      | ins c ks l => obtain ⟨C, dx, fs, a, m, k, b⟩ := r; exact ⟨C, dx, fs, a, m, k, RVs.mono (fun _ _ z => z) pp _ _ b⟩
      | dead => exact r
    have last : ∀ {n : Nat} {c : Cell}, (h ++ [Cell.lst l])[n]? = some c → (n < h.length ∧ h[n]? = some c) ∨ (n = h.length ∧ c = .lst l) := fun {n c} q => by
      by_cases hl : n < h.length
      · rw [List.getElem?_append_left hl] at q; exact .inl ⟨hl, q⟩
      · have hn2 : n = h.length := by
          have := (List.getElem?_eq_some_iff.mp q).1
          simp at this; omega
        subst hn2
        exact .inr ⟨rfl, by simpa using q.symm⟩
    have lastρ : ∀ {a : Addr}, (ρ1 ++ [D])[h.length]? = some a → a = D := fun {a} q => by rw [← rh.len] at q; simpa using q.symm
    refine o (ρ1 ++ [D]) F1 H1 _ ⟨?_, e.fz, e.keep, fun a ha => ?_, e.fnew⟩ ⟨by simp [rh.len], rh.tab, rh.ntb, ?_, rh.sub, fun n c ec hl a ea => ?_, fun n c ec => ?_, fun n c ec a ea => ?_⟩ ?_
    · obtain ⟨t, et⟩ := e.pre
      exact ⟨t ++ [D], by rw [et, List.append_assoc]⟩
    · rcases List.mem_append.mp ha with z | z
      · exact e.new a z
      · have : a = D := by simpa using z
        exact .inr (by rw [this]; exact gone_of h0)
    · rw [List.nodup_append]
      exact ⟨rh.nd, by simp, fun x hx y hy z => by
        have : y = D := by simpa using hy
        subst this; subst z; exact hD hx⟩
    · rcases last ec with ⟨hn, q⟩ | ⟨rfl, rfl⟩
      · rw [List.getElem?_append_left (by rw [rh.len]; exact hn)] at ea
        exact rh.sep n c q hl a ea
      · rw [lastρ ea]; exact hF
    · rcases last ec with ⟨hn, q⟩ | ⟨rfl, rfl⟩
      · exact rh.old n c q
      · have := rv.bnd
        rw [rh.len] at this
        exact bndC_mono (Nat.le_succ _) (.lst l) this
    · rcases last ec with ⟨hn, q⟩ | ⟨rfl, rfl⟩
      · rw [List.getElem?_append_left (by rw [rh.len]; exact hn)] at ea
        obtain ⟨u, e1, r⟩ := rh.cell n c q a ea
        exact ⟨u, e1, rcm r⟩
      · rw [lastρ ea]; exact ⟨_, hH, vs, rfl, RVs.mono (fun _ _ z => z) pp _ _ rv⟩
    · simp only [RV]
      exact ⟨D, rfl, by rw [← rh.len]; simp⟩
end
section
variable {X : Cx} {W : WX} {it : IM} {gm : GM} {ft : TM} {fe : EM} {elt tg iter : Expr} {ifs : List Expr} {scope : Scope} {own : List (Str × Nat)} {pos : Pos}
theorem wipe_wipe {σ : L2.St} : ∀ (vs : List Nat), L2.wipe (L2.wipe σ vs) vs = L2.wipe σ vs := fun vs => by
  have key : ∀ (vs us : List Nat), (∀ i ∈ us, i ∈ vs) → L2.wipe (L2.wipe σ vs) us = L2.wipe σ vs := by
    intro vs us
    induction us with
    | nil => intro _; rfl
    | cons a as ih =>
      intro h
      show (L2.wipe (L2.wipe σ vs) as).set a none = _
      rw [ih fun i hi => h i (List.mem_cons_of_mem _ hi)]
      have ha := h a List.mem_cons_self
      refine List.ext_getElem? fun j => ?_
      by_cases hj : a = j
      · subst hj
        have z : ∀ (vs : List Nat), a ∈ vs → ∀ (x : Option V), (L2.wipe σ vs)[a]? = some x → x = none := by
          intro vs
          induction vs with
          | nil => intro hm; simp at hm
          | cons b bs ih2 =>
            intro hm x hx
            have hx' : ((L2.wipe σ bs).set b none)[a]? = some x := hx
            by_cases hb : b = a
            · subst hb
              by_cases hl : b < (L2.wipe σ bs).length
              · rw [List.getElem?_set_self hl] at hx'; exact (Option.some.inj hx').symm
              · rw [List.getElem?_eq_none (by simpa using hl)] at hx'; cases hx'
            · rw [List.getElem?_set_ne hb] at hx'
              rcases List.mem_cons.mp hm with q | q
              · exact absurd q.symm hb
              · exact ih2 q x hx'
        by_cases hl : a < (L2.wipe σ vs).length
        · rw [List.getElem?_set_self hl]
          have q : (L2.wipe σ vs)[a]? = some (L2.wipe σ vs)[a] := by simp [hl]
          rw [q, z vs ha _ q]
        · rw [List.getElem?_eq_none (by simpa using hl), List.getElem?_eq_none (by simpa using hl)]
      · rw [List.getElem?_set_ne hj]
  exact key vs vs fun _ h => h
abbrev W0 : WX := fun _ _ _ _ => False
structure GOk (X : Cx) (g : TG) (gm : GM) (vs : List Nat) : Prop where
  run : ∀ ρ F h H x v (sl : SL) (σ : L2.St) sl2 h2 (Q : L2.St → Hp → Prop), RV X.K X.mg ρ F x v → RSl X.K X.mg ρ F sl σ → RH X.K X.mg ρ F h H → gm x sl h = some (sl2, h2) → (h2 = h → ∀ σ2, RSl X.K X.mg ρ F sl2 σ2 → L2.wipe σ2 vs = L2.wipe σ vs → Q σ2 H) → g v σ H Q
theorem wipe_set {σ : L2.St} {v : Option V} : ∀ {vs : List Nat} {i : Nat}, i ∈ vs → L2.wipe (σ.set i v) vs = L2.wipe σ vs
  | [], i, h => by simp at h
  | w :: ws, i, h => by
    unfold L2.wipe
    by_cases hi : i ∈ ws
    · rw [wipe_set hi]
    · have hw : i = w := by
        rcases List.mem_cons.mp h with z | z
        · exact z
        · exact absurd z hi
      subst hw
      have : ∀ (ws : List Nat), i ∉ ws → L2.wipe (σ.set i v) ws = (L2.wipe σ ws).set i v := fun ws => by
        induction ws with
        | nil => intro _; rfl
        | cons a as ih =>
          intro hn
          unfold L2.wipe
          rw [ih (fun z => hn (List.mem_cons_of_mem _ z))]
          have ne : i ≠ a := fun z => hn (by rw [z]; exact List.mem_cons_self)
          rw [List.set_comm _ _ ne]
      rw [this ws hi, List.set_set]
theorem gokName {i : Nat} {vs : List Nat} (hi : i ∈ vs) : GOk X (L2.gName i) (AVL.gName i) vs := ⟨fun ρ F h H x v sl σ sl2 h2 Q rv rs rh e q => by
  simp only [AVL.gName, Option.some.injEq, Prod.mk.injEq] at e
  obtain ⟨e1, e2⟩ := e
  subst e1
  exact q e2.symm _ (rs.set i rv) (wipe_set hi)⟩
/-- several names of a tuple -/
structure GsOk (X : Cx) (g : TGs) (gm : GsM) (vs : List Nat) : Prop where
  run : ∀ ρ F h H x v (sl : SL) (σ : L2.St) sl2 h2 (Q : L2.St → Hp → Prop), RVs X.K X.mg ρ F x v → RSl X.K X.mg ρ F sl σ → RH X.K X.mg ρ F h H → gm x sl h = some (sl2, h2) → (h2 = h → ∀ σ2, RSl X.K X.mg ρ F sl2 σ2 → L2.wipe σ2 vs = L2.wipe σ vs → Q σ2 H) → g v σ H Q
theorem gokNil {vs : List Nat} : GsOk X L2.gNil AVL.gsNil vs := ⟨fun ρ F h H x v sl σ sl2 h2 Q rv rs rh e q => by
  cases x with
  | nil =>
    simp only [AVL.gsNil, Option.some.injEq, Prod.mk.injEq] at e
    obtain ⟨e1, e2⟩ := e
    subst e1
    exact ⟨by simpa [RVs] using rv, q e2.symm σ rs rfl⟩
  | cons a b => simp [AVL.gsNil] at e⟩
theorem gokCons {g : TG} {gs : TGs} {m : GM} {ms : GsM} {vs : List Nat} (h1 : GOk X g m vs) (h2 : GsOk X gs ms vs) : GsOk X (L2.gCons g gs) (AVL.gsCons m ms) vs := ⟨fun ρ F h H x v sl σ sl2 hh2 Q rv rs rh e q => by
  cases x with
  | nil => simp [AVL.gsCons] at e
  | cons a b =>
    simp only [RVs] at rv
    obtain ⟨w, r, ev, ra, rb⟩ := rv
    simp only [AVL.gsCons] at e
    cases q1 : m a sl h with
    | none => rw [q1] at e; cases e
    | some p =>
      obtain ⟨sl1, hh1⟩ := p
      rw [q1] at e
      refine ⟨w, r, ev, h1.run ρ F h H a w sl σ sl1 hh1 _ ra rs rh q1 fun eh σ1 rs1 w1 => ?_⟩
      subst eh
      exact h2.run ρ F _ H b r sl1 σ1 sl2 hh2 Q rb rs1 rh e fun eh σ2 rs2 w2 => q eh σ2 rs2 (w2.trans w1)⟩
theorem gokTup {gs : TGs} {ms : GsM} {vs : List Nat} {n : Nat} (h2 : GsOk X gs ms vs) : GOk X (L2.gTup X.K n gs) (AVL.gTup n ms) vs := ⟨fun ρ F h H x v sl σ sl2 hh2 Q rv rs rh e q => by
  simp only [AVL.gTup] at e
  split at e
  · rename_i l el
    split at e
    · rename_i hl
      obtain ⟨a, ws, ev, q', r⟩ := items_T rh rv el
      exact ⟨a, ws, ev, q', by rw [← r.length]; exact hl, h2.run ρ F h H l ws sl σ sl2 hh2 Q r rs rh e q⟩
    · cases e
  · cases e⟩
theorem compL_nil {ok : AH → Bool} {slw : SL} {acc : List AV} {h : AH} : compL ok gm ft fe slw [] acc h = if ok h then .ok acc h else .stuck := rfl
theorem compL_cons {ok : AH → Bool} {slw : SL} {acc r : List AV} {y : AV} {h : AH} : compL ok gm ft fe slw (y :: r) acc h = if ok h then match gm y slw h with
    | none => .stuck
    | some (sl2, h1) => (ft sl2 h1).nx.bind fun b h2 => if b then (fe sl2 h2).nx.bind fun z h3 => compL ok gm ft fe slw r (acc ++ [z]) h3 else compL ok gm ft fe slw r acc h2
    else .stuck := rfl
theorem comp_in {g : TG} {nm : Bool} {σ : L2.St} {H : Hp} {Q : VK} (hg : GOk X g gm (own.map (·.2))) (o : lE X W (eComp nm it gm ft fe (own.map (·.2))) σ H Q) :
    tLc (lI X W it) g (lT X W0 ft) (lE X W0 fe) (own.map (·.2)) σ H Q := by
  generalize own.map (·.2) = vs at *
  obtain ⟨ρ0, F0, sl, h0, rs0, rh0, o⟩ := o
  refine ⟨ρ0, F0, sl, h0, rs0, rh0, Out.bind (R := RI X) o fun p h1 ρ F H1 J ex rh wk o1 => ?_⟩
  obtain ⟨l, ok⟩ := p
  split at o1
  case isFalse => exact o1.elim
  rename_i hline
  have hll : l.length ≤ sizeLine := of_decide_eq_true hline
  generalize hr0 : compL ok gm ft fe (wipeA sl vs) l [] h1 = r0 at o1
  intro D hD
  have hDρ : D ∉ ρ := rh.notin hD
  have hDF : F D = none := rh.Fnone hD
  have rsw : RSl X.K X.mg ρ F (wipeA sl vs) (L2.wipe σ vs) := (rs0.ext ex).wipe vs
  refine ⟨fun i m H' => m = l.length - i ∧ i ≤ l.length ∧ ∃ ρ' F' h' acc accV, Ext ρ F H1 ρ' F' H' ∧ RH X.K X.mg ρ' F' h' H' ∧ D ∉ ρ' ∧ F' D = none ∧ H' D = some (.lst accV) ∧ RVs X.K X.mg ρ' F' acc accV ∧ acc.length ≤ i ∧
      compL ok gm ft fe (wipeA sl vs) (l.drop i) acc h' = r0,
    ⟨l.length, by simp, Nat.zero_le _, ρ, F, h1, [], [], ext_off (Ext.refl _ _ _) hD, rh_off rh hDρ hDF (soft_none hD), hDρ, hDF, upd_same, .nil, Nat.le_refl _, by rw [List.drop_zero]; exact hr0⟩, ?_⟩
  rintro i m H2 ⟨rfl, hi, ρ1, F1, h2, acc, accV, e1, rh1, d1, d2, d3, racc, hacc, eq⟩
  by_cases hlt : i < l.length
  · rw [List.drop_eq_getElem_cons hlt] at eq
    have n1 : r0 ≠ .stuck := fun z => by rw [z] at o1; exact o1
    rw [compL_cons] at eq
    split at eq
    case isFalse => exact absurd eq.symm n1
    rename_i hok
    obtain ⟨hgo, hy⟩ := wk.go ρ1 F1 h2 H2 i l[i] e1.pre e1.fz rh1 hok (by simp [hlt])
    cases q : gm l[i] (wipeA sl vs) h2 with
    | none => rw [q] at eq; exact absurd eq.symm n1
    | some pp =>
      obtain ⟨sl3, h3⟩ := pp
      rw [q] at eq
      refine .inr ⟨hgo, fun H' => i + 1 ≤ l.length ∧ ∃ ρ' F' h' acc accV, Ext ρ F H1 ρ' F' H' ∧ RH X.K X.mg ρ' F' h' H' ∧ D ∉ ρ' ∧ F' D = none ∧ H' D = some (.lst accV) ∧ RVs X.K X.mg ρ' F' acc accV ∧ acc.length ≤ i + 1 ∧
        compL ok gm ft fe (wipeA sl vs) (l.drop (i + 1)) acc h' = r0, fun H' hN => ⟨l.length - (i + 1), by omega, rfl, hN⟩, fun v H'' yl => ?_⟩
      obtain ⟨ρ2, F2, e2, rh2, rv2⟩ := hy v H'' yl
      obtain ⟨d1', d2', d3'⟩ := e2.off d1 d2 d3 fun ps => by simp
      refine hg.run ρ2 F2 h2 H'' l[i] v (wipeA sl vs) (L2.wipe σ vs) sl3 h3 _ rv2 ((rsw.ext e1).ext e2) rh2 q fun eh σ2 rs2 hw => ⟨?_, ?_⟩
      · exact hw.trans (wipe_wipe vs)
      · subst eh
        refine ⟨ρ2, F2, sl3, h3, rs2, rh2, ?_⟩
        cases q2 : ft sl3 h3 with
        | exc _ _ _ _ => simp only [q2, Res.nx, Res.bind] at eq; exact absurd eq.symm n1
        | stuck => simp only [q2, Res.nx, Res.bind] at eq; exact absurd eq.symm n1
        | ok b h4 =>
          simp only [q2, Res.nx, Res.bind] at eq
          intro ρ3 F3 H3 b' e3 rh3 eb
          cases eb
          obtain ⟨d1'', d2'', d3''⟩ := e3.off d1' d2' d3' fun ps => by simp
          cases b with
          | false =>
            refine iteF ⟨hlt, ρ3, F3, h4, acc, accV, e1.trans (e2.trans e3), rh3, d1'', d2'', d3'', (racc.ext e2).ext e3, by omega, by simpa using eq⟩
          | true =>
            refine iteT ⟨ρ3, F3, sl3, h4, rs2.ext e3, rh3, ?_⟩
            simp only [if_true] at eq
            cases q3 : fe sl3 h4 with
            | exc _ _ _ _ => simp only [q3, Res.nx, Res.bind] at eq; exact absurd eq.symm n1
            | stuck => simp only [q3, Res.nx, Res.bind] at eq; exact absurd eq.symm n1
            | ok z h5 =>
              simp only [q3, Res.nx, Res.bind] at eq
              intro ρ4 F4 H4 y e4 rh4 ry
              obtain ⟨g1, g2, g3⟩ := e4.off d1'' d2'' d3'' fun ps => by simp
              have racc4 := ((racc.ext e2).ext e3).ext e4
              refine ⟨accV, g3, by rw [← racc.length]; omega, hlt, ρ4, F4, h5, acc ++ [z], accV ++ [y], ext_off (e1.trans (e2.trans (e3.trans e4))) hD, rh_off rh4 g1 g2 (soft_lst g3), g1, g2, upd_same, racc4.append (.cons ry .nil), by simp; omega, eq⟩
  · have e : i = l.length := by omega
    subst e
    rw [List.drop_length] at eq
    rw [compL_nil] at eq
    split at eq
    · rename_i hok
      refine .inl ⟨wk.stop ρ1 F1 h2 H2 e1.pre e1.fz rh1 hok, ?_⟩
      rw [← eq] at o1
      exact out_mkL_at (show Out X.K X.mg (RV X.K X.mg) ρ F H1 (mkL nm acc h2) Q _ from o1) e1 rh1 racc d1 d2 d3 hD
    · rw [← eq] at o1; exact o1.elim
/-- [elt for tg in iter if ..] -/
theorem rComp {g : TG} {nm : Bool} (hN : X.N.Nodup) (hi : PI X tg iter (lI X W it)) (ok : BlkOk X.N X.env.scope scope own) (hgo : GOk X g gm (own.map (·.2)))
    (hg : ∀ (s : Shared) (H : Hp) (C : Addr) (cl : List (Str × Addr)) (fp : List Addr), PG (X.blk s H scope (PySem.compEnvC scope cl C X.env) fp) tg g)
    (ht : ∀ (s : Shared) (H : Hp) (C : Addr) (cl : List (Str × Addr)) (fp : List Addr), PTs (X.blk s H scope (PySem.compEnvC scope cl C X.env) fp) ifs (lT (X.blk s H scope (PySem.compEnvC scope cl C X.env) fp) W0 ft))
    (he : ∀ (s : Shared) (H : Hp) (C : Addr) (cl : List (Str × Addr)) (fp : List Addr), PE (X.blk s H scope (PySem.compEnvC scope cl C X.env) fp) elt (lE (X.blk s H scope (PySem.compEnvC scope cl C X.env) fp) W0 fe))
    (hc : X.calm = true := by rfl) (hs : ∀ x, foldedSetIterable iter X.env x = pure x := by intro _; rfl) : PE X (.ListComp elt [⟨tg, iter, ifs, 0⟩] scope pos) (lE X W (eComp nm it gm ft fe (own.map (·.2)))) :=
  pe_imp (pe_lc (tt := lT X W0 ft) (te := lE X W0 fe) hc hN hi ok hg (fun s H C cl fp => ht s H C cl fp) (fun s H C cl fp => he s H C cl fp) hs) fun σ H Q o => comp_in hgo o
theorem rsSetComp {g : TG} {nm : Bool} {i : Nat} {y : Str} {py spos : Pos} (hN : X.N.Nodup) (hi : PI X tg iter (lI X W it)) (ok : BlkOk X.N X.env.scope scope own) (hgo : GOk X g gm (own.map (·.2)))
    (hg : ∀ (s : Shared) (H : Hp) (C : Addr) (cl : List (Str × Addr)) (fp : List Addr), PG (X.blk s H scope (PySem.compEnvC scope cl C X.env) fp) tg g)
    (ht : ∀ (s : Shared) (H : Hp) (C : Addr) (cl : List (Str × Addr)) (fp : List Addr), PTs (X.blk s H scope (PySem.compEnvC scope cl C X.env) fp) ifs (lT (X.blk s H scope (PySem.compEnvC scope cl C X.env) fp) W0 ft))
    (he : ∀ (s : Shared) (H : Hp) (C : Addr) (cl : List (Str × Addr)) (fp : List Addr), PE (X.blk s H scope (PySem.compEnvC scope cl C X.env) fp) elt (lE (X.blk s H scope (PySem.compEnvC scope cl C X.env) fp) W0 fe))
    (hc : X.calm = true := by rfl) (hy : X.N[i]? = some y := by rfl) (hyl : X.env.scope.names.lookup y = some .local := by rfl)
    (hsw : swapsWith (.ListComp elt [⟨tg, iter, ifs, 0⟩] scope pos) (some (.Name y py)) spos.line X.env = pure true := by exact sw_true rfl rfl rfl (by decide +kernel)) (hs : ∀ x, foldedSetIterable iter X.env x = pure x := by intro _; rfl) :
    PS X (.Assign [.Name y py] (.ListComp elt [⟨tg, iter, ifs, 0⟩] scope pos) spos) (lS X W (sAsg (eComp nm it gm ft fe (own.map (·.2))) (AVL.gName i))) := by
  refine ps_imp (ps_setLc (tt := lT X W0 ft) (te := lE X W0 fe) hc hN hy hyl hsw hi ok hg (fun s H C cl fp => ht s H C cl fp) (fun s H C cl fp => he s H C cl fp) hs) fun D σ H ⟨ρ, F, sl, h, rs, rh, o⟩ => ?_
  refine comp_in hgo ⟨ρ, F, sl, h, rs, rh, Out.bindS (R := RV X.K X.mg) o rs fun x h1 ρ1 F1 H1 v ex rh1 rv o1 => ?_⟩
  exact o1 ρ1 F1 H1 _ (Ext.refl _ _ _) rh1 ((rs.ext ex).set i rv)
theorem rtsNil : PTs X [] (lT X W tTrue) := ⟨fun pins s σ H Q I ⟨ρ, F, sl, h, rs, rh, o⟩ => pts_nil.run pins s σ H Q I (Out.now (R := RT) o rh rfl)⟩
theorem rtsOne {c : Expr} (h : PT X c (lT X W ft)) : PTs X [c] (lT X W ft) := pts_one h
end
end AVL

namespace AVL
open PySem PySem.Spec L2
/-! ### own exceptions, one or two fields -/
def spX1 (C : Addr) (f : Str) : Sp := fun vs H Q _ => ∃ a v, vs = [.ref a, v] ∧ H a = some (exo a C none) ∧ ∀ d, H d = none → d ≠ a → Q .non (upd (upd H d (exd d [(f, v)])) a (exo a C (some d)))
def spX2 (C : Addr) (f g : Str) : Sp := fun vs H Q _ => ∃ a v w, vs = [.ref a, v, w] ∧ H a = some (exo a C none) ∧ ∀ d, H d = none → d ≠ a → Q .non (upd (upd (upd H d (exd d [(f, v)])) a (exo a C (some d))) d (exd d [(g, w), (f, v)]))
section
variable {P : Program} {w : World} {K : PySem.W.Frag} {mg : Str → Option Value} {base : Heap} {n qual f g s p q : Str} {params : Arguments} {body : List Stmt} {scope : Scope} {fI C : Addr} {fd : FuncData} {p1 p2 p3 p4 p5 p6 p7 p8 : Pos}
theorem exc1_ok (F : FunD K n qual params body scope [] [] fI fd) (S : FnScope [s, p] [s, p] scope) (hb : body = [.Assign [.Attribute (.Name s p1) f p2] (.Name p p3) p4]) (T : OexC K C) (hno : PySem.W.findIn K (.ref C) f = some none)
    (v1 : Vis scope s) (v2 : Vis scope p) (d1 : (s == ("__debug__" : Str)) = false := by decide) (d2 : (s == ("__classdict__" : Str)) = false := by decide) (d3 : (p == ("__debug__" : Str)) = false := by decide) (d4 : (p == ("__classdict__" : Str)) = false := by decide) : FnOk P w K mg base CX0 1 fI fd [s, p] (spX1 C f) := by
  subst hb
  refine F.ok (k := 0) S (fun vs H Q E h => ?_) fun cdv A outer sh H vs Q E hr h => ⟨_, pss_one (ps_ost (pe_var (i := 0) rfl v1 d1 d2) (pe_var (i := 1) rfl v2 d3 d4) rfl), ?_⟩
  · obtain ⟨a, v, rfl, _⟩ := h; rfl
  · obtain ⟨a, v, rfl, h1, h2⟩ := h
    exact ⟨v, rfl, .ref a, rfl, a, C, rfl, T, hno, .inl ⟨h1, h2⟩⟩
theorem exc2_ok (F : FunD K n qual params body scope [] [] fI fd) (S : FnScope [s, p, q] [s, p, q] scope) (hb : body = [.Assign [.Attribute (.Name s p1) f p2] (.Name p p3) p4, .Assign [.Attribute (.Name s p5) g p6] (.Name q p7) p8]) (T : OexC K C) (hno : PySem.W.findIn K (.ref C) f = some none) (hno2 : PySem.W.findIn K (.ref C) g = some none)
    (v1 : Vis scope s) (v2 : Vis scope p) (v3 : Vis scope q) (d1 : (s == ("__debug__" : Str)) = false := by decide) (d2 : (s == ("__classdict__" : Str)) = false := by decide) (d3 : (p == ("__debug__" : Str)) = false := by decide) (d4 : (p == ("__classdict__" : Str)) = false := by decide) (d5 : (q == ("__debug__" : Str)) = false := by decide) (d6 : (q == ("__classdict__" : Str)) = false := by decide) : FnOk P w K mg base CX0 1 fI fd [s, p, q] (spX2 C f g) := by
  subst hb
  refine F.ok (k := 0) S (fun vs H Q E h => ?_) fun cdv A outer sh H vs Q E hr h => ⟨_, pss_cons (ps_ost (pe_var (i := 0) rfl v1 d1 d2) (pe_var (i := 1) rfl v2 d3 d4) rfl) (pss_one (ps_ost (pe_var (i := 0) rfl v1 d1 d2) (pe_var (i := 2) rfl v3 d5 d6) rfl)), ?_⟩
  · obtain ⟨a, v, w, rfl, _⟩ := h; rfl
  · obtain ⟨a, v, w, rfl, h1, h2⟩ := h
    refine ⟨v, rfl, .ref a, rfl, a, C, rfl, T, hno, .inl ⟨h1, fun d hd ne => ?_⟩⟩
    exact ⟨w, rfl, .ref a, rfl, a, C, rfl, T, hno2, .inr ⟨d, [(f, v)], upd_same, by rw [upd_ne ne]; exact upd_same, by simp, h2 d hd ne⟩⟩
end
/-- the class x of own exceptions, its fields -/
def HasX (P : Program) (w : World) (K : PySem.W.Frag) (mg : Str → Option Value) (base : Heap) (x : Str) (fs : List Str) : Prop :=
  ∃ C fI fd, ∃ ps : List Str, mg x = some (.ref C) ∧ OexC K C ∧ PySem.W.findIn K (.ref C) "__init__" = some (some (.ref fI)) ∧ PySem.W.typeIn K (.ref fI) = some (.type "function") ∧ Binds K fd ps [] ∧
    match fs with
    | [f] => FnOk P w K mg base CX0 1 fI fd ps (spX1 C f)
    | [f, g] => FnOk P w K mg base CX0 1 fI fd ps (spX2 C f g)
    | _ => False
def sRaise (c : Str) (ks : List Str) (fa : AM) : SM := fun sl h => (fa sl h).toS sl fun xs h1 => if xs.length = ks.length then .exc c ks.reverse xs.reverse sl h1 else .stuck
section
variable {X : Cx} {W : WX} {fa : AM} {e : Expr} {es : List Expr} {x : Str} {p pos pos2 : Pos} {ks : List Str}
theorem upd_del {H : Hp} {a d : Addr} {o u v z : HO} (ha : H a = none) (hne : d ≠ a) : upd (del (upd (upd (upd H a o) d u) a v) a) d z = upd H d z := by
  funext b
  by_cases hd : b = d
  · rw [hd, upd_same, upd_same]
  · rw [upd_ne hd, upd_ne hd]
    by_cases hb : b = a
    · rw [hb, del_same, ha]
    · rw [del_ne hb, upd_ne hb, upd_ne hd, upd_ne hb]
theorem upd_del2 {H : Hp} {a d : Addr} {o u v y z : HO} (ha : H a = none) (hne : d ≠ a) : upd (del (upd (upd (upd (upd H a o) d u) a v) d y) a) d z = upd H d z := by
  funext b
  by_cases hd : b = d
  · rw [hd, upd_same, upd_same]
  · rw [upd_ne hd, upd_ne hd]
    by_cases hb : b = a
    · rw [hb, del_same, ha]
    · rw [del_ne hb, upd_ne hd, upd_ne hb, upd_ne hd, upd_ne hb]
theorem rx_new {ρ : List Addr} {F H : Hp} {h : AH} {d C : Addr} {ks : List Str} {l : List AV} {fs : List (Str × V)} {c : Str} {D : Ends} {σ : L2.St} {sl : SL} (rh : RH X.K X.mg ρ F h H) (rs : RSl X.K X.mg ρ F sl σ) (hd : H d = none) (em : X.mg c = some (.ref C)) (ek : fs.map (·.1) = ks) (r : RVs X.K X.mg ρ F l (fs.map (·.2)))
    (o : OutS X.K X.mg ρ F H (.exc c ks l sl h) D W) : W (.ref C) (some d) σ (upd H d (.xd fs)) :=
  o ρ (upd F d (.xd fs)) _ σ C (some d) (ext_frz rh hd) (rh_frz rh hd) (rs.ext (ext_frz (o := .xd fs) rh hd)) em ⟨d, fs, rfl, upd_same, ek, r.ext (ext_frz (o := .xd fs) rh hd)⟩
theorem rsRaise (G : HasX X.prog X.w X.K X.mg X.base x ks) (hr : Room 2 X.A) (tk : Takes X W) (ha : PA X (e :: es) (lA X W fa)) (hc : X.calm = true := by rfl) (hg : Gl X x := by rfl) (hdb : (x == ("__debug__" : Str)) = false := by decide)
    (he : starEach (e :: es) X.env = (false, eval e X.env) :: starEach es X.env := by rfl) (hpl : (backTo pos (starEach es X.env)).any (·.1) = false := by rfl) :
    PS X (.Raise (some (.Call (.Name x p) (e :: es) [] pos)) none pos2) (lS X W (sRaise x ks fa)) := by
  obtain ⟨C, fI, fd, ps, hm, T, iC, tI, hb, hF⟩ := G
  match ks, hF with
  | [f], hF =>
    refine ps_imp (ps_raise hc tk (pmk_oex (dvs := []) T iC tI hF hr hb .nil pass0 hg hm ha hdb he hpl)) fun D σ H ⟨ρ, F, sl, h, rs, rh, o⟩ => ?_
    refine ⟨ρ, F, sl, h, rs, rh, Out.bindS (R := RVs X.K X.mg) o rs fun xs h1 ρ1 F1 H1 vs ex rh1 rv o1 => ?_⟩
    split at o1
    case isFalse => exact o1.elim
    rename_i hl
    match xs, hl with
    | [y], _ =>
      obtain ⟨v, rfl, r⟩ := rv.one
      refine ⟨by simp, fun a hna => ⟨a, v, rfl, upd_same, fun d hd ne => ⟨rfl, d, [(f, v)], upd_same, by rw [upd_ne ne]; exact upd_same, by rw [upd_ne ne] at hd; exact hd, ?_⟩⟩⟩
      rw [upd_del hna ne]
      rw [upd_ne ne] at hd
      exact rx_new rh1 (rs.ext ex) hd hm rfl (by simpa using rv) o1
  | [f, g], hF =>
    refine ps_imp (ps_raise hc tk (pmk_oex (dvs := []) T iC tI hF hr hb .nil pass0 hg hm ha hdb he hpl)) fun D σ H ⟨ρ, F, sl, h, rs, rh, o⟩ => ?_
    refine ⟨ρ, F, sl, h, rs, rh, Out.bindS (R := RVs X.K X.mg) o rs fun xs h1 ρ1 F1 H1 vs ex rh1 rv o1 => ?_⟩
    split at o1
    case isFalse => exact o1.elim
    rename_i hl
    match xs, hl with
    | [y, z], _ =>
      obtain ⟨v, w, rfl, r, r2⟩ := rv.two
      refine ⟨by simp, fun a hna => ⟨a, v, w, rfl, upd_same, fun d hd ne => ⟨rfl, d, [(g, w), (f, v)], by rw [upd_ne (Ne.symm ne)]; exact upd_same, upd_same, by rw [upd_ne ne] at hd; exact hd, ?_⟩⟩⟩
      rw [upd_del2 hna ne]
      rw [upd_ne ne] at hd
      exact rx_new rh1 (rs.ext ex) hd hm rfl (.cons r2 (.cons r .nil)) o1
end
end AVL

namespace AVL
open PySem PySem.Spec L2
section
variable {X : Cx} {W : WX} {fa fb fc : EM} {a b c e : Expr} {x : Str} {pos : Pos} {ga : AM}
theorem rTyp {n : String} (hm : X.mg x = none) (hv : bootBuiltins x = some (.type n)) (hg : Gl X x := by rfl) (hn : x ≠ "__name__" := by decide) (hd : (x == ("__debug__" : Str)) = false := by decide) : PE X (.Name x pos) (lE X W (eC (.ty n))) :=
  rC (pe_bltn (v := .ty n) hg hm hv rfl hn hd) fun _ _ => by simp [RV]
/-- a op b op' c -/
def eChain (m m' : AV → AV → AH → Res AV) (fa fb fc : EM) : EM := fun sl h => (fa sl h).bind fun x h1 => (fb sl h1).bind fun y h2 => (m x y h2).bind fun z h3 => match z with
  | .bl k => if k then (fc sl h3).bind fun w h4 => m' y w h4 else .ok (.bl false) h3
  | _ => .stuck
theorem chain_in {m m' : AV → AV → AH → Res AV} {σ : L2.St} {H : Hp} {Q : VK} (c : Calm m) (c' : Calm m') (o : lE X W (eChain m m' fa fb fc) σ H Q) :
    tChain (fun v w H Q => ∃ ρ F x y h, RV X.K X.mg ρ F x v ∧ RV X.K X.mg ρ F y w ∧ RH X.K X.mg ρ F h H ∧ Out X.K X.mg (RV X.K X.mg) ρ F H (m x y h) Q fun _ _ _ => False)
      (fun v w H Q => ∃ ρ F x y h, RV X.K X.mg ρ F x v ∧ RV X.K X.mg ρ F y w ∧ RH X.K X.mg ρ F h H ∧ Out X.K X.mg (RV X.K X.mg) ρ F H (m' x y h) Q fun _ _ _ => False) (lE X W fa) (lE X W fb) (lE X W fc) σ H Q := by
  obtain ⟨ρ, F, sl, h, rs, rh, o⟩ := o
  refine ⟨ρ, F, sl, h, rs, rh, Out.bind (R := RV X.K X.mg) o fun x h1 ρ1 F1 H1 v e1 rh1 rv1 o1 => ?_⟩
  refine ⟨ρ1, F1, sl, h1, rs.ext e1, rh1, Out.bind (R := RV X.K X.mg) o1 fun y h2 ρ2 F2 H2 w e2 rh2 rv2 o2 => ?_⟩
  refine ⟨ρ2, F2, x, y, h2, rv1.ext e2, rv2, rh2, ?_⟩
  have oc : (m x y h2).calm := c x y h2
  cases q : m x y h2 with
  | stuck => rw [q] at o2; exact o2.elim
  | exc _ _ _ _ => rw [q] at oc; exact oc.elim
  | ok z h3 =>
    rw [q] at o2
    intro ρ3 F3 H3 v3 e3 rh3 rv3
    have o3 := Out.ext o2 e3
    simp only [Res.bind] at o3
    cases z with
    | bl k =>
      refine ⟨k, rv3.bl, ?_⟩
      cases k with
      | true => exact iteT ⟨ρ3, F3, sl, h3, ((rs.ext e1).ext e2).ext e3, rh3, Out.bind (R := RV X.K X.mg) o3 fun w' h4 ρ4 F4 H4 v4 e4 rh4 rv4 o4 => ⟨ρ4, F4, y, w', h4, (rv2.ext e3).ext e4, rv4, rh4, Out.calm o4 (c' y w' h4)⟩⟩
      | false => exact iteF (o3.now rh3 (by simp [RV]))
    | _ => exact o3.elim
theorem rChain {op op' : CmpOp} {m m' : AV → AV → AH → Res AV} (ho : OpOk X (compareOp op) m) (c1 : Calm m) (ho' : OpOk X (compareOp op') m') (c2 : Calm m') (ha : PE X a (lE X W fa)) (hb : PE X b (lE X W fb)) (hc : PE X c (lE X W fc))
    (hm : lastMarks [op, op'] [b, c] = false := by with_unfolding_all rfl) : PE X (.Compare a [op, op'] [b, c] pos) (lE X W (eChain m m' fa fb fc)) := pe_imp (pe_chain ho ho' ha hb hc hm) fun σ H Q o => chain_in c1 c2 o
theorem rtChain {op op' : CmpOp} {m m' : AV → AV → AH → Res AV} (ho : OpOk X (compareOp op) m) (c1 : Calm m) (ho' : OpOk X (compareOp op') m') (c2 : Calm m') (ha : PE X a (lE X W fa)) (hb : PE X b (lE X W fb)) (hc : PE X c (lE X W fc))
    (hm : lastMarks [op, op'] [b, c] = false := by with_unfolding_all rfl) : PT X (.Compare a [op, op'] [b, c] pos) (lT X W (tV (eChain m m' fa fb fc))) := pt_imp (pt_chain ho ho' ha hb hc hm) fun σ H Q o => by
  obtain ⟨ρ, F, sl, h, rs, rh, o⟩ := tV_val o
  exact chain_in c1 c2 ⟨ρ, F, sl, h, rs, rh, o⟩
theorem mI_calm' {c g} : Calm (mI c g) := mI_calm
/-- three names at once -/
theorem rsPar3 {i j l : Nat} {x y z : Str} {px py pz pt : Pos} {kt k2 pt2} (hN : X.N.Nodup) (ha : PA X [a, b, c] (lA X W ga)) (hc : X.calm = true := by rfl) (hi : X.N[i]? = some x := by rfl) (hj : X.N[j]? = some y := by rfl) (hl : X.N[l]? = some z := by rfl) (hij : i ≠ j := by decide) (hil : i ≠ l := by decide) (hjl : j ≠ l := by decide)
    (hx : X.env.scope.names.lookup x = some .local := by rfl) (hy : X.env.scope.names.lookup y = some .local := by rfl) (hz : X.env.scope.names.lookup z = some .local := by rfl)
    (hw : swappedStores [.Tuple [.Name x px, .Name y py, .Name z pz] kt pt] (.Tuple [a, b, c] k2 pt2) X.env = pure (some [x, y, z]) := by rfl)
    (hs : swapsWithSole [.Tuple [.Name x px, .Name y py, .Name z pz] kt pt] (.Tuple [a, b, c] k2 pt2) pos.line X.env = pure false := by rfl) :
    PS X (.Assign [.Tuple [.Name x px, .Name y py, .Name z pz] kt pt] (.Tuple [a, b, c] k2 pt2) pos) (lS X W (sPar [i, j, l] ga)) := by
  refine ps_imp (ps_par3 hc hN hi hj hl hij hil hjl hx hy hz ha hw hs) fun D σ H ⟨ρ, F, sl, h, rs, rh, o⟩ => ⟨ρ, F, sl, h, rs, rh, Out.bindS (R := RVs X.K X.mg) o rs fun xs h1 ρ1 F1 H1 vs ex rh1 rv o1 => ?_⟩
  split at o1
  · rename_i hl'
    match xs, hl' with
    | [u, w, t], _ =>
      simp only [RVs] at rv
      obtain ⟨v1, r1, e1, a1, v2, r2, e2, a2, v3, r3, e3, a3, e4⟩ := rv
      subst e4; subst e3; subst e2; subst e1
      exact ⟨v1, v2, v3, rfl, o1 _ _ _ _ (Ext.refl _ _ _) rh1 ((((rs.ext ex).set i a1).set j a2).set l a3)⟩
  · exact o1.elim
end
theorem bb_len : bootBuiltins "len" = some (.builtin "len") := by decide +kernel
theorem bb_abs : bootBuiltins "abs" = some (.builtin "abs") := by decide +kernel
theorem bb_isinstance : bootBuiltins "isinstance" = some (.builtin "isinstance") := by decide +kernel
theorem bb_all : bootBuiltins "all" = some (.builtin "all") := by decide +kernel
theorem bb_any : bootBuiltins "any" = some (.builtin "any") := by decide +kernel
theorem bb_repr : bootBuiltins "repr" = some (.builtin "repr") := by decide +kernel
theorem bb_sum : bootBuiltins "sum" = some (.builtin "sum") := by decide +kernel
theorem bb_max : bootBuiltins "max" = some (.builtin "max") := by decide +kernel
theorem bb_min : bootBuiltins "min" = some (.builtin "min") := by decide +kernel
theorem bb_sorted : bootBuiltins "sorted" = some (.builtin "sorted") := by decide +kernel
theorem bb_int : bootBuiltins "int" = some (.type "int") := by decide +kernel
theorem bb_str : bootBuiltins "str" = some (.type "str") := by decide +kernel
theorem bb_bool : bootBuiltins "bool" = some (.type "bool") := by decide +kernel
theorem bb_list : bootBuiltins "list" = some (.type "list") := by decide +kernel
theorem bb_tuple : bootBuiltins "tuple" = some (.type "tuple") := by decide +kernel
theorem bb_dict : bootBuiltins "dict" = some (.type "dict") := by decide +kernel
theorem bb_set : bootBuiltins "set" = some (.type "set") := by decide +kernel
theorem takes0 {X : Cx} : Takes X W0 := fun _ _ ⟨_, _, _, _, _, _, _, _, _, _, _, _, _, _, _, _, w⟩ => w.elim
end AVL

namespace AVL
open PySem PySem.Spec PySem.Calls L2 LamX PyProof.Rows
open PySem.W (tabObj)
/-! ### lambdas: without parameters, or with parameters that all have a default -/
def lmFd (q : Str) (pa : Arguments) (bd : Expr) (sc : Scope) (cl : List (Str × Addr)) (dV pm cdv ctv : Value) : FuncData := { PySem.W.kla_fn "<lambda>" q pa bd sc cl pm cdv ctv with defaults := dV }
def lmO (q : Str) (pa : Arguments) (bd : Expr) (sc : Scope) (cl : List (Str × Addr)) (dV pm cdv ctv : Value) : Obj := { cls := .type "function", data := .func (lmFd q pa bd sc cl dV pm cdv ctv) }
section
variable {M : Model} {A : Around} {E : Value → Shared → Prop} {s : Shared} {q : Str} {pa : Arguments} {bd : Expr} {sc : Scope} {en : Env} {cA PA' : Addr} {tb : Array Value} {po : Pos} {ln : Nat} {gm : Str → Option Value} {cl : List (Str × Addr)} {Q : Value → Shared → Prop} {dV : Value}
theorem lm_tail (e1 : closureFor sc en = pure cl) (e2 : en.globals = mainGlobals) (e3 : s.heap.Ns mainGlobals gm) (e4 : en.code = .ref cA) (e5 : PySem.W.CodeHd s.heap cA PA') (e6 : s.heap.get? PA' = some (tabObj tb)) (e7 : TriplesOk tb.toList) (e8 : mainGlobals ≠ PA') (e9 : s.heap.BuiltinsAt gm PA')
    (new : codeAmong po tb.toList = none → ∀ c' ctv g tk, Heap.ExtBut PA' s.heap g → s.heap.objs.size ≤ c' → c' < g.objs.size → g.CodeRec (.ref c') q → g.get? PA' = some (tabObj (tb ++ #[rawInt po.line, rawInt po.col, .ref c'])) →
      Q (.ref g.objs.size) { s with heap := g.push (lmO q pa bd sc cl dV ((gm "__name__").getD .none) (.ref c') ctv), toks := tk })
    (hit : ∀ cv, codeAmong po tb.toList = some cv → ∀ (ctv : Value) (g : Heap) (tk : Tok), (∀ b o, s.heap.get? b = some o → g.get? b = some o) → s.heap.objs.size ≤ g.objs.size →
      Q (.ref g.objs.size) { s with heap := g.push (lmO q pa bd sc cl dV ((gm "__name__").getD .none) cv ctv), toks := tk }) :
    wpAny M A (makeTail "<lambda>" q pa (.expr bd) sc en dV .none none po ln) Q E s := by
  obtain ⟨bm, ob, f1, f2, _, f3, f4, f5, f6, f7⟩ := e9
  unfold makeTail
  rw [e1, e2]
  refine wpAny_bind (wpAny_pure ?_)
  have kp : ∀ oT : Obj, ∀ b o, s.heap.get? b = some o → (s.heap.push oT).get? b = some o := fun oT b o z => Heap.get?_push_of_some _ z
  have sz : ∀ oT : Obj, s.heap.objs.size ≤ (s.heap.push oT).objs.size := fun oT => by rw [Heap.size_push]; omega
  cases hc : codeAmong po tb.toList with
  | none =>
    cases cl with
    | nil =>
      simp only [List.isEmpty_nil, if_true]
      refine wpAny_bind (wpAny_pure ?_)
      refine wpAny_bind ?_
      refine wpAny_functionCodeX e4 (e5.code e6 e7) (e5.tab e6) hc fun c' g tk hx hge hlt _ hrec htb _ => ?_
      have gg := e3.extBut hx e8
      refine wpAny_bind ?_
      refine wpAny_builtinsFor gg f1 f2 (hx _ _ f3 f4) f5 f6 f7 ?_
      refine wpAny_bind ?_
      refine wpAny_nsGet gg ?_
      refine wpAny_bind (wpAny_pure ?_)
      exact wpAny_newObj_type (new hc c' .none g tk hx hge hlt hrec htb.2) (by size_fits)
    | cons y ys =>
      simp only [List.isEmpty_cons, Bool.false_eq_true, if_false]
      refine wpAny_bind (wpAny_newTextTuple ?_)
      refine wpAny_bind ?_
      refine wpAny_functionCodeX e4 ((e5.keeps (kp _)).code (kp _ _ _ e6) e7) ((e5.keeps (kp _)).tab (kp _ _ _ e6)) hc fun c' g tk hx hge hlt _ hrec htb _ => ?_
      have gg := (e3.push _).extBut hx e8
      have hx2 : Heap.ExtBut PA' s.heap g := fun b o nb z => hx b o nb (kp _ _ _ z)
      have hge2 : s.heap.objs.size ≤ c' := Nat.le_trans (sz _) hge
      refine wpAny_bind ?_
      refine wpAny_builtinsFor gg f1 f2 (hx2 _ _ f3 f4) f5 f6 f7 ?_
      refine wpAny_bind ?_
      refine wpAny_nsGet gg ?_
      refine wpAny_bind (wpAny_pure ?_)
      exact wpAny_newObj_type (new hc c' _ g tk hx2 hge2 hlt hrec htb.2) (by size_fits)
  | some cv =>
    cases cl with
    | nil =>
      simp only [List.isEmpty_nil, if_true]
      refine wpAny_bind (wpAny_pure ?_)
      refine wpAny_bind ?_
      refine wpAny_functionCode_hit e4 (e5.code e6 e7) hc ?_
      refine wpAny_bind ?_
      refine wpAny_builtinsFor e3 f1 f2 f4 f5 f6 f7 ?_
      refine wpAny_bind ?_
      refine wpAny_nsGet e3 ?_
      refine wpAny_bind (wpAny_pure ?_)
      exact wpAny_newObj_type (hit cv hc .none s.heap s.toks (fun _ _ z => z) (Nat.le_refl _)) (by size_fits)
    | cons y ys =>
      simp only [List.isEmpty_cons, Bool.false_eq_true, if_false]
      refine wpAny_bind (wpAny_newTextTuple ?_)
      refine wpAny_bind ?_
      refine wpAny_functionCode_hit e4 ((e5.keeps (kp _)).code (kp _ _ _ e6) e7) hc ?_
      refine wpAny_bind ?_
      refine wpAny_builtinsFor (e3.push _) f1 f2 (kp _ _ _ f4) f5 f6 f7 ?_
      refine wpAny_bind ?_
      refine wpAny_nsGet (e3.push _) ?_
      refine wpAny_bind (wpAny_pure ?_)
      exact wpAny_newObj_type (hit cv hc _ _ s.toks (kp _) (sz _)) (by size_fits)
end
section
variable {X : Cx} {pins : List (Addr × Obj)} {σ : L2.St} {H HZ : Hp} {s s1 : Shared}
theorem lm_made {T : List (Addr × Str)} {cA PA' : Addr} {pa : Arguments} {bd : Expr} {sc : Scope} {po : Pos} {E Q : Value → Shared → Prop} {dV : Value} (I : Inv X pins σ H s) (TB : TabB X.base X.mg cA PA') (e4 : X.env.code = .ref cA)
    (hm : (PA', X.env.qual ++ "<lambda>") ∈ T) (hu : ∀ p ∈ T, p.1 = PA' → p.2 = X.env.qual ++ "<lambda>") (hT : Tabs T H) (hfree : ∀ y ∈ sc.names, y.2 = .free → ∃ c, X.env.cells.lookup y.1 = some c)
    (h : ∀ (f c' : Addr) (pm ctv : Value) (H1 : Hp) (s' : Shared), Inv X pins σ H1 s' → ExtN H H1 → Tabs T H1 → (∀ b o, b ≠ PA' → s.heap.get? b = some o → s'.heap.get? b = some o) → (∀ b, H b = none → s.heap.get? b ≠ none → H1 b = none) →
      s'.heap.get? f = some (lmO (X.env.qual ++ "<lambda>") pa bd sc (cloFrom X.env.cells sc.names []) dV pm (.ref c') ctv) → H1 f = none → f ∉ frs X.stack → H1 c' = some (CodeO c' (X.env.qual ++ "<lambda>")) → Q (.ref f) s') :
    wpAny (model X.prog X.w) X.A (makeTail "<lambda>" (X.env.qual ++ "<lambda>") pa (.expr bd) sc X.env dV .none none po po.line) Q E s := by
  obtain ⟨tb, hP, ht, ha⟩ := hT _ hm
  have eP : s.heap.get? PA' = some (tabObj tb) := I.hok PA' _ hP
  have out : ∀ f, s.heap.objs.size ≤ f → f ∉ frs X.stack := fun f hf z => by
    rcases List.mem_cons.mp (I.stkSub _ z) with e | e
    · have lt := I.lt
      rw [← e] at lt
      exact Nat.lt_irrefl _ (Nat.lt_of_lt_of_le lt hf)
    · exact I.nofs hf e
  refine lm_tail (gm := X.mg) (cA := cA) (PA' := PA') (tb := tb) (closure_ok hfree) I.ok.glob (I.mod.glob.keeps I.bk) e4 (TB.code.keeps I.bk) eP ht TB.gP (TB.bm.keeps I.bk) (fun hc c' ctv g tk hx hge hlt hrec htb => ?_) fun cv hc ctv g tk hx hsz => ?_
  · obtain ⟨c2, oc, vs, t, z2, hoc, hd, hv⟩ := hrec
    cases z2
    have hsz : s.heap.objs.size ≤ g.objs.size := Nat.le_trans hge (Nat.le_of_lt hlt)
    have nC : H c' = none := I.hok.fresh hge
    have I1 := inv_table (t' := tk) (more := #[rawInt po.line, rawInt po.col, .ref c']) (h' := g.push (lmO (X.env.qual ++ "<lambda>") pa bd sc (cloFrom X.env.cells sc.names []) dV ((X.mg "__name__").getD .none) (.ref c') ctv)) I hP
      (fun b o nb z => Heap.get?_push_of_some _ (hx b o nb z)) (Heap.get?_push_of_some _ htb) hge ⟨oc, vs, t, Heap.get?_push_of_some _ hoc, hd, hv⟩
    have hE : ExtN H (upd (upd H PA' (.tbl (tb ++ #[rawInt po.line, rawInt po.col, .ref c']))) c' (CodeO c' (X.env.qual ++ "<lambda>"))) := fun b o z n => by
      rw [upd_ne (ne_of_none z nC), upd_ne (fun y => n tb (Option.some.inj (z.symm.trans (by rw [y]; exact hP))))]
      exact z
    have nl : (tb ++ #[rawInt po.line, rawInt po.col, .ref c']).toList = tb.toList ++ [rawInt po.line, rawInt po.col, .ref c'] := by simp
    refine h g.objs.size c' ((X.mg "__name__").getD .none) ctv _ _ I1 hE (fun p hp => ?_) (fun b o nb z => Heap.get?_push_of_some _ (hx b o nb z)) (fun b z hs => ?_) (Heap.get?_push_size _ rfl) ?_ (out _ hsz) upd_same
    · by_cases hb : p.1 = PA'
      · rw [hu p hp hb, hb]
        refine ⟨_, by rw [upd_ne (ne_of_none hP nC), upd_same], by rw [nl]; exact PySem.TriplesOk_snoc _ _ _ _ ht, fun p' cv z => ?_⟩
        rw [nl] at z
        rcases among_app _ ht z with y | y
        · obtain ⟨c0, y1, y2⟩ := ha p' cv y
          exact ⟨c0, y1, hE _ _ y2 codeO_ne⟩
        · exact ⟨c', y, upd_same⟩
      · obtain ⟨tb2, y1, y2, y3⟩ := hT p hp
        refine ⟨tb2, by rw [upd_ne (ne_of_none y1 nC), upd_ne hb]; exact y1, y2, fun p' cv z => ?_⟩
        obtain ⟨c0, w1, w2⟩ := y3 p' cv z
        exact ⟨c0, w1, hE _ _ w2 codeO_ne⟩
    · have n1 : b ≠ c' := fun y => by
        rw [y] at hs
        cases hq : s.heap.get? c' with
        | none => exact hs hq
        | some o => exact Nat.lt_irrefl _ (Nat.lt_of_lt_of_le (Heap.lt_size hq) hge)
      have n2 : b ≠ PA' := fun y => by rw [y, hP] at z; cases z
      rw [upd_ne n1, upd_ne n2]; exact z
    · have n1 : g.objs.size ≠ c' := Nat.ne_of_gt hlt
      have n2 : g.objs.size ≠ PA' := Nat.ne_of_gt (Nat.lt_of_lt_of_le (Heap.lt_size eP) hsz)
      rw [upd_ne n1, upd_ne n2]
      exact I.hok.fresh hsz
  · obtain ⟨c', z, hco⟩ := ha po cv hc
    subst z
    have I1 : Inv X pins σ H { s with heap := g.push (lmO (X.env.qual ++ "<lambda>") pa bd sc (cloFrom X.env.cells sc.names []) dV ((X.mg "__name__").getD .none) (.ref c') ctv), toks := tk } := I.kept fun b o y => Heap.get?_push_of_some _ (hx b o y)
    exact h g.objs.size c' ((X.mg "__name__").getD .none) ctv H _ I1 (ExtN.refl H) hT (fun b o _ y => Heap.get?_push_of_some _ (hx b o y)) (fun b y _ => y) (Heap.get?_push_size _ rfl) (I.hok.fresh hsz) (out _ hsz) hco
/-- the names of such a lambda: captured ones, globals, and parameters that the maker has not -/
structure LmS (N : List Str) (sc own : Scope) : Prop where
  kind : own.kind = .function
  co : own.isCoroutine = false
  gen : own.isGenerator = false
  nocell : ∀ y ∈ own.names, y.2 ≠ .cell
  loc : ∀ y ∈ own.names, y.2 = .local → y.1 ∉ N
  free : ∀ y ∈ own.names, y.2 = .free → sc.names.lookup y.1 = some .cell ∨ sc.names.lookup y.1 = some .free
def lmSB (N : List Str) (sc own : Scope) : Bool :=
  decide (own.kind = .function) && !own.isCoroutine && !own.isGenerator && own.names.all fun y => !decide (y.2 = .cell) && (!decide (y.2 = .local) || !decide (y.1 ∈ N)) && (!decide (y.2 = .free) || decide (sc.names.lookup y.1 = some .cell) || decide (sc.names.lookup y.1 = some .free))
theorem lmS_by {N : List Str} {sc own : Scope} (h : lmSB N sc own = true) : LmS N sc own := by
  unfold lmSB at h
  simp only [Bool.and_eq_true, Bool.or_eq_true, Bool.not_eq_true', decide_eq_true_eq, decide_eq_false_iff_not, List.all_eq_true] at h
  obtain ⟨⟨⟨h1, h2⟩, h3⟩, h4⟩ := h
  refine ⟨h1, h2, h3, fun y hy => (h4 y hy).1.1, fun y hy e => ?_, fun y hy e => ?_⟩
  · rcases (h4 y hy).1.2 with z | z
    · exact absurd e z
    · exact z
  · rcases (h4 y hy).2 with (z | z) | z
    · exact absurd e z
    · exact .inl z
    · exact .inr z
theorem LmS.has {X : Cx} {own : Scope} (L : LmS X.N X.env.scope own) (ok : X.Ok) : ∀ y ∈ own.names, y.2 = .free → ∃ c, X.env.cells.lookup y.1 = some c := fun y hy e =>
  ok.has _ ((L.free y hy e).elim .inl .inr)
theorem lm_start {A : Around} {outer : List Env} {E : XK} {own : Scope} {f c' : Addr} {g : Heap} {tk : Nat} {bs : Str → Option Value} (I : Inv X pins σ H s) (L : LmS X.N X.env.scope own) (e0 : Env0 X.prog X.w X.K X.mg X.base A outer s1 HZ) (hd : A.handled = none)
    (un : Un (frs X.stack) [] H HZ s.heap s1.heap) (hns : g.Ns s1.heap.objs.size bs) (kp : ∀ b o, s1.heap.get? b = some o → g.get? b = some o) :
    Inv (lamCx X A outer s1 HZ E own f c') [] σ HZ { s1 with heap := g, toks := tk } := by
  have same : ∀ {y c}, (cloFrom X.env.cells own.names []).lookup y = some c → X.env.cells.lookup y = some c := fun {y c} e => by
    rcases cloFrom_mem (PySem.mem_of_lookup e) with z | ⟨z1, z2⟩
    · cases z
    · obtain ⟨c1, hc⟩ := L.has I.ok _ z1 rfl
      have hc2 : X.env.cells.lookup y = some c1 := hc
      have ec : c = c1 := by
        rw [z2, hc2] <;> rfl
      rw [ec]; exact hc2
  have seen : ∀ {y}, own.names.lookup y = some .free → ∃ c, (cloFrom X.env.cells own.names []).lookup y = some c := fun {y} hl => mem_lookup (cloFrom_has (cells := X.env.cells) (acc := []) (PySem.mem_of_lookup hl))
  have cellK : ∀ {c : Addr} {v : Option Value}, H c = none → s.heap.IsCell c v → g.IsCell c v := fun {c v} n ⟨o, ho, hv⟩ => by
    obtain ⟨sl, y⟩ := un.any ho n (by simp)
    exact ⟨_, kp _ _ y, hv⟩
  have noA : ∀ b : Addr, b ∉ (lamCx X A outer s1 HZ E own f c').ex := fun b z => absurd (show b ∈ ([] : List Addr) from z) (by simp)
  have okk : (lamCx X A outer s1 HZ E own f c').Ok := by
    refine ⟨e0.mod, L.kind, rfl, rfl, Nat.le_refl _, fun y z c y1 y2 => I.ok.inj y z c (same y1) (same y2), fun y hy => ?_, fun y c z _ => ?_, fun _ => hd, Around.frames_deeper e0.frames, .inr ⟨rfl, rfl⟩, fun b z => absurd z (noA b), e0.bs, e0.bsz, fun b _ _ => noA b, fun b z => absurd z (noA b), e0.funs, e0.frf⟩
    · have hy2 : own.names.lookup y = some .cell ∨ own.names.lookup y = some .free := hy
      rcases hy2 with z | z
      · exact absurd rfl (L.nocell _ (PySem.mem_of_lookup z))
      · exact seen z
    · have z2 : false = true := z
      cases z2
  refine ⟨okk, rfl, e0.bare, Un.kept kp, ⟨_, hns, fun i y v y1 y2 y3 => ?_⟩, fun y c z => ?_, e0.hok.fresh (Nat.le_refl _), fun y c z => ?_, fun w hw => absurd (show w ∈ ([] : List (Addr × Obj)) ++ [] from hw) (by simp), e0.hok.kept kp, I.len⟩
  · have y4 : Vis own y := y3
    rcases y4 with k | k | k
    · exact absurd (List.mem_of_getElem? y1) (L.loc _ (PySem.mem_of_lookup k) rfl)
    · exact absurd rfl (L.nocell _ (PySem.mem_of_lookup k))
    · obtain ⟨m, _, hl⟩ := I.loc
      have up := L.free _ (PySem.mem_of_lookup k) rfl
      obtain ⟨u, r, lk⟩ := hl i y v y1 y2 (up.elim (fun k => .inr (.inl k)) (fun k => .inr (.inr k)))
      obtain ⟨c2, h2⟩ := seen k
      refine ⟨u, r, .inr ⟨.inr k, c2, h2, ?_⟩⟩
      have c1 := same h2
      rcases lk with ⟨k1, _⟩ | ⟨_, c3, z1, z2⟩
      · have k2 : X.env.scope.names.lookup y = some .local := k1
        rcases up with k3 | k3 <;> rw [show X.env.scope.names.lookup y = _ from k3] at k2 <;> cases k2
      · rw [c1] at z1
        cases z1
        exact cellK (I.freeC y _ c1) z2
  · obtain ⟨u, z2⟩ := I.cell y c (same z)
    exact ⟨u, cellK (I.freeC y c (same z)) z2⟩
  · obtain ⟨v, o, ho, _⟩ := I.cell y c (same z)
    exact un.free c o ho (I.freeC y c (same z)) (by simp)
end
end AVL

namespace AVL
open PySem PySem.Spec PySem.Calls L2 LamX PyProof.Rows
/-- how such a lambda's parameters are filled: none, or one with an int of the text -/
def LmArg (X : Cx) (pa : Arguments) (bd : Expr) (own : Scope) : Prop :=
  (defaultsOf pa X.env = ([], []) ∧ ∀ q cl pm cv ctv, bindArgs (lmFd q pa bd own cl .none pm cv ctv) ⟨[], []⟩ = pure []) ∨
  ∃ (i : Int) (k : Nat) (p : Pos) (x : Str), defaultsOf pa X.env = ([eval (.Constant (.int i) k p) X.env], []) ∧ own.names.lookup x = some .local ∧
    ∀ q cl pm cv ctv T u, ∃ kk, bindArgs (lmFd q pa bd own cl (.ref T) pm cv ctv) ⟨[], []⟩ = seqItems? (.ref T) >>= kk ∧ kk (some #[u]) = pure [(x, u)]
section
variable {X : Cx} {pins : List (Addr × Obj)} {σ : L2.St} {H : Hp} {s : Shared}
/-- f is such a lambda, made; H1, s' : behind its making -/
structure Made (X : Cx) (pa : Arguments) (bd : Expr) (own : Scope) (f c' : Addr) (H1 : Hp) (s' : Shared) : Prop where
  ob : ∃ dV pm ctv, s'.heap.get? f = some (lmO (X.env.qual ++ "<lambda>") pa bd own (cloFrom X.env.cells own.names []) dV pm (.ref c') ctv) ∧
    ∀ (HZ : Hp) (s1 : Shared), Un (frs X.stack) [] H1 HZ s'.heap s1.heap → ∃ bs, BindsTo s1 (lmFd (X.env.qual ++ "<lambda>") pa bd own (cloFrom X.env.cells own.names []) dV pm (.ref c') ctv) ⟨[], []⟩ bs ∧ ∀ y ∈ bs, own.names.lookup y.1 = some .local
  hf : H1 f = none
  hfr : f ∉ frs X.stack
theorem lm_eval {T : List (Addr × Str)} {cA PA' : Addr} {pa : Arguments} {bd : Expr} {own : Scope} {po : Pos} {E Q : Value → Shared → Prop} (I : Inv X pins σ H s) (TB : TabB X.base X.mg cA PA') (e4 : X.env.code = .ref cA)
    (hm : (PA', X.env.qual ++ "<lambda>") ∈ T) (hu : ∀ p ∈ T, p.1 = PA' → p.2 = X.env.qual ++ "<lambda>") (hT : Tabs T H) (hfree : ∀ y ∈ own.names, y.2 = .free → ∃ c, X.env.cells.lookup y.1 = some c) (ar : LmArg X pa bd own)
    (h : ∀ (f c' : Addr) (H1 : Hp) (s' : Shared), Inv X pins σ H1 s' → ExtN H H1 → Tabs T H1 → Made X pa bd own f c' H1 s' → H1 c' = some (CodeO c' (X.env.qual ++ "<lambda>")) → Q (.ref f) s') :
    wpAny (model X.prog X.w) X.A (eval (.Lambda pa bd own po) X.env) Q E s := by
  rw [arm_eval_Lambda]
  rcases ar with ⟨e1, e2⟩ | ⟨i, k, p, x, e1, hl, e2⟩
  · rw [e1]
    show wpAny _ _ (do let dv ← evalAll []; let kdv ← holding dv (evalAllOpt []); makeFunction "<lambda>" (X.env.qual ++ "<lambda>") pa (.expr bd) own X.env dv kdv [] po po.line) Q E s
    refine wpAny_bind (wpAny_pure (wpAny_bind (wpAny_holding (wpAny_pure ?_))))
    rw [makeFunction_eq]
    simp only [List.zip_nil_right, List.filterMap_nil, List.isEmpty_nil, if_true, pure_bind]
    refine lm_made I TB e4 hm hu hT hfree fun f c' pm ctv H1 s' I1 x1 t1 _ _ ho hn hfr hc => h f c' H1 s' I1 x1 t1 ⟨⟨_, pm, ctv, ho, fun HZ s1 _ => ⟨[], BindsTo.of_eq (e2 _ _ _ _ _), fun y hy => absurd hy (by simp)⟩⟩, hn, hfr⟩ hc
  · rw [e1]
    show wpAny _ _ (do let dv ← evalAll [eval (.Constant (.int i) k p) X.env]; let kdv ← holding dv (evalAllOpt []); makeFunction "<lambda>" (X.env.qual ++ "<lambda>") pa (.expr bd) own X.env dv kdv [] po po.line) Q E s
    unfold evalAll
    refine wpAny_bind (wpAny_bind (wpAny_Constant_int ?_))
    have I0 := I.tok (s.toks + 1)
    unfold evalAll
    refine wpAny_bind (wpAny_holding (wpAny_pure (wpAny_pure ?_)))
    refine wpAny_bind (wpAny_holding (wpAny_pure ?_))
    rw [makeFunction_eq]
    simp only [List.zip_nil_right, List.filterMap_nil, List.isEmpty_nil, List.isEmpty_cons, Bool.false_eq_true, if_false, if_true, pure_bind]
    refine wpAny_bind (wpAny_newTextTuple ?_)
    have I1 : Inv X pins σ H { s with heap := s.heap.push { cls := .type "tuple", data := .seq [Value.int i s.toks].toArray }, toks := s.toks + 1 } := I.kept fun b o z => Heap.get?_push_of_some _ z
    have gT : (s.heap.push { cls := .type "tuple", data := .seq [Value.int i s.toks].toArray }).get? s.heap.objs.size = some { cls := .type "tuple", data := .seq [Value.int i s.toks].toArray } := Heap.get?_push_size _ rfl
    have nT : H s.heap.objs.size = none := I.hok.fresh (Nat.le_refl _)
    have fT : s.heap.objs.size ∉ frs X.stack := fun z => by
      rcases List.mem_cons.mp (I.stkSub _ z) with e | e
      · have lt := I.lt
        rw [← e] at lt
        exact Nat.lt_irrefl _ lt
      · exact I.nofs (Nat.le_refl _) e
    have nP : s.heap.objs.size ≠ PA' := fun z => by
      obtain ⟨tb, hP, _⟩ := hT _ hm
      rw [z] at nT
      rw [show H PA' = some (.tbl tb) from hP] at nT
      cases nT
    refine lm_made I1 TB e4 hm hu hT hfree fun f c' pm ctv H1 s' I2 x1 t1 k1 k2 ho hn hfr hc => h f c' H1 s' I2 x1 t1 ⟨⟨_, pm, ctv, ho, fun HZ s1 un => ?_⟩, hn, hfr⟩ hc
    obtain ⟨kk, r1, r2⟩ := e2 (X.env.qual ++ "<lambda>") (cloFrom X.env.cells own.names []) pm (.ref c') ctv s.heap.objs.size (Value.int i s.toks)
    have at1 : s1.heap.get? s.heap.objs.size = some { cls := .type "tuple", data := .seq [Value.int i s.toks].toArray } :=
      un.keep _ _ (k1 _ _ nP gT) (k2 _ nT (by rw [gT]; simp)) fT (fun z => absurd z (by simp))
    refine ⟨[(x, Value.int i s.toks)], fun M A E Q hq => ?_, fun y hy => ?_⟩
    · rw [r1]
      refine wpAny_bind (wpAny_seqItems at1 rfl ?_)
      rw [show kk (some [Value.int i s.toks].toArray) = pure [(x, Value.int i s.toks)] from r2]
      exact wpAny_pure hq
    · have e : y = (x, Value.int i s.toks) := by simpa using hy
      rw [e]; exact hl
/-- a(), in the def that got the lambda -/
theorem lm_act {CXg : CXT} {Eg : XK} {Ng : List Str} {qg : Str} {sg : Scope} {g f c' : Addr} {cdg : Value} {pa : Arguments} {bd : Expr} {own : Scope} {k i : Nat} {a : Str} {pn : List (Addr × Obj)} {xe : Value → Shared → Prop} {W : WX} {tb : XK → TE} {p1 p2 : Pos}
    (I : Inv X pins σ H s) (L : LmS X.N X.env.scope own) (md : Made X pa bd own f c' H s)
    (tk : Takes ((cxOf CXg X.prog X.w X.K X.mg X.base Ng qg sg g cdg X.A X.stack s H Eg).tr pn xe) W) (hr : Room (k + 1) (X.A.deeper (envOfC qg sg s.heap.objs.size g cdg)))
    (gd : (X.A.deeper (envOfC qg sg s.heap.objs.size g cdg)).guards = some [])
    (hbody : ∀ (A : Around) (outer : List Env) (s : Shared) (H : Hp) (E : XK), (A.deeper (lamEnv X own s.heap.objs.size f c')).guards = some [] → Room k (A.deeper (lamEnv X own s.heap.objs.size f c')) → PE (lamCx X A outer s H E own f c') bd (tb E))
    (hN : Ng[i]? = some a) (hv : Vis sg a) (hd : (a == ("__debug__" : Str)) = false := by decide) (hcd : (a == ("__classdict__" : Str)) = false := by decide) :
    PE ((cxOf CXg X.prog X.w X.K X.mg X.base Ng qg sg g cdg X.A X.stack s H Eg).tr pn xe) (.Call (.Name a p1) [] [] p2)
      (fun σZ HZ Q => σZ[i]? = some (some (.ref f)) ∧ HZ c' = some (CodeO c' (X.env.qual ++ "<lambda>")) ∧ tb (WE W σZ) σ HZ Q) := by
  refine ⟨fun pinsZ sZ σZ HZ Q IZ h => ?_⟩
  obtain ⟨hs, hc, ht⟩ := h
  refine wpAny_Call_Name_kw (thn ((pe_var (pos := p1) (i := i) hN hv hd hcd).run pinsZ sZ σZ HZ (fun v H1 => v = .ref f ∧ H1 = HZ) IZ ⟨.ref f, hs, rfl, rfl⟩) fun u s1 ⟨v, H1, I1, r1, q1⟩ => ?_)
  obtain ⟨z1, z2⟩ := q1
  subst z1
  rw [z2] at I1
  obtain rfl : u = Value.ref f := r1
  have un : Un (frs X.stack) [] H HZ s.heap s1.heap := I1.base
  obtain ⟨dV, pm, ctv, ho, hb⟩ := md.ob
  obtain ⟨bs, bt, bl⟩ := hb HZ s1 un
  have of1 := un.keep f _ ho md.hf md.hfr (fun z => nomatch (show f ∈ ([] : List Addr) from z))
  refine PySem.W.callWith_F0 ⟨_, _, _, _, of1⟩ ?_
  obtain ⟨⟨oc, vs, t, hoc, hdc, hvc⟩, _, _⟩ := I1.hok c' _ hc
  have rc : codeAny (model X.prog X.w) (X.A.deeper (envOfC qg sg s.heap.objs.size g cdg)) (.call (.ref f) ⟨[], []⟩) (CR (L2.CX X.prog X.w) (envOfC qg sg s.heap.objs.size g cdg :: X.stack) X.prog X.w HZ s1 Q (WE W σZ)) s1 := by
    refine PySem.W.kla_callFunE hr.depth of1 rfl L.co L.gen rfl ⟨c', oc, vs, t, rfl, hoc, hdc, hvc⟩ (bt _ _ _ _ ?_)
    refine wpAny_newFunctionEnv L.nocell bl (fun h₁ hns hsb => ⟨I1.nolimit.fresh _ hsb, ?_⟩) L.kind
    show codeAny _ _ (.expr bd (lamEnv X own s1.heap.objs.size f c')) _ _
    have kp : ∀ b o, s1.heap.get? b = some o → h₁.get? b = some o := fun b o e => hsb.extBut b o (Nat.ne_of_lt (Heap.lt_size e)) (Heap.get?_push_of_some _ e)
    have J := lm_start (E := WE W σZ) (f := f) (c' := c') (tk := s1.toks + bs.length) I L I1.env0 hr.hd un hns kp
    refine PySem.W.kla_codeExpr (wpAny_mono ((hbody (X.A.deeper (envOfC qg sg s.heap.objs.size g cdg)) _ s1 HZ (WE W σZ) gd (hr.deeper _)).run [] _ _ HZ Q J ht) (fun v s' hq => ?_) fun e s' hq => hq)
    obtain ⟨w', H', J', rv, q⟩ := hq
    exact ⟨w', H', J'.os, J'.bare, J'.base, J'.hok, rv, q⟩
  refine wpAny_call (codeAny_mono rc fun r s' hq => ?_)
  cases r with
  | error e => exact passAt tk σZ pinsZ HZ s1 e s' I1 hq
  | ok fl =>
    cases fl with
    | ret u => exact I1.after hq
    | next => exact False.elim hq
    | brk => exact False.elim hq
    | cont => exact False.elim hq
end
end AVL

namespace AVL
open PySem PySem.Spec PySem.Calls L2 LamX PyProof.Rows
section
variable {X : Cx} {pins : List (Addr × Obj)} {σ : L2.St} {H : Hp} {s : Shared}
/-- an exception's object is told of from now on -/
theorem inv_adopt {a : Addr} {oe : Obj} {vs : Array Value} (I : Inv X pins σ H s) (ga : s.heap.get? a = some oe) (gd : oe.data = .fields vs) (na : H a = none) (n0 : X.s_0.heap.get? a = none) (nL : a ≠ X.env.locals) (np : ∀ p ∈ X.pn ++ pins, p.1 ≠ a) :
    Inv X pins σ (upd H a (EXV a oe.cls oe.dict)) s where
  ok := I.ok
  os := I.os
  bare := I.bare
  base := {
    keep := I.base.keep
    slot := I.base.slot
    free := fun b o e n x => by rw [upd_ne (fun z => by rw [z, n0] at e; cases e)]; exact I.base.free b o e n x
    there := I.base.there
    tups := fun b xs e => by
      have z := I.base.tups b xs e
      rw [upd_ne (ne_of_none z na)]; exact z
    frzs := fun b o xs e => by
      have z := I.base.frzs b o xs e
      rw [upd_ne (ne_of_none z na)]; exact z
    tbls := fun b ps e => by
      obtain ⟨m, z⟩ := I.base.tbls b ps e
      exact ⟨m, by rw [upd_ne (ne_of_none z na)]; exact z⟩ }
  loc := I.loc
  cell := I.cell
  free := by rw [upd_ne (Ne.symm nL)]; exact I.free
  freeC := fun x c e => by
    obtain ⟨v, o, ho, hd⟩ := I.cell x c e
    rw [upd_ne (fun z => by rw [z, ga] at ho; cases ho; rw [gd] at hd; cases hd)]
    exact I.freeC x c e
  pin := fun p hp => by
    obtain ⟨e, n, r⟩ := I.pin p hp
    exact ⟨e, by rw [upd_ne (np p hp)]; exact n, r⟩
  hok := fun b o e => by
    by_cases hb : b = a
    · rw [hb, upd_same] at e
      cases e
      rw [hb]
      refine ⟨⟨oe, vs, ga, rfl, rfl, gd⟩, ⟨oe, ga⟩, fun h1 h2 ⟨o2, v2, y1, y2, y3, y4⟩ st => ⟨o2, v2, st _ y1, y2, y3, y4⟩⟩
    · rw [upd_ne hb] at e
      exact (I.hok b o e).stay (fun _ _ _ q => q) (fun c q => by rw [upd_ne (ne_of_none q na)]; exact q) (fun c xs q => by rw [upd_ne (ne_of_none q na)]; exact q)
  len := I.len
/-- the wish of 'except x as n: y = n', the exception kept -/
def wKeep (K : PySem.W.Frag) (c : Value) (i j : Nat) (Wout : WX) (D : Ends) : WX := fun cls d σ H =>
  ∃ b, PySem.W.exmOne K cls c = some b ∧ (b = true → ∀ a, H a = none → D.nx (((σ.set i (some (.ref a))).set j (some (.ref a))).set i none) (upd H a (EXV a cls d))) ∧ (b = false → Wout cls d σ H)
end
section
variable {X : Cx} {x n y : Str} {c : Value} {i j : Nat} {body : List Stmt} {np q1 q2 q3 pos pos' : Pos} {tb : WX → TS} {Wout : WX}
theorem ps_try_keep (hs : X.stack = X.env :: X.outer) (hf : X.env.frame = some X.env.locals) (hx : X.ex = []) (hN : X.N.Nodup) (hi : X.N[i]? = some n) (hj : X.N[j]? = some y) (ij : i ≠ j) (kn : X.env.kindOf n = some .local) (ky : X.env.kindOf y = some .local) (hc : Names X x c) (tk : Takes X Wout)
    (hb : ∀ (W : WX) (pn : List (Addr × Obj)) (xe : Value → Shared → Prop), Takes (X.tr pn xe) W → PassesOwn (model X.prog X.w) X.A X.env xe → PSs (X.tr pn xe) body (tb W))
    (d1 : (n == ("__debug__" : Str)) = false := by decide) (d2 : (n == ("__classdict__" : Str)) = false := by decide) :
    PS X (.Try body [.ExceptHandler (some (.Name x np)) (some n) [.Assign [.Name y q1] (.Name n q2) q3] pos'] [] [] pos) (fun D σ H => tb (wKeep X.K c i j Wout D) D σ H) := by
  refine ⟨fun pins s σ H D I h => ?_⟩
  have ok := I.ok
  have fra : X.A.frames = some (X.env :: X.outer) := by rw [ok.frames, hs]
  let hd1 : List ExceptHandler := [.ExceptHandler (some (.Name x np)) (some n) [.Assign [.Name y q1] (.Name n q2) q3] pos']
  have run1 := (hb (wKeep X.K c i j Wout D) (X.pn ++ pins) (fun e t1 => wpAny (model X.prog X.w) X.A (noteFrame e X.env) (fun _ t2 => wpAny (model X.prog X.w) X.A (setFlight e none) (fun _ t3 => wpAny (model X.prog X.w) X.A (handleBy e X.env hd1) (SP X pins D) X.xe t3) X.xe t2) X.xe t1) (fun u t z => ?_) PassesOwn.looking).run [] s σ H D (I.toTry _) h
  · refine wpAny_Try_except (wpAny_mono run1 (fun f t1 hsp => ?_) fun e t1 he => he)
    cases f with
    | next =>
      obtain ⟨σ2, H2, J2, w⟩ := hsp
      exact wpAny_execs_nil ⟨σ2, H2, J2.ofTry ok, w⟩
    | brk =>
      obtain ⟨σ2, H2, J2, w⟩ := hsp
      exact ⟨σ2, H2, J2.ofTry ok, w⟩
    | cont =>
      obtain ⟨σ2, H2, J2, w⟩ := hsp
      exact ⟨σ2, H2, J2.ofTry ok, w⟩
    | ret u =>
      obtain ⟨v, σ2, H2, J2, r, w⟩ := hsp
      exact ⟨v, σ2, H2, J2.ofTry ok, r, w⟩
  · obtain ⟨a, B, sI, pins2, σ2, H2, cls, d, rfl, J0, nb, up, sky, na, os, ag, b, eb, yes, no⟩ := z
    have J : Inv X pins σ2 H2 sI := J0.ofTry ok
    have sky2 : Sky B (X.env :: X.outer) a (Zc cls d) X.env.locals t.heap := by rw [← hs]; exact sky
    show wpAny (model X.prog X.w) X.A (noteFrame (.ref a) X.env) _ _ _
    refine Sky.land Zc.steady fra hf sky2 fun h3 fl3 up3 => ?_
    have J3 : Inv X pins σ2 H2 { t with heap := h3 } := J.landed nb fl3.1 (up.trans up3) os ag
    obtain ⟨oe3, vs3, he3, hz3, hd3⟩ := fl3.there
    have nfr : a ∉ frs (X.env :: X.outer) := fun hm => by
      obtain ⟨_, o2, e2, n2⟩ := fl3.2.2.1.mem hm
      rw [he3] at e2; cases e2
      exact n2 _ hd3
    have nL : a ≠ X.env.locals := fun z => nfr (List.mem_filterMap.mpr ⟨X.env, List.mem_cons_self, by rw [hf, z]⟩)
    have nF : a ∉ X.fs := fun hm => by
      obtain ⟨e, he, w⟩ := List.mem_filterMap.mp hm
      exact nfr (List.mem_filterMap.mpr ⟨e, List.mem_cons_of_mem _ he, w⟩)
    have nI : sI.heap.get? a = none := by
      cases w : sI.heap.get? a with
      | none => rfl
      | some o =>
        have z := nb a o w (by rw [hs]; exact nfr)
        rw [fl3.2.1] at z; cases z
    have n0 : X.s_0.heap.get? a = none := by
      cases w : X.s_0.heap.get? a with
      | none => rfl
      | some o =>
        obtain ⟨o2, z⟩ := J.base.there a o w (by rw [hx]; simp)
        rw [nI] at z; cases z
    have npin : ∀ p ∈ X.pn ++ pins, p.1 ≠ a := fun p hp z => by
      have w := (J.pin p hp).1
      rw [z, nI] at w; cases w
    have S3 := J3.suite he3 hd3 na nL nF
    refine wpAny_handleBy_cons (codeAny_handlers_test ?_) (by intro w; cases w)
    have lt : PySem.W.Looks (model X.prog X.w) h3 (typeOf (.ref a)) cls := fun A Q E s k w => wpAny_typeOf_ref (k _ _ he3) (by rw [hz3.1]; exact w)
    have lm := PySem.W.exm_one (M := model X.prog X.w) (J3.kIn) lt eb
    have named : ∀ {Q : Value → Shared → Prop} {E : Value → Shared → Prop}, Q c { t with heap := h3 } → wpAny (model X.prog X.w) (X.A.mark (some (.ref a))) (eval (.Name x np) X.env) Q E { t with heap := h3 } := fun {Q E} w => by
      obtain ⟨hg, hdbg, hm | ⟨hm, hv, hnn⟩⟩ := hc
      · exact ld_glob (X := X.suite a ((a, oe3) :: (X.pn ++ pins))) S3 hg hm w hdbg
      · exact ld_blt (X := X.suite a ((a, oe3) :: (X.pn ++ pins))) S3 hg hm hv w hnn hdbg
    refine named (lm.here ?_)
    cases b with
    | true =>
      refine codeAny_handlers_suite_as ?_
      refine HandSPX.lands_againZ fl3 fun h4 fl4 up4 => ?_
      have J4 : Inv X pins σ2 H2 { t with heap := h4 } := J.landed nb fl4.1 ((up.trans up3).trans up4) os ag
      obtain ⟨oe4, vs4, he4, hz4, hd4⟩ := fl4.there
      have S4 := J4.suite he4 hd4 na nL nF
      refine store_ok (X := X.suite a ((a, oe4) :: (X.pn ++ pins))) (v := .ref a) S4 hN hi (.inl kn) rfl (fun s5 S5 => ?_) (.inr kn)
      have hlen : i < σ2.length := by rw [J4.len]; exact (List.getElem?_eq_some_iff.mp hi).1
      have hsu : PSs (X.suite a ((a, oe4) :: (X.pn ++ pins))) [.Assign [.Name y q1] (.Name n q2) q3] (tAsg (tVar i) (L2.gName j)) :=
        pss_one (ps_set (i := j) hN hj (.inl ky) (pe_var (X := X.suite a ((a, oe4) :: (X.pn ++ pins))) (i := i) hi (.inl kn) d1 d2) rfl (.inr ky))
      refine wpAny_mono (hsu.run [] s5 _ H2 { nx := fun σ6 H6 => σ6 = (σ2.set i (some (.ref a))).set j (some (.ref a)) ∧ H6 = H2, rt := fun _ _ => False, bk := fun _ _ => False, ct := fun _ _ => False } S5 ⟨.ref a, List.getElem?_set_self hlen, rfl, rfl⟩) (fun f s6 hsp => ?_) (fun _ _ w => False.elim w)
      cases f with
      | next =>
        obtain ⟨σ6, H6, S6, rfl, rfl⟩ := hsp
        have p6 := (S6.pin (a, oe4) (List.mem_append_left _ List.mem_cons_self)).1
        have K6 := inv_adopt (S6.unsuite ok) p6 hd4 na n0 nL npin
        rw [hz4.1, hz4.2] at K6
        exact gone_ok K6 hN hi kn fun s7 J7 => ⟨_, _, J7, yes rfl a na⟩
      | brk =>
        obtain ⟨_, _, _, w⟩ := hsp
        exact False.elim w
      | cont =>
        obtain ⟨_, _, _, w⟩ := hsp
        exact False.elim w
      | ret u =>
        obtain ⟨_, _, _, _, _, w⟩ := hsp
        exact False.elim w
    | false =>
      show wpAny _ X.A (handleBy (.ref a) X.env []) _ _ _
      refine wpAny_handleBy_nil ?_
      obtain ⟨k1, k2, k3, oe, vs, T, oT, ts', he, hz, hd, h1, hr⟩ := id fl3
      unfold PySem.passOn
      refine wpAny_bind (wpAny_field he hd h1 ?_)
      rw [if_neg (show ¬ ((Value.ref T == Value.none) = true) from by simp)]
      have fin : wpAny (model X.prog X.w) X.A (setFlight (.ref a) X.env.frame) (fun _ s4 => wpAny (model X.prog X.w) X.A (throw (.ref a) : Sem Flow) (SP X pins D) X.xe s4) X.xe { t with heap := h3 } := by
        rw [hf]
        refine HandSPX.setFlight_upZ fl3 fun h4 hh4 up4 => wpAny_throw (tk _ _ ?_)
        exact ⟨a, B, sI, pins, σ2, H2, cls, d, rfl, J, nb, (up.trans up3).trans up4, .inr (.inr (by rw [hs]; exact hh4)), na, os, ag, no rfl⟩
      first
        | exact wpAny_bind (wpAny_pure (wpAny_bind fin))
        | exact wpAny_bind fin
end
end AVL

namespace AVL
open PySem PySem.Spec PySem.Calls L2 LamX PyProof.Rows
abbrev E00 : XK := fun _ _ _ => False
/-- what a def makes of the lambda that it gets: th, the lambda's function -/
def TTr (K : PySem.W.Frag) (mg : Str → Option Value) (mf : (AH → Res AV) → AH → Res AV) : (XK → Hp → VK → Prop) → Hp → VK → Prop := fun tl H Q =>
  ∃ ρ F h th, RH K mg ρ F h H ∧ (∀ ρ1 F1 h1 H1 Q1 E1, Ext ρ F H ρ1 F1 H1 → RH K mg ρ1 F1 h1 H1 → Out K mg (RV K mg) ρ1 F1 H1 (th h1) Q1 E1 → tl E1 H1 Q1) ∧ Out K mg (RV K mg) ρ F H (mf th h) Q E00
/-- Z: the def's own context -/
def Asks (Z : Cx) (a : Str) (f c' : Addr) (q : Str) (tl : XK → Hp → VK → Prop) : Prop := ∀ (W : WX) (pn : List (Addr × Obj)) (xe : Value → Shared → Prop) (p1 p2 : Pos), Takes (Z.tr pn xe) W →
  PE (Z.tr pn xe) (.Call (.Name a p1) [] [] p2) (fun σZ HZ Q => σZ[0]? = some (some (.ref f)) ∧ HZ c' = some (CodeO c' q) ∧ tl (WE W σZ) HZ Q)
def HasL (P : Program) (w : World) (K : PySem.W.Frag) (mg : Str → Option Value) (base : Heap) (x a : Str) (mf : (AH → Res AV) → AH → Res AV) : Prop :=
  ∃ g oc od pg bg sg dV kV doc pm cdv ct an osl Ng, mg x = some (.ref g) ∧ PySem.W.keepIn K (.ref g) = true ∧ K.lookup g = some ⟨oc, od, .func (PySem.W.fnOf x x pg bg sg dV kV doc pm an cdv ct), osl⟩ ∧ PySem.W.codeIn K cdv x = true ∧
    Binds K (PySem.W.fnOf x x pg bg sg dV kV doc pm an cdv ct) [a] [] ∧ FnScope Ng [a] sg ∧ Ng[0]? = some a ∧ Vis sg a ∧
    ∀ (A : Around) (outer : List Env) (s : Shared) (H : Hp) (f c' : Addr) (q : Str) (Q : VK) (tl : XK → Hp → VK → Prop), (A.deeper (envOfC x sg s.heap.objs.size g cdv)).guards = some [] → Asks (cxOf L2.CX0 P w K mg base Ng x sg g cdv A outer s H E00) a f c' q tl → H c' = some (CodeO c' q) → TTr K mg mf tl H Q →
      ∃ t, PSs (cxOf L2.CX0 P w K mg base Ng x sg g cdv A outer s H E00).nox bg t ∧ t { nx := fun _ H' => Q .non H', rt := Q } (L2.start Ng [.ref f]) H
theorem fin_out {K : PySem.W.Frag} {mg : Str → Option Value} {ρ0 ρ : List Addr} {F0 H0 F H : Hp} {h0 : AH} {kp : Bool} {r : SRes} {Q : VK} {E : XK} {σ : L2.St} (rh : RH K mg ρ0 F0 h0 H0) (o : Out K mg (RV K mg) ρ0 F0 H0 (finF h0.length kp r) Q E) (e : Ext ρ0 F0 H0 ρ F H) :
    OutS K mg ρ F H r { nx := fun _ H' => Q .non H', rt := Q } (fun c d _ H => E c d H) := by
  cases r with
  | next sl h' => exact fun ρ' F' H' σ' ex rh' rs' => leave_ok (x := .non) rh o (e.trans ex) rh' (by simp [RV])
  | ret y h' =>
    refine fun ρ' F' H' v ex rh' rv => ?_
    cases kp with
    | true => exact leaveK_ok rh o (e.trans ex) rh' rv
    | false => exact leave_ok rh o (e.trans ex) rh' rv
  | brk sl h' => exact o.elim
  | cont sl h' => exact o.elim
  | exc c ks l sl h' => exact fun ρ' F' H' σ' C d ex rh' _ em rx => leaveX_ok rh o (e.trans ex) rh' em rx
  | stuck => exact o.elim
/-- def x(a): y = None; try: a() except cx as n: y = n; .. -/
def mGive (isx : Str → Bool) (n j : Nat) (bm : SM) : (AH → Res AV) → AH → Res AV := fun th h => match th h with
  | .ok _ h1 => finF h.length false (bm ((List.replicate n none).set j (some .non)) h1)
  | .exc c ks l h1 => if isx c then finF h.length false (bm ((List.replicate n none).set j (some (.exc c ks l))) h1) else .stuck
  | .stuck => .stuck
theorem rsl_one {K : PySem.W.Frag} {mg : Str → Option Value} {ρ : List Addr} {F : Hp} {n j : Nat} {σ : L2.St} {x : AV} {v : V} (hl : σ.length = n) (e : σ[j]? = some (some v)) (r : RV K mg ρ F x v) : RSl K mg ρ F ((List.replicate n none).set j (some x)) σ := by
  refine ⟨by simp [hl], fun i y z => ?_⟩
  by_cases hi : i = j
  · subst hi
    have hlt : i < n := by rw [← hl]; exact (List.getElem?_eq_some_iff.mp e).1
    rw [List.getElem?_set_self (by simpa using hlt)] at z
    cases z
    exact ⟨v, e, r⟩
  · rw [List.getElem?_set_ne (Ne.symm hi), List.getElem?_replicate] at z
    split at z <;> cases z
theorem gives {P : Program} {w : World} {K : PySem.W.Frag} {mg : Str → Option Value} {base : Heap} {x a y n cx : Str} {params : Arguments} {body rest : List Stmt} {scope : Scope} {g FE : Addr} {fd : FuncData} {N : List Str} {i j k0 : Nat} {q0 q00 p0 p1 p2 p3 p4 p5 p6 q1 q2 q3 : Pos} {bm : SM} {isx : Str → Bool}
    (F : FunD K x x params body scope [] [] g fd) (hm : mg x = some (.ref g)) (S : FnScope N [a] scope) (hb : Binds K fd [a] [])
    (eb : body = .Assign [.Name y q0] (.Constant .none k0 q00) p0 :: .Try [.Expr (.Call (.Name a p1) [] [] p2) p3] [.ExceptHandler (some (.Name cx p4)) (some n) [.Assign [.Name y q1] (.Name n q2) q3] p5] [] [] p6 :: rest)
    (h0 : N[0]? = some a) (hi : N[i]? = some n) (hj : N[j]? = some y) (ij : i ≠ j) (j0 : j ≠ 0) (va : Vis scope a) (kn : scope.names.lookup n = some .local) (ky : scope.names.lookup y = some .local) (kc : scope.names.lookup cx = some .globalImplicit) (dc : (cx == ("__debug__" : Str)) = false) (mc : mg cx = some (.ref FE))
    (ix : ∀ c C, isx c = true → mg c = some (.ref C) → PySem.W.exmOne K (.ref C) (.ref FE) = some true)
    (hrest : ∀ (cdv : Value) (A : Around) (outer : List Env) (s : Shared) (H : Hp), (A.deeper (envOfC x scope s.heap.objs.size g cdv)).guards = some [] → PSs (cxOf L2.CX0 P w K mg base N x scope g cdv A outer s H E00).nox rest (lS (cxOf L2.CX0 P w K mg base N x scope g cdv A outer s H E00).nox W0 bm))
    (d1 : (n == ("__debug__" : Str)) = false := by decide) (d2 : (n == ("__classdict__" : Str)) = false := by decide) : HasL P w K mg base x a (mGive isx N.length j bm) := by
  obtain ⟨oc, od, dV, kV, doc, pm, an, cdv, ct, osl, rfl, lk, hcd, _, _⟩ := F.ex
  refine ⟨g, oc, od, params, body, scope, dV, kV, doc, pm, cdv, ct, an, osl, N, hm, F.kp, lk, hcd, hb, S, h0, va, fun A outer s H f c' q Q tl gd act hc tt => ?_⟩
  subst eb
  obtain ⟨ρ, F', h, th, rh, htl, o⟩ := tt
  let Z := (cxOf L2.CX0 P w K mg base N x scope g cdv A outer s H E00).nox
  refine ⟨_, pss_cons (ps_set (X := Z) (i := j) S.nd hj (.inl ky) pe_non rfl (.inr ky)) (pss_cons (ps_try_keep (X := Z) (c := .ref FE) (i := i) (j := j) (Wout := W0)
    (tb := fun W D σ H => σ[0]? = some (some (.ref f)) ∧ H c' = some (CodeO c' q) ∧ tl (WE W σ) H (fun _ H' => D.nx σ H'))
    rfl rfl rfl S.nd hi hj ij kn ky ⟨kc, dc, .inl mc⟩ takes0 (fun W pn xe tk _ => ?_) d1 d2) (hrest cdv A outer s H gd)), ?_⟩
  · exact pss_one (ps_expr (act W pn xe p1 p2 tk))
  · have hst : (L2.start N [.ref f]).length = N.length := by
      have hp : 0 < N.length := (List.getElem?_eq_some_iff.mp h0).1
      unfold L2.start; simp; omega
    have s0 : (L2.start N [.ref f])[0]? = some (some (V.ref f)) := by unfold L2.start; simp
    have jl : j < N.length := (List.getElem?_eq_some_iff.mp hj).1
    have il : i < N.length := (List.getElem?_eq_some_iff.mp hi).1
    refine ⟨by rw [List.getElem?_set_ne j0]; exact s0, hc, htl ρ F' h H _ _ (Ext.refl _ _ _) rh ?_⟩
    unfold mGive at o
    cases qt : th h with
    | stuck => rw [qt] at o; exact o.elim
    | ok v h1 =>
      rw [qt] at o
      intro ρ1 F1 H1 u ex rh1 _
      exact ⟨ρ1, F1, _, h1, rsl_one (v := .non) (by simp [hst]) (List.getElem?_set_self (by rw [hst]; exact jl)) (by simp [RV]), rh1, fin_out (σ := []) rh o ex⟩
    | exc c ks l h1 =>
      rw [qt] at o
      intro ρ1 F1 H1 C d ex rh1 em rx
      dsimp only at o
      split at o
      case isFalse => exact o.elim
      rename_i hx
      refine ⟨true, ix c C hx em, fun _ e he => ?_, fun z => by cases z⟩
      obtain ⟨dd, fs, rfl, fd, ek, r⟩ := rx
      have ex2 := ext_frz (o := EXV e (.ref C) (some dd)) rh1 he
      have nt : ∀ ps, EXV e (.ref C) (some dd) ≠ .tbl ps := fun ps z => by unfold EXV at z; cases z
      refine ⟨ρ1, _, _, h1, rsl_one (v := .ref e) (by simp [hst]) ?_ ?_, rh_frz rh1 he nt, fin_out (σ := []) rh o (ex.trans ex2)⟩
      · rw [List.getElem?_set_ne ij, List.getElem?_set_self (by simp [hst]; exact jl)]
      · simp only [RV]
        exact ⟨e, C, dd, fs, rfl, em, upd_same, by rw [upd_ne (ne_of_none fd (rh1.Fnone he))]; exact fd, ek, r.ext ex2⟩
end AVL

namespace AVL
open PySem PySem.Spec PySem.Calls L2 LamX PyProof.Rows
def eLam (mf : (AH → Res AV) → AH → Res AV) (fe : EM) : EM := fun sl h => (mf (fun h' => fe sl h') h).nx
section
variable {K : PySem.W.Frag} {mg : Str → Option Value} {ρ : List Addr} {F H H1 : Hp} {h : AH}
theorem ext_tab (x : ExtN H H1) : Ext ρ F H ρ F H1 := ⟨⟨[], by simp⟩, fun _ _ e => e, fun a o e _ nt => x a o e nt, fun _ z => .inl z, fun _ _ z => .inl z⟩
theorem rh_tab (rh : RH K mg ρ F h H) (x : ExtN H H1) (t : Tabs (tabsOf K) H1) : RH K mg ρ F h H1 where
  len := rh.len
  tab := t
  ntb := rh.ntb
  nd := rh.nd
  sub := fun a o e => x a o (rh.sub a o e) fun ps z => rh.ntb a ps (by rw [e, z])
  sep := rh.sep
  old := rh.old
  cell := fun n c e a ea => by
    obtain ⟨o, e1, r⟩ := rh.cell n c e a ea
    exact ⟨o, x a o e1 r.ntb, r⟩
theorem Out.off {α β : Type} {R : List Addr → Hp → α → β → Prop} {Q : β → Hp → Prop} {r : Res α} {E E' : XK} (o : Out K mg R ρ F H r.nx Q E) : Out K mg R ρ F H r.nx Q E' := by
  cases r with
  | ok a h => exact o
  | exc c ks l h => exact o.elim
  | stuck => exact o.elim
theorem Out.unx {α β : Type} {R : List Addr → Hp → α → β → Prop} {Q : β → Hp → Prop} {r : Res α} {E E' : XK} (o : Out K mg R ρ F H r.nx Q E) : Out K mg R ρ F H r Q E' := by
  cases r with
  | ok a h => exact o
  | exc c ks l h => exact o.elim
  | stuck => exact o.elim
end
section
variable {X : Cx} {W : WX} {x a : Str} {mf : (AH → Res AV) → AH → Res AV} {fe : EM} {pa : Arguments} {bd : Expr} {own : Scope} {k : Nat} {cA PA' : Addr} {p lpos pos : Pos}
/-- x(lambda: bd) -/
theorem rLam (G : HasL X.prog X.w X.K X.mg X.base x a mf) (TB : TabB X.base X.mg cA PA') (e4 : X.env.code = .ref cA) (hm : (PA', X.env.qual ++ "<lambda>") ∈ tabsOf X.K) (hu : ∀ p ∈ tabsOf X.K, p.1 = PA' → p.2 = X.env.qual ++ "<lambda>")
    (gd : X.A.guards = some []) (hr : Room (k + 2) X.A) (L : LmS X.N X.env.scope own) (ar : LmArg X pa bd own)
    (hbody : ∀ (A : Around) (outer : List Env) (s : Shared) (H : Hp) (E : XK) (f c' : Addr), (A.deeper (lamEnv X own s.heap.objs.size f c')).guards = some [] → Room k (A.deeper (lamEnv X own s.heap.objs.size f c')) → PE (lamCx X A outer s H E own f c') bd (lE (lamCx X A outer s H E own f c') (fun c d _ H => E c d H) fe))
    (hg : Gl X x := by rfl) (hdb : (x == ("__debug__" : Str)) = false := by decide) (hd : (a == ("__debug__" : Str)) = false := by decide) (hcd : (a == ("__classdict__" : Str)) = false := by decide) :
    PE X (.Call (.Name x p) [.Lambda pa bd own lpos] [] pos) (lE X W (eLam mf fe)) := by
  refine ⟨fun pins s σ H Q I o => ?_⟩
  obtain ⟨g, oc, od, pg, bg, sg, dV, kV, doc, pm, cdv, ct, an, osl, Ng, mx, kp, lk, hcg, hb, Sg, n0, va, give⟩ := G
  obtain ⟨ρ, F, sl, h, rs, rh, o⟩ := o
  refine wpAny_Call_Name_kw (ld_glob I hg mx ?_ hdb)
  refine PySem.W.callWith_K (h₀ := X.base) I.ok.mod.kin kp ?_ (by rfl) (by rfl)
  show wpAny _ _ (spliced ((false, eval (.Lambda pa bd own lpos) X.env) :: backTo pos (starEach [] X.env))) _ _ s
  refine Calls.spliced_cons (lm_eval I TB e4 hm hu rh.tab (L.has I.ok) ar fun f c' H1 s1 I1 eN T1 md hco => ?_)
  refine Calls.spliced_nil ⟨I1.kIn, ?_⟩
  have rc : codeAny (model X.prog X.w) X.A (.call (.ref g) ⟨[.ref f], []⟩) (CR L2.CX0 X.stack X.prog X.w H1 s1 Q E00) s1 := by
    refine LamX.run_ofS (N := Ng) (ps := [a]) (us := [.ref f]) (vs := [.ref f]) lk hcg Sg hr I1.env0 (hb s1 [.ref f] I1.kIn rfl) (.cons rfl .nil) rfl fun hr2 => ?_
    obtain ⟨t, ht, hq⟩ := give X.A X.stack s1 H1 f c' (X.env.qual ++ "<lambda>") Q (fun E H' Q' => lE X (fun c d _ H => E c d H) fe σ H' Q') gd
      (fun W pn xe p1 p2 tk => lm_act (tb := fun E => lE X (fun c d _ H => E c d H) fe) (i := 0) I1 L md tk hr2 gd (fun A outer s H E gd3 hr3 => hbody A outer s H E f c' gd3 hr3) n0 va hd hcd) hco
      ⟨ρ, F, h, fun h' => fe sl h', rh_tab rh eN T1, fun ρ1 F1 h1 H2 Q1 E1 ex rh1 o1 => ⟨ρ1, F1, sl, h1, (rs.ext (ext_tab eN)).ext ex, rh1, o1⟩, (Out.unx o).ext (ext_tab eN)⟩
    exact ⟨t, ht.nox, hq⟩
  refine wpAny_call (codeAny_mono rc fun r s2 hq => ?_)
  cases r with
  | error e => exact (show False from hq).elim
  | ok fl =>
    cases fl with
    | ret u => exact I1.after hq
    | next => exact False.elim hq
    | brk => exact False.elim hq
    | cont => exact False.elim hq
end
end AVL

namespace AVL
open PySem PySem.Spec L2
/-! ### an exception that is kept: its fields, its class -/
def mAttrX (okc : Str → Bool) (f : Str) (x : AV) (h : AH) : Res AV := match x with
  | .exc c ks l => if okc c then match (ks.zip l).lookup f with
    | some y => .ok y h
    | none => .stuck
    else .stuck
  | _ => .stuck
def eAttrX (okc : Str → Bool) (f : Str) (fe : EM) : EM := fun sl h => (fe sl h).bind fun x h1 => mAttrX okc f x h1
theorem rv_lookup {K : PySem.W.Frag} {mg : Str → Option Value} {ρ : List Addr} {F : Hp} {f : Str} {y : AV} : ∀ {l : List AV} {fs : List (Str × V)}, RVs K mg ρ F l (fs.map (·.2)) → ((fs.map (·.1)).zip l).lookup f = some y → ∃ v, fs.lookup f = some v ∧ RV K mg ρ F y v
  | [], fs, r, e => by simp at e
  | x :: l, [], r, e => by simp at e
  | x :: l, (k, v) :: fs, r, e => by
    simp only [List.map_cons, RVs] at r
    obtain ⟨w, r', e1, a, b⟩ := r
    cases e1
    simp only [List.map_cons, List.zip_cons_cons, List.lookup_cons] at e ⊢
    cases q : (f == k) with
    | true => rw [q] at e; cases e; exact ⟨v, rfl, a⟩
    | false => rw [q] at e; exact rv_lookup b e
section
variable {X : Cx} {W : WX} {fe : EM} {e : Expr} {pos : Pos} {n : Str} {okc : Str → Bool}
theorem rAttrX (ok : ∀ c C, okc c = true → X.mg c = some (.ref C) → XfC X.K C ∧ PySem.W.findIn X.K (.ref C) n = some none) (he : PE X e (lE X W fe))
    (hb : attributeBase e n X.env (eval e X.env) = eval e X.env := by rfl) : PE X (.Attribute e n pos) (lE X W (eAttrX okc n fe)) := by
  refine ⟨fun pins s σ H Q I o => ?_⟩
  obtain ⟨ρ, F, sl, h, rs, rh, o⟩ := o
  refine attr_of hb (thn (he.run pins s σ H (fun v H1 => ∃ ρ1 F1 x h1, RH X.K X.mg ρ1 F1 h1 H1 ∧ RV X.K X.mg ρ1 F1 x v ∧ Out X.K X.mg (RV X.K X.mg) ρ1 F1 H1 (mAttrX okc n x h1) Q (fun c d H' => W c d σ H')) I
    ⟨ρ, F, sl, h, rs, rh, Out.bind (R := RV X.K X.mg) o fun x h1 ρ1 F1 H1 v ex rh1 rv o1 => ⟨ρ1, F1, x, h1, rh1, rv, o1⟩⟩) fun u s1 hh => ?_)
  obtain ⟨v, H1, I1, ru, ρ1, F1, x, h1, rh1, rv, o1⟩ := hh
  cases x with
  | exc c ks l =>
    unfold mAttrX at o1
    dsimp only at o1
    split at o1
    case isFalse => exact o1.elim
    rename_i hc
    split at o1
    case h_2 => exact o1.elim
    rename_i y hy
    simp only [RV] at rv
    obtain ⟨a, C, d, fs, rfl, em, q1, q2, rfl, rr⟩ := rv
    obtain ⟨T, hno⟩ := ok c C hc em
    have x1 : ObjOk X.prog X.w H1 s1.heap a (EXV a (.ref C) (some d)) := I1.hok a _ (rh1.sub _ _ q1)
    obtain ⟨⟨oe, vs, g1, g2, g3, g4⟩, _, _⟩ := x1
    have x2 : ObjOk X.prog X.w H1 s1.heap d (.xd fs) := I1.hok d _ (rh1.sub _ _ q2)
    obtain ⟨mA, hns, hr⟩ := x2
    obtain ⟨od, ho, hl⟩ := lookIn_ns hns
    obtain ⟨z, el, rz⟩ := rv_lookup rr hy
    obtain ⟨w, hw, rw'⟩ := RelO.some_of (v := z) (o := mA n) (by rw [← el]; exact hr n)
    obtain rfl : u = Value.ref a := ru
    have J : PySem.W.InstAt s1.heap a oe C (some od) := ⟨g1, g2, by unfold PySem.W.notCls; rw [g4] <;> rfl, by rw [g3]; exact ho⟩
    exact HandSPX.exc_get I1.kIn J T.ga T.gg T.exC (PySem.W.findObj_own T.hdC hno rfl (by rw [hl, hw])) (handed_of rw') ⟨z, H1, I1.tok _, rw', o1.now rh1 rz⟩
  | _ => exact o1.elim
end
/-- what isinstance asks of an own exception's class -/
def excIsB (K : PySem.W.Frag) (C : Addr) : Bool :=
  (PySem.W.clsIn K C).isSome && (decide (PySem.W.findIn K (.ref C) "__getattribute__" = some (some (.builtin "BaseException.__getattribute__"))) && (decide (PySem.W.findIn K (.ref C) "__getattr__" = some none) && (decide (PySem.W.subIn K (.ref C) (.type "BaseException") = some true) &&
    (decide (PySem.W.findIn K (.ref C) "__class__" = some (some (.builtin "object.__class__"))) && (decide (PySem.W.specialIn K (.builtin "object.__class__") "__get__" = some (some (.builtin "getset_descriptor.__get__"))) &&
      (decide (PySem.W.takesIn K (.builtin "object.__class__") = some true) && decide (PySem.W.mroIn K C (.type "object") = some true)))))))
theorem excIs_of {K : PySem.W.Frag} {C : Addr} (h : excIsB K C = true) : ExcIs K C := by
  unfold excIsB at h
  simp only [Bool.and_eq_true, decide_eq_true_eq] at h
  obtain ⟨h1, h2, h3, h4, h5, h6, h7, h8⟩ := h
  refine ⟨fun a d hh oe vs mA g1 g2 g3 g4 hns => ?_⟩
  obtain ⟨od, ho, _⟩ := lookIn_ns hns
  exact ⟨_, PySem.W.kitx_exc (ox := oe) (od := some od) h1 h2 h3 h4 h5 h6 h7 h8, ⟨g1, g2, by unfold PySem.W.notCls; rw [g4] <;> rfl, by rw [g3]; exact ho⟩⟩
/-! ### repr of data -/
def mRepr (xs : List AV) (h : AH) : Res AV := match xs with
  | [x] => match pd 60 h x with
    | some d => if d.showable && (!d.hasDict && decide (d.shown.length ≤ sizeLine)) then .ok (.str d.shown) h else .stuck
    | none => .stuck
  | _ => .stuck
theorem mRepr_calm : CalmA mRepr := fun xs h => by
  unfold mRepr
  split
  · split
    · split <;> trivial
    · trivial
  · trivial
theorem mRepr_ok {X : Cx} {k : Nat} (gd : X.A.guards = some []) (hr : Room k X.A) : CallOk X (.builtin "repr") mRepr := by
  intro pins s σ H vs us Q I r1 ⟨ρ, F, xs, h, rv, rh, o⟩
  unfold mRepr at o
  split at o
  case h_2 => exact o.elim
  rename_i x
  obtain ⟨v, rfl, rx⟩ := rv.one
  obtain ⟨u, rfl, ru⟩ := vals1 r1
  split at o
  case h_2 => exact o.elim
  rename_i d hd
  split at o
  case isFalse => exact o.elim
  rename_i hc
  simp only [Bool.and_eq_true, Bool.not_eq_true', decide_eq_true_eq] at hc
  obtain ⟨c1, c2, c3⟩ := hc
  obtain ⟨p1, _, p3⟩ := pd_ok rh 60 x v d rx hd
  obtain ⟨as, rd⟩ := Dp.reads I d v u p1 ru
  have fin : ∀ (h' : Heap) (t tk : Tok), (∀ b o, s.heap.get? b = some o → h'.get? b = some o) → EP X pins σ Q (.str d.shown t) { s with heap := h', toks := tk } := fun h' t tk hk => ⟨.str d.shown, H, I.kept hk, ⟨t, rfl⟩, o.now rh (by simp [RV])⟩
  have hu := hr.units
  cases rd with
  | none => exact PySem.P.repr_of_none (by simpa [PyData.shown] using fin s.heap s.toks (s.toks + 1) fun _ _ e => e)
  | bool b => exact PySem.P.repr_of_bool (by simpa [PyData.shown] using fin s.heap s.toks (s.toks + 1) fun _ _ e => e)
  | int i t => exact PySem.P.repr_of_int (by simpa [PyData.showable] using c1) (by simpa [PyData.shown] using fin s.heap s.toks (s.toks + 1) fun _ _ e => e)
  | str y t => exact PySem.P.repr_of_str (by simpa [PyData.shown] using fin s.heap s.toks (s.toks + 1) fun _ _ e => e) (by simpa [PyData.shown] using c3)
  | list a1 a2 a3 a4 => exact repr_of_reads' (Reads.list a1 a2 a3 a4) c1 (fun z => by rw [c2] at z; cases z) gd (by omega) (fun _ _ e => e) (fun h' t tk hk => fin h' t tk hk) c3
  | tuple a1 a2 a3 a4 => exact repr_of_reads' (Reads.tuple a1 a2 a3 a4) c1 (fun z => by rw [c2] at z; cases z) gd (by omega) (fun _ _ e => e) (fun h' t tk hk => fin h' t tk hk) c3
  | dict a1 a2 a3 a4 a5 => cases p1
/-! ### {i: j}, of the text -/
theorem rDict1 {X : Cx} {W : WX} {i j : Int} {a b : Nat} {p1 p2 pos : Pos} : PE X (.Dict [some (.Constant (.int i) a p1)] [.Constant (.int j) b p2] pos) (lE X W (eC (.dct [.inl i] [.int j]))) := by
  refine pe_imp (pe_disp (pps_cons pe_int pe_int pps_nil) rfl rfl (fun z => nomatch z) (show 1 ≤ 15 by decide)) fun σ H Q ⟨ρ, F, sl, h, rs, rh, o⟩ => ?_
  intro p hp
  refine ⟨upd_same, [(.inl i, .int j)], rfl, (show 1 ≤ 15 by decide), ?_⟩
  rw [upd_upd]
  refine o ρ (upd F p (.dK [(.inl i, .int j)])) _ _ (ext_frz rh hp) (rh_frz rh hp) ?_
  simp only [RV, RVs]
  exact ⟨p, _, rfl, upd_same, rfl, _, _, rfl, rfl, rfl⟩
/-- a class of the module, as a value -/
theorem rCls {X : Cx} {W : WX} {c : Str} {pos : Pos} (h : ∃ C, X.mg c = some (.ref C)) (hg : Gl X c := by rfl) (hd : (c == ("__debug__" : Str)) = false := by decide) : PE X (.Name c pos) (lE X W (eC (.cls c))) := by
  obtain ⟨C, hm⟩ := h
  refine ⟨fun pins s σ H Q I ⟨ρ, F, sl, h, rs, rh, o⟩ => ld_glob I hg hm ⟨.ref C, H, I, rfl, Out.now (R := RV X.K X.mg) o rh ?_⟩ hd⟩
  simp only [RV]
  exact ⟨C, rfl, hm⟩
theorem lam_takes {X : Cx} {A : Around} {outer : List Env} {s : Shared} {H : Hp} {E : XK} {own : Scope} {f c' : Addr} : Takes (LamX.lamCx X A outer s H E own f c') (fun c d _ H => E c d H) :=
  takes_of (X := LamX.lamCx X A outer s H E own f c') (E := E) rfl rfl rfl rfl
end AVL

namespace AVL
open PySem PySem.Spec PySem.Calls L2 LamX PyProof.Rows
/-! ### own exceptions' classes, told by a test -/
def oexB (K : PySem.W.Frag) (C : Addr) : Bool := (match K.lookup C with
  | some ⟨.type t, _, .cls cd, sl⟩ => (match cd.mro, sl.toList with
    | .ref C' :: bm, [_, _, _, _, some (.builtin n), _] => decide (t = "type") && (decide (C' = C) && (decide (n = "ValueError.__new__") && (!cd.hasDel && (cd.hasDict && PySem.HandSPX.refsVE bm))))
    | _, _ => false)
  | _ => false) && (decide (PySem.W.findIn K (.ref C) "__setattr__" = some (some (.builtin "object.__setattr__"))) && (decide (PySem.W.subIn K (.ref C) (.type "BaseException") = some true) && (decide (PySem.W.typeIn K (.ref C) = some (.type "type")) && PySem.W.keepIn K (.ref C))))
theorem oex_of {K : PySem.W.Frag} {C : Addr} (h : oexB K C = true) : OexC K C := by
  unfold oexB at h
  obtain ⟨h1, h⟩ := Bool.and_eq_true_iff.mp h
  obtain ⟨h2, h⟩ := Bool.and_eq_true_iff.mp h
  obtain ⟨h3, h⟩ := Bool.and_eq_true_iff.mp h
  obtain ⟨h4, h5⟩ := Bool.and_eq_true_iff.mp h
  refine ⟨?_, of_decide_eq_true h2, of_decide_eq_true h3, of_decide_eq_true h4, h5⟩
  split at h1
  · rename_i t dd cd sl ho
    split at h1
    · rename_i C' bm k0 k1 k2 k3 n k5 hm hs
      simp only [Bool.and_eq_true, decide_eq_true_eq, Bool.not_eq_true'] at h1
      obtain ⟨rfl, rfl, rfl, hdel, hdct, hr⟩ := h1
      obtain ⟨nm, bs, mro, ns, qn, hd, sn, sub, ab, col, del⟩ := cd
      dsimp only at hm hdel hdct
      subst hm hdel hdct
      have hsl : sl = #[k0, k1, k2, k3, some (.builtin "ValueError.__new__"), k5] := by
        obtain ⟨l⟩ := sl
        simp only at hs
        rw [hs]
      subst hsl
      exact ⟨nm, qn, ns, bs, bm, sn, sub, ab, col, dd, k0, k1, k2, k3, k5, ho, hr⟩
    · cases h1
  · cases h1
/-! ### the tables of code objects -/
def lamAt (K : PySem.W.Frag) (x : Str) : Addr × Addr := match K.lookup (He.ga K x) with
  | some ⟨_, _, .func fd, _⟩ => (match fd.code with
    | .ref c => (match K.lookup c with
      | some ⟨_, _, .fields vs, _⟩ => (match (vs[11]? : Option Value) with
        | some (Value.ref P) => (c, P)
        | _ => (0, 0))
      | _ => (0, 0))
    | _ => (0, 0))
  | _ => (0, 0)
def isS : Value → Bool
  | .str _ _ => true
  | _ => false
def isI : Value → Bool
  | .int _ _ => true
  | _ => false
def isB : Value → Bool
  | .bool _ => true
  | _ => false
def codeHB (K : PySem.W.Frag) (p : Addr × Addr) : Bool := match K.lookup p.1 with
  | some ⟨.type t, _, .fields vs, _⟩ => decide (t = "code") && (decide (vs[11]? = some (.ref p.2)) && (decide (vs.getD 11 .none = .ref p.2) && (isS (vs.getD 18 .none) && (isI (vs.getD 7 .none) && (isB (vs.getD 9 .none) && (isI (vs.getD 10 .none) && decide (p.1 ≠ p.2)))))))
  | _ => false
theorem codeH_of {K : PySem.W.Frag} {p : Addr × Addr} {h : Heap} (X : K.In h) (e : codeHB K p = true) : PySem.W.CodeHd h p.1 p.2 := by
  unfold codeHB at e
  split at e
  · rename_i t dd vs sl ho
    simp only [Bool.and_eq_true, decide_eq_true_eq] at e
    obtain ⟨rfl, e1, e2, e3, e4, e5, e6, e7⟩ := e
    have s3 : ∃ a b, vs.getD 18 .none = .str a b := by
      cases q : vs.getD 18 .none with
      | str a b => exact ⟨a, b, rfl⟩
      | _ => rw [q] at e3; cases e3
    have s4 : ∃ a b, vs.getD 7 .none = .int a b := by
      cases q : vs.getD 7 .none with
      | int a b => exact ⟨a, b, rfl⟩
      | _ => rw [q] at e4; cases e4
    have s5 : ∃ a, vs.getD 9 .none = .bool a := by
      cases q : vs.getD 9 .none with
      | bool a => exact ⟨a, rfl⟩
      | _ => rw [q] at e5; cases e5
    have s6 : ∃ a b, vs.getD 10 .none = .int a b := by
      cases q : vs.getD 10 .none with
      | int a b => exact ⟨a, b, rfl⟩
      | _ => rw [q] at e6; cases e6
    obtain ⟨a3, b3, s3⟩ := s3
    obtain ⟨a4, b4, s4⟩ := s4
    obtain ⟨a5, s5⟩ := s5
    obtain ⟨a6, b6, s6⟩ := s6
    exact ⟨_, vs, a3, b3, a4, b4, a5, a6, b6, X _ _ ho, rfl, rfl, e1, e2, s3, s4, s5, s6, e7⟩
  · cases e
def emptyB (K : PySem.W.Frag) (P : Addr) : Bool := match K.lookup P with
  | some ⟨.none, none, .fields vs, sl⟩ => vs.isEmpty && sl.isEmpty
  | _ => false
theorem empty_of {K : PySem.W.Frag} {P : Addr} {h : Heap} (X : K.In h) (e : emptyB K P = true) : h.get? P = some { cls := .none, data := .fields #[] } := by
  unfold emptyB at e
  split at e
  · rename_i vs sl ho
    simp only [Bool.and_eq_true, Array.isEmpty_iff] at e
    obtain ⟨rfl, rfl⟩ := e
    exact X _ _ ho
  · cases e
/-- the defs that make lambdas: their tables are taken out, and told of behind -/
def lamQ (x : Str) : Str := (x ++ ".<locals>.") ++ "<lambda>"
def markO (K : PySem.W.Frag) (ls : List Str) : Obj := { cls := .none, data := .seq (ls.map fun x => Value.str (lamQ x) (lamAt K x).2).toArray }
def mkK (ls : List Str) (K : PySem.W.Frag) : PySem.W.Frag := (K.filter fun e => !(ls.map fun x => (lamAt K x).2).contains e.1) ++ [(mainGlobals, markO K ls)]
theorem lookup_filter {f : Addr → Bool} {a : Addr} {o : Obj} : ∀ {K : PySem.W.Frag}, (K.filter fun e => f e.1).lookup a = some o → K.lookup a = some o ∧ f a = true
  | [], e => by simp at e
  | (b, u) :: r, e => by
    rw [List.filter_cons] at e
    cases hf : f b with
    | true =>
      simp only [hf, if_true] at e
      rw [List.lookup_cons] at e ⊢
      cases q : (a == b) with
      | true =>
        rw [q] at e
        refine ⟨e, ?_⟩
        rw [beq_iff_eq.mp q]; exact hf
      | false => rw [q] at e; exact lookup_filter (K := r) e
    | false =>
      simp only [hf] at e
      obtain ⟨h1, h2⟩ := lookup_filter (K := r) (by simpa using e)
      refine ⟨?_, h2⟩
      rw [List.lookup_cons]
      cases q : (a == b) with
      | true => rw [beq_iff_eq.mp q, hf] at h2; cases h2
      | false => exact h1
def headB (ls : List Str) (K : PySem.W.Frag) : Bool := ((K.filter fun e => !(ls.map fun x => (lamAt K x).2).contains e.1).lookup mainGlobals).isSome && ls.all fun x => codeHB K (lamAt K x) && (emptyB K (lamAt K x).2 && (decide ((mkK ls K).lookup (lamAt K x).2 = none) && ls.all fun y => decide ((lamAt K y).2 = (lamAt K x).2 → y = x)))
theorem mkK_in {ls : List Str} {K : PySem.W.Frag} {h : Heap} (X : K.In h) (e : headB ls K = true) : (mkK ls K).In h := by
  intro a o q
  obtain ⟨e1, _⟩ := Bool.and_eq_true_iff.mp e
  unfold mkK at q
  rw [List.lookup_append] at q
  cases z : (K.filter fun e => !(ls.map fun x => (lamAt K x).2).contains e.1).lookup a with
  | some o2 =>
    rw [z] at q
    cases q
    exact X _ _ (lookup_filter (f := fun b => !(ls.map fun x => (lamAt K x).2).contains b) z).1
  | none =>
    rw [z] at q
    have q2 : ([(mainGlobals, markO K ls)] : PySem.W.Frag).lookup a = some o := q
    rw [List.lookup_cons] at q2
    cases y : (a == mainGlobals) with
    | true => rw [beq_iff_eq.mp y] at z; rw [z] at e1; cases e1
    | false => rw [y] at q2; cases q2
theorem tabs_mkK {ls : List Str} {K : PySem.W.Frag} : tabsOf (mkK ls K) = ls.map fun x => ((lamAt K x).2, lamQ x) := by
  have key : ∀ l : List Str, (l.map fun x => Value.str (lamQ x) (lamAt K x).2).filterMap (fun v => match v with
    | .str q a => some (a, q)
    | _ => none) = l.map fun x => ((lamAt K x).2, lamQ x) := by
    intro l
    induction l with
    | nil => rfl
    | cons x r ih => rw [List.map_cons, List.filterMap_cons, ih]; rfl
  unfold tabsOf mkK
  rw [List.getLast?_append]
  exact key ls
theorem mkK_get {ls : List Str} {K : PySem.W.Frag} (e : headB ls K = true) {a : Addr} {o : Obj} (q : (mkK ls K).lookup a = some o) : K.lookup a = some o := by
  obtain ⟨e1, _⟩ := Bool.and_eq_true_iff.mp e
  unfold mkK at q
  rw [List.lookup_append] at q
  cases z : (K.filter fun e => !(ls.map fun x => (lamAt K x).2).contains e.1).lookup a with
  | some o2 =>
    rw [z] at q
    cases q
    exact (lookup_filter (f := fun b => !(ls.map fun x => (lamAt K x).2).contains b) z).1
  | none =>
    rw [z] at q
    have q2 : ([(mainGlobals, markO K ls)] : PySem.W.Frag).lookup a = some o := q
    rw [List.lookup_cons] at q2
    cases y : (a == mainGlobals) with
    | true => rw [beq_iff_eq.mp y] at z; rw [z] at e1; cases e1
    | false => rw [y] at q2; cases q2
theorem mkK_main {ls : List Str} {K : PySem.W.Frag} (e : headB ls K = true) : (mkK ls K).lookup mainGlobals = K.lookup mainGlobals := by
  obtain ⟨e1, _⟩ := Bool.and_eq_true_iff.mp e
  obtain ⟨o, ho⟩ := Option.isSome_iff_exists.mp e1
  have z : (mkK ls K).lookup mainGlobals = some o := by
    unfold mkK
    rw [List.lookup_append, ho]; rfl
  rw [z, mkK_get e z]
theorem mkK_ga {ls : List Str} {K : PySem.W.Frag} (e : headB ls K = true) (x : Str) : He.ga (mkK ls K) x = He.ga K x := by
  unfold He.ga PySem.W.nsIn
  rw [mkK_main e]
theorem lam_fact {ls : List Str} {K : PySem.W.Frag} {x : Str} {base : Heap} {mg : Str → Option Value} (hx : x ∈ ls) (e : headB ls K = true) (TB : ∀ p ∈ ls.map (lamAt K), TabB base mg p.1 p.2) (fd : FuncData)
    (lk : ∃ oc od osl, (mkK ls K).lookup (He.ga (mkK ls K) x) = some ⟨oc, od, .func fd, osl⟩) : ∃ cA PA2, fd.code = .ref cA ∧ TabB base mg cA PA2 ∧ (PA2, lamQ x) ∈ tabsOf (mkK ls K) ∧ ∀ p ∈ tabsOf (mkK ls K), p.1 = PA2 → p.2 = lamQ x := by
  obtain ⟨oc, od, osl, lk⟩ := lk
  have lk0 := mkK_get e lk
  rw [mkK_ga e] at lk0
  have e2 := e
  unfold headB at e2
  simp only [Bool.and_eq_true, List.all_eq_true, decide_eq_true_eq] at e2
  obtain ⟨_, hh⟩ := e2
  obtain ⟨h1, h2, h3, h4⟩ := hh x hx
  refine ⟨(lamAt K x).1, (lamAt K x).2, ?_, TB _ (List.mem_map.mpr ⟨x, hx, rfl⟩), ?_, fun p hp ep => ?_⟩
  · have ne : (lamAt K x).1 ≠ (lamAt K x).2 := by
      unfold codeHB at h1
      split at h1
      · simp only [Bool.and_eq_true, decide_eq_true_eq] at h1
        exact h1.2.2.2.2.2.2.2
      · cases h1
    unfold lamAt at ne ⊢
    rw [lk0] at ne ⊢
    dsimp only at ne ⊢
    split at ne
    · rename_i c hc
      rw [hc]
      split at ne
      · split at ne
        · rfl
        · exact absurd rfl ne
      · exact absurd rfl ne
    · exact absurd rfl ne
  · rw [tabs_mkK]
    exact List.mem_map.mpr ⟨x, hx, rfl⟩
  · rw [tabs_mkK] at hp
    obtain ⟨y, hy, rfl⟩ := List.mem_map.mp hp
    rw [h4 y hy ep]
/-! ### the hook -/
def obsB (ls : List Str) (fb : PySem.W.Frag → Bool) (fn : List He.DefD) (K0 : PySem.W.Frag) : He.AlD := (headB ls K0 && (fb (mkK ls K0) && fn.all fun d => d.ok (mkK ls K0)), fn.map fun d => He.fnW (mkK ls K0) d.at_)
def obsBG (n : Nat) (ls : List Str) (fb : PySem.W.Frag → Bool) (fn : List He.DefD) (g : Addr → Option Obj) : He.AlD := obsB ls fb fn (He.frG g (He.asD g n))
def SaysB (ls : List Str) (fb : PySem.W.Frag → Bool) (fn : List He.DefD) (K0 : PySem.W.Frag) : Prop := obsB ls fb fn K0 = He.valD fn
def hookB (n : Nat) (ls : List Str) (fb : PySem.W.Frag → Bool) (fn : List He.DefD) : PySem.W.Hook where
  α := He.AlD
  obs := fun s => obsBG n ls fb fn s.heap.get?
  val := fun _ => He.valD fn
  says := fun _ h => ∃ K : PySem.W.Frag, K.In h ∧ SaysB ls fb fn K
  of := fun _ _ e => ⟨_, He.frG_in, e⟩
  keeps := fun _ _ _ ⟨K, hK, c⟩ k => ⟨K, PySem.W.Frag.In.keeps hK k, c⟩
theorem obsBG_eq {n : Nat} {ls : List Str} {fb : PySem.W.Frag → Bool} {fn : List He.DefD} {g : Addr → Option Obj} {s : Shared} (h : ∀ a, g a = s.heap.get? a) : obsBG n ls fb fn g = (hookB n ls fb fn).obs s := by
  have e : g = s.heap.get? := funext h
  rw [e] <;> rfl
section
variable {ls : List Str} {fb : PySem.W.Frag → Bool} {fn : List He.DefD} {K : PySem.W.Frag}
theorem SaysB.head (c : SaysB ls fb fn K) : headB ls K = true := (Bool.and_eq_true_iff.mp (show (headB ls K && (fb (mkK ls K) && fn.all fun d => d.ok (mkK ls K))) = true from congrArg (fun z : He.AlD => z.1) c)).1
theorem SaysB.fact (c : SaysB ls fb fn K) : fb (mkK ls K) = true := (Bool.and_eq_true_iff.mp (Bool.and_eq_true_iff.mp (show (headB ls K && (fb (mkK ls K) && fn.all fun d => d.ok (mkK ls K))) = true from congrArg (fun z : He.AlD => z.1) c)).2).1
theorem SaysB.def_ (c : SaysB ls fb fn K) (i : Nat) {d : He.DefD} (h : fn[i]? = some d := by rfl) : ∃ fd, FunD (mkK ls K) d.name d.qual d.params d.body d.scope (d.dvs (mkK ls K)) (d.kws (mkK ls K)) (He.fAd (mkK ls K) d.at_) fd := by
  have c2 := (Bool.and_eq_true_iff.mp (Bool.and_eq_true_iff.mp (show (headB ls K && (fb (mkK ls K) && fn.all fun d => d.ok (mkK ls K))) = true from congrArg (fun z : He.AlD => z.1) c)).2).2
  have e : fn.map (fun d => He.fnW (mkK ls K) d.at_) = fn.map He.DefD.val := congrArg (fun z : He.AlD => z.2) c
  have e2 : (fn.map fun d => He.fnW (mkK ls K) d.at_)[i]? = (fn.map He.DefD.val)[i]? := by rw [e]
  rw [List.getElem?_map, List.getElem?_map, h] at e2
  exact He.DefD.funD (Option.some.inj e2) (List.all_eq_true.mp c2 d (List.mem_of_getElem? h))
end
/-! ### the law's call -/
theorem law_g {P : Program} {w : World} {K : PySem.W.Frag} {mg mb : Str → Option Value} {k : Nat} {fa a : Addr} {cs : List (Addr × Addr)} {fd : FuncData} {x : Str} {mf : MF} {t : Shared} {vs : List Value} {ns : List Int}
    (KX : K.In t.heap) (hns : t.heap.Ns mainGlobals mg) (hb : t.heap.Ns builtinsNs mb) (hbb : ∀ x : Str, x ≠ "__name__" → mb x = bootBuiltins x) (hlim : t.heap.NoLimit) (hg : t.gens = #[])
    (hT : ∀ p ∈ cs, t.heap.get? p.2 = some { cls := .none, data := .fields #[] }) (nT : ∀ p ∈ cs, K.lookup p.2 = none) (C : ∀ p ∈ cs, PySem.W.CodeHd t.heap p.1 p.2) (hcs : ∀ q ∈ tabsOf K, ∃ p ∈ cs, p.2 = q.1)
    (hbm : ∃ (bm : Addr) (ob : Obj), mg "__builtins__" = some (.ref bm) ∧ bm ≠ builtinsNs ∧ t.heap.get? bm = some ob ∧ ob.cls = .type "module" ∧ ob.dict = some builtinsNs ∧ ob.data = .plain)
    (ha : t.heap.get? a = some { cls := .type "list", data := .seq vs.toArray }) (hi : IntsAre vs ns) (hl : ns.length ≤ sizeLine) (hr : Room k callerA)
    (F : ∀ base : Heap, K.In base → base.Ns mainGlobals mg → (∀ p ∈ cs, TabB base mg p.1 p.2) → FnG P w K mg base k fa fd [x] (spOf K mg 1 mf)) (hbind : ∀ (s : Shared) (u : Value), BindsTo s fd ⟨[u], []⟩ [(x, u)])
    (tr : ∃ h, mf [.klst (ns.map .int)] [] = .ok (.bl true) h) :
    codeAny (model P w) callerA (.call (.ref fa) ⟨[.ref a], []⟩) (fun r s' => r = .ok (.ret (.bool true)) ∧ OldK t.heap s'.heap ∧ s'.os = t.os ∧ AllBare s'.gens) t := by
  have rv := vals_ints hi
  have lenV := hi.length
  let ts := cs.map (·.2)
  have isT : ∀ b ∈ ts, t.heap.get? b = some { cls := .none, data := .fields #[] } := fun b hb => by
    obtain ⟨p, hp, e⟩ := List.mem_map.mp hb
    rw [← e]; exact hT p hp
  have aT : a ∉ ts := fun z => by
    have q := isT a z
    rw [ha] at q
    cases q
  have tT : ∀ p ∈ cs, p.2 ∈ ts := fun p hp => List.mem_map.mpr ⟨p, hp, rfl⟩
  let so : Obj := { cls := .type "list", data := .seq vs.toArray }
  let H : Hp := fun b => if b = a ∧ K.lookup a = none then some (.frz so (.lst (ns.map V.int))) else if b ∈ ts then some (.tbl #[]) else none
  have Hcase : ∀ b u, H b = some u → (b = a ∧ K.lookup a = none ∧ u = .frz so (.lst (ns.map V.int))) ∨ (b ∈ ts ∧ u = .tbl #[]) := fun b u e => by
    show _ ∨ _
    have e2 : (if b = a ∧ K.lookup a = none then some (HO.frz so (.lst (ns.map V.int))) else if b ∈ ts then some (.tbl #[]) else none) = some u := e
    split at e2
    · rename_i q; exact .inl ⟨q.1, q.2, (Option.some.inj e2).symm⟩
    · split at e2
      · rename_i q; exact .inr ⟨q, (Option.some.inj e2).symm⟩
      · cases e2
  have HT : ∀ p ∈ cs, H p.2 = some (.tbl #[]) := fun p hp => by
    show (if p.2 = a ∧ K.lookup a = none then _ else if p.2 ∈ ts then some (HO.tbl #[]) else none) = _
    rw [if_neg (fun z => aT (by rw [← z.1]; exact tT p hp)), if_pos (tT p hp)]
  have hok : HOk P w H t.heap := fun b u e => by
    rcases Hcase b u e with ⟨rfl, _, rfl⟩ | ⟨hb, rfl⟩
    · exact ⟨ha, by rw [List.length_map]; exact hl, vs, _, rv, ha⟩
    · exact isT b hb
  have free : ∀ {b : Addr} {o : Obj}, t.heap.get? b = some o → (∀ v n, o.data ≠ .seq v n) → o.data ≠ .fields #[] → H b = none := fun {b o} e h1 h2 => by
    cases q : H b with
    | none => rfl
    | some u =>
      rcases Hcase b u q with ⟨rfl, _, _⟩ | ⟨hb, _⟩
      · rw [ha] at e; cases e; exact absurd rfl (h1 _ _)
      · rw [isT b hb] at e; cases e; exact absurd rfl h2
  have based : ∀ {b : Addr} {o : Obj}, t.heap.get? b = some o → (∀ v n, o.data ≠ .seq v n) → o.data ≠ .fields #[] → (hidT t.heap H).get? b = some o := fun e h1 h2 => hidT_get e (free e h1 h2)
  have nsB : ∀ {b : Addr} {m : Str → Option Value}, t.heap.Ns b m → (hidT t.heap H).Ns b m := fun {b m} ⟨o, es, ep, e, d, r⟩ => ⟨o, es, ep, based e (fun v n z => by rw [d] at z; cases z) (fun z => by rw [d] at z; cases z), d, r⟩
  have kB : K.In (hidT t.heap H) := fun b o e => hidT_get (KX b o e) (by
    cases q : H b with
    | none => rfl
    | some u =>
      rcases Hcase b u q with ⟨rfl, z, _⟩ | ⟨hb, _⟩
      · rw [z] at e; cases e
      · obtain ⟨p, hp, ep⟩ := List.mem_map.mp hb
        have z := nT p hp
        rw [show p.2 = b from ep] at z
        rw [z] at e; cases e)
  have md : L2.Mod K mg (hidT t.heap H) := ⟨kB, nsB hns, ⟨mb, nsB hb, hbb⟩, let ⟨mc, h1, h2⟩ := hlim; ⟨mc, nsB h1, h2⟩⟩
  have TB : ∀ p ∈ cs, TabB (hidT t.heap H) mg p.1 p.2 := fun p hp => by
    refine ⟨?_, ?_, fun z => ?_⟩
    · obtain ⟨o, us, fl, tf, fg, tg, iF, tx, tt, e1, r1, r2, r3, rr⟩ := C p hp
      exact ⟨o, us, fl, tf, fg, tg, iF, tx, tt, based e1 (fun v n z => by rw [r2] at z; cases z) (fun z => by rw [r2] at z; cases z; simp at r3), r1, r2, r3, rr⟩
    · obtain ⟨bm, ob, b1, b2, b3, b4, b5, b6⟩ := hbm
      refine ⟨bm, ob, b1, b2, fun q => ?_, fun q => ?_, based b3 (fun v n z => by rw [b6] at z; cases z) (fun z => by rw [b6] at z; cases z), b4, b5, b6⟩
      · obtain ⟨o, es, ep, e, hd, _⟩ := hns
        rw [q, e] at b3; cases b3; rw [hd] at b6; cases b6
      · rw [q, hT p hp] at b3; cases b3; cases b6
    · obtain ⟨o, es, ep, e, hd, _⟩ := hns
      rw [z, hT p hp] at e; cases e; cases hd
  have e0 : Env0 P w K mg (hidT t.heap H) callerA [] t H := ⟨rfl, md, fun b o e => of_hidT e, Nat.le_of_eq (hidT_size _ _), trivial, fun b hb => absurd (show b ∈ ([] : List Addr) from hb) (by simp), hok, .of_eq hg⟩
  have hS : SqL K H a (ns.map V.int) := by
    cases hk : K.lookup a with
    | none => exact .inl (.inr ⟨so, if_pos ⟨rfl, hk⟩⟩)
    | some o =>
      have e := KX a o hk
      rw [ha] at e
      cases e
      exact .inr ⟨_, vs.toArray, _, hk, rfl, rfl, rfl, by rw [List.size_toArray, lenV]; exact hl, by simpa using rv⟩
  let F0 : Hp := fun b => if b = a then H a else none
  have F0a : F0 a = H a := if_pos rfl
  have hSF : SqL K F0 a (ns.map V.int) := by
    rcases hS with (h | ⟨o, h⟩) | h
    · exact .inl (.inl (F0a.trans h))
    · exact .inl (.inr ⟨o, F0a.trans h⟩)
    · exact .inr h
  have rints : ∀ l : List Int, RVs K mg [] F0 (l.map .int) (l.map V.int) := fun l => by
    induction l with
    | nil => simp [RVs]
    | cons i r ih => simp only [List.map_cons, RVs, RV]; exact ⟨_, _, rfl, rfl, ih⟩
  obtain ⟨hE, trE⟩ := tr
  have sp : spOf K mg 1 mf [.ref a] H (fun v _ => v = .bl true) E00 := by
    refine ⟨[], F0, [.klst (ns.map .int)], [], ?_, ?_, rfl, ?_⟩
    · simp only [RVs, RV]
      exact ⟨_, _, rfl, ⟨a, _, rfl, hSF, rints ns⟩, rfl⟩
    · refine ⟨rfl, fun q hq => ?_, fun b ps e => ?_, List.nodup_nil, fun b o e => ?_, fun n c e => by simp at e, fun n c e => by simp at e, fun n c e => by simp at e⟩
      · obtain ⟨p, hp, e⟩ := hcs q hq
        exact TabS.nil (by rw [← e]; exact HT p hp)
      · have e2 : (if b = a then H a else none) = some (HO.tbl ps) := e
        split at e2
        · rcases Hcase a _ e2 with ⟨_, _, z⟩ | ⟨z, _⟩
          · cases z
          · exact aT z
        · cases e2
      · have e2 : (if b = a then H a else none) = some o := e
        split at e2
        · rename_i q; rw [q]; exact e2
        · cases e2
    · rw [trE]
      intro ρ1 F1 H1 v ex rh rv
      simpa [RV] using rv
  refine codeAny_mono ((F _ kB (nsB hns) TB).run callerA [] t H ⟨[.ref a], []⟩ [.ref a] [.ref a] _ _ rfl hr e0 (hbind t (.ref a)) (.cons rfl .nil) rfl sp) fun r s' h => ?_
  cases r with
  | error e =>
    exfalso
    obtain ⟨_, _, _, _, _, _, _, _, _, _, _, _, z⟩ := h
    exact z
  | ok fl =>
    cases fl with
    | next => exact False.elim h
    | brk => exact False.elim h
    | cont => exact False.elim h
    | ret u =>
      obtain ⟨v, H', os, bare, un, hok', r', q⟩ := h
      have q' : v = .bl true := q
      subst q'
      obtain rfl : u = Value.bool true := r'
      have key : ∀ b o, b ∉ ts → t.heap.get? b = some o → s'.heap.get? b = some o := fun b o nb e => by
        cases q : H b with
        | none => exact un.keep b o e q (by intro z; exact absurd (show b ∈ ([] : List Addr) from z) (by simp)) (by simp)
        | some u =>
          rcases Hcase b u q with ⟨rfl, _, rfl⟩ | ⟨z, _⟩
          · have z2 := un.frzs _ _ _ q
            obtain ⟨y1, _⟩ := hok _ _ q
            obtain ⟨y2, _⟩ := hok' _ _ z2
            rw [e] at y1; cases y1
            exact y2
          · exact absurd z nb
      have grown : ∀ p ∈ cs, ∃ more : Array Value, s'.heap.get? p.2 = some { cls := .none, data := .fields more } := fun p hp => by
        obtain ⟨more, z⟩ := un.tbls p.2 #[] (HT p hp)
        exact ⟨_, hok' p.2 _ z⟩
      refine ⟨rfl, ⟨fun b o e => ?_, fun b o e => ?_⟩, os, bare⟩
      · by_cases hb : b ∈ ts
        · obtain ⟨p, hp, ep⟩ := List.mem_map.mp hb
          obtain ⟨more, hm⟩ := grown p hp
          have ep' : p.2 = b := ep
          rw [← ep'] at e ⊢
          rw [hT p hp] at e
          cases e
          exact .inr (.inl ⟨((C p hp).tab (hT p hp)).isCodeTable, rfl, #[], more, rfl, by rw [Array.empty_append]; exact hm⟩)
        · exact .inl (key b o hb e)
      · by_cases hb : b ∈ ts
        · obtain ⟨p, hp, ep⟩ := List.mem_map.mp hb
          obtain ⟨more, hm⟩ := grown p hp
          have ep' : p.2 = b := ep
          rw [← ep']
          exact ⟨_, hm⟩
        · exact ⟨o, key b o hb e⟩
theorem walk_g {l : PySem.W.OpenLaw} {n k : Nat} {q : Program} {loose : List Str} {XP : (Str → Option Value) → Heap → Prop} {YP : World → Heap → Prop} {d : DefRec} {x : Str} {mf : MF}
    (hn : l.most = some n) (hn2 : n ≤ sizeLine) (hdf : d.params.defaults = []) (hr : Room k callerA)
    (F : ∀ (w : World) (mg : Str → Option Value) (fa : Addr) (h : Heap), YP w h → h.Ns mainGlobals mg → mg d.name = some (.ref fa) →
      ∃ (K : PySem.W.Frag) (fd : FuncData) (cs : List (Addr × Addr)), K.In h ∧ (∀ p ∈ cs, h.get? p.2 = some { cls := .none, data := .fields #[] }) ∧ (∀ p ∈ cs, K.lookup p.2 = none) ∧ (∀ p ∈ cs, PySem.W.CodeHd h p.1 p.2) ∧ (∀ q ∈ tabsOf K, ∃ p ∈ cs, p.2 = q.1) ∧ (∀ (s : Shared) (u : Value), BindsTo s fd ⟨[u], []⟩ [(x, u)]) ∧
        ∀ base : Heap, K.In base → base.Ns mainGlobals mg → (∀ p ∈ cs, TabB base mg p.1 p.2) → FnG l.prog w K mg base k fa fd [x] (spOf K mg 1 mf))
    (tr : ∀ ns : List Int, ns.length ≤ n → (∀ z ∈ ns, Builtin.Int.intBits z ≤ 1048576) → ∃ h, mf [.klst (ns.map .int)] [] = .ok (.bl true) h) :
    PySem.W.WalkO q loose XP YP l.row.toRowW d [] (fun f vs => PySem.call f vs) := by
  refine Att.attach_callB hn hdf fun w s₀ t mg mb fa o pm cd doc a vs ns G Y ho hd hcd hmg hobj hints hlen hbits hg => ?_
  obtain ⟨K, fd, cs, KX, hT, nT, C, hcs, hb, hF⟩ := F w mg fa _ Y G.T.g hmg
  exact law_g KX G.T.g G.T.b G.T.builtins G.T.nolimit hg hT nT C hcs G.T.bmain hobj hints (Nat.le_trans hlen hn2) hr hF hb (tr ns hlen hbits)
/-! ### isinstance by a table -/
def tval (K : PySem.W.Frag) : Tag → Value
  | .ty n => .type n
  | .own c => .ref (He.ga K c)
  | .exn c => .ref (He.ga K c)
def tagIn (cl : List Str) : Tag → Bool
  | .ty _ => true
  | .own c => cl.contains c
  | .exn c => cl.contains c
def fstB (K : PySem.W.Frag) : Tag → Bool
  | .ty _ => true
  | .own _ => false
  | .exn c => excIsB K (He.ga K c)
def isaOf (L : List (Tag × Tag × Bool)) : IsaF := fun t u => (L.find? fun e => decide (e.1 = t) && decide (e.2.1 = u)).map (·.2.2)
def isaB (L : List (Tag × Tag × Bool)) (cl : List Str) (K : PySem.W.Frag) : Bool := L.all fun e => decide (PySem.W.kitOne K (tval K e.1) (tval K e.2.1) = some e.2.2) && ((tagIn cl e.1 && tagIn cl e.2.1) && fstB K e.1)
theorem isaOf_mem {L : List (Tag × Tag × Bool)} {t u : Tag} {b : Bool} (h : isaOf L t u = some b) : (t, u, b) ∈ L := by
  unfold isaOf at h
  cases q : L.find? fun e => decide (e.1 = t) && decide (e.2.1 = u) with
  | none => rw [q] at h; cases h
  | some e =>
    rw [q] at h
    have z := List.find?_some q
    have m := List.mem_of_find?_eq_some q
    simp only [Bool.and_eq_true, decide_eq_true_eq] at z
    obtain ⟨e1, e2, e3⟩ := e
    obtain ⟨rfl, rfl⟩ := z
    simp only [Option.map_some, Option.some.injEq] at h
    rw [← h]; exact m
theorem tval_of {K : PySem.W.Frag} {mg : Str → Option Value} {cl : List Str} (hc : ∀ c, cl.contains c = true → mg c = some (.ref (He.ga K c))) : ∀ {t : Tag} {v : Value}, tagIn cl t = true → TagV mg t v → v = tval K t
  | .ty n, v, _, h => h
  | .own c, v, q, ⟨C, e, em⟩ => by
    rw [hc c q] at em
    cases em
    exact e
  | .exn c, v, q, ⟨C, e, em⟩ => by
    rw [hc c q] at em
    cases em
    exact e
theorem isa_ok {K : PySem.W.Frag} {mg : Str → Option Value} {L : List (Tag × Tag × Bool)} {cl : List Str} (h : isaB L cl K = true) (hc : ∀ c, cl.contains c = true → mg c = some (.ref (He.ga K c))) : IsaOk K mg (isaOf L) := by
  have get : ∀ {t u b}, isaOf L t u = some b → PySem.W.kitOne K (tval K t) (tval K u) = some b ∧ (tagIn cl t = true ∧ tagIn cl u = true) ∧ fstB K t = true := fun {t u b} e => by
    have z := List.all_eq_true.mp h _ (isaOf_mem e)
    simpa only [Bool.and_eq_true, decide_eq_true_eq] using z
  refine ⟨fun t u b e tv uv ht hu => ?_, fun c u b e => ?_, fun c u b e C em => ?_⟩
  · obtain ⟨z, ⟨y1, y2⟩, _⟩ := get e
    rw [tval_of hc y1 ht, tval_of hc y2 hu]; exact z
  · obtain ⟨_, _, z⟩ := get e
    cases z
  · obtain ⟨_, ⟨y1, _⟩, z⟩ := get e
    rw [hc c y1] at em
    cases em
    exact excIs_of z
end AVL

namespace Law
open PySem PySem.Spec L2 AVL
def topS (i : Nat) : Stmt := PySem.Challenge.pw_roundflatwild_k01_fractions_of_any_size.main.body.getD i (.Pass ⟨0, 0, 0, 0⟩)
def isaL0 : List (Tag × Tag × Bool) := [(.ty "NoneType", .ty "bool", false), (.ty "NoneType", .ty "int", false), (.ty "NoneType", .ty "list", false), (.ty "NoneType", .ty "tuple", false), (.ty "NoneType", .own "BadNumber", false), (.ty "NoneType", .own "BadValue", false), (.ty "bool", .ty "bool", true), (.ty "bool", .ty "int", true), (.ty "bool", .ty "list", false), (.ty "bool", .ty "tuple", false), (.ty "bool", .own "BadNumber", false), (.ty "bool", .own "BadValue", false), (.ty "int", .ty "bool", false), (.ty "int", .ty "int", true), (.ty "int", .ty "list", false), (.ty "int", .ty "tuple", false), (.ty "int", .own "BadNumber", false), (.ty "int", .own "BadValue", false), (.ty "str", .ty "bool", false), (.ty "str", .ty "int", false)]
def isaL1 : List (Tag × Tag × Bool) := [(.ty "str", .ty "list", false), (.ty "str", .ty "tuple", false), (.ty "str", .own "BadNumber", false), (.ty "str", .own "BadValue", false), (.ty "tuple", .ty "bool", false), (.ty "tuple", .ty "int", false), (.ty "tuple", .ty "list", false), (.ty "tuple", .ty "tuple", true), (.ty "tuple", .own "BadNumber", false), (.ty "tuple", .own "BadValue", false), (.ty "list", .ty "bool", false), (.ty "list", .ty "int", false), (.ty "list", .ty "list", true), (.ty "list", .ty "tuple", false), (.ty "list", .own "BadNumber", false), (.ty "list", .own "BadValue", false), (.ty "dict", .ty "bool", false), (.ty "dict", .ty "int", false), (.ty "dict", .ty "list", false), (.ty "dict", .ty "tuple", false)]
def isaL2 : List (Tag × Tag × Bool) := [(.ty "dict", .own "BadNumber", false), (.ty "dict", .own "BadValue", false), (.exn "BadValue", .ty "bool", false), (.exn "BadValue", .ty "int", false), (.exn "BadValue", .ty "list", false), (.exn "BadValue", .ty "tuple", false), (.exn "BadValue", .own "BadNumber", false), (.exn "BadValue", .own "BadValue", true), (.exn "BadNumber", .ty "bool", false), (.exn "BadNumber", .ty "int", false), (.exn "BadNumber", .ty "list", false), (.exn "BadNumber", .ty "tuple", false), (.exn "BadNumber", .own "BadNumber", true), (.exn "BadNumber", .own "BadValue", false)]
def isaL : List (Tag × Tag × Bool) := isaL0 ++ isaL1 ++ isaL2
def clsL : List Str := ["BadNumber", "BadValue"]
abbrev isaT : IsaF := isaOf isaL
def under_FloorError (c : Str) : Bool := c == "BadValue" || c == "BadNumber"
def okc_part (c : Str) : Bool := c == "BadValue" || c == "BadNumber"
structure Txt (P : Program) (w : World) (K : PySem.W.Frag) (mg : Str → Option Value) (base : Heap) : Prop where
  isa : IsaOk K mg isaT
  gcd : mg "gcd" = some (.builtin "math.gcd")
  n_abs : mg "abs" = none
  n_all : mg "all" = none
  n_bool : mg "bool" = none
  n_int : mg "int" = none
  n_isinstance : mg "isinstance" = none
  n_len : mg "len" = none
  n_list : mg "list" = none
  n_range : mg "range" = none
  n_repr : mg "repr" = none
  n_tuple : mg "tuple" = none
  d_is_integer : ∃ fd, mg "is_integer" = some (.ref (He.ga K "is_integer")) ∧ FunD K "is_integer" "is_integer" (defArgs (topS 6)) (defBody (topS 6)) (defScope (topS 6)) [] [] (He.ga K "is_integer") fd
  d_row_of : ∃ fd, mg "row_of" = some (.ref (He.ga K "row_of")) ∧ FunD K "row_of" "row_of" (defArgs (topS 7)) (defBody (topS 7)) (defScope (topS 7)) [] [] (He.ga K "row_of") fd
  d_is_row : ∃ fd, mg "is_row" = some (.ref (He.ga K "is_row")) ∧ FunD K "is_row" "is_row" (defArgs (topS 8)) (defBody (topS 8)) (defScope (topS 8)) [] [] (He.ga K "is_row") fd
  d_reduced_pair : ∃ fd, mg "reduced_pair" = some (.ref (He.ga K "reduced_pair")) ∧ FunD K "reduced_pair" "reduced_pair" (defArgs (topS 10)) (defBody (topS 10)) (defScope (topS 10)) [] [] (He.ga K "reduced_pair") fd
  d_lowest : ∃ fd, mg "lowest" = some (.ref (He.ga K "lowest")) ∧ FunD K "lowest" "lowest" (defArgs (topS 11)) (defBody (topS 11)) (defScope (topS 11)) [] [] (He.ga K "lowest") fd
  d_need_fraction : ∃ fd, mg "need_fraction" = some (.ref (He.ga K "need_fraction")) ∧ FunD K "need_fraction" "need_fraction" (defArgs (topS 12)) (defBody (topS 12)) (defScope (topS 12)) [] [] (He.ga K "need_fraction") fd
  d_added : ∃ fd, mg "added" = some (.ref (He.ga K "added")) ∧ FunD K "added" "added" (defArgs (topS 13)) (defBody (topS 13)) (defScope (topS 13)) [] [] (He.ga K "added") fd
  d_times : ∃ fd, mg "times" = some (.ref (He.ga K "times")) ∧ FunD K "times" "times" (defArgs (topS 14)) (defBody (topS 14)) (defScope (topS 14)) [] [] (He.ga K "times") fd
  d_order_of : ∃ fd, mg "order_of" = some (.ref (He.ga K "order_of")) ∧ FunD K "order_of" "order_of" (defArgs (topS 15)) (defBody (topS 15)) (defScope (topS 15)) [] [] (He.ga K "order_of") fd
  d_total : ∃ fd, mg "total" = some (.ref (He.ga K "total")) ∧ FunD K "total" "total" (defArgs (topS 16)) (defBody (topS 16)) (defScope (topS 16)) [] [] (He.ga K "total") fd
  d_law_pen : ∃ fd, mg "_law_pen" = some (.ref (He.ga K "_law_pen")) ∧ FunD K "_law_pen" "_law_pen" (defArgs (topS 18)) (defBody (topS 18)) (defScope (topS 18)) [] [] (He.ga K "_law_pen") fd
  d_law_draw : ∃ fd, mg "_law_draw" = some (.ref (He.ga K "_law_draw")) ∧ FunD K "_law_draw" "_law_draw" (defArgs (topS 19)) (defBody (topS 19)) (defScope (topS 19)) [] [] (He.ga K "_law_draw") fd
  d_law_pick : ∃ fd, mg "_law_pick" = some (.ref (He.ga K "_law_pick")) ∧ FunD K "_law_pick" "_law_pick" (defArgs (topS 20)) (defBody (topS 20)) (defScope (topS 20)) [] [] (He.ga K "_law_pick") fd
  d_law_number : ∃ fd, mg "_law_number" = some (.ref (He.ga K "_law_number")) ∧ FunD K "_law_number" "_law_number" (defArgs (topS 21)) (defBody (topS 21)) (defScope (topS 21)) [] [] (He.ga K "_law_number") fd
  d_law_pair : ∃ fd, mg "_law_pair" = some (.ref (He.ga K "_law_pair")) ∧ FunD K "_law_pair" "_law_pair" (defArgs (topS 22)) (defBody (topS 22)) (defScope (topS 22)) [] [] (He.ga K "_law_pair") fd
  d_law_divisor : ∃ fd, mg "_law_divisor" = some (.ref (He.ga K "_law_divisor")) ∧ FunD K "_law_divisor" "_law_divisor" (defArgs (topS 23)) (defBody (topS 23)) (defScope (topS 23)) [] [] (He.ga K "_law_divisor") fd
  d_law_is : ∃ fd, mg "_law_is" = some (.ref (He.ga K "_law_is")) ∧ FunD K "_law_is" "_law_is" (defArgs (topS 24)) (defBody (topS 24)) (defScope (topS 24)) [] [] (He.ga K "_law_is") fd
  d_law_refused : ∃ fd, mg "_law_refused" = some (.ref (He.ga K "_law_refused")) ∧ FunD K "_law_refused" "_law_refused" (defArgs (topS 25)) (defBody (topS 25)) (defScope (topS 25)) [] [] (He.ga K "_law_refused") fd
  d_law_refused_right : ∃ fd, mg "_law_refused_right" = some (.ref (He.ga K "_law_refused_right")) ∧ FunD K "_law_refused_right" "_law_refused_right" (defArgs (topS 26)) (defBody (topS 26)) (defScope (topS 26)) [] [] (He.ga K "_law_refused_right") fd ∧ ∃ cA PA2, fd.code = .ref cA ∧ LamX.TabB base mg cA PA2 ∧ (PA2, (("_law_refused_right" : Str) ++ ".<locals>.") ++ "<lambda>") ∈ tabsOf K ∧ ∀ p ∈ tabsOf K, p.1 = PA2 → p.2 = (("_law_refused_right" : Str) ++ ".<locals>.") ++ "<lambda>"
  d_law : ∃ fd, mg "law" = some (.ref (He.ga K "law")) ∧ FunD K "law" "law" (defArgs (topS 27)) (defBody (topS 27)) (defScope (topS 27)) [] [] (He.ga K "law") fd
  x_BadValue : mg "BadValue" = some (.ref (He.ga K "BadValue")) ∧ OexC K (He.ga K "BadValue") ∧ PySem.W.findIn K (.ref (He.ga K "BadValue")) "__init__" = some (some (.ref (He.ma K (He.ga K "BadValue") "__init__"))) ∧ PySem.W.typeIn K (.ref (He.ma K (He.ga K "BadValue") "__init__")) = some (.type "function") ∧ PySem.W.findIn K (.ref (He.ga K "BadValue")) "part" = some none ∧ ∃ fd, FunD K "__init__" "BadValue.__init__" (defArgs (inClass (topS 3) 0)) (defBody (inClass (topS 3) 0)) (defScope (inClass (topS 3) 0)) [] [] (He.ma K (He.ga K "BadValue") "__init__") fd
  x_BadNumber : mg "BadNumber" = some (.ref (He.ga K "BadNumber")) ∧ OexC K (He.ga K "BadNumber") ∧ PySem.W.findIn K (.ref (He.ga K "BadNumber")) "__init__" = some (some (.ref (He.ma K (He.ga K "BadNumber") "__init__"))) ∧ PySem.W.typeIn K (.ref (He.ma K (He.ga K "BadNumber") "__init__")) = some (.type "function") ∧ PySem.W.findIn K (.ref (He.ga K "BadNumber")) "part" = some none ∧ ∃ fd, FunD K "__init__" "BadNumber.__init__" (defArgs (inClass (topS 4) 0)) (defBody (inClass (topS 4) 0)) (defScope (inClass (topS 4) 0)) [] [] (He.ma K (He.ga K "BadNumber") "__init__") fd
  c_BadNumber : ∃ C, mg "BadNumber" = some (.ref C)
  c_BadValue : ∃ C, mg "BadValue" = some (.ref C)
  g_FloorError : mg "FloorError" = some (.ref (He.ga K "FloorError"))
  under_FloorError : ∀ c C, under_FloorError c = true → mg c = some (.ref C) → PySem.W.exmOne K (.ref C) (.ref (He.ga K "FloorError")) = some true
  at_part : ∀ c C, okc_part c = true → mg c = some (.ref C) → XfC K C ∧ PySem.W.findIn K (.ref C) "part" = some none
section
variable {P : Program} {w : World} {K : PySem.W.Frag} {mg : Str → Option Value} {base : Heap}
theorem sc_x_BadValue : FnScope ["self", "part"] ["self", "part"] (defScope (inClass (topS 3) 0)) := ⟨rfl, rfl, rfl, by decide +kernel, rfl, by decide +kernel, by decide +kernel⟩
theorem h_x_BadValue (T : Txt P w K mg base) : HasX P w K mg base "BadValue" ["part"] := by
  obtain ⟨hm, hx, hi, ht, n0, fd, F⟩ := T.x_BadValue
  exact ⟨_, _, fd, ["self", "part"], hm, hx, hi, ht, F.bindsN (ps := ["self", "part"]) fun _ _ _ _ _ _ us hl => match us, hl with | [_, _], _ => rfl, exc1_ok F sc_x_BadValue rfl hx n0 (Or.inl rfl) (Or.inl rfl)⟩
theorem sc_x_BadNumber : FnScope ["self", "part"] ["self", "part"] (defScope (inClass (topS 4) 0)) := ⟨rfl, rfl, rfl, by decide +kernel, rfl, by decide +kernel, by decide +kernel⟩
theorem h_x_BadNumber (T : Txt P w K mg base) : HasX P w K mg base "BadNumber" ["part"] := by
  obtain ⟨hm, hx, hi, ht, n0, fd, F⟩ := T.x_BadNumber
  exact ⟨_, _, fd, ["self", "part"], hm, hx, hi, ht, F.bindsN (ps := ["self", "part"]) fun _ _ _ _ _ _ us hl => match us, hl with | [_, _], _ => rfl, exc1_ok F sc_x_BadNumber rfl hx n0 (Or.inl rfl) (Or.inl rfl)⟩
/-! is_integer -/
abbrev s_is_integer : Stmt := topS 6
abbrev N_is_integer : List Str := ["value"]
theorem sc_is_integer : FnScope N_is_integer ["value"] (defScope s_is_integer) := ⟨rfl, rfl, rfl, by decide +kernel, rfl, by decide +kernel, by decide +kernel⟩
def b_is_integer : SM := sRet (eAnd (eBlt (mIsi isaT) (aCons (eVar 0) (aCons (eC (.ty "int")) (aNil)))) (eNot (eBlt (mIsi isaT) (aCons (eVar 0) (aCons (eC (.ty "bool")) (aNil))))))
def m_is_integer : MF := mkF 0 false b_is_integer
theorem f_is_integer (T : Txt P w K mg base) {fd : FuncData} (F : FunD K "is_integer" "is_integer" (defArgs s_is_integer) (defBody s_is_integer) (defScope s_is_integer) [] [] (He.ga K "is_integer") fd) : FnG P w K mg base 1 (He.ga K "is_integer") fd ["value"] (spOf K mg 1 m_is_integer) :=
  fn_mk F sc_is_integer (n := 0) rfl fun cdv A outer s H E ecd gd hr => by
    have tk := takes_of (X := cxOf (L2.CX P w) P w K mg base N_is_integer "is_integer" (defScope s_is_integer) (He.ga K "is_integer") cdv A outer s H E) (E := E) rfl rfl rfl rfl
    have pw := passes_of (X := cxOf (L2.CX P w) P w K mg base N_is_integer "is_integer" (defScope s_is_integer) (He.ga K "is_integer") cdv A outer s H E) rfl
    exact rsOne (rsRet (rAnd (rBlt (mIsi_ok T.isa) mIsi_calm T.n_isinstance bb_isinstance (raCons (rVar 0) (raCons (rTyp T.n_int bb_int) (raNil)))) (rOne (rNot (rBlt (mIsi_ok T.isa) mIsi_calm T.n_isinstance bb_isinstance (raCons (rVar 0) (raCons (rTyp T.n_bool bb_bool) (raNil))))))))
theorem h_is_integer (T : Txt P w K mg base) : Has P w K mg base "is_integer" 1 ["value"] m_is_integer := by
  obtain ⟨fd, hm, F⟩ := T.d_is_integer
  exact ⟨_, fd, hm, F.kp, F.bindsN (ps := ["value"]) fun _ _ _ _ _ _ us hl => match us, hl with | [_], _ => rfl, f_is_integer T F⟩

/-! row_of -/
abbrev s_row_of : Stmt := topS 7
abbrev N_row_of : List Str := ["part", "value"]
theorem sc_row_of : FnScope N_row_of ["part", "value"] (defScope s_row_of) := ⟨rfl, rfl, rfl, by decide +kernel, rfl, by decide +kernel, by decide +kernel⟩
def b_row_of : SM := sSeq (sIf (tNot (tV (eBlt (mIsi isaT) (aCons (eVar 1) (aCons (eTup (aCons (eC (.ty "list")) (aCons (eC (.ty "tuple")) (aNil)))) (aNil)))))) (sRaise "BadValue" ["part"] (aCons (eVar 0) (aNil))) (sNext))
  (sRet (eBlt mTuple (aCons (eVar 1) (aNil))))
def m_row_of : MF := mkF 0 false b_row_of
theorem f_row_of (T : Txt P w K mg base) {fd : FuncData} (F : FunD K "row_of" "row_of" (defArgs s_row_of) (defBody s_row_of) (defScope s_row_of) [] [] (He.ga K "row_of") fd) : FnG P w K mg base 3 (He.ga K "row_of") fd ["part", "value"] (spOf K mg 2 m_row_of) :=
  fn_mk F sc_row_of (n := 0) rfl fun cdv A outer s H E ecd gd hr => by
    have tk := takes_of (X := cxOf (L2.CX P w) P w K mg base N_row_of "row_of" (defScope s_row_of) (He.ga K "row_of") cdv A outer s H E) (E := E) rfl rfl rfl rfl
    have pw := passes_of (X := cxOf (L2.CX P w) P w K mg base N_row_of "row_of" (defScope s_row_of) (He.ga K "row_of") cdv A outer s H E) rfl
    exact rsCons (rsIf (rtNot (rtV (rBlt (mIsi_ok T.isa) mIsi_calm T.n_isinstance bb_isinstance (raCons (rVar 1) (raCons (rTup (raCons (rTyp T.n_list bb_list) (raCons (rTyp T.n_tuple bb_tuple) (raNil)))) (raNil)))))) (rsOne (rsRaise (h_x_BadValue T) (hr.mono (by decide)) tk (raCons (rVar 0) (raNil)))) (rsNil))
      (rsOne (rsRet (rBltTy mTuple_ok mTuple_calm T.n_tuple bb_tuple (raCons (rVar 1) (raNil)))))
theorem h_row_of (T : Txt P w K mg base) : Has P w K mg base "row_of" 3 ["part", "value"] m_row_of := by
  obtain ⟨fd, hm, F⟩ := T.d_row_of
  exact ⟨_, fd, hm, F.kp, F.bindsN (ps := ["part", "value"]) fun _ _ _ _ _ _ us hl => match us, hl with | [_, _], _ => rfl, f_row_of T F⟩

/-! is_row -/
abbrev s_is_row : Stmt := topS 8
abbrev N_is_row : List Str := ["value", "many", "part"]
theorem sc_is_row : FnScope N_is_row ["value", "many"] (defScope s_is_row) := ⟨rfl, rfl, rfl, by decide +kernel, rfl, by decide +kernel, by decide +kernel⟩
def b_is_row : SM := sSeq (sIf (tOr (tNot (tV (eBlt (mIsi isaT) (aCons (eVar 0) (aCons (eTup (aCons (eC (.ty "list")) (aCons (eC (.ty "tuple")) (aNil)))) (aNil)))))) (tV (eBin (mEq true) (eBlt mLen (aCons (eVar 0) (aNil))) (eVar 1)))) (sRet (eC (.bl false))) (sNext))
  (sRet (eBlt mAll (aCons (eComp false (itSeq (eVar 0)) (AVL.gName 2) (tTrue) (eCall 1 m_is_integer (aCons (eVar 2) (aNil))) [2]) (aNil))))
def m_is_row : MF := mkF 1 false b_is_row
theorem f_is_row (T : Txt P w K mg base) {fd : FuncData} (F : FunD K "is_row" "is_row" (defArgs s_is_row) (defBody s_is_row) (defScope s_is_row) [] [] (He.ga K "is_row") fd) : FnG P w K mg base 2 (He.ga K "is_row") fd ["value", "many"] (spOf K mg 2 m_is_row) :=
  fn_mk F sc_is_row (n := 1) rfl fun cdv A outer s H E ecd gd hr => by
    have tk := takes_of (X := cxOf (L2.CX P w) P w K mg base N_is_row "is_row" (defScope s_is_row) (He.ga K "is_row") cdv A outer s H E) (E := E) rfl rfl rfl rfl
    have pw := passes_of (X := cxOf (L2.CX P w) P w K mg base N_is_row "is_row" (defScope s_is_row) (He.ga K "is_row") cdv A outer s H E) rfl
    exact rsCons (rsIf (PW.pt (rtOr (rtNot (rtV (rBlt (mIsi_ok T.isa) mIsi_calm T.n_isinstance bb_isinstance (raCons (rVar 0) (raCons (rTup (raCons (rTyp T.n_list bb_list) (raCons (rTyp T.n_tuple bb_tuple) (raNil)))) (raNil)))))) (rtOr1 (rtCmp (mNe_ok hr.units) mEq_calm (rBlt mLen_ok mLen_calm T.n_len bb_len (raCons (rVar 0) (raNil))) (rVar 1) (by exact nomark _))))) (rsOne (rsRet (rBl))) (rsNil))
      (rsOne (rsRet (rBlt (mAll_ok rfl) mAllAny_calm T.n_all bb_all (raCons (rComp (own := [("part", 2)]) (g := L2.gName 2) sc_is_row.nd (riSeq (rVar 0)) (blkOk_by (own := [("part", 2)]) (N := N_is_row) (sc := defScope s_is_row) (by decide +kernel)) (gokName (by decide)) (fun _ _ _ _ _ => pg_name (i := 2) sc_is_row.nd rfl (by first | exact Or.inl rfl | exact Or.inr rfl)) (fun _ _ _ _ _ => rtsNil) (fun _ _ _ _ _ => rCall (h_is_integer T) gd (hr.mono (by decide)) AVL.takes0 (raCons (rVar 2) (raNil)))) (raNil)))))
theorem h_is_row (T : Txt P w K mg base) : Has P w K mg base "is_row" 2 ["value", "many"] m_is_row := by
  obtain ⟨fd, hm, F⟩ := T.d_is_row
  exact ⟨_, fd, hm, F.kp, F.bindsN (ps := ["value", "many"]) fun _ _ _ _ _ _ us hl => match us, hl with | [_, _], _ => rfl, f_is_row T F⟩

/-! reduced_pair -/
abbrev s_reduced_pair : Stmt := topS 10
abbrev N_reduced_pair : List Str := ["p", "q", "common"]
theorem sc_reduced_pair : FnScope N_reduced_pair ["p", "q"] (defScope s_reduced_pair) := ⟨rfl, rfl, rfl, by decide +kernel, rfl, by decide +kernel, by decide +kernel⟩
def b_reduced_pair : SM := sSeq (sAsg (eBlt mGcd (aCons (eVar 0) (aCons (eVar 1) (aNil)))) (AVL.gName 2))
  (sSeq (sIf (tV (eBin mLt (eVar 1) (eC (.int 0)))) (sRet (eTup (aCons (eBin mDiv (eUn mNeg (eVar 0)) (eVar 2)) (aCons (eBin mDiv (eUn mNeg (eVar 1)) (eVar 2)) (aNil))))) (sNext))
  (sRet (eTup (aCons (eBin mDiv (eVar 0) (eVar 2)) (aCons (eBin mDiv (eVar 1) (eVar 2)) (aNil))))))
def m_reduced_pair : MF := mkF 1 false b_reduced_pair
theorem f_reduced_pair (T : Txt P w K mg base) {fd : FuncData} (F : FunD K "reduced_pair" "reduced_pair" (defArgs s_reduced_pair) (defBody s_reduced_pair) (defScope s_reduced_pair) [] [] (He.ga K "reduced_pair") fd) : FnG P w K mg base 1 (He.ga K "reduced_pair") fd ["p", "q"] (spOf K mg 2 m_reduced_pair) :=
  fn_mk F sc_reduced_pair (n := 1) rfl fun cdv A outer s H E ecd gd hr => by
    have tk := takes_of (X := cxOf (L2.CX P w) P w K mg base N_reduced_pair "reduced_pair" (defScope s_reduced_pair) (He.ga K "reduced_pair") cdv A outer s H E) (E := E) rfl rfl rfl rfl
    have pw := passes_of (X := cxOf (L2.CX P w) P w K mg base N_reduced_pair "reduced_pair" (defScope s_reduced_pair) (He.ga K "reduced_pair") cdv A outer s H E) rfl
    exact rsCons (rsAsg (rBltFun mGcd_ok mGcd_calm T.gcd (raCons (rVar 0) (raCons (rVar 1) (raNil)))) (rgName 2 sc_reduced_pair.nd))
      (rsCons (rsIf (rtCmp mLt_ok mI_calm (rVar 1) (rInt) (by exact nomark _)) (rsOne (rsRet (rTup (raCons (rBin mDiv_ok mI_calm (rUn mNeg_ok mNeg_calm (rVar 0)) (rVar 2)) (raCons (rBin mDiv_ok mI_calm (rUn mNeg_ok mNeg_calm (rVar 1)) (rVar 2)) (raNil)))))) (rsNil))
      (rsOne (rsRet (rTup (raCons (rBin mDiv_ok mI_calm (rVar 0) (rVar 2)) (raCons (rBin mDiv_ok mI_calm (rVar 1) (rVar 2)) (raNil)))))))
theorem h_reduced_pair (T : Txt P w K mg base) : Has P w K mg base "reduced_pair" 1 ["p", "q"] m_reduced_pair := by
  obtain ⟨fd, hm, F⟩ := T.d_reduced_pair
  exact ⟨_, fd, hm, F.kp, F.bindsN (ps := ["p", "q"]) fun _ _ _ _ _ _ us hl => match us, hl with | [_, _], _ => rfl, f_reduced_pair T F⟩

/-! lowest -/
abbrev s_lowest : Stmt := topS 11
abbrev N_lowest : List Str := ["p", "q"]
theorem sc_lowest : FnScope N_lowest ["p", "q"] (defScope s_lowest) := ⟨rfl, rfl, rfl, by decide +kernel, rfl, by decide +kernel, by decide +kernel⟩
def b_lowest : SM := sSeq (sIf (tNot (tV (eCall 1 m_is_integer (aCons (eVar 0) (aNil))))) (sRaise "BadNumber" ["part"] (aCons (eC (.str "p")) (aNil))) (sNext))
  (sSeq (sIf (tOr (tNot (tV (eCall 1 m_is_integer (aCons (eVar 1) (aNil))))) (tV (eBin (mEq false) (eVar 1) (eC (.int 0))))) (sRaise "BadNumber" ["part"] (aCons (eC (.str "q")) (aNil))) (sNext))
  (sRet (eCall 2 m_reduced_pair (aCons (eVar 0) (aCons (eVar 1) (aNil))))))
def m_lowest : MF := mkF 0 false b_lowest
theorem f_lowest (T : Txt P w K mg base) {fd : FuncData} (F : FunD K "lowest" "lowest" (defArgs s_lowest) (defBody s_lowest) (defScope s_lowest) [] [] (He.ga K "lowest") fd) : FnG P w K mg base 3 (He.ga K "lowest") fd ["p", "q"] (spOf K mg 2 m_lowest) :=
  fn_mk F sc_lowest (n := 0) rfl fun cdv A outer s H E ecd gd hr => by
    have tk := takes_of (X := cxOf (L2.CX P w) P w K mg base N_lowest "lowest" (defScope s_lowest) (He.ga K "lowest") cdv A outer s H E) (E := E) rfl rfl rfl rfl
    have pw := passes_of (X := cxOf (L2.CX P w) P w K mg base N_lowest "lowest" (defScope s_lowest) (He.ga K "lowest") cdv A outer s H E) rfl
    exact rsCons (rsIf (rtNot (rtV (rCall (h_is_integer T) gd (hr.mono (by decide)) tk (raCons (rVar 0) (raNil))))) (rsOne (rsRaise (h_x_BadNumber T) (hr.mono (by decide)) tk (raCons (rStr) (raNil)))) (rsNil))
      (rsCons (rsIf (PW.pt (rtOr (rtNot (rtV (rCall (h_is_integer T) gd (hr.mono (by decide)) tk (raCons (rVar 1) (raNil))))) (rtOr1 (rtCmp (mEq_ok hr.units) mEq_calm (rVar 1) (rInt) (by exact nomark _))))) (rsOne (rsRaise (h_x_BadNumber T) (hr.mono (by decide)) tk (raCons (rStr) (raNil)))) (rsNil))
      (rsOne (rsRet (rCall (h_reduced_pair T) gd (hr.mono (by decide)) tk (raCons (rVar 0) (raCons (rVar 1) (raNil)))))))
theorem h_lowest (T : Txt P w K mg base) : Has P w K mg base "lowest" 3 ["p", "q"] m_lowest := by
  obtain ⟨fd, hm, F⟩ := T.d_lowest
  exact ⟨_, fd, hm, F.kp, F.bindsN (ps := ["p", "q"]) fun _ _ _ _ _ _ us hl => match us, hl with | [_, _], _ => rfl, f_lowest T F⟩

/-! need_fraction -/
abbrev s_need_fraction : Stmt := topS 12
abbrev N_need_fraction : List Str := ["part", "value"]
theorem sc_need_fraction : FnScope N_need_fraction ["part", "value"] (defScope s_need_fraction) := ⟨rfl, rfl, rfl, by decide +kernel, rfl, by decide +kernel, by decide +kernel⟩
def b_need_fraction : SM := sSeq (sIf (tOr (tNot (tV (eCall 2 m_is_row (aCons (eVar 1) (aCons (eC (.int 2)) (aNil)))))) (tV (eBin mLt (eBin mIx (eVar 1) (eC (.int 1))) (eC (.int 1))))) (sRaise "BadValue" ["part"] (aCons (eVar 0) (aNil))) (sNext))
  (sRet (eCall 2 m_reduced_pair (aCons (eBin mIx (eVar 1) (eC (.int 0))) (aCons (eBin mIx (eVar 1) (eC (.int 1))) (aNil)))))
def m_need_fraction : MF := mkF 0 false b_need_fraction
theorem f_need_fraction (T : Txt P w K mg base) {fd : FuncData} (F : FunD K "need_fraction" "need_fraction" (defArgs s_need_fraction) (defBody s_need_fraction) (defScope s_need_fraction) [] [] (He.ga K "need_fraction") fd) : FnG P w K mg base 3 (He.ga K "need_fraction") fd ["part", "value"] (spOf K mg 2 m_need_fraction) :=
  fn_mk F sc_need_fraction (n := 0) rfl fun cdv A outer s H E ecd gd hr => by
    have tk := takes_of (X := cxOf (L2.CX P w) P w K mg base N_need_fraction "need_fraction" (defScope s_need_fraction) (He.ga K "need_fraction") cdv A outer s H E) (E := E) rfl rfl rfl rfl
    have pw := passes_of (X := cxOf (L2.CX P w) P w K mg base N_need_fraction "need_fraction" (defScope s_need_fraction) (He.ga K "need_fraction") cdv A outer s H E) rfl
    exact rsCons (rsIf (PW.pt (rtOr (rtNot (rtV (rCall (h_is_row T) gd (hr.mono (by decide)) tk (raCons (rVar 1) (raCons (rInt) (raNil)))))) (rtOr1 (rtCmp mLt_ok mI_calm (rIx (rVar 1) (rInt)) (rInt) (by exact nomark _))))) (rsOne (rsRaise (h_x_BadValue T) (hr.mono (by decide)) tk (raCons (rVar 0) (raNil)))) (rsNil))
      (rsOne (rsRet (rCall (h_reduced_pair T) gd (hr.mono (by decide)) tk (raCons (rIx (rVar 1) (rInt)) (raCons (rIx (rVar 1) (rInt)) (raNil))))))
theorem h_need_fraction (T : Txt P w K mg base) : Has P w K mg base "need_fraction" 3 ["part", "value"] m_need_fraction := by
  obtain ⟨fd, hm, F⟩ := T.d_need_fraction
  exact ⟨_, fd, hm, F.kp, F.bindsN (ps := ["part", "value"]) fun _ _ _ _ _ _ us hl => match us, hl with | [_, _], _ => rfl, f_need_fraction T F⟩

/-! added -/
abbrev s_added : Stmt := topS 13
abbrev N_added : List Str := ["one", "other", "p", "q", "r", "s"]
theorem sc_added : FnScope N_added ["one", "other"] (defScope s_added) := ⟨rfl, rfl, rfl, by decide +kernel, rfl, by decide +kernel, by decide +kernel⟩
def b_added : SM := sSeq (sAsg (eCall 2 m_need_fraction (aCons (eC (.str "one")) (aCons (eVar 0) (aNil)))) (AVL.gTup 2 (AVL.gsCons (AVL.gName 2) (AVL.gsCons (AVL.gName 3) (AVL.gsNil)))))
  (sSeq (sAsg (eCall 2 m_need_fraction (aCons (eC (.str "other")) (aCons (eVar 1) (aNil)))) (AVL.gTup 2 (AVL.gsCons (AVL.gName 4) (AVL.gsCons (AVL.gName 5) (AVL.gsNil)))))
  (sRet (eCall 2 m_reduced_pair (aCons (eBin (mAdd false) (eBin (mMul false) (eVar 2) (eVar 5)) (eBin (mMul false) (eVar 4) (eVar 3))) (aCons (eBin (mMul false) (eVar 3) (eVar 5)) (aNil))))))
def m_added : MF := mkF 4 false b_added
theorem f_added (T : Txt P w K mg base) {fd : FuncData} (F : FunD K "added" "added" (defArgs s_added) (defBody s_added) (defScope s_added) [] [] (He.ga K "added") fd) : FnG P w K mg base 4 (He.ga K "added") fd ["one", "other"] (spOf K mg 2 m_added) :=
  fn_mk F sc_added (n := 4) rfl fun cdv A outer s H E ecd gd hr => by
    have tk := takes_of (X := cxOf (L2.CX P w) P w K mg base N_added "added" (defScope s_added) (He.ga K "added") cdv A outer s H E) (E := E) rfl rfl rfl rfl
    have pw := passes_of (X := cxOf (L2.CX P w) P w K mg base N_added "added" (defScope s_added) (He.ga K "added") cdv A outer s H E) rfl
    exact rsCons (rsAsg (rCall (h_need_fraction T) gd (hr.mono (by decide)) tk (raCons (rStr) (raCons (rVar 0) (raNil)))) (rgTup (rgsCons (rgName 2 sc_added.nd) (rgsCons (rgName 3 sc_added.nd) (rgsNil)))))
      (rsCons (rsAsg (rCall (h_need_fraction T) gd (hr.mono (by decide)) tk (raCons (rStr) (raCons (rVar 1) (raNil)))) (rgTup (rgsCons (rgName 4 sc_added.nd) (rgsCons (rgName 5 sc_added.nd) (rgsNil)))))
      (rsOne (rsRet (rCall (h_reduced_pair T) gd (hr.mono (by decide)) tk (raCons (rBin mAdd_ok mAdd_calm (rBin mMul_ok mMul_calm (rVar 2) (rVar 5)) (rBin mMul_ok mMul_calm (rVar 4) (rVar 3))) (raCons (rBin mMul_ok mMul_calm (rVar 3) (rVar 5)) (raNil)))))))
theorem h_added (T : Txt P w K mg base) : Has P w K mg base "added" 4 ["one", "other"] m_added := by
  obtain ⟨fd, hm, F⟩ := T.d_added
  exact ⟨_, fd, hm, F.kp, F.bindsN (ps := ["one", "other"]) fun _ _ _ _ _ _ us hl => match us, hl with | [_, _], _ => rfl, f_added T F⟩

/-! times -/
abbrev s_times : Stmt := topS 14
abbrev N_times : List Str := ["one", "other", "p", "q", "r", "s"]
theorem sc_times : FnScope N_times ["one", "other"] (defScope s_times) := ⟨rfl, rfl, rfl, by decide +kernel, rfl, by decide +kernel, by decide +kernel⟩
def b_times : SM := sSeq (sAsg (eCall 2 m_need_fraction (aCons (eC (.str "one")) (aCons (eVar 0) (aNil)))) (AVL.gTup 2 (AVL.gsCons (AVL.gName 2) (AVL.gsCons (AVL.gName 3) (AVL.gsNil)))))
  (sSeq (sAsg (eCall 2 m_need_fraction (aCons (eC (.str "other")) (aCons (eVar 1) (aNil)))) (AVL.gTup 2 (AVL.gsCons (AVL.gName 4) (AVL.gsCons (AVL.gName 5) (AVL.gsNil)))))
  (sRet (eCall 2 m_reduced_pair (aCons (eBin (mMul false) (eVar 2) (eVar 4)) (aCons (eBin (mMul false) (eVar 3) (eVar 5)) (aNil))))))
def m_times : MF := mkF 4 false b_times
theorem f_times (T : Txt P w K mg base) {fd : FuncData} (F : FunD K "times" "times" (defArgs s_times) (defBody s_times) (defScope s_times) [] [] (He.ga K "times") fd) : FnG P w K mg base 4 (He.ga K "times") fd ["one", "other"] (spOf K mg 2 m_times) :=
  fn_mk F sc_times (n := 4) rfl fun cdv A outer s H E ecd gd hr => by
    have tk := takes_of (X := cxOf (L2.CX P w) P w K mg base N_times "times" (defScope s_times) (He.ga K "times") cdv A outer s H E) (E := E) rfl rfl rfl rfl
    have pw := passes_of (X := cxOf (L2.CX P w) P w K mg base N_times "times" (defScope s_times) (He.ga K "times") cdv A outer s H E) rfl
    exact rsCons (rsAsg (rCall (h_need_fraction T) gd (hr.mono (by decide)) tk (raCons (rStr) (raCons (rVar 0) (raNil)))) (rgTup (rgsCons (rgName 2 sc_times.nd) (rgsCons (rgName 3 sc_times.nd) (rgsNil)))))
      (rsCons (rsAsg (rCall (h_need_fraction T) gd (hr.mono (by decide)) tk (raCons (rStr) (raCons (rVar 1) (raNil)))) (rgTup (rgsCons (rgName 4 sc_times.nd) (rgsCons (rgName 5 sc_times.nd) (rgsNil)))))
      (rsOne (rsRet (rCall (h_reduced_pair T) gd (hr.mono (by decide)) tk (raCons (rBin mMul_ok mMul_calm (rVar 2) (rVar 4)) (raCons (rBin mMul_ok mMul_calm (rVar 3) (rVar 5)) (raNil)))))))
theorem h_times (T : Txt P w K mg base) : Has P w K mg base "times" 4 ["one", "other"] m_times := by
  obtain ⟨fd, hm, F⟩ := T.d_times
  exact ⟨_, fd, hm, F.kp, F.bindsN (ps := ["one", "other"]) fun _ _ _ _ _ _ us hl => match us, hl with | [_, _], _ => rfl, f_times T F⟩

theorem hk0_times (T : Txt P w K mg base) : HasK P w K mg base "times" 4 1 ["other"] [.p 0, .k 0] ["one", "other"] m_times := by
  obtain ⟨fd, hm, F⟩ := T.d_times
  exact ⟨_, fd, hm, F.kp, bindsK F (fun _ _ _ _ _ _ us ws l1 l2 => match us, ws, l1, l2 with | [_], [_], _, _ => rfl), f_times T F⟩
/-! order_of -/
abbrev s_order_of : Stmt := topS 15
abbrev N_order_of : List Str := ["one", "other", "p", "q", "r", "s", "left", "right"]
theorem sc_order_of : FnScope N_order_of ["one", "other"] (defScope s_order_of) := ⟨rfl, rfl, rfl, by decide +kernel, rfl, by decide +kernel, by decide +kernel⟩
def b_order_of : SM := sSeq (sAsg (eCall 2 m_need_fraction (aCons (eC (.str "one")) (aCons (eVar 0) (aNil)))) (AVL.gTup 2 (AVL.gsCons (AVL.gName 2) (AVL.gsCons (AVL.gName 3) (AVL.gsNil)))))
  (sSeq (sAsg (eCall 2 m_need_fraction (aCons (eC (.str "other")) (aCons (eVar 1) (aNil)))) (AVL.gTup 2 (AVL.gsCons (AVL.gName 4) (AVL.gsCons (AVL.gName 5) (AVL.gsNil)))))
  (sSeq (sPar [6, 7] (aCons (eBin (mMul false) (eVar 2) (eVar 5)) (aCons (eBin (mMul false) (eVar 4) (eVar 3)) (aNil))))
  (sRet (eBin mSub (eBlt mInt (aCons (eBin mGt (eVar 6) (eVar 7)) (aNil))) (eBlt mInt (aCons (eBin mLt (eVar 6) (eVar 7)) (aNil)))))))
def m_order_of : MF := mkF 6 false b_order_of
theorem f_order_of (T : Txt P w K mg base) {fd : FuncData} (F : FunD K "order_of" "order_of" (defArgs s_order_of) (defBody s_order_of) (defScope s_order_of) [] [] (He.ga K "order_of") fd) : FnG P w K mg base 4 (He.ga K "order_of") fd ["one", "other"] (spOf K mg 2 m_order_of) :=
  fn_mk F sc_order_of (n := 6) rfl fun cdv A outer s H E ecd gd hr => by
    have tk := takes_of (X := cxOf (L2.CX P w) P w K mg base N_order_of "order_of" (defScope s_order_of) (He.ga K "order_of") cdv A outer s H E) (E := E) rfl rfl rfl rfl
    have pw := passes_of (X := cxOf (L2.CX P w) P w K mg base N_order_of "order_of" (defScope s_order_of) (He.ga K "order_of") cdv A outer s H E) rfl
    exact rsCons (rsAsg (rCall (h_need_fraction T) gd (hr.mono (by decide)) tk (raCons (rStr) (raCons (rVar 0) (raNil)))) (rgTup (rgsCons (rgName 2 sc_order_of.nd) (rgsCons (rgName 3 sc_order_of.nd) (rgsNil)))))
      (rsCons (rsAsg (rCall (h_need_fraction T) gd (hr.mono (by decide)) tk (raCons (rStr) (raCons (rVar 1) (raNil)))) (rgTup (rgsCons (rgName 4 sc_order_of.nd) (rgsCons (rgName 5 sc_order_of.nd) (rgsNil)))))
      (rsCons (rsPar2 (i := 6) (j := 7) sc_order_of.nd (raCons (rBin mMul_ok mMul_calm (rVar 2) (rVar 5)) (raCons (rBin mMul_ok mMul_calm (rVar 4) (rVar 3)) (raNil))))
      (rsOne (rsRet (rBin mSub_ok mI_calm (rBltTy mInt_ok mInt_calm T.n_int bb_int (raCons (rCmp mGt_ok mI_calm (rVar 6) (rVar 7) (by exact nomark _)) (raNil))) (rBltTy mInt_ok mInt_calm T.n_int bb_int (raCons (rCmp mLt_ok mI_calm (rVar 6) (rVar 7) (by exact nomark _)) (raNil))))))))
theorem h_order_of (T : Txt P w K mg base) : Has P w K mg base "order_of" 4 ["one", "other"] m_order_of := by
  obtain ⟨fd, hm, F⟩ := T.d_order_of
  exact ⟨_, fd, hm, F.kp, F.bindsN (ps := ["one", "other"]) fun _ _ _ _ _ _ us hl => match us, hl with | [_, _], _ => rfl, f_order_of T F⟩

/-! total -/
abbrev s_total : Stmt := topS 16
abbrev N_total : List Str := ["fractions", "found", "one"]
theorem sc_total : FnScope N_total ["fractions"] (defScope s_total) := ⟨rfl, rfl, rfl, by decide +kernel, rfl, by decide +kernel, by decide +kernel⟩
def b_total : SM := sSeq (sAsg (eTup (aCons (eC (.int 0)) (aCons (eC (.int 1)) (aNil)))) (AVL.gName 1))
  (sSeq (sFor (itSeq (eCall 2 m_row_of (aCons (eC (.str "fractions")) (aCons (eVar 0) (aNil))))) (AVL.gName 2) (sAsg (eCall 2 m_added (aCons (eVar 1) (aCons (eCall 2 m_need_fraction (aCons (eC (.str "fractions")) (aCons (eVar 2) (aNil)))) (aNil)))) (AVL.gName 1)))
  (sRet (eVar 1)))
def m_total : MF := mkF 2 false b_total
theorem f_total (T : Txt P w K mg base) {fd : FuncData} (F : FunD K "total" "total" (defArgs s_total) (defBody s_total) (defScope s_total) [] [] (He.ga K "total") fd) : FnG P w K mg base 5 (He.ga K "total") fd ["fractions"] (spOf K mg 1 m_total) :=
  fn_mk F sc_total (n := 2) rfl fun cdv A outer s H E ecd gd hr => by
    have tk := takes_of (X := cxOf (L2.CX P w) P w K mg base N_total "total" (defScope s_total) (He.ga K "total") cdv A outer s H E) (E := E) rfl rfl rfl rfl
    have pw := passes_of (X := cxOf (L2.CX P w) P w K mg base N_total "total" (defScope s_total) (He.ga K "total") cdv A outer s H E) rfl
    exact rsCons (rsAsg (rTup (raCons (rInt) (raCons (rInt) (raNil)))) (rgName 1 sc_total.nd))
      (rsCons (rsFor pw (riSeq (rCall (h_row_of T) gd (hr.mono (by decide)) tk (raCons (rStr) (raCons (rVar 0) (raNil))))) (rgName 2 sc_total.nd) (rsOne (rsAsg (rCall (h_added T) gd (hr.mono (by decide)) tk (raCons (rVar 1) (raCons (rCall (h_need_fraction T) gd (hr.mono (by decide)) tk (raCons (rStr) (raCons (rVar 2) (raNil)))) (raNil)))) (rgName 1 sc_total.nd))))
      (rsOne (rsRet (rVar 1))))
theorem h_total (T : Txt P w K mg base) : Has P w K mg base "total" 5 ["fractions"] m_total := by
  obtain ⟨fd, hm, F⟩ := T.d_total
  exact ⟨_, fd, hm, F.kp, F.bindsN (ps := ["fractions"]) fun _ _ _ _ _ _ us hl => match us, hl with | [_], _ => rfl, f_total T F⟩

/-! _law_pen -/
abbrev s_law_pen : Stmt := topS 18
abbrev N_law_pen : List Str := ["script"]
theorem sc_law_pen : FnScope N_law_pen ["script"] (defScope s_law_pen) := ⟨rfl, rfl, rfl, by decide +kernel, rfl, by decide +kernel, by decide +kernel⟩
def b_law_pen : SM := sRet (eLst true (aCons (eBlt (mList true) (aCons (eSl true (eVar 0) (oNo) (oPart (eC (.int 63)))) (aNil))) (aCons (eC (.int 0)) (aCons (eC (.int 0)) (aNil)))))
def m_law_pen : MF := mkF 0 true b_law_pen
theorem f_law_pen (T : Txt P w K mg base) {fd : FuncData} (F : FunD K "_law_pen" "_law_pen" (defArgs s_law_pen) (defBody s_law_pen) (defScope s_law_pen) [] [] (He.ga K "_law_pen") fd) : FnG P w K mg base 1 (He.ga K "_law_pen") fd ["script"] (spOf K mg 1 m_law_pen) :=
  fn_mk F sc_law_pen (n := 0) rfl fun cdv A outer s H E ecd gd hr => by
    have tk := takes_of (X := cxOf (L2.CX P w) P w K mg base N_law_pen "_law_pen" (defScope s_law_pen) (He.ga K "_law_pen") cdv A outer s H E) (E := E) rfl rfl rfl rfl
    have pw := passes_of (X := cxOf (L2.CX P w) P w K mg base N_law_pen "_law_pen" (defScope s_law_pen) (He.ga K "_law_pen") cdv A outer s H E) rfl
    exact rsOne (rsRet (rLst (raCons (rBltTy mList_ok mList_calm T.n_list bb_list (raCons (rSl (rVar 0) (roNo) (roPart (rInt))) (raNil))) (raCons (rInt) (raCons (rInt) (raNil))))))
theorem h_law_pen (T : Txt P w K mg base) : Has P w K mg base "_law_pen" 1 ["script"] m_law_pen := by
  obtain ⟨fd, hm, F⟩ := T.d_law_pen
  exact ⟨_, fd, hm, F.kp, F.bindsN (ps := ["script"]) fun _ _ _ _ _ _ us hl => match us, hl with | [_], _ => rfl, f_law_pen T F⟩

/-! _law_draw -/
abbrev s_law_draw : Stmt := topS 19
abbrev N_law_draw : List Str := ["pen", "many", "digit", "at", "cell", "great", "mixed"]
theorem sc_law_draw : FnScope N_law_draw ["pen", "many"] (defScope s_law_draw) := ⟨rfl, rfl, rfl, by decide +kernel, rfl, by decide +kernel, by decide +kernel⟩
def b_law_draw : SM := sSeq (sIf (tV (eBin mGt (eBin mIx (eVar 0) (eC (.int 2))) (eC (.int 0)))) (sSeq (sAsg (eBin mMod (eBlt mInt (aCons (eBin mIx (eVar 0) (eC (.int 2))) (aNil))) (eVar 1)) (AVL.gName 2))
  (sSeq (sAsg (eBin mDiv (eBlt mInt (aCons (eBin mIx (eVar 0) (eC (.int 2))) (aNil))) (eVar 1)) (AVL.gSub (eVar 0) (eC (.int 2))))
  (sRet (eVar 2)))) (sNext))
  (sSeq (sAsg (eBin mIx (eVar 0) (eC (.int 1))) (AVL.gName 3))
  (sSeq (sAsg (eBin (mAdd false) (eVar 3) (eC (.int 1))) (AVL.gSub (eVar 0) (eC (.int 1))))
  (sSeq (sAsg (eBin (mAdd false) (eBin (mMul false) (eC (.int 8191)) (eVar 3)) (eC (.int 2029))) (AVL.gName 4))
  (sSeq (sIf (tV (eBin (mEq true) (eBin mIx (eVar 0) (eC (.int 0))) (eLst false (aNil)))) (sAsg (eBin mIx (eBin mIx (eVar 0) (eC (.int 0))) (eBin mMod (eBlt mInt (aCons (eVar 3) (aNil))) (eBlt mLen (aCons (eBin mIx (eVar 0) (eC (.int 0))) (aNil))))) (AVL.gName 4)) (sNext))
  (sSeq (sIf (tAnd (tV (eBin mLt (eVar 3) (eBlt mLen (aCons (eBin mIx (eVar 0) (eC (.int 0))) (aNil))))) (tV (eBin mGe (eBlt mAbs (aCons (eVar 4) (aNil))) (eBin mPow (eC (.int 10)) (eC (.int 18)))))) (sSeq (sAsg (eBin (mAdd false) (eBin (mMul false) (eC (.int 2)) (eBin mSub (eBlt mAbs (aCons (eVar 4) (aNil))) (eBin mPow (eC (.int 10)) (eC (.int 18))))) (eBlt mInt (aCons (eBin mLt (eVar 4) (eC (.int 0))) (aNil)))) (AVL.gName 5))
  (sSeq (sAsg (eBin mDiv (eBlt mInt (aCons (eVar 5) (aNil))) (eVar 1)) (AVL.gSub (eVar 0) (eC (.int 2))))
  (sRet (eBin mMod (eBlt mInt (aCons (eVar 5) (aNil))) (eVar 1))))) (sNext))
  (sSeq (sAsg (eBin mMod (eBlt mInt (aCons (eBin mPow (eBin (mAdd false) (eBin (mAdd false) (eBin mMod (eBlt mInt (aCons (eVar 4) (aNil))) (eC (.int 2147483563))) (eBin (mMul false) (eC (.int 50021)) (eVar 3))) (eC (.int 401))) (eC (.int 3))) (aNil))) (eC (.int 2147483629))) (AVL.gName 6))
  (sSeq (sAsg (eBin mMod (eBlt mInt (aCons (eBin mPow (eBin (mAdd false) (eBin (mAdd false) (eBin (mMul false) (eVar 6) (eBin (mAdd false) (eBin (mMul false) (eC (.int 2)) (eVar 3)) (eC (.int 173)))) (eBin (mMul false) (eBin (mMul false) (eC (.int 30011)) (eVar 3)) (eVar 3))) (eC (.int 29))) (eC (.int 5))) (aNil))) (eC (.int 2147483587))) (AVL.gName 6))
  (sRet (eBin mMod (eBlt mInt (aCons (eBin mDiv (eVar 6) (eC (.int 16))) (aNil))) (eVar 1))))))))))
def m_law_draw : MF := mkF 5 false b_law_draw
theorem f_law_draw (T : Txt P w K mg base) {fd : FuncData} (F : FunD K "_law_draw" "_law_draw" (defArgs s_law_draw) (defBody s_law_draw) (defScope s_law_draw) [] [] (He.ga K "_law_draw") fd) : FnG P w K mg base 1 (He.ga K "_law_draw") fd ["pen", "many"] (spOf K mg 2 m_law_draw) :=
  fn_mk F sc_law_draw (n := 5) rfl fun cdv A outer s H E ecd gd hr => by
    have tk := takes_of (X := cxOf (L2.CX P w) P w K mg base N_law_draw "_law_draw" (defScope s_law_draw) (He.ga K "_law_draw") cdv A outer s H E) (E := E) rfl rfl rfl rfl
    have pw := passes_of (X := cxOf (L2.CX P w) P w K mg base N_law_draw "_law_draw" (defScope s_law_draw) (He.ga K "_law_draw") cdv A outer s H E) rfl
    exact rsCons (rsIf (rtCmp mGt_ok mI_calm (rIx (rVar 0) (rInt)) (rInt) (by exact nomark _)) (rsCons (rsAsg (rBin mMod_ok mI_calm (rBltTy mInt_ok mInt_calm T.n_int bb_int (raCons (rIx (rVar 0) (rInt)) (raNil))) (rVar 1)) (rgName 2 sc_law_draw.nd))
      (rsCons (rsAsg (rBin mDiv_ok mI_calm (rBltTy mInt_ok mInt_calm T.n_int bb_int (raCons (rIx (rVar 0) (rInt)) (raNil))) (rVar 1)) (rgSub (W := W0) (rVar 0) (rInt)))
      (rsOne (rsRet (rVar 2))))) (rsNil))
      (rsCons (rsAsg (rIx (rVar 0) (rInt)) (rgName 3 sc_law_draw.nd))
      (rsCons (rsAsg (rBin mAdd_ok mAdd_calm (rVar 3) (rInt)) (rgSub (W := W0) (rVar 0) (rInt)))
      (rsCons (rsAsg (rBin mAdd_ok mAdd_calm (rBin mMul_ok mMul_calm (rInt) (rVar 3)) (rInt)) (rgName 4 sc_law_draw.nd))
      (rsCons (rsIf (rtCmp (mNe_ok hr.units) mEq_calm (rIx (rVar 0) (rInt)) (rLst (raNil)) (by exact nomark _)) (rsOne (rsAsg (rIx (rIx (rVar 0) (rInt)) (rBin mMod_ok mI_calm (rBltTy mInt_ok mInt_calm T.n_int bb_int (raCons (rVar 3) (raNil))) (rBlt mLen_ok mLen_calm T.n_len bb_len (raCons (rIx (rVar 0) (rInt)) (raNil))))) (rgName 4 sc_law_draw.nd))) (rsNil))
      (rsCons (rsIf (PW.pt (rtAnd (rtCmp mLt_ok mI_calm (rVar 3) (rBlt mLen_ok mLen_calm T.n_len bb_len (raCons (rIx (rVar 0) (rInt)) (raNil))) (by exact nomark _)) (rtAnd1 (rtCmp mGe_ok mI_calm (rBlt mAbs_ok mAbs_calm T.n_abs bb_abs (raCons (rVar 4) (raNil))) (rBin mPow_ok mI_calm (rInt) (rInt)) (by exact nomark _))))) (rsCons (rsAsg (rBin mAdd_ok mAdd_calm (rBin mMul_ok mMul_calm (rInt) (rBin mSub_ok mI_calm (rBlt mAbs_ok mAbs_calm T.n_abs bb_abs (raCons (rVar 4) (raNil))) (rBin mPow_ok mI_calm (rInt) (rInt)))) (rBltTy mInt_ok mInt_calm T.n_int bb_int (raCons (rCmp mLt_ok mI_calm (rVar 4) (rInt) (by exact nomark _)) (raNil)))) (rgName 5 sc_law_draw.nd))
      (rsCons (rsAsg (rBin mDiv_ok mI_calm (rBltTy mInt_ok mInt_calm T.n_int bb_int (raCons (rVar 5) (raNil))) (rVar 1)) (rgSub (W := W0) (rVar 0) (rInt)))
      (rsOne (rsRet (rBin mMod_ok mI_calm (rBltTy mInt_ok mInt_calm T.n_int bb_int (raCons (rVar 5) (raNil))) (rVar 1)))))) (rsNil))
      (rsCons (rsAsg (rBin mMod_ok mI_calm (rBltTy mInt_ok mInt_calm T.n_int bb_int (raCons (rBin mPow_ok mI_calm (rBin mAdd_ok mAdd_calm (rBin mAdd_ok mAdd_calm (rBin mMod_ok mI_calm (rBltTy mInt_ok mInt_calm T.n_int bb_int (raCons (rVar 4) (raNil))) (rInt)) (rBin mMul_ok mMul_calm (rInt) (rVar 3))) (rInt)) (rInt)) (raNil))) (rInt)) (rgName 6 sc_law_draw.nd))
      (rsCons (rsAsg (rBin mMod_ok mI_calm (rBltTy mInt_ok mInt_calm T.n_int bb_int (raCons (rBin mPow_ok mI_calm (rBin mAdd_ok mAdd_calm (rBin mAdd_ok mAdd_calm (rBin mMul_ok mMul_calm (rVar 6) (rBin mAdd_ok mAdd_calm (rBin mMul_ok mMul_calm (rInt) (rVar 3)) (rInt))) (rBin mMul_ok mMul_calm (rBin mMul_ok mMul_calm (rInt) (rVar 3)) (rVar 3))) (rInt)) (rInt)) (raNil))) (rInt)) (rgName 6 sc_law_draw.nd))
      (rsOne (rsRet (rBin mMod_ok mI_calm (rBltTy mInt_ok mInt_calm T.n_int bb_int (raCons (rBin mDiv_ok mI_calm (rVar 6) (rInt)) (raNil))) (rVar 1)))))))))))
theorem h_law_draw (T : Txt P w K mg base) : Has P w K mg base "_law_draw" 1 ["pen", "many"] m_law_draw := by
  obtain ⟨fd, hm, F⟩ := T.d_law_draw
  exact ⟨_, fd, hm, F.kp, F.bindsN (ps := ["pen", "many"]) fun _ _ _ _ _ _ us hl => match us, hl with | [_, _], _ => rfl, f_law_draw T F⟩

/-! _law_pick -/
abbrev s_law_pick : Stmt := topS 20
abbrev N_law_pick : List Str := ["pen", "some"]
theorem sc_law_pick : FnScope N_law_pick ["pen", "some"] (defScope s_law_pick) := ⟨rfl, rfl, rfl, by decide +kernel, rfl, by decide +kernel, by decide +kernel⟩
def b_law_pick : SM := sRet (eBin mIx (eVar 1) (eCall 2 m_law_draw (aCons (eVar 0) (aCons (eBlt mLen (aCons (eVar 1) (aNil))) (aNil)))))
def m_law_pick : MF := mkF 0 false b_law_pick
theorem f_law_pick (T : Txt P w K mg base) {fd : FuncData} (F : FunD K "_law_pick" "_law_pick" (defArgs s_law_pick) (defBody s_law_pick) (defScope s_law_pick) [] [] (He.ga K "_law_pick") fd) : FnG P w K mg base 2 (He.ga K "_law_pick") fd ["pen", "some"] (spOf K mg 2 m_law_pick) :=
  fn_mk F sc_law_pick (n := 0) rfl fun cdv A outer s H E ecd gd hr => by
    have tk := takes_of (X := cxOf (L2.CX P w) P w K mg base N_law_pick "_law_pick" (defScope s_law_pick) (He.ga K "_law_pick") cdv A outer s H E) (E := E) rfl rfl rfl rfl
    have pw := passes_of (X := cxOf (L2.CX P w) P w K mg base N_law_pick "_law_pick" (defScope s_law_pick) (He.ga K "_law_pick") cdv A outer s H E) rfl
    exact rsOne (rsRet (rIx (rVar 1) (rCall (h_law_draw T) gd (hr.mono (by decide)) tk (raCons (rVar 0) (raCons (rBlt mLen_ok mLen_calm T.n_len bb_len (raCons (rVar 1) (raNil))) (raNil))))))
theorem h_law_pick (T : Txt P w K mg base) : Has P w K mg base "_law_pick" 2 ["pen", "some"] m_law_pick := by
  obtain ⟨fd, hm, F⟩ := T.d_law_pick
  exact ⟨_, fd, hm, F.kp, F.bindsN (ps := ["pen", "some"]) fun _ _ _ _ _ _ us hl => match us, hl with | [_, _], _ => rfl, f_law_pick T F⟩

/-! _law_number -/
abbrev s_law_number : Stmt := topS 21
abbrev N_law_number : List Str := ["pen", "kind", "great"]
theorem sc_law_number : FnScope N_law_number ["pen"] (defScope s_law_number) := ⟨rfl, rfl, rfl, by decide +kernel, rfl, by decide +kernel, by decide +kernel⟩
def b_law_number : SM := sSeq (sAsg (eCall 2 m_law_draw (aCons (eVar 0) (aCons (eC (.int 6)) (aNil)))) (AVL.gName 1))
  (sSeq (sIf (tV (eBin (mEq false) (eVar 1) (eC (.int 0)))) (sRet (eC (.int 0))) (sNext))
  (sSeq (sAsg (eIf (tV (eBin mLt (eVar 1) (eC (.int 4)))) (eCall 2 m_law_draw (aCons (eVar 0) (aCons (eC (.int 40)) (aNil)))) (eBin (mAdd false) (eBin (mMul false) (eCall 2 m_law_draw (aCons (eVar 0) (aCons (eBin mPow (eC (.int 10)) (eC (.int 20))) (aNil)))) (eBin mPow (eC (.int 10)) (eC (.int 30)))) (eCall 2 m_law_draw (aCons (eVar 0) (aCons (eBin mPow (eC (.int 10)) (eC (.int 30))) (aNil)))))) (AVL.gName 2))
  (sRet (eIf (tV (eBin (mEq false) (eCall 2 m_law_draw (aCons (eVar 0) (aCons (eC (.int 2)) (aNil)))) (eC (.int 0)))) (eVar 2) (eUn mNeg (eVar 2))))))
def m_law_number : MF := mkF 2 false b_law_number
theorem f_law_number (T : Txt P w K mg base) {fd : FuncData} (F : FunD K "_law_number" "_law_number" (defArgs s_law_number) (defBody s_law_number) (defScope s_law_number) [] [] (He.ga K "_law_number") fd) : FnG P w K mg base 2 (He.ga K "_law_number") fd ["pen"] (spOf K mg 1 m_law_number) :=
  fn_mk F sc_law_number (n := 2) rfl fun cdv A outer s H E ecd gd hr => by
    have tk := takes_of (X := cxOf (L2.CX P w) P w K mg base N_law_number "_law_number" (defScope s_law_number) (He.ga K "_law_number") cdv A outer s H E) (E := E) rfl rfl rfl rfl
    have pw := passes_of (X := cxOf (L2.CX P w) P w K mg base N_law_number "_law_number" (defScope s_law_number) (He.ga K "_law_number") cdv A outer s H E) rfl
    exact rsCons (rsAsg (rCall (h_law_draw T) gd (hr.mono (by decide)) tk (raCons (rVar 0) (raCons (rInt) (raNil)))) (rgName 1 sc_law_number.nd))
      (rsCons (rsIf (rtCmp (mEq_ok hr.units) mEq_calm (rVar 1) (rInt) (by exact nomark _)) (rsOne (rsRet (rInt))) (rsNil))
      (rsCons (rsAsg (rIf (rtCmp mLt_ok mI_calm (rVar 1) (rInt) (by exact nomark _)) (rCall (h_law_draw T) gd (hr.mono (by decide)) tk (raCons (rVar 0) (raCons (rInt) (raNil)))) (rBin mAdd_ok mAdd_calm (rBin mMul_ok mMul_calm (rCall (h_law_draw T) gd (hr.mono (by decide)) tk (raCons (rVar 0) (raCons (rBin mPow_ok mI_calm (rInt) (rInt)) (raNil)))) (rBin mPow_ok mI_calm (rInt) (rInt))) (rCall (h_law_draw T) gd (hr.mono (by decide)) tk (raCons (rVar 0) (raCons (rBin mPow_ok mI_calm (rInt) (rInt)) (raNil)))))) (rgName 2 sc_law_number.nd))
      (rsOne (rsRet (rIf (rtCmp (mEq_ok hr.units) mEq_calm (rCall (h_law_draw T) gd (hr.mono (by decide)) tk (raCons (rVar 0) (raCons (rInt) (raNil)))) (rInt) (by exact nomark _)) (rVar 2) (rUn mNeg_ok mNeg_calm (rVar 2)))))))
theorem h_law_number (T : Txt P w K mg base) : Has P w K mg base "_law_number" 2 ["pen"] m_law_number := by
  obtain ⟨fd, hm, F⟩ := T.d_law_number
  exact ⟨_, fd, hm, F.kp, F.bindsN (ps := ["pen"]) fun _ _ _ _ _ _ us hl => match us, hl with | [_], _ => rfl, f_law_number T F⟩

/-! _law_pair -/
abbrev s_law_pair : Stmt := topS 22
abbrev N_law_pair : List Str := ["pen", "p", "q", "times_so"]
theorem sc_law_pair : FnScope N_law_pair ["pen"] (defScope s_law_pair) := ⟨rfl, rfl, rfl, by decide +kernel, rfl, by decide +kernel, by decide +kernel⟩
def b_law_pair : SM := sSeq (sPar [1, 2] (aCons (eCall 1 m_law_number (aCons (eVar 0) (aNil))) (aCons (eBin (mAdd false) (eBlt mAbs (aCons (eCall 1 m_law_number (aCons (eVar 0) (aNil))) (aNil))) (eC (.int 1))) (aNil))))
  (sSeq (sAsg (eCall 2 m_law_pick (aCons (eVar 0) (aCons (eLst false (aCons (eC (.int 1)) (aCons (eC (.int 1)) (aCons (eC (.int 2)) (aCons (eC (.int 6)) (aCons (eC (.int 35)) (aNil))))))) (aNil)))) (AVL.gName 3))
  (sRet (eTup (aCons (eBin (mMul false) (eVar 1) (eVar 3)) (aCons (eBin (mMul false) (eVar 2) (eVar 3)) (aNil))))))
def m_law_pair : MF := mkF 3 false b_law_pair
theorem f_law_pair (T : Txt P w K mg base) {fd : FuncData} (F : FunD K "_law_pair" "_law_pair" (defArgs s_law_pair) (defBody s_law_pair) (defScope s_law_pair) [] [] (He.ga K "_law_pair") fd) : FnG P w K mg base 3 (He.ga K "_law_pair") fd ["pen"] (spOf K mg 1 m_law_pair) :=
  fn_mk F sc_law_pair (n := 3) rfl fun cdv A outer s H E ecd gd hr => by
    have tk := takes_of (X := cxOf (L2.CX P w) P w K mg base N_law_pair "_law_pair" (defScope s_law_pair) (He.ga K "_law_pair") cdv A outer s H E) (E := E) rfl rfl rfl rfl
    have pw := passes_of (X := cxOf (L2.CX P w) P w K mg base N_law_pair "_law_pair" (defScope s_law_pair) (He.ga K "_law_pair") cdv A outer s H E) rfl
    exact rsCons (rsPar2 (i := 1) (j := 2) sc_law_pair.nd (raCons (rCall (h_law_number T) gd (hr.mono (by decide)) tk (raCons (rVar 0) (raNil))) (raCons (rBin mAdd_ok mAdd_calm (rBlt mAbs_ok mAbs_calm T.n_abs bb_abs (raCons (rCall (h_law_number T) gd (hr.mono (by decide)) tk (raCons (rVar 0) (raNil))) (raNil))) (rInt)) (raNil))))
      (rsCons (rsAsg (rCall (h_law_pick T) gd (hr.mono (by decide)) tk (raCons (rVar 0) (raCons (rLst (raCons (rInt) (raCons (rInt) (raCons (rInt) (raCons (rInt) (raCons (rInt) (raNil))))))) (raNil)))) (rgName 3 sc_law_pair.nd))
      (rsOne (rsRet (rTup (raCons (rBin mMul_ok mMul_calm (rVar 1) (rVar 3)) (raCons (rBin mMul_ok mMul_calm (rVar 2) (rVar 3)) (raNil)))))))
theorem h_law_pair (T : Txt P w K mg base) : Has P w K mg base "_law_pair" 3 ["pen"] m_law_pair := by
  obtain ⟨fd, hm, F⟩ := T.d_law_pair
  exact ⟨_, fd, hm, F.kp, F.bindsN (ps := ["pen"]) fun _ _ _ _ _ _ us hl => match us, hl with | [_], _ => rfl, f_law_pair T F⟩

/-! _law_divisor -/
abbrev s_law_divisor : Stmt := topS 23
abbrev N_law_divisor : List Str := ["one", "other"]
theorem sc_law_divisor : FnScope N_law_divisor ["one", "other"] (defScope s_law_divisor) := ⟨rfl, rfl, rfl, by decide +kernel, rfl, by decide +kernel, by decide +kernel⟩
noncomputable def b_law_divisor : SM := sSeq (sPar [0, 1] (aCons (eBlt mAbs (aCons (eVar 0) (aNil))) (aCons (eBlt mAbs (aCons (eVar 1) (aNil))) (aNil))))
  (sSeq (sWhile (tV (eBin mGt (eVar 1) (eC (.int 0)))) (sPar [0, 1] (aCons (eVar 1) (aCons (eBin mMod (eBlt mInt (aCons (eVar 0) (aNil))) (eVar 1)) (aNil)))))
  (sRet (eVar 0)))
noncomputable def m_law_divisor : MF := mkF 0 false b_law_divisor
theorem f_law_divisor (T : Txt P w K mg base) {fd : FuncData} (F : FunD K "_law_divisor" "_law_divisor" (defArgs s_law_divisor) (defBody s_law_divisor) (defScope s_law_divisor) [] [] (He.ga K "_law_divisor") fd) : FnG P w K mg base 1 (He.ga K "_law_divisor") fd ["one", "other"] (spOf K mg 2 m_law_divisor) :=
  fn_mk F sc_law_divisor (n := 0) rfl fun cdv A outer s H E ecd gd hr => by
    have tk := takes_of (X := cxOf (L2.CX P w) P w K mg base N_law_divisor "_law_divisor" (defScope s_law_divisor) (He.ga K "_law_divisor") cdv A outer s H E) (E := E) rfl rfl rfl rfl
    have pw := passes_of (X := cxOf (L2.CX P w) P w K mg base N_law_divisor "_law_divisor" (defScope s_law_divisor) (He.ga K "_law_divisor") cdv A outer s H E) rfl
    exact rsCons (rsPar2 (i := 0) (j := 1) sc_law_divisor.nd (raCons (rBlt mAbs_ok mAbs_calm T.n_abs bb_abs (raCons (rVar 0) (raNil))) (raCons (rBlt mAbs_ok mAbs_calm T.n_abs bb_abs (raCons (rVar 1) (raNil))) (raNil))))
      (rsCons (rsWhile pw (rtCmp mGt_ok mI_calm (rVar 1) (rInt) (by exact nomark _)) (rsOne (rsPar2 (i := 0) (j := 1) sc_law_divisor.nd (raCons (rVar 1) (raCons (rBin mMod_ok mI_calm (rBltTy mInt_ok mInt_calm T.n_int bb_int (raCons (rVar 0) (raNil))) (rVar 1)) (raNil))))))
      (rsOne (rsRet (rVar 0))))
theorem h_law_divisor (T : Txt P w K mg base) : Has P w K mg base "_law_divisor" 1 ["one", "other"] m_law_divisor := by
  obtain ⟨fd, hm, F⟩ := T.d_law_divisor
  exact ⟨_, fd, hm, F.kp, F.bindsN (ps := ["one", "other"]) fun _ _ _ _ _ _ us hl => match us, hl with | [_, _], _ => rfl, f_law_divisor T F⟩

/-! _law_is -/
abbrev s_law_is : Stmt := topS 24
abbrev N_law_is : List Str := ["found", "p", "q", "one"]
theorem sc_law_is : FnScope N_law_is ["found", "p", "q"] (defScope s_law_is) := ⟨rfl, rfl, rfl, by decide +kernel, rfl, by decide +kernel, by decide +kernel⟩
def b_law_is : SM := sSeq (sIf (tOr (tNot (tV (eBlt (mIsi isaT) (aCons (eVar 0) (aCons (eC (.ty "tuple")) (aNil)))))) (tOr (tV (eBin (mEq true) (eBlt mLen (aCons (eVar 0) (aNil))) (eC (.int 2)))) (tV (eBin (mEq true) (eComp false (itSeq (eVar 0)) (AVL.gName 3) (tOr (tNot (tV (eBlt (mIsi isaT) (aCons (eVar 3) (aCons (eC (.ty "int")) (aNil)))))) (tV (eBlt (mIsi isaT) (aCons (eVar 3) (aCons (eC (.ty "bool")) (aNil)))))) (eVar 3) [3]) (eLst false (aNil)))))) (sRet (eC (.bl false))) (sNext))
  (sRet (eAnd (eBin mGe (eBin mIx (eVar 0) (eC (.int 1))) (eC (.int 1))) (eAnd (eBin (mEq false) (eBin (mMul false) (eBin mIx (eVar 0) (eC (.int 0))) (eVar 2)) (eBin (mMul false) (eVar 1) (eBin mIx (eVar 0) (eC (.int 1))))) (eBin (mEq false) (eCall 2 m_law_divisor (aCons (eBin mIx (eVar 0) (eC (.int 0))) (aCons (eBin mIx (eVar 0) (eC (.int 1))) (aNil)))) (eC (.int 1))))))
def m_law_is : MF := mkF 1 false b_law_is
theorem f_law_is (T : Txt P w K mg base) {fd : FuncData} (F : FunD K "_law_is" "_law_is" (defArgs s_law_is) (defBody s_law_is) (defScope s_law_is) [] [] (He.ga K "_law_is") fd) : FnG P w K mg base 2 (He.ga K "_law_is") fd ["found", "p", "q"] (spOf K mg 3 m_law_is) :=
  fn_mk F sc_law_is (n := 1) rfl fun cdv A outer s H E ecd gd hr => by
    have tk := takes_of (X := cxOf (L2.CX P w) P w K mg base N_law_is "_law_is" (defScope s_law_is) (He.ga K "_law_is") cdv A outer s H E) (E := E) rfl rfl rfl rfl
    have pw := passes_of (X := cxOf (L2.CX P w) P w K mg base N_law_is "_law_is" (defScope s_law_is) (He.ga K "_law_is") cdv A outer s H E) rfl
    exact rsCons (rsIf (PW.pt (rtOr (rtNot (rtV (rBlt (mIsi_ok T.isa) mIsi_calm T.n_isinstance bb_isinstance (raCons (rVar 0) (raCons (rTyp T.n_tuple bb_tuple) (raNil)))))) (rtOr (rtCmp (mNe_ok hr.units) mEq_calm (rBlt mLen_ok mLen_calm T.n_len bb_len (raCons (rVar 0) (raNil))) (rInt) (by exact nomark _)) (rtOr1 (rtCmp (mNe_ok hr.units) mEq_calm (rComp (own := [("one", 3)]) (g := L2.gName 3) sc_law_is.nd (riSeq (rVar 0)) (blkOk_by (own := [("one", 3)]) (N := N_law_is) (sc := defScope s_law_is) (by decide +kernel)) (gokName (by decide)) (fun _ _ _ _ _ => pg_name (i := 3) sc_law_is.nd rfl (by first | exact Or.inl rfl | exact Or.inr rfl)) (fun _ _ _ _ _ => rtsOne (PW.pt (rtOr (rtNot (rtV (rBlt (mIsi_ok T.isa) mIsi_calm T.n_isinstance bb_isinstance (raCons (rVar 3) (raCons (rTyp T.n_int bb_int) (raNil)))))) (rtOr1 (rtV (rBlt (mIsi_ok T.isa) mIsi_calm T.n_isinstance bb_isinstance (raCons (rVar 3) (raCons (rTyp T.n_bool bb_bool) (raNil))))))))) (fun _ _ _ _ _ => rVar 3)) (rLst (raNil)) (by exact nomark _)))))) (rsOne (rsRet (rBl))) (rsNil))
      (rsOne (rsRet (rAnd (rCmp mGe_ok mI_calm (rIx (rVar 0) (rInt)) (rInt) (by exact nomark _)) (rAnd (rCmp (mEq_ok hr.units) mEq_calm (rBin mMul_ok mMul_calm (rIx (rVar 0) (rInt)) (rVar 2)) (rBin mMul_ok mMul_calm (rVar 1) (rIx (rVar 0) (rInt))) (by exact nomark _)) (rOne (rCmp (mEq_ok hr.units) mEq_calm (rCall (h_law_divisor T) gd (hr.mono (by decide)) tk (raCons (rIx (rVar 0) (rInt)) (raCons (rIx (rVar 0) (rInt)) (raNil)))) (rInt) (by exact nomark _)))))))
theorem h_law_is (T : Txt P w K mg base) : Has P w K mg base "_law_is" 2 ["found", "p", "q"] m_law_is := by
  obtain ⟨fd, hm, F⟩ := T.d_law_is
  exact ⟨_, fd, hm, F.kp, F.bindsN (ps := ["found", "p", "q"]) fun _ _ _ _ _ _ us hl => match us, hl with | [_, _, _], _ => rfl, f_law_is T F⟩

/-! _law_refused -/
abbrev s_law_refused : Stmt := topS 25
abbrev N_law_refused : List Str := ["ask", "caught", "error"]
theorem sc_law_refused : FnScope N_law_refused ["ask"] (defScope s_law_refused) := ⟨rfl, rfl, rfl, by decide +kernel, rfl, by decide +kernel, by decide +kernel⟩
def b_law_refused : SM := sSeq (sIf (tV (eBlt (mIsi isaT) (aCons (eVar 1) (aCons (eC (.cls "BadValue")) (aNil))))) (sRet (eTup (aCons (eC (.str "value")) (aCons (eAttrX okc_part "part" (eVar 1)) (aNil))))) (sNext))
  (sRet (eIf (tV (eBlt (mIsi isaT) (aCons (eVar 1) (aCons (eC (.cls "BadNumber")) (aNil))))) (eTup (aCons (eC (.str "number")) (aCons (eAttrX okc_part "part" (eVar 1)) (aNil)))) (eTup (aCons (eC (.str "none")) (aCons (eC .non) (aNil))))))
def m_law_refused : (AH → Res AV) → AH → Res AV := mGive under_FloorError 3 1 b_law_refused
theorem h_law_refused (T : Txt P w K mg base) : HasL P w K mg base "_law_refused" "ask" m_law_refused := by
  obtain ⟨fd, hm, F⟩ := T.d_law_refused
  refine gives (N := N_law_refused) (i := 2) (j := 1) (n := "error") (y := "caught") (cx := "FloorError") F hm sc_law_refused (F.bindsN (ps := ["ask"]) fun _ _ _ _ _ _ us hl => match us, hl with | [_], _ => rfl) rfl rfl rfl rfl (by decide) (by decide) (Or.inl rfl) rfl rfl rfl (by decide) T.g_FloorError T.under_FloorError fun cdv A outer s H gd => ?_
  exact rsCons (rsIf (rtV (rBlt (mIsi_ok T.isa) mIsi_calm T.n_isinstance bb_isinstance (raCons (rVar 1) (raCons (rCls T.c_BadValue) (raNil))))) (rsOne (rsRet (rTup (raCons (rStr) (raCons (rAttrX T.at_part (rVar 1)) (raNil)))))) (rsNil))
      (rsOne (rsRet (rIf (rtV (rBlt (mIsi_ok T.isa) mIsi_calm T.n_isinstance bb_isinstance (raCons (rVar 1) (raCons (rCls T.c_BadNumber) (raNil))))) (rTup (raCons (rStr) (raCons (rAttrX T.at_part (rVar 1)) (raNil)))) (rTup (raCons (rStr) (raCons (rNon) (raNil)))))))

/-! _law_refused_right -/
abbrev s_law_refused_right : Stmt := topS 26
abbrev N_law_refused_right : List Str := ["pen", "odd", "good", "bad", "heard", "due"]
theorem sc_law_refused_right : FnScope N_law_refused_right ["pen"] (defScope s_law_refused_right) := ⟨rfl, rfl, rfl, by decide +kernel, rfl, by decide +kernel, by decide +kernel⟩
def b_law_refused_right : SM := sSeq (sAsg (eCall 2 m_law_pick (aCons (eVar 0) (aCons (eLst false (aCons (eC .non) (aCons (eC (.int 5)) (aCons (eC (.str "12")) (aCons (eTup (aNil)) (aCons (eTup (aCons (eC (.int 1)) (aNil))) (aCons (eTup (aCons (eC (.int 1)) (aCons (eC (.int 0)) (aNil)))) (aCons (eTup (aCons (eC (.int 1)) (aCons (eUn mNeg (eC (.int 2))) (aNil)))) (aCons (eTup (aCons (eC (.int 1)) (aCons (eC (.int 2)) (aCons (eC (.int 3)) (aNil))))) (aCons (eTup (aCons (eC (.bl true)) (aCons (eC (.int 2)) (aNil)))) (aCons (eTup (aCons (eC (.int 1)) (aCons (eC (.bl true)) (aNil)))) (aCons (eTup (aCons (eC (.int 1)) (aCons (eC (.str "2")) (aNil)))) (aCons (eTup (aCons (eC .non) (aCons (eC (.int 1)) (aNil)))) (aCons (eC (.dct [.inl 1] [.int 2])) (aCons (eLst false (aCons (eC (.int 1)) (aCons (eC (.int 0)) (aNil)))) (aNil)))))))))))))))) (aNil)))) (AVL.gName 1))
  (sSeq (sAsg (eTup (aCons (eTup (aCons (eC (.int 1)) (aCons (eC (.int 2)) (aNil)))) (aCons (eCall 2 m_law_pick (aCons (eVar 0) (aCons (eLst false (aCons (eC .non) (aCons (eC (.str "1")) (aCons (eC (.bl true)) (aCons (eTup (aCons (eC (.int 1)) (aNil))) (aCons (eLst false (aCons (eC (.int 2)) (aNil))) (aNil))))))) (aNil)))) (aNil)))) (AVL.gTup 2 (AVL.gsCons (AVL.gName 2) (AVL.gsCons (AVL.gName 3) (AVL.gsNil)))))
  (sSeq (sAsg (eLst false (aCons (eLam m_law_refused (eCall 2 m_added (aCons (eVar 1) (aCons (eVar 1) (aNil))))) (aCons (eLam m_law_refused (eCall 2 m_added (aCons (eVar 2) (aCons (eVar 1) (aNil))))) (aNil)))) (AVL.gName 4))
  (sSeq (sAsg (eBin (mAdd false) (eVar 4) (eLst false (aCons (eLam m_law_refused (eCall 2 m_times (aCons (eVar 1) (aCons (eVar 1) (aNil))))) (aCons (eLam m_law_refused (eCall 2 m_times (aCons (eVar 2) (aCons (eVar 1) (aNil))))) (aNil))))) (AVL.gName 4))
  (sSeq (sAsg (eBin (mAdd false) (eVar 4) (eLst false (aCons (eLam m_law_refused (eCall 2 m_order_of (aCons (eVar 1) (aCons (eVar 1) (aNil))))) (aCons (eLam m_law_refused (eCall 2 m_order_of (aCons (eVar 2) (aCons (eVar 1) (aNil))))) (aNil))))) (AVL.gName 4))
  (sSeq (sAsg (eBin (mAdd false) (eVar 4) (eLst false (aCons (eLam m_law_refused (eCall 1 m_total (aCons (eLst false (aCons (eVar 2) (aCons (eVar 1) (aNil)))) (aNil)))) (aCons (eLam m_law_refused (eCall 1 m_total (aCons (eCall 2 m_law_pick (aCons (eVar 0) (aCons (eLst false (aCons (eC .non) (aCons (eC (.int 3)) (aCons (eC (.str "ab")) (aNil))))) (aNil)))) (aNil)))) (aNil))))) (AVL.gName 4))
  (sSeq (sAsg (eBin (mAdd false) (eVar 4) (eLst false (aCons (eLam m_law_refused (eCall 2 m_lowest (aCons (eVar 3) (aCons (eVar 3) (aNil))))) (aCons (eLam m_law_refused (eCall 2 m_lowest (aCons (eC (.int 1)) (aCons (eVar 3) (aNil))))) (aCons (eLam m_law_refused (eCall 2 m_lowest (aCons (eC (.int 0)) (aCons (eC (.int 0)) (aNil))))) (aNil)))))) (AVL.gName 4))
  (sSeq (sAsg (eBin (mAdd false) (eBin (mMul false) (eLst false (aCons (eTup (aCons (eC (.str "value")) (aCons (eC (.str "one")) (aNil)))) (aCons (eTup (aCons (eC (.str "value")) (aCons (eC (.str "other")) (aNil)))) (aNil)))) (eC (.int 3))) (eBin (mMul false) (eLst false (aCons (eTup (aCons (eC (.str "value")) (aCons (eC (.str "fractions")) (aNil)))) (aNil))) (eC (.int 2)))) (AVL.gName 5))
  (sRet (eBin (mEq false) (eVar 4) (eBin (mAdd false) (eVar 5) (eLst false (aCons (eTup (aCons (eC (.str "number")) (aCons (eC (.str "p")) (aNil)))) (aCons (eTup (aCons (eC (.str "number")) (aCons (eC (.str "q")) (aNil)))) (aCons (eTup (aCons (eC (.str "number")) (aCons (eC (.str "q")) (aNil)))) (aNil)))))))))))))))
def m_law_refused_right : MF := mkF 5 false b_law_refused_right
theorem f_law_refused_right (T : Txt P w K mg base) {fd : FuncData} (F : FunD K "_law_refused_right" "_law_refused_right" (defArgs s_law_refused_right) (defBody s_law_refused_right) (defScope s_law_refused_right) [] [] (He.ga K "_law_refused_right") fd) {cA PA2 : Addr} (ec : fd.code = .ref cA) (TB : LamX.TabB base mg cA PA2) (tm : (PA2, (("_law_refused_right" : Str) ++ ".<locals>.") ++ "<lambda>") ∈ tabsOf K) (tu : ∀ p ∈ tabsOf K, p.1 = PA2 → p.2 = (("_law_refused_right" : Str) ++ ".<locals>.") ++ "<lambda>") : FnG P w K mg base 8 (He.ga K "_law_refused_right") fd ["pen"] (spOf K mg 1 m_law_refused_right) :=
  fn_mk F sc_law_refused_right (n := 5) rfl fun cdv A outer s H E ecd gd hr => by
    have tk := takes_of (X := cxOf (L2.CX P w) P w K mg base N_law_refused_right "_law_refused_right" (defScope s_law_refused_right) (He.ga K "_law_refused_right") cdv A outer s H E) (E := E) rfl rfl rfl rfl
    have pw := passes_of (X := cxOf (L2.CX P w) P w K mg base N_law_refused_right "_law_refused_right" (defScope s_law_refused_right) (He.ga K "_law_refused_right") cdv A outer s H E) rfl
    exact rsCons (rsAsg (rCall (h_law_pick T) gd (hr.mono (by decide)) tk (raCons (rVar 0) (raCons (rLst (raCons (rNon) (raCons (rInt) (raCons (rStr) (raCons (rTup (raNil)) (raCons (rTup (raCons (rInt) (raNil))) (raCons (rTup (raCons (rInt) (raCons (rInt) (raNil)))) (raCons (rTup (raCons (rInt) (raCons (rUn mNeg_ok mNeg_calm (rInt)) (raNil)))) (raCons (rTup (raCons (rInt) (raCons (rInt) (raCons (rInt) (raNil))))) (raCons (rTup (raCons (rBl) (raCons (rInt) (raNil)))) (raCons (rTup (raCons (rInt) (raCons (rBl) (raNil)))) (raCons (rTup (raCons (rInt) (raCons (rStr) (raNil)))) (raCons (rTup (raCons (rNon) (raCons (rInt) (raNil)))) (raCons (rDict1) (raCons (rLst (raCons (rInt) (raCons (rInt) (raNil)))) (raNil)))))))))))))))) (raNil)))) (rgName 1 sc_law_refused_right.nd))
      (rsCons (rsAsg (rTup (raCons (rTup (raCons (rInt) (raCons (rInt) (raNil)))) (raCons (rCall (h_law_pick T) gd (hr.mono (by decide)) tk (raCons (rVar 0) (raCons (rLst (raCons (rNon) (raCons (rStr) (raCons (rBl) (raCons (rTup (raCons (rInt) (raNil))) (raCons (rLst (raCons (rInt) (raNil))) (raNil))))))) (raNil)))) (raNil)))) (rgTup (rgsCons (rgName 2 sc_law_refused_right.nd) (rgsCons (rgName 3 sc_law_refused_right.nd) (rgsNil)))))
      (rsCons (rsAsg (rLst (raCons (rLam (k := 4) (h_law_refused T) TB (ecd.symm.trans ec) tm tu gd (hr.mono (by decide)) (lmS_by (N := N_law_refused_right) (sc := defScope s_law_refused_right) (by decide +kernel)) (Or.inl ⟨rfl, fun _ _ _ _ _ => rfl⟩) (fun A2 outer2 s2 H2 E2 f2 c2 gd hr => rCall (h_added T) gd (hr.mono (by decide)) lam_takes (raCons (rVar 1) (raCons (rVar 1) (raNil))))) (raCons (rLam (k := 4) (h_law_refused T) TB (ecd.symm.trans ec) tm tu gd (hr.mono (by decide)) (lmS_by (N := N_law_refused_right) (sc := defScope s_law_refused_right) (by decide +kernel)) (Or.inr ⟨_, _, _, "one", rfl, rfl, fun _ _ _ _ _ _ _ => ⟨_, rfl, rfl⟩⟩) (fun A2 outer2 s2 H2 E2 f2 c2 gd hr => rCall (h_added T) gd (hr.mono (by decide)) lam_takes (raCons (rVar 2) (raCons (rVar 1) (raNil))))) (raNil)))) (rgName 4 sc_law_refused_right.nd))
      (rsCons (rsAsg (rBin mAdd_ok mAdd_calm (rVar 4) (rLst (raCons (rLam (k := 4) (h_law_refused T) TB (ecd.symm.trans ec) tm tu gd (hr.mono (by decide)) (lmS_by (N := N_law_refused_right) (sc := defScope s_law_refused_right) (by decide +kernel)) (Or.inl ⟨rfl, fun _ _ _ _ _ => rfl⟩) (fun A2 outer2 s2 H2 E2 f2 c2 gd hr => rCall (h_times T) gd (hr.mono (by decide)) lam_takes (raCons (rVar 1) (raCons (rVar 1) (raNil))))) (raCons (rLam (k := 4) (h_law_refused T) TB (ecd.symm.trans ec) tm tu gd (hr.mono (by decide)) (lmS_by (N := N_law_refused_right) (sc := defScope s_law_refused_right) (by decide +kernel)) (Or.inr ⟨_, _, _, "one", rfl, rfl, fun _ _ _ _ _ _ _ => ⟨_, rfl, rfl⟩⟩) (fun A2 outer2 s2 H2 E2 f2 c2 gd hr => rCall (h_times T) gd (hr.mono (by decide)) lam_takes (raCons (rVar 2) (raCons (rVar 1) (raNil))))) (raNil))))) (rgName 4 sc_law_refused_right.nd))
      (rsCons (rsAsg (rBin mAdd_ok mAdd_calm (rVar 4) (rLst (raCons (rLam (k := 4) (h_law_refused T) TB (ecd.symm.trans ec) tm tu gd (hr.mono (by decide)) (lmS_by (N := N_law_refused_right) (sc := defScope s_law_refused_right) (by decide +kernel)) (Or.inl ⟨rfl, fun _ _ _ _ _ => rfl⟩) (fun A2 outer2 s2 H2 E2 f2 c2 gd hr => rCall (h_order_of T) gd (hr.mono (by decide)) lam_takes (raCons (rVar 1) (raCons (rVar 1) (raNil))))) (raCons (rLam (k := 4) (h_law_refused T) TB (ecd.symm.trans ec) tm tu gd (hr.mono (by decide)) (lmS_by (N := N_law_refused_right) (sc := defScope s_law_refused_right) (by decide +kernel)) (Or.inr ⟨_, _, _, "one", rfl, rfl, fun _ _ _ _ _ _ _ => ⟨_, rfl, rfl⟩⟩) (fun A2 outer2 s2 H2 E2 f2 c2 gd hr => rCall (h_order_of T) gd (hr.mono (by decide)) lam_takes (raCons (rVar 2) (raCons (rVar 1) (raNil))))) (raNil))))) (rgName 4 sc_law_refused_right.nd))
      (rsCons (rsAsg (rBin mAdd_ok mAdd_calm (rVar 4) (rLst (raCons (rLam (k := 5) (h_law_refused T) TB (ecd.symm.trans ec) tm tu gd (hr.mono (by decide)) (lmS_by (N := N_law_refused_right) (sc := defScope s_law_refused_right) (by decide +kernel)) (Or.inl ⟨rfl, fun _ _ _ _ _ => rfl⟩) (fun A2 outer2 s2 H2 E2 f2 c2 gd hr => rCall (h_total T) gd (hr.mono (by decide)) lam_takes (raCons (rLst (raCons (rVar 2) (raCons (rVar 1) (raNil)))) (raNil)))) (raCons (rLam (k := 5) (h_law_refused T) TB (ecd.symm.trans ec) tm tu gd (hr.mono (by decide)) (lmS_by (N := N_law_refused_right) (sc := defScope s_law_refused_right) (by decide +kernel)) (Or.inr ⟨_, _, _, "one", rfl, rfl, fun _ _ _ _ _ _ _ => ⟨_, rfl, rfl⟩⟩) (fun A2 outer2 s2 H2 E2 f2 c2 gd hr => rCall (h_total T) gd (hr.mono (by decide)) lam_takes (raCons (rCall (h_law_pick T) gd (hr.mono (by decide)) lam_takes (raCons (rVar 0) (raCons (rLst (raCons (rNon) (raCons (rInt) (raCons (rStr) (raNil))))) (raNil)))) (raNil)))) (raNil))))) (rgName 4 sc_law_refused_right.nd))
      (rsCons (rsAsg (rBin mAdd_ok mAdd_calm (rVar 4) (rLst (raCons (rLam (k := 3) (h_law_refused T) TB (ecd.symm.trans ec) tm tu gd (hr.mono (by decide)) (lmS_by (N := N_law_refused_right) (sc := defScope s_law_refused_right) (by decide +kernel)) (Or.inl ⟨rfl, fun _ _ _ _ _ => rfl⟩) (fun A2 outer2 s2 H2 E2 f2 c2 gd hr => rCall (h_lowest T) gd (hr.mono (by decide)) lam_takes (raCons (rVar 3) (raCons (rVar 3) (raNil))))) (raCons (rLam (k := 3) (h_law_refused T) TB (ecd.symm.trans ec) tm tu gd (hr.mono (by decide)) (lmS_by (N := N_law_refused_right) (sc := defScope s_law_refused_right) (by decide +kernel)) (Or.inr ⟨_, _, _, "one", rfl, rfl, fun _ _ _ _ _ _ _ => ⟨_, rfl, rfl⟩⟩) (fun A2 outer2 s2 H2 E2 f2 c2 gd hr => rCall (h_lowest T) gd (hr.mono (by decide)) lam_takes (raCons (rInt) (raCons (rVar 3) (raNil))))) (raCons (rLam (k := 3) (h_law_refused T) TB (ecd.symm.trans ec) tm tu gd (hr.mono (by decide)) (lmS_by (N := N_law_refused_right) (sc := defScope s_law_refused_right) (by decide +kernel)) (Or.inr ⟨_, _, _, "two", rfl, rfl, fun _ _ _ _ _ _ _ => ⟨_, rfl, rfl⟩⟩) (fun A2 outer2 s2 H2 E2 f2 c2 gd hr => rCall (h_lowest T) gd (hr.mono (by decide)) lam_takes (raCons (rInt) (raCons (rInt) (raNil))))) (raNil)))))) (rgName 4 sc_law_refused_right.nd))
      (rsCons (rsAsg (rBin mAdd_ok mAdd_calm (rBin mMul_ok mMul_calm (rLst (raCons (rTup (raCons (rStr) (raCons (rStr) (raNil)))) (raCons (rTup (raCons (rStr) (raCons (rStr) (raNil)))) (raNil)))) (rInt)) (rBin mMul_ok mMul_calm (rLst (raCons (rTup (raCons (rStr) (raCons (rStr) (raNil)))) (raNil))) (rInt))) (rgName 5 sc_law_refused_right.nd))
      (rsOne (rsRet (rCmp (mEq_ok hr.units) mEq_calm (rVar 4) (rBin mAdd_ok mAdd_calm (rVar 5) (rLst (raCons (rTup (raCons (rStr) (raCons (rStr) (raNil)))) (raCons (rTup (raCons (rStr) (raCons (rStr) (raNil)))) (raCons (rTup (raCons (rStr) (raCons (rStr) (raNil)))) (raNil)))))) (by exact nomark _)))))))))))
theorem h_law_refused_right (T : Txt P w K mg base) : Has P w K mg base "_law_refused_right" 8 ["pen"] m_law_refused_right := by
  obtain ⟨fd, hm, F, cA, PA2, ec, TB, tm, tu⟩ := T.d_law_refused_right
  exact ⟨_, fd, hm, F.kp, F.bindsN (ps := ["pen"]) fun _ _ _ _ _ _ us hl => match us, hl with | [_], _ => rfl, f_law_refused_right T F ec TB tm tu⟩

/-! law -/
abbrev s_law : Stmt := topS 27
abbrev N_law : List Str := ["script", "pen", "turn", "one", "other", "p", "q", "left", "right", "some", "top", "bottom", "k", "pair"]
theorem sc_law : FnScope N_law ["script"] (defScope s_law) := ⟨rfl, rfl, rfl, by decide +kernel, rfl, by decide +kernel, by decide +kernel⟩
def b_law : SM := sSeq (sAsg (eCall 1 m_law_pen (aCons (eVar 0) (aNil))) (AVL.gName 1))
  (sSeq (sFor (itRng1 (aCons (eC (.int 6)) (aNil))) (AVL.gName 2) (sSeq (sAsg (eTup (aCons (eCall 1 m_law_pair (aCons (eVar 1) (aNil))) (aCons (eCall 1 m_law_pair (aCons (eVar 1) (aNil))) (aCons (eCall 1 m_law_number (aCons (eVar 1) (aNil))) (aCons (eCall 1 m_law_number (aCons (eVar 1) (aNil))) (aNil)))))) (AVL.gTup 4 (AVL.gsCons (AVL.gName 3) (AVL.gsCons (AVL.gName 4) (AVL.gsCons (AVL.gName 5) (AVL.gsCons (AVL.gName 6) (AVL.gsNil)))))))
  (sSeq (sIf (tAnd (tV (eBin (mEq true) (eVar 6) (eC (.int 0)))) (tNot (tV (eCall 3 m_law_is (aCons (eCall 2 m_lowest (aCons (eVar 5) (aCons (eVar 6) (aNil)))) (aCons (eIf (tV (eBin mGt (eVar 6) (eC (.int 0)))) (eVar 5) (eUn mNeg (eVar 5))) (aCons (eBlt mAbs (aCons (eVar 6) (aNil))) (aNil)))))))) (sRet (eC (.bl false))) (sNext))
  (sSeq (sIf (tNot (tV (eCall 3 m_law_is (aCons (eCall 2 m_added (aCons (eVar 3) (aCons (eBlt (mList false) (aCons (eVar 4) (aNil))) (aNil)))) (aCons (eBin (mAdd false) (eBin (mMul false) (eBin mIx (eVar 3) (eC (.int 0))) (eBin mIx (eVar 4) (eC (.int 1)))) (eBin (mMul false) (eBin mIx (eVar 4) (eC (.int 0))) (eBin mIx (eVar 3) (eC (.int 1))))) (aCons (eBin (mMul false) (eBin mIx (eVar 3) (eC (.int 1))) (eBin mIx (eVar 4) (eC (.int 1)))) (aNil))))))) (sRet (eC (.bl false))) (sNext))
  (sSeq (sIf (tNot (tV (eCall 3 m_law_is (aCons (eCallK 1 1 2 [.p 0, .k 0] m_times (aCons (eBlt (mList false) (aCons (eVar 3) (aNil))) (aNil)) (aCons (eVar 4) (aNil))) (aCons (eBin (mMul false) (eBin mIx (eVar 3) (eC (.int 0))) (eBin mIx (eVar 4) (eC (.int 0)))) (aCons (eBin (mMul false) (eBin mIx (eVar 3) (eC (.int 1))) (eBin mIx (eVar 4) (eC (.int 1)))) (aNil))))))) (sRet (eC (.bl false))) (sNext))
  (sSeq (sPar [7, 8] (aCons (eBin (mMul false) (eBin mIx (eVar 3) (eC (.int 0))) (eBin mIx (eVar 4) (eC (.int 1)))) (aCons (eBin (mMul false) (eBin mIx (eVar 4) (eC (.int 0))) (eBin mIx (eVar 3) (eC (.int 1)))) (aNil))))
  (sSeq (sIf (tV (eBin (mEq true) (eBlt mRepr (aCons (eLst false (aCons (eCall 2 m_order_of (aCons (eVar 3) (aCons (eVar 4) (aNil)))) (aCons (eCall 2 m_order_of (aCons (eVar 4) (aCons (eVar 3) (aNil)))) (aCons (eCall 2 m_order_of (aCons (eVar 3) (aCons (eTup (aCons (eBin (mMul false) (eBin mIx (eVar 3) (eC (.int 0))) (eC (.int 3))) (aCons (eBin (mMul false) (eBin mIx (eVar 3) (eC (.int 1))) (eC (.int 3))) (aNil)))) (aNil)))) (aNil))))) (aNil))) (eBlt mRepr (aCons (eLst false (aCons (eBin mSub (eBlt mInt (aCons (eBin mGt (eVar 7) (eVar 8)) (aNil))) (eBlt mInt (aCons (eBin mLt (eVar 7) (eVar 8)) (aNil)))) (aCons (eBin mSub (eBlt mInt (aCons (eBin mGt (eVar 8) (eVar 7)) (aNil))) (eBlt mInt (aCons (eBin mLt (eVar 8) (eVar 7)) (aNil)))) (aCons (eC (.int 0)) (aNil))))) (aNil))))) (sRet (eC (.bl false))) (sNext))
  (sSeq (sPar [9, 10, 11] (aCons (eComp false (itRng1 (aCons (eCall 2 m_law_draw (aCons (eVar 1) (aCons (eC (.int 5)) (aNil)))) (aNil))) (AVL.gName 12) (tTrue) (eCall 1 m_law_pair (aCons (eVar 1) (aNil))) [12]) (aCons (eC (.int 0)) (aCons (eC (.int 1)) (aNil)))))
  (sSeq (sFor (itSeq (eVar 9)) (AVL.gName 13) (sPar [10, 11] (aCons (eBin (mAdd false) (eBin (mMul false) (eVar 10) (eBin mIx (eVar 13) (eC (.int 1)))) (eBin (mMul false) (eBin mIx (eVar 13) (eC (.int 0))) (eVar 11))) (aCons (eBin (mMul false) (eVar 11) (eBin mIx (eVar 13) (eC (.int 1)))) (aNil)))))
  (sIf (tNot (tV (eCall 3 m_law_is (aCons (eCall 1 m_total (aCons (eVar 9) (aNil))) (aCons (eVar 10) (aCons (eVar 11) (aNil))))))) (sRet (eC (.bl false))) (sNext)))))))))))
  (sRet (eCall 1 m_law_refused_right (aCons (eVar 1) (aNil)))))
def m_law : MF := mkF 13 false b_law
theorem f_law (T : Txt P w K mg base) {fd : FuncData} (F : FunD K "law" "law" (defArgs s_law) (defBody s_law) (defScope s_law) [] [] (He.ga K "law") fd) : FnG P w K mg base 9 (He.ga K "law") fd ["script"] (spOf K mg 1 m_law) :=
  fn_mk F sc_law (n := 13) rfl fun cdv A outer s H E ecd gd hr => by
    have tk := takes_of (X := cxOf (L2.CX P w) P w K mg base N_law "law" (defScope s_law) (He.ga K "law") cdv A outer s H E) (E := E) rfl rfl rfl rfl
    have pw := passes_of (X := cxOf (L2.CX P w) P w K mg base N_law "law" (defScope s_law) (He.ga K "law") cdv A outer s H E) rfl
    exact rsCons (rsAsg (rCall (h_law_pen T) gd (hr.mono (by decide)) tk (raCons (rVar 0) (raNil))) (rgName 1 sc_law.nd))
      (rsCons (rsFor pw (riRng1 T.n_range (raCons (rInt) (raNil))) (rgName 2 sc_law.nd) (rsCons (rsAsg (rTup (raCons (rCall (h_law_pair T) gd (hr.mono (by decide)) tk (raCons (rVar 1) (raNil))) (raCons (rCall (h_law_pair T) gd (hr.mono (by decide)) tk (raCons (rVar 1) (raNil))) (raCons (rCall (h_law_number T) gd (hr.mono (by decide)) tk (raCons (rVar 1) (raNil))) (raCons (rCall (h_law_number T) gd (hr.mono (by decide)) tk (raCons (rVar 1) (raNil))) (raNil)))))) (rgTup (rgsCons (rgName 3 sc_law.nd) (rgsCons (rgName 4 sc_law.nd) (rgsCons (rgName 5 sc_law.nd) (rgsCons (rgName 6 sc_law.nd) (rgsNil)))))))
      (rsCons (rsIf (PW.pt (rtAnd (rtCmp (mNe_ok hr.units) mEq_calm (rVar 6) (rInt) (by exact nomark _)) (rtAnd1 (rtNot (rtV (rCall (h_law_is T) gd (hr.mono (by decide)) tk (raCons (rCall (h_lowest T) gd (hr.mono (by decide)) tk (raCons (rVar 5) (raCons (rVar 6) (raNil)))) (raCons (rIf (rtCmp mGt_ok mI_calm (rVar 6) (rInt) (by exact nomark _)) (rVar 5) (rUn mNeg_ok mNeg_calm (rVar 5))) (raCons (rBlt mAbs_ok mAbs_calm T.n_abs bb_abs (raCons (rVar 6) (raNil))) (raNil)))))))))) (rsOne (rsRet (rBl))) (rsNil))
      (rsCons (rsIf (rtNot (rtV (rCall (h_law_is T) gd (hr.mono (by decide)) tk (raCons (rCall (h_added T) gd (hr.mono (by decide)) tk (raCons (rVar 3) (raCons (rBltTy mList_ok mList_calm T.n_list bb_list (raCons (rVar 4) (raNil))) (raNil)))) (raCons (rBin mAdd_ok mAdd_calm (rBin mMul_ok mMul_calm (rIx (rVar 3) (rInt)) (rIx (rVar 4) (rInt))) (rBin mMul_ok mMul_calm (rIx (rVar 4) (rInt)) (rIx (rVar 3) (rInt)))) (raCons (rBin mMul_ok mMul_calm (rIx (rVar 3) (rInt)) (rIx (rVar 4) (rInt))) (raNil))))))) (rsOne (rsRet (rBl))) (rsNil))
      (rsCons (rsIf (rtNot (rtV (rCall (h_law_is T) gd (hr.mono (by decide)) tk (raCons (rCallK (hk0_times T) gd (hr.mono (by decide)) tk (raCons (rBltTy mList_ok mList_calm T.n_list bb_list (raCons (rVar 3) (raNil))) (raNil)) (rkCons (rVar 4) (rkNil))) (raCons (rBin mMul_ok mMul_calm (rIx (rVar 3) (rInt)) (rIx (rVar 4) (rInt))) (raCons (rBin mMul_ok mMul_calm (rIx (rVar 3) (rInt)) (rIx (rVar 4) (rInt))) (raNil))))))) (rsOne (rsRet (rBl))) (rsNil))
      (rsCons (rsPar2 (i := 7) (j := 8) sc_law.nd (raCons (rBin mMul_ok mMul_calm (rIx (rVar 3) (rInt)) (rIx (rVar 4) (rInt))) (raCons (rBin mMul_ok mMul_calm (rIx (rVar 4) (rInt)) (rIx (rVar 3) (rInt))) (raNil))))
      (rsCons (rsIf (rtCmp (mNe_ok hr.units) mEq_calm (rBlt (mRepr_ok gd hr) mRepr_calm T.n_repr bb_repr (raCons (rLst (raCons (rCall (h_order_of T) gd (hr.mono (by decide)) tk (raCons (rVar 3) (raCons (rVar 4) (raNil)))) (raCons (rCall (h_order_of T) gd (hr.mono (by decide)) tk (raCons (rVar 4) (raCons (rVar 3) (raNil)))) (raCons (rCall (h_order_of T) gd (hr.mono (by decide)) tk (raCons (rVar 3) (raCons (rTup (raCons (rBin mMul_ok mMul_calm (rIx (rVar 3) (rInt)) (rInt)) (raCons (rBin mMul_ok mMul_calm (rIx (rVar 3) (rInt)) (rInt)) (raNil)))) (raNil)))) (raNil))))) (raNil))) (rBlt (mRepr_ok gd hr) mRepr_calm T.n_repr bb_repr (raCons (rLst (raCons (rBin mSub_ok mI_calm (rBltTy mInt_ok mInt_calm T.n_int bb_int (raCons (rCmp mGt_ok mI_calm (rVar 7) (rVar 8) (by exact nomark _)) (raNil))) (rBltTy mInt_ok mInt_calm T.n_int bb_int (raCons (rCmp mLt_ok mI_calm (rVar 7) (rVar 8) (by exact nomark _)) (raNil)))) (raCons (rBin mSub_ok mI_calm (rBltTy mInt_ok mInt_calm T.n_int bb_int (raCons (rCmp mGt_ok mI_calm (rVar 8) (rVar 7) (by exact nomark _)) (raNil))) (rBltTy mInt_ok mInt_calm T.n_int bb_int (raCons (rCmp mLt_ok mI_calm (rVar 8) (rVar 7) (by exact nomark _)) (raNil)))) (raCons (rInt) (raNil))))) (raNil))) (by exact nomark _)) (rsOne (rsRet (rBl))) (rsNil))
      (rsCons (rsPar3 (i := 9) (j := 10) (l := 11) sc_law.nd (raCons (rComp (own := [("k", 12)]) (g := L2.gName 12) sc_law.nd (riRng1 T.n_range (raCons (rCall (h_law_draw T) gd (hr.mono (by decide)) tk (raCons (rVar 1) (raCons (rInt) (raNil)))) (raNil))) (blkOk_by (own := [("k", 12)]) (N := N_law) (sc := defScope s_law) (by decide +kernel)) (gokName (by decide)) (fun _ _ _ _ _ => pg_name (i := 12) sc_law.nd rfl (by first | exact Or.inl rfl | exact Or.inr rfl)) (fun _ _ _ _ _ => rtsNil) (fun _ _ _ _ _ => rCall (h_law_pair T) gd (hr.mono (by decide)) AVL.takes0 (raCons (rVar 1) (raNil)))) (raCons (rInt) (raCons (rInt) (raNil)))))
      (rsCons (rsFor pw (riSeq (rVar 9)) (rgName 13 sc_law.nd) (rsOne (rsPar2 (i := 10) (j := 11) sc_law.nd (raCons (rBin mAdd_ok mAdd_calm (rBin mMul_ok mMul_calm (rVar 10) (rIx (rVar 13) (rInt))) (rBin mMul_ok mMul_calm (rIx (rVar 13) (rInt)) (rVar 11))) (raCons (rBin mMul_ok mMul_calm (rVar 11) (rIx (rVar 13) (rInt))) (raNil))))))
      (rsOne (rsIf (rtNot (rtV (rCall (h_law_is T) gd (hr.mono (by decide)) tk (raCons (rCall (h_total T) gd (hr.mono (by decide)) tk (raCons (rVar 9) (raNil))) (raCons (rVar 10) (raCons (rVar 11) (raNil))))))) (rsOne (rsRet (rBl))) (rsNil))))))))))))
      (rsOne (rsRet (rCall (h_law_refused_right T) gd (hr.mono (by decide)) tk (raCons (rVar 1) (raNil))))))
theorem h_law (T : Txt P w K mg base) : Has P w K mg base "law" 9 ["script"] m_law := by
  obtain ⟨fd, hm, F⟩ := T.d_law
  exact ⟨_, fd, hm, F.kp, F.bindsN (ps := ["script"]) fun _ _ _ _ _ _ us hl => match us, hl with | [_], _ => rfl, f_law T F⟩

end
def fnL0 : List He.DefD := [⟨("is_integer", none), "is_integer", "is_integer", defArgs (topS 6), defBody (topS 6), defScope (topS 6), [], []⟩,
  ⟨("row_of", none), "row_of", "row_of", defArgs (topS 7), defBody (topS 7), defScope (topS 7), [], []⟩,
  ⟨("is_row", none), "is_row", "is_row", defArgs (topS 8), defBody (topS 8), defScope (topS 8), [], []⟩,
  ⟨("reduced_pair", none), "reduced_pair", "reduced_pair", defArgs (topS 10), defBody (topS 10), defScope (topS 10), [], []⟩,
  ⟨("lowest", none), "lowest", "lowest", defArgs (topS 11), defBody (topS 11), defScope (topS 11), [], []⟩,
  ⟨("need_fraction", none), "need_fraction", "need_fraction", defArgs (topS 12), defBody (topS 12), defScope (topS 12), [], []⟩,
  ⟨("added", none), "added", "added", defArgs (topS 13), defBody (topS 13), defScope (topS 13), [], []⟩,
  ⟨("times", none), "times", "times", defArgs (topS 14), defBody (topS 14), defScope (topS 14), [], []⟩,
  ⟨("order_of", none), "order_of", "order_of", defArgs (topS 15), defBody (topS 15), defScope (topS 15), [], []⟩,
  ⟨("total", none), "total", "total", defArgs (topS 16), defBody (topS 16), defScope (topS 16), [], []⟩,
  ⟨("_law_pen", none), "_law_pen", "_law_pen", defArgs (topS 18), defBody (topS 18), defScope (topS 18), [], []⟩,
  ⟨("_law_draw", none), "_law_draw", "_law_draw", defArgs (topS 19), defBody (topS 19), defScope (topS 19), [], []⟩,
  ⟨("_law_pick", none), "_law_pick", "_law_pick", defArgs (topS 20), defBody (topS 20), defScope (topS 20), [], []⟩,
  ⟨("_law_number", none), "_law_number", "_law_number", defArgs (topS 21), defBody (topS 21), defScope (topS 21), [], []⟩,
  ⟨("_law_pair", none), "_law_pair", "_law_pair", defArgs (topS 22), defBody (topS 22), defScope (topS 22), [], []⟩,
  ⟨("_law_divisor", none), "_law_divisor", "_law_divisor", defArgs (topS 23), defBody (topS 23), defScope (topS 23), [], []⟩,
  ⟨("_law_is", none), "_law_is", "_law_is", defArgs (topS 24), defBody (topS 24), defScope (topS 24), [], []⟩,
  ⟨("_law_refused", none), "_law_refused", "_law_refused", defArgs (topS 25), defBody (topS 25), defScope (topS 25), [], []⟩,
  ⟨("_law_refused_right", none), "_law_refused_right", "_law_refused_right", defArgs (topS 26), defBody (topS 26), defScope (topS 26), [], []⟩,
  ⟨("law", none), "law", "law", defArgs (topS 27), defBody (topS 27), defScope (topS 27), [], []⟩]
def fnL1 : List He.DefD := [⟨("BadValue", some "__init__"), "__init__", "BadValue.__init__", defArgs (inClass (topS 3) 0), defBody (inClass (topS 3) 0), defScope (inClass (topS 3) 0), [], []⟩,
  ⟨("BadNumber", some "__init__"), "__init__", "BadNumber.__init__", defArgs (inClass (topS 4) 0), defBody (inClass (topS 4) 0), defScope (inClass (topS 4) 0), [], []⟩]
def fnL : List He.DefD := fnL0 ++ fnL1
def lamsL : List Str := ["_law_refused_right"]
def fbL0 (K : PySem.W.Frag) : List Bool := [isaB isaL clsL K,
  He.eqO (PySem.W.nsIn K mainGlobals "BadNumber") (some (some (.ref (He.ga K "BadNumber")))),
  He.eqO (PySem.W.nsIn K mainGlobals "BadValue") (some (some (.ref (He.ga K "BadValue")))),
  He.eqO (PySem.W.nsIn K mainGlobals "is_integer") (some (some (.ref (He.ga K "is_integer")))),
  He.eqO (PySem.W.nsIn K mainGlobals "row_of") (some (some (.ref (He.ga K "row_of")))),
  He.eqO (PySem.W.nsIn K mainGlobals "is_row") (some (some (.ref (He.ga K "is_row")))),
  He.eqO (PySem.W.nsIn K mainGlobals "reduced_pair") (some (some (.ref (He.ga K "reduced_pair")))),
  He.eqO (PySem.W.nsIn K mainGlobals "lowest") (some (some (.ref (He.ga K "lowest")))),
  He.eqO (PySem.W.nsIn K mainGlobals "need_fraction") (some (some (.ref (He.ga K "need_fraction")))),
  He.eqO (PySem.W.nsIn K mainGlobals "added") (some (some (.ref (He.ga K "added")))),
  He.eqO (PySem.W.nsIn K mainGlobals "times") (some (some (.ref (He.ga K "times")))),
  He.eqO (PySem.W.nsIn K mainGlobals "order_of") (some (some (.ref (He.ga K "order_of")))),
  He.eqO (PySem.W.nsIn K mainGlobals "total") (some (some (.ref (He.ga K "total")))),
  He.eqO (PySem.W.nsIn K mainGlobals "_law_pen") (some (some (.ref (He.ga K "_law_pen")))),
  He.eqO (PySem.W.nsIn K mainGlobals "_law_draw") (some (some (.ref (He.ga K "_law_draw")))),
  He.eqO (PySem.W.nsIn K mainGlobals "_law_pick") (some (some (.ref (He.ga K "_law_pick")))),
  He.eqO (PySem.W.nsIn K mainGlobals "_law_number") (some (some (.ref (He.ga K "_law_number")))),
  He.eqO (PySem.W.nsIn K mainGlobals "_law_pair") (some (some (.ref (He.ga K "_law_pair")))),
  He.eqO (PySem.W.nsIn K mainGlobals "_law_divisor") (some (some (.ref (He.ga K "_law_divisor")))),
  He.eqO (PySem.W.nsIn K mainGlobals "_law_is") (some (some (.ref (He.ga K "_law_is")))),
  He.eqO (PySem.W.nsIn K mainGlobals "_law_refused") (some (some (.ref (He.ga K "_law_refused")))),
  He.eqO (PySem.W.nsIn K mainGlobals "_law_refused_right") (some (some (.ref (He.ga K "_law_refused_right")))),
  He.eqO (PySem.W.nsIn K mainGlobals "law") (some (some (.ref (He.ga K "law")))),
  He.eqO (PySem.W.nsIn K mainGlobals "FloorError") (some (some (.ref (He.ga K "FloorError")))),
  He.eqO (PySem.W.nsIn K mainGlobals "gcd") (some (some (.builtin "math.gcd"))),
  He.eqO (PySem.W.nsIn K mainGlobals "abs") (some none),
  He.eqO (PySem.W.nsIn K mainGlobals "all") (some none),
  He.eqO (PySem.W.nsIn K mainGlobals "bool") (some none),
  He.eqO (PySem.W.nsIn K mainGlobals "int") (some none),
  He.eqO (PySem.W.nsIn K mainGlobals "isinstance") (some none)]
def fbL1 (K : PySem.W.Frag) : List Bool := [He.eqO (PySem.W.nsIn K mainGlobals "len") (some none),
  He.eqO (PySem.W.nsIn K mainGlobals "list") (some none),
  He.eqO (PySem.W.nsIn K mainGlobals "range") (some none),
  He.eqO (PySem.W.nsIn K mainGlobals "repr") (some none),
  He.eqO (PySem.W.nsIn K mainGlobals "tuple") (some none),
  oexB K (He.ga K "BadValue"),
  He.eqO (PySem.W.findIn K (.ref (He.ga K "BadValue")) "__init__") (some (some (.ref (He.ma K (He.ga K "BadValue") "__init__")))),
  decide (PySem.W.typeIn K (.ref (He.ma K (He.ga K "BadValue") "__init__")) = some (.type "function")),
  xfB K (He.ga K "BadValue"),
  He.eqO (PySem.W.findIn K (.ref (He.ga K "BadValue")) "part") (some none),
  decide (PySem.W.exmOne K (.ref (He.ga K "BadValue")) (.ref (He.ga K "FloorError")) = some true),
  oexB K (He.ga K "BadNumber"),
  He.eqO (PySem.W.findIn K (.ref (He.ga K "BadNumber")) "__init__") (some (some (.ref (He.ma K (He.ga K "BadNumber") "__init__")))),
  decide (PySem.W.typeIn K (.ref (He.ma K (He.ga K "BadNumber") "__init__")) = some (.type "function")),
  xfB K (He.ga K "BadNumber"),
  He.eqO (PySem.W.findIn K (.ref (He.ga K "BadNumber")) "part") (some none),
  decide (PySem.W.exmOne K (.ref (He.ga K "BadNumber")) (.ref (He.ga K "FloorError")) = some true)]
def fbL (K : PySem.W.Frag) : Bool := (fbL0 K).all id && (fbL1 K).all id
section
variable {P : Program} {w : World} {K : PySem.W.Frag} {mg : Str → Option Value} {base h : Heap}
theorem txt_of (X : K.In h) (G : h.Ns mainGlobals mg) (fb : fbL K = true)
    (fd_ : ∀ (i : Nat) (d : He.DefD), fnL[i]? = some d → ∃ fd, FunD K d.name d.qual d.params d.body d.scope (d.dvs K) (d.kws K) (He.fAd K d.at_) fd)
    (tb_law_refused_right : ∀ fd : FuncData, (∃ oc od osl, K.lookup (He.ga K "_law_refused_right") = some ⟨oc, od, .func fd, osl⟩) → ∃ cA PA2, fd.code = .ref cA ∧ LamX.TabB base mg cA PA2 ∧ (PA2, (("_law_refused_right" : Str) ++ ".<locals>.") ++ "<lambda>") ∈ tabsOf K ∧ ∀ p ∈ tabsOf K, p.1 = PA2 → p.2 = (("_law_refused_right" : Str) ++ ".<locals>.") ++ "<lambda>")
    : Txt P w K mg base := by
  unfold fbL at fb
  simp only [Bool.and_eq_true] at fb
  obtain ⟨hf0, hf1⟩ := fb
  have fc0 : ∀ (i : Nat) {b : Bool}, (fbL0 K)[i]? = some b → b = true := fun i b e => List.all_eq_true.mp hf0 b (List.mem_of_getElem? e)
  have fc1 : ∀ (i : Nat) {b : Bool}, (fbL1 K)[i]? = some b → b = true := fun i b e => List.all_eq_true.mp hf1 b (List.mem_of_getElem? e)
  have g_BadNumber : mg "BadNumber" = some (.ref (He.ga K "BadNumber")) := PySem.W.mg_of X G (He.eqO_ok (fc0 1 rfl))
  have g_BadValue : mg "BadValue" = some (.ref (He.ga K "BadValue")) := PySem.W.mg_of X G (He.eqO_ok (fc0 2 rfl))
  have g_FloorError : mg "FloorError" = some (.ref (He.ga K "FloorError")) := PySem.W.mg_of X G (He.eqO_ok (fc0 23 rfl))
  have g__law_divisor : mg "_law_divisor" = some (.ref (He.ga K "_law_divisor")) := PySem.W.mg_of X G (He.eqO_ok (fc0 18 rfl))
  have g__law_draw : mg "_law_draw" = some (.ref (He.ga K "_law_draw")) := PySem.W.mg_of X G (He.eqO_ok (fc0 14 rfl))
  have g__law_is : mg "_law_is" = some (.ref (He.ga K "_law_is")) := PySem.W.mg_of X G (He.eqO_ok (fc0 19 rfl))
  have g__law_number : mg "_law_number" = some (.ref (He.ga K "_law_number")) := PySem.W.mg_of X G (He.eqO_ok (fc0 16 rfl))
  have g__law_pair : mg "_law_pair" = some (.ref (He.ga K "_law_pair")) := PySem.W.mg_of X G (He.eqO_ok (fc0 17 rfl))
  have g__law_pen : mg "_law_pen" = some (.ref (He.ga K "_law_pen")) := PySem.W.mg_of X G (He.eqO_ok (fc0 13 rfl))
  have g__law_pick : mg "_law_pick" = some (.ref (He.ga K "_law_pick")) := PySem.W.mg_of X G (He.eqO_ok (fc0 15 rfl))
  have g__law_refused : mg "_law_refused" = some (.ref (He.ga K "_law_refused")) := PySem.W.mg_of X G (He.eqO_ok (fc0 20 rfl))
  have g__law_refused_right : mg "_law_refused_right" = some (.ref (He.ga K "_law_refused_right")) := PySem.W.mg_of X G (He.eqO_ok (fc0 21 rfl))
  have g_added : mg "added" = some (.ref (He.ga K "added")) := PySem.W.mg_of X G (He.eqO_ok (fc0 9 rfl))
  have g_is_integer : mg "is_integer" = some (.ref (He.ga K "is_integer")) := PySem.W.mg_of X G (He.eqO_ok (fc0 3 rfl))
  have g_is_row : mg "is_row" = some (.ref (He.ga K "is_row")) := PySem.W.mg_of X G (He.eqO_ok (fc0 5 rfl))
  have g_law : mg "law" = some (.ref (He.ga K "law")) := PySem.W.mg_of X G (He.eqO_ok (fc0 22 rfl))
  have g_lowest : mg "lowest" = some (.ref (He.ga K "lowest")) := PySem.W.mg_of X G (He.eqO_ok (fc0 7 rfl))
  have g_need_fraction : mg "need_fraction" = some (.ref (He.ga K "need_fraction")) := PySem.W.mg_of X G (He.eqO_ok (fc0 8 rfl))
  have g_order_of : mg "order_of" = some (.ref (He.ga K "order_of")) := PySem.W.mg_of X G (He.eqO_ok (fc0 11 rfl))
  have g_reduced_pair : mg "reduced_pair" = some (.ref (He.ga K "reduced_pair")) := PySem.W.mg_of X G (He.eqO_ok (fc0 6 rfl))
  have g_row_of : mg "row_of" = some (.ref (He.ga K "row_of")) := PySem.W.mg_of X G (He.eqO_ok (fc0 4 rfl))
  have g_times : mg "times" = some (.ref (He.ga K "times")) := PySem.W.mg_of X G (He.eqO_ok (fc0 10 rfl))
  have g_total : mg "total" = some (.ref (He.ga K "total")) := PySem.W.mg_of X G (He.eqO_ok (fc0 12 rfl))
  exact {
    isa := isa_ok (fc0 0 rfl) fun c hc => by
      have hm : c ∈ clsL := by simpa using hc
      simp only [clsL, List.mem_cons, List.not_mem_nil, or_false] at hm
      rcases hm with rfl | rfl
      · exact g_BadNumber
      · exact g_BadValue,
    gcd := PySem.W.mg_of X G (He.eqO_ok (fc0 24 rfl)),
    n_abs := PySem.W.mg_none_of X G (He.eqO_ok (fc0 25 rfl)),
    n_all := PySem.W.mg_none_of X G (He.eqO_ok (fc0 26 rfl)),
    n_bool := PySem.W.mg_none_of X G (He.eqO_ok (fc0 27 rfl)),
    n_int := PySem.W.mg_none_of X G (He.eqO_ok (fc0 28 rfl)),
    n_isinstance := PySem.W.mg_none_of X G (He.eqO_ok (fc0 29 rfl)),
    n_len := PySem.W.mg_none_of X G (He.eqO_ok (fc1 0 rfl)),
    n_list := PySem.W.mg_none_of X G (He.eqO_ok (fc1 1 rfl)),
    n_range := PySem.W.mg_none_of X G (He.eqO_ok (fc1 2 rfl)),
    n_repr := PySem.W.mg_none_of X G (He.eqO_ok (fc1 3 rfl)),
    n_tuple := PySem.W.mg_none_of X G (He.eqO_ok (fc1 4 rfl)),
    d_is_integer := by
      obtain ⟨fd, F⟩ := fd_ 0 _ rfl
      exact ⟨fd, g_is_integer, F⟩,
    d_row_of := by
      obtain ⟨fd, F⟩ := fd_ 1 _ rfl
      exact ⟨fd, g_row_of, F⟩,
    d_is_row := by
      obtain ⟨fd, F⟩ := fd_ 2 _ rfl
      exact ⟨fd, g_is_row, F⟩,
    d_reduced_pair := by
      obtain ⟨fd, F⟩ := fd_ 3 _ rfl
      exact ⟨fd, g_reduced_pair, F⟩,
    d_lowest := by
      obtain ⟨fd, F⟩ := fd_ 4 _ rfl
      exact ⟨fd, g_lowest, F⟩,
    d_need_fraction := by
      obtain ⟨fd, F⟩ := fd_ 5 _ rfl
      exact ⟨fd, g_need_fraction, F⟩,
    d_added := by
      obtain ⟨fd, F⟩ := fd_ 6 _ rfl
      exact ⟨fd, g_added, F⟩,
    d_times := by
      obtain ⟨fd, F⟩ := fd_ 7 _ rfl
      exact ⟨fd, g_times, F⟩,
    d_order_of := by
      obtain ⟨fd, F⟩ := fd_ 8 _ rfl
      exact ⟨fd, g_order_of, F⟩,
    d_total := by
      obtain ⟨fd, F⟩ := fd_ 9 _ rfl
      exact ⟨fd, g_total, F⟩,
    d_law_pen := by
      obtain ⟨fd, F⟩ := fd_ 10 _ rfl
      exact ⟨fd, g__law_pen, F⟩,
    d_law_draw := by
      obtain ⟨fd, F⟩ := fd_ 11 _ rfl
      exact ⟨fd, g__law_draw, F⟩,
    d_law_pick := by
      obtain ⟨fd, F⟩ := fd_ 12 _ rfl
      exact ⟨fd, g__law_pick, F⟩,
    d_law_number := by
      obtain ⟨fd, F⟩ := fd_ 13 _ rfl
      exact ⟨fd, g__law_number, F⟩,
    d_law_pair := by
      obtain ⟨fd, F⟩ := fd_ 14 _ rfl
      exact ⟨fd, g__law_pair, F⟩,
    d_law_divisor := by
      obtain ⟨fd, F⟩ := fd_ 15 _ rfl
      exact ⟨fd, g__law_divisor, F⟩,
    d_law_is := by
      obtain ⟨fd, F⟩ := fd_ 16 _ rfl
      exact ⟨fd, g__law_is, F⟩,
    d_law_refused := by
      obtain ⟨fd, F⟩ := fd_ 17 _ rfl
      exact ⟨fd, g__law_refused, F⟩,
    d_law_refused_right := by
      obtain ⟨fd, F⟩ := fd_ 18 _ rfl
      refine ⟨fd, g__law_refused_right, F, tb_law_refused_right fd ?_⟩
      obtain ⟨oc, od, dV, kV, doc, pm, an, cdv, ct, osl, rfl, lk, _⟩ := F.ex
      exact ⟨oc, od, osl, lk⟩,
    d_law := by
      obtain ⟨fd, F⟩ := fd_ 19 _ rfl
      exact ⟨fd, g_law, F⟩,
    x_BadValue := by
      obtain ⟨fd, F⟩ := fd_ 20 _ rfl
      exact ⟨g_BadValue, oex_of (fc1 5 rfl), He.eqO_ok (fc1 6 rfl), of_decide_eq_true (fc1 7 rfl), He.eqO_ok (fc1 9 rfl), fd, F⟩,
    x_BadNumber := by
      obtain ⟨fd, F⟩ := fd_ 21 _ rfl
      exact ⟨g_BadNumber, oex_of (fc1 11 rfl), He.eqO_ok (fc1 12 rfl), of_decide_eq_true (fc1 13 rfl), He.eqO_ok (fc1 15 rfl), fd, F⟩,
    c_BadNumber := ⟨_, g_BadNumber⟩,
    c_BadValue := ⟨_, g_BadValue⟩,
    g_FloorError := g_FloorError,
    under_FloorError := fun c C hc hm => by
      simp only [under_FloorError, Bool.or_eq_true, beq_iff_eq] at hc
      rcases hc with rfl | rfl
      · rw [g_BadValue] at hm; cases hm; exact of_decide_eq_true (fc1 10 rfl)
      · rw [g_BadNumber] at hm; cases hm; exact of_decide_eq_true (fc1 16 rfl),
    at_part := fun c C hc hm => by
      simp only [okc_part, Bool.or_eq_true, beq_iff_eq] at hc
      rcases hc with rfl | rfl
      · rw [g_BadValue] at hm; cases hm; exact ⟨xfB_ok (fc1 8 rfl), He.eqO_ok (fc1 9 rfl)⟩
      · rw [g_BadNumber] at hm; cases hm; exact ⟨xfB_ok (fc1 14 rfl), He.eqO_ok (fc1 15 rfl)⟩ }
end
def looseL : List PySem.Str := (["FloorError", "BadValue", "BadNumber", "is_integer", "row_of", "is_row", "reduced_pair", "lowest", "need_fraction", "added", "times", "order_of", "total", "_law_pen", "_law_draw", "_law_pick", "_law_number", "_law_pair", "_law_divisor", "_law_is", "_law_refused", "_law_refused_right"] : List PySem.Str)
abbrev R : PySem.W.OpenRow := PySem.W.OpenLaw.row PySem.Challenge.rw_roundflatwild_k01_fractions_of_any_size
abbrev hk : PySem.W.Hook := hookB 6 lamsL fbL fnL
def ob (s : PySem.W.SharedT) : He.AlD := obsBG 6 lamsL fbL fnL (HandSHeadRun.getT s)
theorem ob_eq (s : PySem.W.SharedT) : ob s = hk.obs s.abs := obsBG_eq (HandSHeadRun.getT_eq s)

set_option maxHeartbeats 0
theorem run (w : World) : HandSHeadRun.RunEqI R (PySem.W.view R.prog [0, 27]) hk ob 20000 looseL w := by
  unfold HandSHeadRun.RunEqI
  kernel_rfl
theorem facts {w : World} {h : Heap} {mg : Str → Option Value} {fa : Addr} (Y : hk.says w h) (G : h.Ns mainGlobals mg) (hm : mg "law" = some (.ref fa)) :
    ∃ (K : PySem.W.Frag) (fd : FuncData) (cs : List (Addr × Addr)), K.In h ∧ (∀ p ∈ cs, h.get? p.2 = some { cls := .none, data := .fields #[] }) ∧ (∀ p ∈ cs, K.lookup p.2 = none) ∧ (∀ p ∈ cs, PySem.W.CodeHd h p.1 p.2) ∧ (∀ q ∈ tabsOf K, ∃ p ∈ cs, p.2 = q.1) ∧ (∀ (s : Shared) (u : Value), BindsTo s fd ⟨[u], []⟩ [("script", u)]) ∧
      ∀ base : Heap, K.In base → base.Ns mainGlobals mg → (∀ p ∈ cs, LamX.TabB base mg p.1 p.2) → FnG (PySem.Challenge.rw_roundflatwild_k01_fractions_of_any_size).prog w K mg base 9 fa fd ["script"] (spOf K mg 1 m_law) := by
  obtain ⟨K0, X0, c⟩ := Y
  have X := mkK_in X0 c.head
  have fb := c.fact
  have hh := c.head
  unfold headB at hh
  simp only [Bool.and_eq_true, List.all_eq_true, decide_eq_true_eq] at hh
  obtain ⟨_, hh⟩ := hh
  obtain ⟨fd, F⟩ := c.def_ 19 rfl
  have e : fa = He.ga (mkK lamsL K0) "law" := by
    have z := PySem.W.mg_of X G (He.eqO_ok (show He.eqO (PySem.W.nsIn (mkK lamsL K0) mainGlobals "law") (some (some (.ref (He.ga (mkK lamsL K0) "law")))) = true from by
      have fb2 := fb
      unfold fbL at fb2
      simp only [Bool.and_eq_true] at fb2
      obtain ⟨hf0, hf1⟩ := fb2
      exact List.all_eq_true.mp hf0 _ (List.mem_of_getElem? (i := 22) rfl)))
    rw [hm] at z
    cases z; rfl
  subst e
  refine ⟨mkK lamsL K0, fd, lamsL.map (lamAt K0), X, fun p hp => ?_, fun p hp => ?_, fun p hp => ?_, fun q hq => ?_, fun s u => (FunD.bindsA (ps := ["script"]) F fun _ _ _ _ _ _ us hl => match us, hl with | [_], _ => rfl) s [u] rfl, fun base B1 B2 TB => ?_⟩
  · obtain ⟨x, hx, rfl⟩ := List.mem_map.mp hp
    exact empty_of X0 (hh x hx).2.1
  · obtain ⟨x, hx, rfl⟩ := List.mem_map.mp hp
    exact (hh x hx).2.2.1
  · obtain ⟨x, hx, rfl⟩ := List.mem_map.mp hp
    exact codeH_of X0 (hh x hx).1
  · rw [tabs_mkK] at hq
    obtain ⟨x, hx, rfl⟩ := List.mem_map.mp hq
    exact ⟨_, List.mem_map.mpr ⟨x, hx, rfl⟩, rfl⟩
  · have T : Txt (PySem.Challenge.rw_roundflatwild_k01_fractions_of_any_size).prog w (mkK lamsL K0) mg base := txt_of B1 B2 fb (fun i d hi => c.def_ i hi) (fun fd lk => lam_fact (x := "_law_refused_right") (by decide) c.head TB fd lk)
    exact f_law T F
theorem law_holds (tr : ∀ ns : List Int, ns.length ≤ 63 → (∀ z ∈ ns, Builtin.Int.intBits z ≤ 1048576) → ∃ h, m_law [.klst (ns.map .int)] [] = .ok (.bl true) h) :
    PySem.W.WalkO (PySem.W.view R.prog [0, 27]) looseL (PySem.W.XL (PySem.W.view R.prog [0, 27]) []) hk.says R.toRowW (HandSHeadRun.topDef R.prog 27) [] (fun f vs => PySem.call f vs) := by
  refine walk_g (l := PySem.Challenge.rw_roundflatwild_k01_fractions_of_any_size) (n := 63) (k := 9) (x := "script") (mf := m_law) rfl (by decide) (by kernel_rfl) ⟨rfl, by decide, by decide⟩ (fun w mg fa h Y G hm => ?_) tr
  exact facts Y G (by
    have e : (HandSHeadRun.topDef R.prog 27).name = ("law" : PySem.Str) := by kernel_rfl
    rw [← e]; exact hm)
end Law

namespace Law
open PySem PySem.Spec L2 AVL
/-! ### the pen -/
def pen (c : List Int) (a g : Int) : AH := [.lst [.lst (c.map .int), .int a, .int g]]
structure CellsOk (c : List Int) : Prop where
  len : c.length ≤ 63
  bits : ∀ z ∈ c, z.natAbs < 2 ^ 1048576
theorem mulOk_of {i j : Int} {a b : Nat} (ha : i.natAbs < 2 ^ a) (hb : j.natAbs < 2 ^ b) (h : a + b ≤ 134217728) : mulOk i j = true := decide_eq_true (mulx_ok ha hb h)
theorem powOk_of {i : Int} {n a : Nat} (ha : i.natAbs < 2 ^ a) (h : a * n ≤ 2 ^ 27) : powOk i n = true := by
  have x := PyProof.Rows.intBits_le ha
  unfold powOk
  simp only [Bool.and_eq_true, decide_eq_true_eq]
  refine ⟨by omega, ?_⟩
  have : Builtin.Int.intBits i * n ≤ a * n := Nat.mul_le_mul_right n x
  have z : Builtin.Int.intBits i * n ≤ 2 ^ 27 := Nat.le_trans this h
  exact_mod_cast z
theorem fmod_eq {i j : Int} (h : 0 < j) : i.fmod j = i % j := Int.fmod_eq_emod_of_nonneg i (by omega)
theorem fdiv_eq {i j : Int} (h : 0 < j) : i.fdiv j = i / j := Int.fdiv_eq_ediv_of_nonneg i (by omega)
theorem pd_ints {h : AH} {n : Nat} : ∀ c : List Int, (c.map AV.int).mapM (pd (n + 1) h) = some (c.map PyData.int)
  | [] => rfl
  | x :: r => by
    rw [List.map_cons, List.mapM_cons, pd_ints r]; rfl
theorem ne_nil {h : AH} {c : List Int} : mEq true (.lst (c.map .int)) (.lst []) h = .ok (.bl (!c.isEmpty)) h := by
  have e1 : pd 60 h (.lst (c.map .int)) = some (.list (c.map PyData.int)) := by
    show ((c.map AV.int).mapM (pd 59 h)).map PyData.list = _
    rw [pd_ints]; rfl
  unfold mEq
  rw [e1]
  cases c <;> rfl
theorem ix_ints {h : AH} {c : List Int} {i : Int} (h0 : 0 ≤ i) (h1 : i < c.length) : ∃ z ∈ c, mIx (.lst (c.map .int)) (.int i) h = .ok (.int z) h := by
  obtain ⟨k, rfl⟩ := Int.eq_ofNat_of_zero_le h0
  have hk : k < c.length := by omega
  refine ⟨c[k], List.getElem_mem hk, ?_⟩
  have e : L2.atI (c.map AV.int) (k : Int) = some (.int c[k]) := by
    unfold L2.atI L2.ixN
    simp [AVL.sNext, AVL.sSeq, AVL.sRet, AVL.sRetN, AVL.sExpr, AVL.sIf, AVL.sBrk, AVL.sCont, AVL.sOpt, AVL.sAsg, AVL.gName, AVL.gsNil, AVL.gsCons, AVL.gTup, AVL.setAll, AVL.sPar, AVL.SRes.seq, AVL.Res.toS, AVL.Res.bind, AVL.eVar, AVL.eC, AVL.eBin, AVL.eUn, AVL.tV, AVL.tAnd, AVL.tOr, AVL.tNot, AVL.eAnd, AVL.eOr, AVL.eNot, AVL.eIf, AVL.aNil, AVL.aCons, AVL.eBlt, hk]
  show (match L2.atI (c.map AV.int) (k : Int) with | some y => Res.ok y h | none => .stuck) = _
  rw [e]
theorem add_int {nm : Bool} {i j : Int} {h : AH} : mAdd nm (.int i) (.int j) h = .ok (.int (i + j)) h := rfl
theorem len_lst {l : List AV} {h : AH} : mLen [.lst l] h = .ok (.int (l.length : Nat)) h := rfl
theorem abs_int {i : Int} {h : AH} : mAbs [.int i] h = .ok (.int (if i < 0 then -i else i)) h := rfl
theorem mul_int' {nm : Bool} {i j : Int} {h : AH} (e : mulOk i j = true) : mMul nm (.int i) (.int j) h = .ok (.int (i * j)) h := by
  show (if mulOk i j = true then _ else _) = _
  rw [if_pos e]
theorem pow_int' {i : Int} {n : Nat} {h : AH} (e : powOk i n = true) : mPow (.int i) (.int n) h = .ok (.int (i ^ n)) h := by
  show (if powOk i n = true then _ else _) = _
  rw [if_pos e]; simp [AVL.sNext, AVL.sSeq, AVL.sRet, AVL.sRetN, AVL.sExpr, AVL.sIf, AVL.sBrk, AVL.sCont, AVL.sOpt, AVL.sAsg, AVL.gName, AVL.gsNil, AVL.gsCons, AVL.gTup, AVL.setAll, AVL.sPar, AVL.SRes.seq, AVL.Res.toS, AVL.Res.bind, AVL.eVar, AVL.eC, AVL.eBin, AVL.eUn, AVL.tV, AVL.tAnd, AVL.tOr, AVL.tNot, AVL.eAnd, AVL.eOr, AVL.eNot, AVL.eIf, AVL.aNil, AVL.aCons, AVL.eBlt]
theorem div_int' {i j : Int} {h : AH} (e : 0 < j) (l : j.natAbs.log2 < 9000) : mDiv (.int i) (.int j) h = .ok (.int (i / j)) h := by
  have z : divOk i j = true := by unfold divOk; simp [AVL.sNext, AVL.sSeq, AVL.sRet, AVL.sRetN, AVL.sExpr, AVL.sIf, AVL.sBrk, AVL.sCont, AVL.sOpt, AVL.sAsg, AVL.gName, AVL.gsNil, AVL.gsCons, AVL.gTup, AVL.setAll, AVL.sPar, AVL.SRes.seq, AVL.Res.toS, AVL.Res.bind, AVL.eVar, AVL.eC, AVL.eBin, AVL.eUn, AVL.tV, AVL.tAnd, AVL.tOr, AVL.tNot, AVL.eAnd, AVL.eOr, AVL.eNot, AVL.eIf, AVL.aNil, AVL.aCons, AVL.eBlt, l]; omega
  show (if divOk i j = true then _ else _) = _
  rw [if_pos z]
  show Res.ok (AV.int (i.fdiv j)) h = _
  rw [fdiv_eq e]
theorem mod_int' {i j : Int} {h : AH} (e : 0 < j) : mMod (.int i) (.int j) h = .ok (.int (i % j)) h := by
  show (if decide (j ≠ 0) = true then _ else _) = _
  rw [if_pos (by simp [AVL.sNext, AVL.sSeq, AVL.sRet, AVL.sRetN, AVL.sExpr, AVL.sIf, AVL.sBrk, AVL.sCont, AVL.sOpt, AVL.sAsg, AVL.gName, AVL.gsNil, AVL.gsCons, AVL.gTup, AVL.setAll, AVL.sPar, AVL.SRes.seq, AVL.Res.toS, AVL.Res.bind, AVL.eVar, AVL.eC, AVL.eBin, AVL.eUn, AVL.tV, AVL.tAnd, AVL.tOr, AVL.tNot, AVL.eAnd, AVL.eOr, AVL.eNot, AVL.eIf, AVL.aNil, AVL.aCons, AVL.eBlt]; omega)]
  show Res.ok (AV.int (i.fmod j)) h = _
  rw [fmod_eq e]
section
variable {i j : Int} {h : AH} {b : Bool}
theorem lt_int : mLt (.int i) (.int j) h = .ok (.bl (decide (i < j))) h := rfl
theorem le_int : mLe (.int i) (.int j) h = .ok (.bl (decide (i ≤ j))) h := rfl
theorem gt_int : mGt (.int i) (.int j) h = .ok (.bl (decide (j < i))) h := rfl
theorem ge_int : mGe (.int i) (.int j) h = .ok (.bl (decide (j ≤ i))) h := rfl
theorem sub_int : mSub (.int i) (.int j) h = .ok (.int (i - j)) h := rfl
theorem neg_int : mNeg (.int i) h = .ok (.int (-i)) h := rfl
theorem int_int : mInt [.int i] h = .ok (.int i) h := rfl
theorem int_bl : mInt [.bl b] h = .ok (.int (if b then 1 else 0)) h := rfl
theorem eq_int : mEq false (.int i) (.int j) h = .ok (.bl (decide (i = j))) h := by
  show Res.ok (AV.bl (PyData.eqv (.int i) (.int j) != false)) h = _
  have : PyData.eqv (.int i) (.int j) = decide (i = j) := by by_cases q : i = j <;> simp [AVL.sNext, AVL.sSeq, AVL.sRet, AVL.sRetN, AVL.sExpr, AVL.sIf, AVL.sBrk, AVL.sCont, AVL.sOpt, AVL.sAsg, AVL.gName, AVL.gsNil, AVL.gsCons, AVL.gTup, AVL.setAll, AVL.sPar, AVL.SRes.seq, AVL.Res.toS, AVL.Res.bind, AVL.eVar, AVL.eC, AVL.eBin, AVL.eUn, AVL.tV, AVL.tAnd, AVL.tOr, AVL.tNot, AVL.eAnd, AVL.eOr, AVL.eNot, AVL.eIf, AVL.aNil, AVL.aCons, AVL.eBlt, PyData.eqv, q]
  rw [this]; simp [AVL.sNext, AVL.sSeq, AVL.sRet, AVL.sRetN, AVL.sExpr, AVL.sIf, AVL.sBrk, AVL.sCont, AVL.sOpt, AVL.sAsg, AVL.gName, AVL.gsNil, AVL.gsCons, AVL.gTup, AVL.setAll, AVL.sPar, AVL.SRes.seq, AVL.Res.toS, AVL.Res.bind, AVL.eVar, AVL.eC, AVL.eBin, AVL.eUn, AVL.tV, AVL.tAnd, AVL.tOr, AVL.tNot, AVL.eAnd, AVL.eOr, AVL.eNot, AVL.eIf, AVL.aNil, AVL.aCons, AVL.eBlt]
theorem ne_int : mEq true (.int i) (.int j) h = .ok (.bl (!decide (i = j))) h := by
  show Res.ok (AV.bl (PyData.eqv (.int i) (.int j) != true)) h = _
  have : PyData.eqv (.int i) (.int j) = decide (i = j) := by by_cases q : i = j <;> simp [AVL.sNext, AVL.sSeq, AVL.sRet, AVL.sRetN, AVL.sExpr, AVL.sIf, AVL.sBrk, AVL.sCont, AVL.sOpt, AVL.sAsg, AVL.gName, AVL.gsNil, AVL.gsCons, AVL.gTup, AVL.setAll, AVL.sPar, AVL.SRes.seq, AVL.Res.toS, AVL.Res.bind, AVL.eVar, AVL.eC, AVL.eBin, AVL.eUn, AVL.tV, AVL.tAnd, AVL.tOr, AVL.tNot, AVL.eAnd, AVL.eOr, AVL.eNot, AVL.eIf, AVL.aNil, AVL.aCons, AVL.eBlt, PyData.eqv, q]
  rw [this]; simp [AVL.sNext, AVL.sSeq, AVL.sRet, AVL.sRetN, AVL.sExpr, AVL.sIf, AVL.sBrk, AVL.sCont, AVL.sOpt, AVL.sAsg, AVL.gName, AVL.gsNil, AVL.gsCons, AVL.gTup, AVL.setAll, AVL.sPar, AVL.SRes.seq, AVL.Res.toS, AVL.Res.bind, AVL.eVar, AVL.eC, AVL.eBin, AVL.eUn, AVL.tV, AVL.tAnd, AVL.tOr, AVL.tNot, AVL.eAnd, AVL.eOr, AVL.eNot, AVL.eIf, AVL.aNil, AVL.aCons, AVL.eBlt]
end
section
variable {i : Int} {h : AH}
theorem pow3 (e : powOk i 3 = true) : mPow (.int i) (.int 3) h = .ok (.int (i ^ 3)) h := by
  show (if powOk i 3 = true then _ else _) = _
  rw [if_pos e]; rfl
theorem pow5 (e : powOk i 5 = true) : mPow (.int i) (.int 5) h = .ok (.int (i ^ 5)) h := by
  show (if powOk i 5 = true then _ else _) = _
  rw [if_pos e]; rfl
theorem mod_a : mMod (.int i) (.int 2147483563) h = .ok (.int (i % 2147483563)) h := mod_int' (by decide)
theorem mod_b : mMod (.int i) (.int 2147483629) h = .ok (.int (i % 2147483629)) h := mod_int' (by decide)
theorem mod_c : mMod (.int i) (.int 2147483587) h = .ok (.int (i % 2147483587)) h := mod_int' (by decide)
theorem div_16 : mDiv (.int i) (.int 16) h = .ok (.int (i / 16)) h := div_int' (by decide) (by decide)
end
theorem ten18 {h : AH} : mPow (.int 10) (.int 18) h = .ok (.int 1000000000000000000) h := by rfl
section
variable {c : List Int} {a g y : Int}
theorem pen0 : mIx (.ref 0) (.int 0) (pen c a g) = .ok (.lst (c.map .int)) (pen c a g) := rfl
theorem pen1 : mIx (.ref 0) (.int 1) (pen c a g) = .ok (.int a) (pen c a g) := rfl
theorem pen2 : mIx (.ref 0) (.int 2) (pen c a g) = .ok (.int g) (pen c a g) := rfl
theorem pens2 : mSet (.ref 0) (.int 2) (.int y) (pen c a g) = some (pen c a y) := rfl
theorem pens1 : mSet (.ref 0) (.int 1) (.int y) (pen c a g) = some (pen c y g) := rfl
theorem pen_leave {x a' g' : Int} : leave (pen c a g).length (.int x) (pen c a' g') = .ok (.int x) (pen c a' g') := rfl
end
/-- the last rows of a draw -/
theorem mix_ok {z a many : Int} (hz : z.natAbs < 2 ^ 1048577) (a0 : 0 ≤ a) (a1 : a < 1000000) : ∃ m1 m2 : Int,
    powOk (z % 2147483563 + 50021 * a + 401) 3 = true ∧ mulOk 50021 a = true ∧ mulOk 2 a = true ∧ mulOk 30011 a = true ∧ mulOk (30011 * a) a = true ∧
    m1 = (z % 2147483563 + 50021 * a + 401) ^ 3 % 2147483629 ∧ mulOk m1 (2 * a + 173) = true ∧ powOk (m1 * (2 * a + 173) + 30011 * a * a + 29) 5 = true ∧
    m2 = (m1 * (2 * a + 173) + 30011 * a * a + 29) ^ 5 % 2147483587 := by
  have z0 := Int.emod_nonneg z (show (2147483563 : Int) ≠ 0 by decide)
  have z1 := Int.emod_lt_of_pos z (show (0 : Int) < 2147483563 by decide)
  have am : a.natAbs < 2 ^ 20 := by omega
  have h1 := Int.emod_nonneg ((z % 2147483563 + 50021 * a + 401) ^ 3) (show (2147483629 : Int) ≠ 0 by decide)
  have h2 := Int.emod_lt_of_pos ((z % 2147483563 + 50021 * a + 401) ^ 3) (show (0 : Int) < 2147483629 by decide)
  refine ⟨_, _, powOk_of (a := 37) (by omega) (by decide), mulOk_of (a := 16) (b := 20) (by decide) am (by decide), mulOk_of (a := 2) (b := 20) (by decide) am (by decide), mulOk_of (a := 15) (b := 20) (by decide) am (by decide), mulOk_of (a := 35) (b := 20) (by omega) am (by decide), rfl, mulOk_of (a := 31) (b := 22) (by omega) (by omega) (by decide), ?_, rfl⟩
  generalize (z % 2147483563 + 50021 * a + 401) ^ 3 % 2147483629 = m1 at *
  have p1 : 0 ≤ m1 * (2 * a + 173) := Int.mul_nonneg h1 (by omega)
  have p2 : m1 * (2 * a + 173) ≤ 2147483629 * (2 * 1000000 + 173) := Int.mul_le_mul (by omega) (by omega) (by omega) (by decide)
  have p3 : 0 ≤ 30011 * a * a := Int.mul_nonneg (by omega) a0
  have p4 : 30011 * a * a ≤ 30011 * 1000000 * 1000000 := Int.mul_le_mul (by omega) (by omega) a0 (by decide)
  exact powOk_of (a := 60) (by omega) (by decide)
theorem draw_ok {c : List Int} (hc : CellsOk c) {a g many : Int} (a0 : 0 ≤ a) (a1 : a < 1000000) (g0 : 0 ≤ g) (g1 : g.natAbs < 2 ^ 1048600) (m0 : 0 < many) (m1 : many.natAbs.log2 < 9000) :
    ∃ d a' g', m_law_draw [.ref 0, .int many] (pen c a g) = .ok (.int d) (pen c a' g') ∧ 0 ≤ d ∧ d < many ∧ 0 ≤ a' ∧ a' ≤ a + 1 ∧ 0 ≤ g' ∧ g'.natAbs < 2 ^ 1048600 := by
  by_cases hg : 0 < g
  · refine ⟨g % many, a, g / many, ?_, Int.emod_nonneg _ (by omega), Int.emod_lt_of_pos _ m0, a0, by omega, Int.ediv_nonneg g0 (by omega), ?_⟩
    · unfold m_law_draw mkF b_law_draw
      simp [AVL.sNext, AVL.sSeq, AVL.sRet, AVL.sRetN, AVL.sExpr, AVL.sIf, AVL.sBrk, AVL.sCont, AVL.sOpt, AVL.sAsg, AVL.gName, AVL.gsNil, AVL.gsCons, AVL.gTup, AVL.setAll, AVL.sPar, AVL.SRes.seq, AVL.Res.toS, AVL.Res.bind, AVL.eVar, AVL.eC, AVL.eBin, AVL.eUn, AVL.tV, AVL.tAnd, AVL.tOr, AVL.tNot, AVL.eAnd, AVL.eOr, AVL.eNot, AVL.eIf, AVL.aNil, AVL.aCons, AVL.eBlt, lt_int, le_int, gt_int, ge_int, sub_int, add_int, neg_int, int_int, int_bl, eq_int, ne_int, len_lst, abs_int, ten18, pen0, pen1, pen2, pens1, pens2, AVL.gSub, AVL.eLst, AVL.lineOk, AVL.mkL, finF, AVL.eTup, hg, div_int' m0 m1, mod_int' m0, pen_leave]
    · refine Nat.lt_of_le_of_lt ?_ g1
      have h1 := Int.ediv_nonneg g0 (show 0 ≤ many by omega)
      have h2 := Int.ediv_le_self many g0
      omega
  · have g00 : g = 0 := by omega
    subst g00
    have mul1 : mulOk 8191 a = true := mulOk_of (a := 13) (b := 20) (by decide) (by omega) (by decide)
    -- the cell
    have cell : ∃ z : Int, z.natAbs < 2 ^ 1048576 ∧ (c = [] → z = 8191 * a + 2029) ∧ (c ≠ [] → mIx (.lst (c.map .int)) (.int (a % (c.length : Nat))) (pen c (a + 1) 0) = .ok (.int z) (pen c (a + 1) 0)) := by
      cases hn : c with
      | nil =>
        refine ⟨8191 * a + 2029, ?_, fun _ => rfl, fun h => absurd rfl h⟩
        exact Nat.lt_of_lt_of_le (show (8191 * a + 2029).natAbs < 2 ^ 40 by omega) (Nat.pow_le_pow_right (by decide) (by decide))
      | cons x r =>
        have hl : (0 : Int) < ((x :: r).length : Nat) := by simp [AVL.sNext, AVL.sSeq, AVL.sRet, AVL.sRetN, AVL.sExpr, AVL.sIf, AVL.sBrk, AVL.sCont, AVL.sOpt, AVL.sAsg, AVL.gName, AVL.gsNil, AVL.gsCons, AVL.gTup, AVL.setAll, AVL.sPar, AVL.SRes.seq, AVL.Res.toS, AVL.Res.bind, AVL.eVar, AVL.eC, AVL.eBin, AVL.eUn, AVL.tV, AVL.tAnd, AVL.tOr, AVL.tNot, AVL.eAnd, AVL.eOr, AVL.eNot, AVL.eIf, AVL.aNil, AVL.aCons, AVL.eBlt, lt_int, le_int, gt_int, ge_int, sub_int, add_int, neg_int, int_int, int_bl, eq_int, ne_int, len_lst, abs_int, ten18, pen0, pen1, pen2, pens1, pens2, AVL.gSub, AVL.eLst, AVL.lineOk, AVL.mkL, finF, AVL.eTup]
        obtain ⟨z, hz, e⟩ := ix_ints (h := pen (x :: r) (a + 1) 0) (c := x :: r) (Int.emod_nonneg a (by omega)) (Int.emod_lt_of_pos a hl)
        exact ⟨z, hc.bits z (by rw [hn]; exact hz), (fun h => nomatch h), fun _ => e⟩
    obtain ⟨z, zb, z1, z2⟩ := cell
    by_cases big : a < (c.length : Nat) ∧ 1000000000000000000 ≤ (if z < 0 then -z else z)
    · let great : Int := 2 * ((if z < 0 then -z else z) - 1000000000000000000) + (if z < 0 then 1 else 0)
      have gr0 : 0 ≤ great := by show 0 ≤ 2 * ((if z < 0 then -z else z) - 1000000000000000000) + (if z < 0 then 1 else 0); split <;> omega
      have gr1 : great.natAbs < 2 ^ 1048578 := by
        have e : (2 : Nat) ^ 1048578 = 4 * 2 ^ 1048576 := by rw [show 1048578 = 2 + 1048576 from rfl, Nat.pow_add]
        have : great.natAbs ≤ 2 * z.natAbs + 1 := by
          show (2 * ((if z < 0 then -z else z) - 1000000000000000000) + (if z < 0 then 1 else 0)).natAbs ≤ _
          split <;> omega
        rw [e]
        generalize (2 : Nat) ^ 1048576 = T at *
        omega
      have mul2 : mulOk 2 ((if z < 0 then -z else z) - 1000000000000000000) = true := mulOk_of (a := 2) (b := 1048577) (by decide) (by
        have e : (2 : Nat) ^ 1048577 = 2 * 2 ^ 1048576 := by rw [show 1048577 = 1 + 1048576 from rfl, Nat.pow_add]
        rw [e]
        generalize (2 : Nat) ^ 1048576 = T at *
        split <;> omega) (by decide)
      refine ⟨great % many, a + 1, great / many, ?_, Int.emod_nonneg _ (by omega), Int.emod_lt_of_pos _ m0, by omega, by omega, Int.ediv_nonneg gr0 (by omega), ?_⟩
      · unfold m_law_draw mkF b_law_draw
        have ce : (!c.isEmpty) = true := by cases c with | nil => have := big.1; simp [AVL.sNext, AVL.sSeq, AVL.sRet, AVL.sRetN, AVL.sExpr, AVL.sIf, AVL.sBrk, AVL.sCont, AVL.sOpt, AVL.sAsg, AVL.gName, AVL.gsNil, AVL.gsCons, AVL.gTup, AVL.setAll, AVL.sPar, AVL.SRes.seq, AVL.Res.toS, AVL.Res.bind, AVL.eVar, AVL.eC, AVL.eBin, AVL.eUn, AVL.tV, AVL.tAnd, AVL.tOr, AVL.tNot, AVL.eAnd, AVL.eOr, AVL.eNot, AVL.eIf, AVL.aNil, AVL.aCons, AVL.eBlt, lt_int, le_int, gt_int, ge_int, sub_int, add_int, neg_int, int_int, int_bl, eq_int, ne_int, len_lst, abs_int, ten18, pen0, pen1, pen2, pens1, pens2, AVL.gSub, AVL.eLst, AVL.lineOk, AVL.mkL, finF, AVL.eTup] at this; omega | cons x r => rfl
        have hl : (0 : Int) < (c.length : Nat) := by omega
        have w1 : mIx (.lst (c.map .int)) (.int (a % (c.length : Int))) (pen c (a + 1) 0) = .ok (.int z) (pen c (a + 1) 0) := z2 (by rintro rfl; simp [AVL.sNext, AVL.sSeq, AVL.sRet, AVL.sRetN, AVL.sExpr, AVL.sIf, AVL.sBrk, AVL.sCont, AVL.sOpt, AVL.sAsg, AVL.gName, AVL.gsNil, AVL.gsCons, AVL.gTup, AVL.setAll, AVL.sPar, AVL.SRes.seq, AVL.Res.toS, AVL.Res.bind, AVL.eVar, AVL.eC, AVL.eBin, AVL.eUn, AVL.tV, AVL.tAnd, AVL.tOr, AVL.tNot, AVL.eAnd, AVL.eOr, AVL.eNot, AVL.eIf, AVL.aNil, AVL.aCons, AVL.eBlt, lt_int, le_int, gt_int, ge_int, sub_int, add_int, neg_int, int_int, int_bl, eq_int, ne_int, len_lst, abs_int, ten18, pen0, pen1, pen2, pens1, pens2, AVL.gSub, AVL.eLst, AVL.lineOk, AVL.mkL, finF, AVL.eTup] at ce)
        have q := big.1
        have r := big.2
        have gg : great = 2 * ((if z < 0 then -z else z) - 1000000000000000000) + (if z < 0 then 1 else 0) := rfl
        simp [AVL.sNext, AVL.sSeq, AVL.sRet, AVL.sRetN, AVL.sExpr, AVL.sIf, AVL.sBrk, AVL.sCont, AVL.sOpt, AVL.sAsg, AVL.gName, AVL.gsNil, AVL.gsCons, AVL.gTup, AVL.setAll, AVL.sPar, AVL.SRes.seq, AVL.Res.toS, AVL.Res.bind, AVL.eVar, AVL.eC, AVL.eBin, AVL.eUn, AVL.tV, AVL.tAnd, AVL.tOr, AVL.tNot, AVL.eAnd, AVL.eOr, AVL.eNot, AVL.eIf, AVL.aNil, AVL.aCons, AVL.eBlt, lt_int, le_int, gt_int, ge_int, sub_int, add_int, neg_int, int_int, int_bl, eq_int, ne_int, len_lst, abs_int, ten18, pen0, pen1, pen2, pens1, pens2, AVL.gSub, AVL.eLst, AVL.lineOk, AVL.mkL, finF, AVL.eTup, mul_int' mul1, ne_nil, ce, mod_int' hl, w1, q, r, mul_int' mul2, div_int' m0 m1, mod_int' m0, pen_leave, gg]
      · have h1 := Int.ediv_nonneg gr0 (show 0 ≤ many by omega)
        have h2 := Int.ediv_le_self many gr0
        refine Nat.lt_of_le_of_lt (show (great / many).natAbs ≤ great.natAbs by omega) (Nat.lt_of_lt_of_le gr1 (Nat.pow_le_pow_right (by decide) (by decide)))
    · obtain ⟨k1, k2, p1, p2, p3, p4, p5, e1, p6, p7, e2⟩ := mix_ok (z := z) (a := a) (many := many) (Nat.lt_of_lt_of_le zb (Nat.pow_le_pow_right (by decide) (by decide))) a0 a1
      refine ⟨k2 / 16 % many, a + 1, 0, ?_, Int.emod_nonneg _ (by omega), Int.emod_lt_of_pos _ m0, by omega, by omega, by omega, Nat.two_pow_pos _⟩
      unfold m_law_draw mkF b_law_draw
      have ce : (!c.isEmpty) = true ∨ c = [] := by cases c <;> simp [AVL.sNext, AVL.sSeq, AVL.sRet, AVL.sRetN, AVL.sExpr, AVL.sIf, AVL.sBrk, AVL.sCont, AVL.sOpt, AVL.sAsg, AVL.gName, AVL.gsNil, AVL.gsCons, AVL.gTup, AVL.setAll, AVL.sPar, AVL.SRes.seq, AVL.Res.toS, AVL.Res.bind, AVL.eVar, AVL.eC, AVL.eBin, AVL.eUn, AVL.tV, AVL.tAnd, AVL.tOr, AVL.tNot, AVL.eAnd, AVL.eOr, AVL.eNot, AVL.eIf, AVL.aNil, AVL.aCons, AVL.eBlt, lt_int, le_int, gt_int, ge_int, sub_int, add_int, neg_int, int_int, int_bl, eq_int, ne_int, len_lst, abs_int, ten18, pen0, pen1, pen2, pens1, pens2, AVL.gSub, AVL.eLst, AVL.lineOk, AVL.mkL, finF, AVL.eTup]
      have p2' := p2
      rcases ce with ce | ce
      · have zz := z2 (by rintro rfl; simp [AVL.sNext, AVL.sSeq, AVL.sRet, AVL.sRetN, AVL.sExpr, AVL.sIf, AVL.sBrk, AVL.sCont, AVL.sOpt, AVL.sAsg, AVL.gName, AVL.gsNil, AVL.gsCons, AVL.gTup, AVL.setAll, AVL.sPar, AVL.SRes.seq, AVL.Res.toS, AVL.Res.bind, AVL.eVar, AVL.eC, AVL.eBin, AVL.eUn, AVL.tV, AVL.tAnd, AVL.tOr, AVL.tNot, AVL.eAnd, AVL.eOr, AVL.eNot, AVL.eIf, AVL.aNil, AVL.aCons, AVL.eBlt, lt_int, le_int, gt_int, ge_int, sub_int, add_int, neg_int, int_int, int_bl, eq_int, ne_int, len_lst, abs_int, ten18, pen0, pen1, pen2, pens1, pens2, AVL.gSub, AVL.eLst, AVL.lineOk, AVL.mkL, finF, AVL.eTup] at ce)
        have hl : (0 : Int) < (c.length : Nat) := by cases c with | nil => simp [AVL.sNext, AVL.sSeq, AVL.sRet, AVL.sRetN, AVL.sExpr, AVL.sIf, AVL.sBrk, AVL.sCont, AVL.sOpt, AVL.sAsg, AVL.gName, AVL.gsNil, AVL.gsCons, AVL.gTup, AVL.setAll, AVL.sPar, AVL.SRes.seq, AVL.Res.toS, AVL.Res.bind, AVL.eVar, AVL.eC, AVL.eBin, AVL.eUn, AVL.tV, AVL.tAnd, AVL.tOr, AVL.tNot, AVL.eAnd, AVL.eOr, AVL.eNot, AVL.eIf, AVL.aNil, AVL.aCons, AVL.eBlt, lt_int, le_int, gt_int, ge_int, sub_int, add_int, neg_int, int_int, int_bl, eq_int, ne_int, len_lst, abs_int, ten18, pen0, pen1, pen2, pens1, pens2, AVL.gSub, AVL.eLst, AVL.lineOk, AVL.mkL, finF, AVL.eTup] at ce | cons x r => simp [AVL.sNext, AVL.sSeq, AVL.sRet, AVL.sRetN, AVL.sExpr, AVL.sIf, AVL.sBrk, AVL.sCont, AVL.sOpt, AVL.sAsg, AVL.gName, AVL.gsNil, AVL.gsCons, AVL.gTup, AVL.setAll, AVL.sPar, AVL.SRes.seq, AVL.Res.toS, AVL.Res.bind, AVL.eVar, AVL.eC, AVL.eBin, AVL.eUn, AVL.tV, AVL.tAnd, AVL.tOr, AVL.tNot, AVL.eAnd, AVL.eOr, AVL.eNot, AVL.eIf, AVL.aNil, AVL.aCons, AVL.eBlt, lt_int, le_int, gt_int, ge_int, sub_int, add_int, neg_int, int_int, int_bl, eq_int, ne_int, len_lst, abs_int, ten18, pen0, pen1, pen2, pens1, pens2, AVL.gSub, AVL.eLst, AVL.lineOk, AVL.mkL, finF, AVL.eTup]
        subst e1
        subst e2
        have w1 : mIx (.lst (c.map .int)) (.int (a % (c.length : Int))) (pen c (a + 1) 0) = .ok (.int z) (pen c (a + 1) 0) := zz
        by_cases q : a < (c.length : Int)
        · have nb : ¬ 1000000000000000000 ≤ (if z < 0 then -z else z) := fun r => big ⟨q, r⟩
          simp [AVL.sNext, AVL.sSeq, AVL.sRet, AVL.sRetN, AVL.sExpr, AVL.sIf, AVL.sBrk, AVL.sCont, AVL.sOpt, AVL.sAsg, AVL.gName, AVL.gsNil, AVL.gsCons, AVL.gTup, AVL.setAll, AVL.sPar, AVL.SRes.seq, AVL.Res.toS, AVL.Res.bind, AVL.eVar, AVL.eC, AVL.eBin, AVL.eUn, AVL.tV, AVL.tAnd, AVL.tOr, AVL.tNot, AVL.eAnd, AVL.eOr, AVL.eNot, AVL.eIf, AVL.aNil, AVL.aCons, AVL.eBlt, lt_int, le_int, gt_int, ge_int, sub_int, add_int, neg_int, int_int, int_bl, eq_int, ne_int, len_lst, abs_int, ten18, pen0, pen1, pen2, pens1, pens2, AVL.gSub, AVL.eLst, AVL.lineOk, AVL.mkL, finF, AVL.eTup, mul_int' mul1, ne_nil, ce, mod_int' hl, w1, q, nb, mul_int' p2, mod_a, mod_b, mod_c, pow3 p1, mul_int' p3, mul_int' p4, mul_int' p5, mul_int' p6, pow5 p7, div_16, mod_int' m0, pen_leave]
        · simp [AVL.sNext, AVL.sSeq, AVL.sRet, AVL.sRetN, AVL.sExpr, AVL.sIf, AVL.sBrk, AVL.sCont, AVL.sOpt, AVL.sAsg, AVL.gName, AVL.gsNil, AVL.gsCons, AVL.gTup, AVL.setAll, AVL.sPar, AVL.SRes.seq, AVL.Res.toS, AVL.Res.bind, AVL.eVar, AVL.eC, AVL.eBin, AVL.eUn, AVL.tV, AVL.tAnd, AVL.tOr, AVL.tNot, AVL.eAnd, AVL.eOr, AVL.eNot, AVL.eIf, AVL.aNil, AVL.aCons, AVL.eBlt, lt_int, le_int, gt_int, ge_int, sub_int, add_int, neg_int, int_int, int_bl, eq_int, ne_int, len_lst, abs_int, ten18, pen0, pen1, pen2, pens1, pens2, AVL.gSub, AVL.eLst, AVL.lineOk, AVL.mkL, finF, AVL.eTup, mul_int' mul1, ne_nil, ce, mod_int' hl, w1, q, mul_int' p2, mod_a, mod_b, mod_c, pow3 p1, mul_int' p3, mul_int' p4, mul_int' p5, mul_int' p6, pow5 p7, div_16, mod_int' m0, pen_leave]
      · subst ce
        have zz := z1 rfl
        subst zz
        subst e1
        subst e2
        have q : ¬ a < 0 := by omega
        have w0 : mEq true (.lst []) (.lst []) (pen [] (a + 1) 0) = .ok (.bl false) (pen [] (a + 1) 0) := rfl
        simp [AVL.sNext, AVL.sSeq, AVL.sRet, AVL.sRetN, AVL.sExpr, AVL.sIf, AVL.sBrk, AVL.sCont, AVL.sOpt, AVL.sAsg, AVL.gName, AVL.gsNil, AVL.gsCons, AVL.gTup, AVL.setAll, AVL.sPar, AVL.SRes.seq, AVL.Res.toS, AVL.Res.bind, AVL.eVar, AVL.eC, AVL.eBin, AVL.eUn, AVL.tV, AVL.tAnd, AVL.tOr, AVL.tNot, AVL.eAnd, AVL.eOr, AVL.eNot, AVL.eIf, AVL.aNil, AVL.aCons, AVL.eBlt, lt_int, le_int, gt_int, ge_int, sub_int, add_int, neg_int, int_int, int_bl, eq_int, ne_int, len_lst, abs_int, ten18, pen0, pen1, pen2, pens1, pens2, AVL.gSub, AVL.eLst, AVL.lineOk, AVL.mkL, finF, AVL.eTup, mul_int' mul1, w0, q, mul_int' p2, mod_a, mod_b, mod_c, pow3 p1, mul_int' p3, mul_int' p4, mul_int' p5, mul_int' p6, pow5 p7, div_16, mod_int' m0, pen_leave]
end Law

namespace Law
open PySem PySem.Spec L2 AVL
def Pen (c : List Int) (N : Nat) (h : AH) : Prop := ∃ a g, h = pen c a g ∧ 0 ≤ a ∧ a ≤ N ∧ 0 ≤ g ∧ g.natAbs < 2 ^ 1048600
theorem Pen.mono {c : List Int} {N M : Nat} {h : AH} (p : Pen c N h) (l : N ≤ M) : Pen c M h := by
  obtain ⟨a, g, e, h1, h2, h3, h4⟩ := p
  exact ⟨a, g, e, h1, by omega, h3, h4⟩
theorem Pen.leave_int {c : List Int} {N M : Nat} {h h' : AH} (p : Pen c N h) (p' : Pen c M h') {x : Int} : leave h.length (.int x) h' = .ok (.int x) h' := by
  obtain ⟨a, g, rfl, _⟩ := p
  obtain ⟨a', g', rfl, _⟩ := p'
  rfl
theorem Pen.leave_two {c : List Int} {N M : Nat} {h h' : AH} (p : Pen c N h) (p' : Pen c M h') {x y : Int} : leave h.length (.tup [.int x, .int y]) h' = .ok (.tup [.int x, .int y]) h' := by
  obtain ⟨a, g, rfl, _⟩ := p
  obtain ⟨a', g', rfl, _⟩ := p'
  rfl
theorem draw {c : List Int} (hc : CellsOk c) {N : Nat} {h : AH} (p : Pen c N h) (hN : N < 900000) {many : Int} (m0 : 0 < many) (m1 : many.natAbs.log2 < 9000) :
    ∃ d h', m_law_draw [.ref 0, .int many] h = .ok (.int d) h' ∧ Pen c (N + 1) h' ∧ 0 ≤ d ∧ d < many := by
  obtain ⟨a, g, rfl, h1, h2, h3, h4⟩ := p
  obtain ⟨d, a', g', e, d0, d1, a0, a1, g0, g1⟩ := draw_ok hc h1 (by omega) h3 h4 m0 m1
  exact ⟨d, _, e, ⟨a', g', rfl, a0, by omega, g0, g1⟩, d0, d1⟩
theorem ten20 : ∃ A : Int, (∀ h : AH, mPow (.int 10) (.int 20) h = .ok (.int A) h) ∧ 0 < A ∧ A.natAbs.log2 < 9000 ∧ A.natAbs < 2 ^ 70 := ⟨100000000000000000000, fun _ => rfl, by omega, Nat.lt_of_le_of_lt (show Nat.log2 100000000000000000000 ≤ 66 by decide +kernel) (by decide), by omega⟩
theorem ten30 : ∃ A : Int, (∀ h : AH, mPow (.int 10) (.int 30) h = .ok (.int A) h) ∧ 0 < A ∧ A.natAbs.log2 < 9000 ∧ A.natAbs < 2 ^ 100 := ⟨1000000000000000000000000000000, fun _ => rfl, by omega, Nat.lt_of_le_of_lt (show Nat.log2 1000000000000000000000000000000 ≤ 99 by decide +kernel) (by decide), by omega⟩
theorem num_g {x x' A B : Int} (x0 : 0 ≤ x) (x1 : x < A) (a : A.natAbs < 2 ^ 70) (y0 : 0 ≤ x') (y1 : x' < B) (b : B.natAbs < 2 ^ 100) : (x * B + x').natAbs < 2 ^ 200 := by
  have h1 : (x * B).natAbs ≤ 2 ^ 70 * 2 ^ 100 := by
    rw [Int.natAbs_mul]
    exact Nat.mul_le_mul (by omega) (by omega)
  omega
theorem num_b {x : Int} (h0 : 0 ≤ x) (h : x < 40) : x.natAbs < 2 ^ 200 := by omega
theorem num_n {x : Int} (h : x.natAbs < 2 ^ 200) : (-x).natAbs < 2 ^ 200 := by rwa [Int.natAbs_neg]
section
variable {m : AV → AV → AH → Res AV} {fa fb : EM} {F : MF} {sl : SL} {h h1 h2 h3 : AH} {x y v : AV}
theorem eBin_ok (ea : fa sl h = .ok x h1) (eb : fb sl h1 = .ok y h2) : eBin m fa fb sl h = m x y h2 := by
  unfold eBin
  rw [ea]
  show (fb sl h1).bind _ = _
  rw [eb]; rfl
theorem eCall1_ok (ea : fa sl h = .ok x h1) (ef : F [x] h1 = .ok v h3) : eCall 1 F (aCons fa aNil) sl h = .ok v h3 := by
  unfold eCall aCons
  rw [ea]
  exact ef
theorem eCall2_ok (ea : fa sl h = .ok x h1) (eb : fb sl h1 = .ok y h2) (ef : F [x, y] h2 = .ok v h3) : eCall 2 F (aCons fa (aCons fb aNil)) sl h = .ok v h3 := by
  unfold eCall aCons
  rw [ea]
  show ((((fb sl h1).bind fun x h1 => (aNil sl h1).bind fun xs h2 => .ok (x :: xs) h2).bind fun xs h2 => .ok (_ :: xs) h2).bind _) = _
  rw [eb]
  exact ef
theorem eVar_ok {i : Nat} (e : sl[i]? = some (some x)) : eVar i sl h = .ok x h := by
  unfold eVar
  rw [e]
end
theorem big_ok {F : MF} {x x' A B : Int} {h1 h2 h3 : AH} {sl : SL} (s0 : sl[0]? = some (some (.ref 0))) (t20 : ∀ h : AH, mPow (.int 10) (.int 20) h = .ok (.int A) h) (t30 : ∀ h : AH, mPow (.int 10) (.int 30) h = .ok (.int B) h)
    (e2 : F [.ref 0, .int A] h1 = .ok (.int x) h2) (e3 : F [.ref 0, .int B] h2 = .ok (.int x') h3) (mm : ∀ h : AH, mMul false (.int x) (.int B) h = .ok (.int (x * B)) h) :
    eBin (mAdd false) (eBin (mMul false) (eCall 2 F (aCons (eVar 0) (aCons (eBin mPow (eC (.int 10)) (eC (.int 20))) (aNil)))) (eBin mPow (eC (.int 10)) (eC (.int 30)))) (eCall 2 F (aCons (eVar 0) (aCons (eBin mPow (eC (.int 10)) (eC (.int 30))) (aNil)))) sl h1 = .ok (.int (x * B + x')) h3 :=
  (eBin_ok ((eBin_ok (eCall2_ok (eVar_ok s0) ((eBin_ok rfl rfl).trans (t20 _)) e2) ((eBin_ok rfl rfl).trans (t30 _))).trans (mm _)) (eCall2_ok (eVar_ok s0) ((eBin_ok rfl rfl).trans (t30 _)) e3)).trans rfl
theorem number_ok {c : List Int} (hc : CellsOk c) {N : Nat} {h : AH} (p : Pen c N h) (hN : N < 800000) :
    ∃ x h', m_law_number [.ref 0] h = .ok (.int x) h' ∧ Pen c (N + 4) h' ∧ x.natAbs < 2 ^ 200 := by
  obtain ⟨A, t20, A0, A1, A2⟩ := ten20
  obtain ⟨B, t30, B0, B1, B2⟩ := ten30
  obtain ⟨d, h1, e1, p1, d0, d1⟩ := draw hc p (by omega) (many := 6) (by omega) (by decide)
  unfold m_law_number mkF b_law_number
  by_cases z : d = 0
  · subst z
    refine ⟨0, h1, ?_, p1.mono (by omega), Nat.two_pow_pos _⟩
    generalize m_law_draw = F at *
    simp [AVL.sNext, AVL.sSeq, AVL.sRet, AVL.sRetN, AVL.sExpr, AVL.sIf, AVL.sBrk, AVL.sCont, AVL.sOpt, AVL.sAsg, AVL.gName, AVL.gsNil, AVL.gsCons, AVL.gTup, AVL.setAll, AVL.sPar, AVL.SRes.seq, AVL.Res.toS, AVL.Res.bind, AVL.eVar, AVL.eC, AVL.eBin, AVL.eUn, AVL.tV, AVL.tAnd, AVL.tOr, AVL.tNot, AVL.eAnd, AVL.eOr, AVL.eNot, AVL.eIf, AVL.aNil, AVL.aCons, AVL.eBlt, lt_int, le_int, gt_int, ge_int, sub_int, add_int, neg_int, int_int, int_bl, eq_int, ne_int, len_lst, abs_int, ten18, pen0, pen1, pen2, pens1, pens2, AVL.gSub, AVL.eLst, AVL.lineOk, AVL.mkL, finF, AVL.eTup, AVL.eCall, e1, p.leave_int p1]
  · by_cases q : d < 4
    · obtain ⟨x, h2, e2, p2, x0, x1⟩ := draw hc p1 (by omega) (many := 40) (by omega) (by decide)
      obtain ⟨k, h3, e3, p3, k0, k1⟩ := draw hc p2 (by omega) (many := 2) (by omega) (by decide)
      by_cases y : k = 0
      · refine ⟨x, h3, ?_, p3.mono (by omega), num_b x0 x1⟩
        generalize m_law_draw = F at *
        simp [AVL.sNext, AVL.sSeq, AVL.sRet, AVL.sRetN, AVL.sExpr, AVL.sIf, AVL.sBrk, AVL.sCont, AVL.sOpt, AVL.sAsg, AVL.gName, AVL.gsNil, AVL.gsCons, AVL.gTup, AVL.setAll, AVL.sPar, AVL.SRes.seq, AVL.Res.toS, AVL.Res.bind, AVL.eVar, AVL.eC, AVL.eBin, AVL.eUn, AVL.tV, AVL.tAnd, AVL.tOr, AVL.tNot, AVL.eAnd, AVL.eOr, AVL.eNot, AVL.eIf, AVL.aNil, AVL.aCons, AVL.eBlt, lt_int, le_int, gt_int, ge_int, sub_int, add_int, neg_int, int_int, int_bl, eq_int, ne_int, len_lst, abs_int, ten18, pen0, pen1, pen2, pens1, pens2, AVL.gSub, AVL.eLst, AVL.lineOk, AVL.mkL, finF, AVL.eTup, AVL.eCall, e1, e2, e3, z, q, y, p.leave_int p3]
      · refine ⟨-x, h3, ?_, p3.mono (by omega), num_n (num_b x0 x1)⟩
        generalize m_law_draw = F at *
        simp [AVL.sNext, AVL.sSeq, AVL.sRet, AVL.sRetN, AVL.sExpr, AVL.sIf, AVL.sBrk, AVL.sCont, AVL.sOpt, AVL.sAsg, AVL.gName, AVL.gsNil, AVL.gsCons, AVL.gTup, AVL.setAll, AVL.sPar, AVL.SRes.seq, AVL.Res.toS, AVL.Res.bind, AVL.eVar, AVL.eC, AVL.eBin, AVL.eUn, AVL.tV, AVL.tAnd, AVL.tOr, AVL.tNot, AVL.eAnd, AVL.eOr, AVL.eNot, AVL.eIf, AVL.aNil, AVL.aCons, AVL.eBlt, lt_int, le_int, gt_int, ge_int, sub_int, add_int, neg_int, int_int, int_bl, eq_int, ne_int, len_lst, abs_int, ten18, pen0, pen1, pen2, pens1, pens2, AVL.gSub, AVL.eLst, AVL.lineOk, AVL.mkL, finF, AVL.eTup, AVL.eCall, e1, e2, e3, z, q, y, p.leave_int p3]
    · obtain ⟨x, h2, e2, p2, x0, x1⟩ := draw hc p1 (by omega) A0 A1
      obtain ⟨x', h2', e2', p2', x0', x1'⟩ := draw hc p2 (by omega) B0 B1
      obtain ⟨k, h3, e3, p3, k0, k1⟩ := draw hc p2' (by omega) (many := 2) (by omega) (by decide)
      have mu : mulOk x B = true := mulOk_of (a := 70) (b := 100) (by omega) B2 (by decide)
      have mm : ∀ h : AH, mMul false (.int x) (.int B) h = .ok (.int (x * B)) h := fun h => mul_int' mu
      have bg := big_ok (F := m_law_draw) (sl := [some (.ref 0), some (.int d), none]) rfl t20 t30 e2 e2' mm
      generalize eBin (mAdd false) (eBin (mMul false) (eCall 2 m_law_draw (aCons (eVar 0) (aCons (eBin mPow (eC (.int 10)) (eC (.int 20))) (aNil)))) (eBin mPow (eC (.int 10)) (eC (.int 30)))) (eCall 2 m_law_draw (aCons (eVar 0) (aCons (eBin mPow (eC (.int 10)) (eC (.int 30))) (aNil)))) = BG at *
      by_cases y : k = 0
      · refine ⟨x * B + x', h3, ?_, p3.mono (by omega), num_g x0 x1 A2 x0' x1' B2⟩
        clear t20 t30 e2 e2' mm mu
        generalize m_law_draw = F at *
        simp [AVL.sNext, AVL.sSeq, AVL.sRet, AVL.sRetN, AVL.sExpr, AVL.sIf, AVL.sBrk, AVL.sCont, AVL.sOpt, AVL.sAsg, AVL.gName, AVL.gsNil, AVL.gsCons, AVL.gTup, AVL.setAll, AVL.sPar, AVL.SRes.seq, AVL.Res.toS, AVL.Res.bind, AVL.eVar, AVL.eC, AVL.eBin, AVL.eUn, AVL.tV, AVL.tAnd, AVL.tOr, AVL.tNot, AVL.eAnd, AVL.eOr, AVL.eNot, AVL.eIf, AVL.aNil, AVL.aCons, AVL.eBlt, lt_int, le_int, gt_int, ge_int, sub_int, add_int, neg_int, int_int, int_bl, eq_int, ne_int, len_lst, abs_int, ten18, pen0, pen1, pen2, pens1, pens2, AVL.gSub, AVL.eLst, AVL.lineOk, AVL.mkL, finF, AVL.eTup, AVL.eCall, e1, e3, z, q, y, bg, p.leave_int p3]
      · refine ⟨-(x * B + x'), h3, ?_, p3.mono (by omega), num_n (num_g x0 x1 A2 x0' x1' B2)⟩
        clear t20 t30 e2 e2' mm mu
        generalize m_law_draw = F at *
        simp [AVL.sNext, AVL.sSeq, AVL.sRet, AVL.sRetN, AVL.sExpr, AVL.sIf, AVL.sBrk, AVL.sCont, AVL.sOpt, AVL.sAsg, AVL.gName, AVL.gsNil, AVL.gsCons, AVL.gTup, AVL.setAll, AVL.sPar, AVL.SRes.seq, AVL.Res.toS, AVL.Res.bind, AVL.eVar, AVL.eC, AVL.eBin, AVL.eUn, AVL.tV, AVL.tAnd, AVL.tOr, AVL.tNot, AVL.eAnd, AVL.eOr, AVL.eNot, AVL.eIf, AVL.aNil, AVL.aCons, AVL.eBlt, lt_int, le_int, gt_int, ge_int, sub_int, add_int, neg_int, int_int, int_bl, eq_int, ne_int, len_lst, abs_int, ten18, pen0, pen1, pen2, pens1, pens2, AVL.gSub, AVL.eLst, AVL.lineOk, AVL.mkL, finF, AVL.eTup, AVL.eCall, e1, e3, z, q, y, bg, p.leave_int p3]
theorem pick5 {c : List Int} (hc : CellsOk c) {N : Nat} {h : AH} (p : Pen c N h) (hN : N < 800000) :
    ∃ t h', m_law_pick [.ref 0, .lst [.int 1, .int 1, .int 2, .int 6, .int 35]] h = .ok (.int t) h' ∧ Pen c (N + 1) h' ∧ 1 ≤ t ∧ t ≤ 35 := by
  obtain ⟨d, h1, e1, p1, d0, d1⟩ := draw hc p (by omega) (many := 5) (by decide) (by decide)
  have e0 : ∀ h : AH, mLen [.lst [.int 1, .int 1, .int 2, .int 6, .int 35]] h = .ok (.int 5) h := fun _ => rfl
  unfold m_law_pick mkF b_law_pick
  have cs : d = 0 ∨ d = 1 ∨ d = 2 ∨ d = 3 ∨ d = 4 := by omega
  generalize m_law_draw = F at *
  rcases cs with rfl | rfl | rfl | rfl | rfl
  · exact ⟨1, h1, by simp [AVL.sNext, AVL.sSeq, AVL.sRet, AVL.sRetN, AVL.sExpr, AVL.sIf, AVL.sBrk, AVL.sCont, AVL.sOpt, AVL.sAsg, AVL.gName, AVL.gsNil, AVL.gsCons, AVL.gTup, AVL.setAll, AVL.sPar, AVL.SRes.seq, AVL.Res.toS, AVL.Res.bind, AVL.eVar, AVL.eC, AVL.eBin, AVL.eUn, AVL.tV, AVL.tAnd, AVL.tOr, AVL.tNot, AVL.eAnd, AVL.eOr, AVL.eNot, AVL.eIf, AVL.aNil, AVL.aCons, AVL.eBlt, lt_int, le_int, gt_int, ge_int, sub_int, add_int, neg_int, int_int, int_bl, eq_int, ne_int, len_lst, abs_int, ten18, pen0, pen1, pen2, pens1, pens2, AVL.gSub, AVL.eLst, AVL.lineOk, AVL.mkL, finF, AVL.eTup, AVL.eCall, e0, e1, show mIx (.lst [.int 1, .int 1, .int 2, .int 6, .int 35]) (.int 0) h1 = .ok (.int 1) h1 from rfl, p.leave_int p1], p1, by decide, by decide⟩
  · exact ⟨1, h1, by simp [AVL.sNext, AVL.sSeq, AVL.sRet, AVL.sRetN, AVL.sExpr, AVL.sIf, AVL.sBrk, AVL.sCont, AVL.sOpt, AVL.sAsg, AVL.gName, AVL.gsNil, AVL.gsCons, AVL.gTup, AVL.setAll, AVL.sPar, AVL.SRes.seq, AVL.Res.toS, AVL.Res.bind, AVL.eVar, AVL.eC, AVL.eBin, AVL.eUn, AVL.tV, AVL.tAnd, AVL.tOr, AVL.tNot, AVL.eAnd, AVL.eOr, AVL.eNot, AVL.eIf, AVL.aNil, AVL.aCons, AVL.eBlt, lt_int, le_int, gt_int, ge_int, sub_int, add_int, neg_int, int_int, int_bl, eq_int, ne_int, len_lst, abs_int, ten18, pen0, pen1, pen2, pens1, pens2, AVL.gSub, AVL.eLst, AVL.lineOk, AVL.mkL, finF, AVL.eTup, AVL.eCall, e0, e1, show mIx (.lst [.int 1, .int 1, .int 2, .int 6, .int 35]) (.int 1) h1 = .ok (.int 1) h1 from rfl, p.leave_int p1], p1, by decide, by decide⟩
  · exact ⟨2, h1, by simp [AVL.sNext, AVL.sSeq, AVL.sRet, AVL.sRetN, AVL.sExpr, AVL.sIf, AVL.sBrk, AVL.sCont, AVL.sOpt, AVL.sAsg, AVL.gName, AVL.gsNil, AVL.gsCons, AVL.gTup, AVL.setAll, AVL.sPar, AVL.SRes.seq, AVL.Res.toS, AVL.Res.bind, AVL.eVar, AVL.eC, AVL.eBin, AVL.eUn, AVL.tV, AVL.tAnd, AVL.tOr, AVL.tNot, AVL.eAnd, AVL.eOr, AVL.eNot, AVL.eIf, AVL.aNil, AVL.aCons, AVL.eBlt, lt_int, le_int, gt_int, ge_int, sub_int, add_int, neg_int, int_int, int_bl, eq_int, ne_int, len_lst, abs_int, ten18, pen0, pen1, pen2, pens1, pens2, AVL.gSub, AVL.eLst, AVL.lineOk, AVL.mkL, finF, AVL.eTup, AVL.eCall, e0, e1, show mIx (.lst [.int 1, .int 1, .int 2, .int 6, .int 35]) (.int 2) h1 = .ok (.int 2) h1 from rfl, p.leave_int p1], p1, by decide, by decide⟩
  · exact ⟨6, h1, by simp [AVL.sNext, AVL.sSeq, AVL.sRet, AVL.sRetN, AVL.sExpr, AVL.sIf, AVL.sBrk, AVL.sCont, AVL.sOpt, AVL.sAsg, AVL.gName, AVL.gsNil, AVL.gsCons, AVL.gTup, AVL.setAll, AVL.sPar, AVL.SRes.seq, AVL.Res.toS, AVL.Res.bind, AVL.eVar, AVL.eC, AVL.eBin, AVL.eUn, AVL.tV, AVL.tAnd, AVL.tOr, AVL.tNot, AVL.eAnd, AVL.eOr, AVL.eNot, AVL.eIf, AVL.aNil, AVL.aCons, AVL.eBlt, lt_int, le_int, gt_int, ge_int, sub_int, add_int, neg_int, int_int, int_bl, eq_int, ne_int, len_lst, abs_int, ten18, pen0, pen1, pen2, pens1, pens2, AVL.gSub, AVL.eLst, AVL.lineOk, AVL.mkL, finF, AVL.eTup, AVL.eCall, e0, e1, show mIx (.lst [.int 1, .int 1, .int 2, .int 6, .int 35]) (.int 3) h1 = .ok (.int 6) h1 from rfl, p.leave_int p1], p1, by decide, by decide⟩
  · exact ⟨35, h1, by simp [AVL.sNext, AVL.sSeq, AVL.sRet, AVL.sRetN, AVL.sExpr, AVL.sIf, AVL.sBrk, AVL.sCont, AVL.sOpt, AVL.sAsg, AVL.gName, AVL.gsNil, AVL.gsCons, AVL.gTup, AVL.setAll, AVL.sPar, AVL.SRes.seq, AVL.Res.toS, AVL.Res.bind, AVL.eVar, AVL.eC, AVL.eBin, AVL.eUn, AVL.tV, AVL.tAnd, AVL.tOr, AVL.tNot, AVL.eAnd, AVL.eOr, AVL.eNot, AVL.eIf, AVL.aNil, AVL.aCons, AVL.eBlt, lt_int, le_int, gt_int, ge_int, sub_int, add_int, neg_int, int_int, int_bl, eq_int, ne_int, len_lst, abs_int, ten18, pen0, pen1, pen2, pens1, pens2, AVL.gSub, AVL.eLst, AVL.lineOk, AVL.mkL, finF, AVL.eTup, AVL.eCall, e0, e1, show mIx (.lst [.int 1, .int 1, .int 2, .int 6, .int 35]) (.int 4) h1 = .ok (.int 35) h1 from rfl, p.leave_int p1], p1, by decide, by decide⟩
theorem pair_ok {c : List Int} (hc : CellsOk c) {N : Nat} {h : AH} (p : Pen c N h) (hN : N < 700000) :
    ∃ x y h', m_law_pair [.ref 0] h = .ok (.tup [.int x, .int y]) h' ∧ Pen c (N + 9) h' ∧ x.natAbs < 2 ^ 210 ∧ 1 ≤ y ∧ y.natAbs < 2 ^ 210 := by
  obtain ⟨x, h1, e1, p1, x1⟩ := number_ok hc p (by omega)
  obtain ⟨y, h2, e2, p2, y1⟩ := number_ok hc p1 (by omega)
  obtain ⟨t, h3, e3, p3, t0, t1⟩ := pick5 hc p2 (by omega)
  unfold m_law_pair mkF b_law_pair
  generalize m_law_number = G at *
  generalize m_law_pick = F at *
  have m1 : mulOk x t = true := mulOk_of (a := 200) (b := 10) x1 (by omega) (by decide)
  have yy : ((if y < 0 then -y else y) + 1).natAbs < 2 ^ 201 := by split <;> omega
  have m2 : mulOk ((if y < 0 then -y else y) + 1) t = true := mulOk_of (a := 201) (b := 10) yy (by omega) (by decide)
  refine ⟨x * t, ((if y < 0 then -y else y) + 1) * t, h3, ?_, p3, ?_, ?_, ?_⟩
  · have mm1 : ∀ h : AH, mMul false (.int x) (.int t) h = .ok (.int (x * t)) h := fun h => mul_int' m1
    have mm2 : ∀ h : AH, mMul false (.int ((if y < 0 then -y else y) + 1)) (.int t) h = .ok (.int (((if y < 0 then -y else y) + 1) * t)) h := fun h => mul_int' m2
    simp [AVL.sNext, AVL.sSeq, AVL.sRet, AVL.sRetN, AVL.sExpr, AVL.sIf, AVL.sBrk, AVL.sCont, AVL.sOpt, AVL.sAsg, AVL.gName, AVL.gsNil, AVL.gsCons, AVL.gTup, AVL.setAll, AVL.sPar, AVL.SRes.seq, AVL.Res.toS, AVL.Res.bind, AVL.eVar, AVL.eC, AVL.eBin, AVL.eUn, AVL.tV, AVL.tAnd, AVL.tOr, AVL.tNot, AVL.eAnd, AVL.eOr, AVL.eNot, AVL.eIf, AVL.aNil, AVL.aCons, AVL.eBlt, lt_int, le_int, gt_int, ge_int, sub_int, add_int, neg_int, int_int, int_bl, eq_int, ne_int, len_lst, abs_int, ten18, pen0, pen1, pen2, pens1, pens2, AVL.gSub, AVL.eLst, AVL.lineOk, AVL.mkL, finF, AVL.eTup, AVL.eCall, e1, e2, e3, mm1, mm2, p.leave_two p3, sizeLine_eq]
  · rw [Int.natAbs_mul]
    have : x.natAbs * t.natAbs ≤ x.natAbs * 35 := Nat.mul_le_mul_left _ (by omega)
    omega
  · have : 1 * 1 ≤ ((if y < 0 then -y else y) + 1) * t := Int.mul_le_mul (by split <;> omega) t0 (by decide) (by split <;> omega)
    omega
  · rw [Int.natAbs_mul]
    have : ((if y < 0 then -y else y) + 1).natAbs * t.natAbs ≤ ((if y < 0 then -y else y) + 1).natAbs * 35 := Nat.mul_le_mul_left _ (by omega)
    omega
end Law

namespace Law
open PySem PySem.Spec L2 AVL
section
variable {h : AH} {x y : Int} {b : Bool}
theorem lv_bl : leave h.length (.bl b) h = .ok (.bl b) h := by
  unfold leave; show Res.ok (AV.bl b) (h.take h.length) = _; rw [List.take_length]
theorem lv_int : leave h.length (.int x) h = .ok (.int x) h := by
  unfold leave; show Res.ok (AV.int x) (h.take h.length) = _; rw [List.take_length]
theorem lv_two : leave h.length (.tup [.int x, .int y]) h = .ok (.tup [.int x, .int y]) h := by
  unfold leave; show Res.ok (AV.tup [.int x, .int y]) (h.take h.length) = _; rw [List.take_length]
theorem isi_ii : mIsi isaT [.int x, .ty "int"] h = .ok (.bl true) h := by rfl
theorem isi_ib : mIsi isaT [.int x, .ty "bool"] h = .ok (.bl false) h := by rfl
theorem isi_tup {l : List AV} : mIsi isaT [.tup l, .tup [.ty "list", .ty "tuple"]] h = .ok (.bl true) h := by rfl
theorem isi_lst {l : List AV} : mIsi isaT [.lst l, .tup [.ty "list", .ty "tuple"]] h = .ok (.bl true) h := by rfl
theorem is_integer_int : m_is_integer [.int x] h = .ok (.bl true) h := by
  unfold m_is_integer mkF b_is_integer
  simp [AVL.sNext, AVL.sSeq, AVL.sRet, AVL.sRetN, AVL.sExpr, AVL.sIf, AVL.sBrk, AVL.sCont, AVL.sOpt, AVL.sAsg, AVL.gName, AVL.gsNil, AVL.gsCons, AVL.gTup, AVL.setAll, AVL.sPar, AVL.SRes.seq, AVL.Res.toS, AVL.Res.bind, AVL.eVar, AVL.eC, AVL.eBin, AVL.eUn, AVL.tV, AVL.tAnd, AVL.tOr, AVL.tNot, AVL.eAnd, AVL.eOr, AVL.eNot, AVL.eIf, AVL.aNil, AVL.aCons, AVL.eBlt, lt_int, le_int, gt_int, ge_int, sub_int, add_int, neg_int, int_int, int_bl, eq_int, ne_int, len_lst, abs_int, ten18, pen0, pen1, pen2, pens1, pens2, AVL.gSub, AVL.eLst, AVL.lineOk, AVL.mkL, finF, AVL.eTup, AVL.eCall, isi_ii, isi_ib, lv_bl]
end
theorem items_lst {l : List AV} {h : AH} : itemsL h (.lst l) = some l := rfl
theorem okL_lst {l : List AV} {h : AH} : okL (.lst l) l h = true := by
  unfold okL
  exact beqVs_refl l
def Two (v : AV) (x y : Int) : Prop := v = .tup [.int x, .int y] ∨ v = .lst [.int x, .int y]
theorem is_row_two {h : AH} {v : AV} {x y : Int} (t : Two v x y) : m_is_row [v, .int 2] h = .ok (.bl true) h := by
  unfold m_is_row mkF b_is_row
  have ii : ∀ (x : Int) (h : AH), m_is_integer [.int x] h = .ok (.bl true) h := fun x h => is_integer_int
  generalize m_is_integer = F at *
  rcases t with rfl | rfl
  · have e1 : mLen [.tup [.int x, .int y]] h = .ok (.int 2) h := rfl
    have e2 : mAll [.lst [.bl true, .bl true]] h = .ok (.bl true) h := rfl
    simp [AVL.sNext, AVL.sSeq, AVL.sRet, AVL.sRetN, AVL.sExpr, AVL.sIf, AVL.sBrk, AVL.sCont, AVL.sOpt, AVL.sAsg, AVL.gName, AVL.gsNil, AVL.gsCons, AVL.gTup, AVL.setAll, AVL.sPar, AVL.SRes.seq, AVL.Res.toS, AVL.Res.bind, AVL.eVar, AVL.eC, AVL.eBin, AVL.eUn, AVL.tV, AVL.tAnd, AVL.tOr, AVL.tNot, AVL.eAnd, AVL.eOr, AVL.eNot, AVL.eIf, AVL.aNil, AVL.aCons, AVL.eBlt, lt_int, le_int, gt_int, ge_int, sub_int, add_int, neg_int, int_int, int_bl, eq_int, ne_int, len_lst, abs_int, ten18, pen0, pen1, pen2, pens1, pens2, AVL.gSub, AVL.eLst, AVL.lineOk, AVL.mkL, finF, AVL.eTup, AVL.eCall, isi_tup, e1, AVL.eComp, AVL.itSeq, AVL.compL, AVL.tTrue, AVL.Res.nx, AVL.wipeA, AVL.okAll, ii, e2, lv_bl, sizeLine_eq]
  · have e1 : mLen [.lst [.int x, .int y]] h = .ok (.int 2) h := rfl
    have e2 : mAll [.lst [.bl true, .bl true]] h = .ok (.bl true) h := rfl
    simp [AVL.sNext, AVL.sSeq, AVL.sRet, AVL.sRetN, AVL.sExpr, AVL.sIf, AVL.sBrk, AVL.sCont, AVL.sOpt, AVL.sAsg, AVL.gName, AVL.gsNil, AVL.gsCons, AVL.gTup, AVL.setAll, AVL.sPar, AVL.SRes.seq, AVL.Res.toS, AVL.Res.bind, AVL.eVar, AVL.eC, AVL.eBin, AVL.eUn, AVL.tV, AVL.tAnd, AVL.tOr, AVL.tNot, AVL.eAnd, AVL.eOr, AVL.eNot, AVL.eIf, AVL.aNil, AVL.aCons, AVL.eBlt, lt_int, le_int, gt_int, ge_int, sub_int, add_int, neg_int, int_int, int_bl, eq_int, ne_int, len_lst, abs_int, ten18, pen0, pen1, pen2, pens1, pens2, AVL.gSub, AVL.eLst, AVL.lineOk, AVL.mkL, finF, AVL.eTup, AVL.eCall, isi_lst, e1, AVL.eComp, AVL.itSeq, AVL.compL, AVL.tTrue, AVL.Res.nx, AVL.wipeA, AVL.okAll, items_lst, okL_lst, ii, e2, lv_bl, sizeLine_eq]
theorem log_of {j : Int} {n : Nat} (h0 : 0 < n) (h : j.natAbs < 2 ^ n) (l : n ≤ 9000) : j.natAbs.log2 < 9000 := Nat.lt_of_lt_of_le (PySem.Flt.log2_lt_of h0 h) l
/-- what a reduced pair is -/
structure RedOf (p q a b : Int) : Prop where
  pos : 1 ≤ b
  eq : a * q = p * b
  cop : Nat.gcd a.natAbs b.natAbs = 1
  la : a.natAbs ≤ p.natAbs
  lb : b.natAbs ≤ q.natAbs
theorem red_pos {p q : Int} (hq : 0 < q) : RedOf p q (p / (Nat.gcd p.natAbs q.natAbs : Nat)) (q / (Nat.gcd p.natAbs q.natAbs : Nat)) := by
  have g0 : 0 < Nat.gcd p.natAbs q.natAbs := Nat.gcd_pos_of_pos_right _ (by omega)
  have dp : ((Nat.gcd p.natAbs q.natAbs : Nat) : Int) ∣ p := Int.ofNat_dvd_left.mpr (Nat.gcd_dvd_left _ _)
  have dq : ((Nat.gcd p.natAbs q.natAbs : Nat) : Int) ∣ q := Int.ofNat_dvd_left.mpr (Nat.gcd_dvd_right _ _)
  obtain ⟨a, ea⟩ := dp
  obtain ⟨b, eb⟩ := dq
  generalize hG : Nat.gcd p.natAbs q.natAbs = G at *
  have G0 : (0 : Int) < G := by omega
  have a1 : p / (G : Int) = a := by rw [ea]; exact Int.mul_ediv_cancel_left _ (by omega)
  have b1 : q / (G : Int) = b := by rw [eb]; exact Int.mul_ediv_cancel_left _ (by omega)
  rw [a1, b1]
  have pa : p.natAbs = G * a.natAbs := by rw [ea, Int.natAbs_mul]; rfl
  have qb : q.natAbs = G * b.natAbs := by rw [eb, Int.natAbs_mul]; rfl
  refine ⟨?_, ?_, ?_, ?_, ?_⟩
  · have : 0 < (G : Int) * b := by rw [← eb]; exact hq
    have := Int.pos_of_mul_pos_right this (by omega)
    omega
  · rw [eb, ea]; simp only [Int.mul_assoc, Int.mul_comm, Int.mul_left_comm]
  · rw [pa, qb, Nat.gcd_mul_left] at hG
    exact Nat.eq_of_mul_eq_mul_left g0 (by rw [hG, Nat.mul_one])
  · rw [pa]; exact Nat.le_mul_of_pos_left _ g0
  · rw [qb]; exact Nat.le_mul_of_pos_left _ g0
theorem red_neg {p q a b : Int} (r : RedOf (-p) (-q) a b) : RedOf p q a b := by
  refine ⟨r.pos, ?_, r.cop, by have := r.la; omega, by have := r.lb; omega⟩
  have := r.eq
  rw [Int.mul_neg, Int.neg_mul] at this
  omega
theorem reduced_ok {h : AH} {p q : Int} (hq : q ≠ 0) (q1 : q.natAbs < 2 ^ 2000) : ∃ a b, m_reduced_pair [.int p, .int q] h = .ok (.tup [.int a, .int b]) h ∧ RedOf p q a b := by
  have g0 : 0 < Nat.gcd p.natAbs q.natAbs := Nat.gcd_pos_of_pos_right _ (by omega)
  have gl : Nat.gcd p.natAbs q.natAbs ≤ q.natAbs := Nat.gcd_le_right _ (by omega)
  have G0 : (0 : Int) < (Nat.gcd p.natAbs q.natAbs : Nat) := by omega
  have G1 : ((Nat.gcd p.natAbs q.natAbs : Nat) : Int).natAbs.log2 < 9000 := log_of (n := 2000) (by decide) (by omega) (by decide)
  have eg : mGcd [.int p, .int q] h = .ok (.int (Nat.gcd p.natAbs q.natAbs : Nat)) h := rfl
  have dv : ∀ i : Int, mDiv (.int i) (.int (Nat.gcd p.natAbs q.natAbs : Nat)) h = .ok (.int (i / (Nat.gcd p.natAbs q.natAbs : Nat))) h := fun i => div_int' G0 G1
  unfold m_reduced_pair mkF b_reduced_pair
  by_cases n : q < 0
  · have r := red_pos (p := -p) (q := -q) (by omega)
    rw [Int.natAbs_neg, Int.natAbs_neg] at r
    refine ⟨_, _, ?_, red_neg r⟩
    generalize ((Nat.gcd p.natAbs q.natAbs : Nat) : Int) = G at *
    generalize mGcd = GC at *
    generalize mDiv = DV at *
    simp [AVL.sNext, AVL.sSeq, AVL.sRet, AVL.sRetN, AVL.sExpr, AVL.sIf, AVL.sBrk, AVL.sCont, AVL.sOpt, AVL.sAsg, AVL.gName, AVL.gsNil, AVL.gsCons, AVL.gTup, AVL.setAll, AVL.sPar, AVL.SRes.seq, AVL.Res.toS, AVL.Res.bind, AVL.eVar, AVL.eC, AVL.eBin, AVL.eUn, AVL.tV, AVL.tAnd, AVL.tOr, AVL.tNot, AVL.eAnd, AVL.eOr, AVL.eNot, AVL.eIf, AVL.aNil, AVL.aCons, AVL.eBlt, lt_int, le_int, gt_int, ge_int, sub_int, add_int, neg_int, int_int, int_bl, eq_int, ne_int, len_lst, abs_int, ten18, pen0, pen1, pen2, pens1, pens2, AVL.gSub, AVL.eLst, AVL.lineOk, AVL.mkL, finF, AVL.eTup, AVL.eCall, eg, n, dv, lv_two, sizeLine_eq]
  · have r := red_pos (p := p) (q := q) (by omega)
    refine ⟨_, _, ?_, r⟩
    generalize ((Nat.gcd p.natAbs q.natAbs : Nat) : Int) = G at *
    generalize mGcd = GC at *
    generalize mDiv = DV at *
    simp [AVL.sNext, AVL.sSeq, AVL.sRet, AVL.sRetN, AVL.sExpr, AVL.sIf, AVL.sBrk, AVL.sCont, AVL.sOpt, AVL.sAsg, AVL.gName, AVL.gsNil, AVL.gsCons, AVL.gTup, AVL.setAll, AVL.sPar, AVL.SRes.seq, AVL.Res.toS, AVL.Res.bind, AVL.eVar, AVL.eC, AVL.eBin, AVL.eUn, AVL.tV, AVL.tAnd, AVL.tOr, AVL.tNot, AVL.eAnd, AVL.eOr, AVL.eNot, AVL.eIf, AVL.aNil, AVL.aCons, AVL.eBlt, lt_int, le_int, gt_int, ge_int, sub_int, add_int, neg_int, int_int, int_bl, eq_int, ne_int, len_lst, abs_int, ten18, pen0, pen1, pen2, pens1, pens2, AVL.gSub, AVL.eLst, AVL.lineOk, AVL.mkL, finF, AVL.eTup, AVL.eCall, eg, n, dv, lv_two, sizeLine_eq]
theorem lowest_ok {h : AH} {p q : Int} (hq : q ≠ 0) (q1 : q.natAbs < 2 ^ 2000) : ∃ a b, m_lowest [.int p, .int q] h = .ok (.tup [.int a, .int b]) h ∧ RedOf p q a b := by
  obtain ⟨a, b, e, r⟩ := reduced_ok (h := h) (p := p) hq q1
  refine ⟨a, b, ?_, r⟩
  have ii : ∀ (x : Int) (h : AH), m_is_integer [.int x] h = .ok (.bl true) h := fun x h => is_integer_int
  unfold m_lowest mkF b_lowest
  generalize m_is_integer = F at *
  generalize m_reduced_pair = R at *
  simp [AVL.sNext, AVL.sSeq, AVL.sRet, AVL.sRetN, AVL.sExpr, AVL.sIf, AVL.sBrk, AVL.sCont, AVL.sOpt, AVL.sAsg, AVL.gName, AVL.gsNil, AVL.gsCons, AVL.gTup, AVL.setAll, AVL.sPar, AVL.SRes.seq, AVL.Res.toS, AVL.Res.bind, AVL.eVar, AVL.eC, AVL.eBin, AVL.eUn, AVL.tV, AVL.tAnd, AVL.tOr, AVL.tNot, AVL.eAnd, AVL.eOr, AVL.eNot, AVL.eIf, AVL.aNil, AVL.aCons, AVL.eBlt, lt_int, le_int, gt_int, ge_int, sub_int, add_int, neg_int, int_int, int_bl, eq_int, ne_int, len_lst, abs_int, ten18, pen0, pen1, pen2, pens1, pens2, AVL.gSub, AVL.eLst, AVL.lineOk, AVL.mkL, finF, AVL.eTup, AVL.eCall, ii, e, hq, lv_two]
theorem need_ok {h : AH} {s : Str} {v : AV} {x y : Int} (t : Two v x y) (y0 : 1 ≤ y) (y1 : y.natAbs < 2 ^ 2000) : ∃ a b, m_need_fraction [.str s, v] h = .ok (.tup [.int a, .int b]) h ∧ RedOf x y a b := by
  obtain ⟨a, b, e, r⟩ := reduced_ok (h := h) (p := x) (q := y) (by omega) y1
  refine ⟨a, b, ?_, r⟩
  have ir := is_row_two (h := h) t
  have i0 : mIx v (.int 0) h = .ok (.int x) h := by rcases t with rfl | rfl <;> rfl
  have i1 : mIx v (.int 1) h = .ok (.int y) h := by rcases t with rfl | rfl <;> rfl
  have y2 : ¬ y < 1 := by omega
  unfold m_need_fraction mkF b_need_fraction
  generalize m_is_row = F at *
  generalize m_reduced_pair = R at *
  generalize mIx = IX at *
  simp [AVL.sNext, AVL.sSeq, AVL.sRet, AVL.sRetN, AVL.sExpr, AVL.sIf, AVL.sBrk, AVL.sCont, AVL.sOpt, AVL.sAsg, AVL.gName, AVL.gsNil, AVL.gsCons, AVL.gTup, AVL.setAll, AVL.sPar, AVL.SRes.seq, AVL.Res.toS, AVL.Res.bind, AVL.eVar, AVL.eC, AVL.eBin, AVL.eUn, AVL.tV, AVL.tAnd, AVL.tOr, AVL.tNot, AVL.eAnd, AVL.eOr, AVL.eNot, AVL.eIf, AVL.aNil, AVL.aCons, AVL.eBlt, lt_int, le_int, gt_int, ge_int, sub_int, add_int, neg_int, int_int, int_bl, eq_int, ne_int, len_lst, abs_int, ten18, pen0, pen1, pen2, pens1, pens2, AVL.gSub, AVL.eLst, AVL.lineOk, AVL.mkL, finF, AVL.eTup, AVL.eCall, ir, i0, i1, y2, e, lv_two]
theorem two_tup {x y : Int} : Two (.tup [.int x, .int y]) x y := .inl rfl
theorem two_lst {x y : Int} : Two (.lst [.int x, .int y]) x y := .inr rfl
theorem pow_mul_lt {i j : Int} {a b : Nat} (ha : i.natAbs < 2 ^ a) (hb : j.natAbs < 2 ^ b) : (i * j).natAbs < 2 ^ (a + b) := wide_lt ha hb
theorem RedOf.b0 {p q a b : Int} (r : RedOf p q a b) : b ≠ 0 := by have := r.pos; omega
/-- two reduced pairs of the same quotient -/
theorem red_mul {p q r s a b c d : Int} (q0 : 1 ≤ q) (s0 : 1 ≤ s) (x : RedOf p q a b) (y : RedOf r s c d) {u v : Int} (z : RedOf (a * c) (b * d) u v) : u * (q * s) = p * r * v := by
  have e1 := x.eq
  have e2 := y.eq
  have e3 := z.eq
  have b0 : b * d ≠ 0 := by
    have := Int.mul_pos (show (0 : Int) < b by have := x.pos; omega) (show (0 : Int) < d by have := y.pos; omega)
    omega
  refine Int.eq_of_mul_eq_mul_right b0 ?_
  calc u * (q * s) * (b * d) = (u * (b * d)) * (q * s) := by simp only [Int.mul_assoc, Int.mul_comm, Int.mul_left_comm]
    _ = (a * c * v) * (q * s) := by rw [e3]
    _ = (a * q) * (c * s) * v := by simp only [Int.mul_assoc, Int.mul_comm, Int.mul_left_comm]
    _ = (p * b) * (r * d) * v := by rw [e1, e2]
    _ = p * r * v * (b * d) := by simp only [Int.mul_assoc, Int.mul_comm, Int.mul_left_comm]
theorem red_add {p q r s a b c d : Int} (q0 : 1 ≤ q) (s0 : 1 ≤ s) (x : RedOf p q a b) (y : RedOf r s c d) {u v : Int} (z : RedOf (a * d + c * b) (b * d) u v) : u * (q * s) = (p * s + r * q) * v := by
  have e1 := x.eq
  have e2 := y.eq
  have e3 := z.eq
  have b0 : b * d ≠ 0 := by
    have := Int.mul_pos (show (0 : Int) < b by have := x.pos; omega) (show (0 : Int) < d by have := y.pos; omega)
    omega
  refine Int.eq_of_mul_eq_mul_right b0 ?_
  calc u * (q * s) * (b * d) = (u * (b * d)) * (q * s) := by simp only [Int.mul_assoc, Int.mul_comm, Int.mul_left_comm]
    _ = ((a * d + c * b) * v) * (q * s) := by rw [e3]
    _ = ((a * q) * (d * s) + (c * s) * (b * q)) * v := by
      simp only [Int.add_mul]
      simp only [Int.mul_assoc, Int.mul_comm, Int.mul_left_comm]
    _ = ((p * b) * (d * s) + (r * d) * (b * q)) * v := by rw [e1, e2]
    _ = (p * s + r * q) * v * (b * d) := by
      simp only [Int.add_mul]
      simp only [Int.mul_assoc, Int.mul_comm, Int.mul_left_comm]
theorem times_ok {h : AH} {v w : AV} {p q r s : Int} (t1 : Two v p q) (t2 : Two w r s) (q0 : 1 ≤ q) (s0 : 1 ≤ s) {m n : Nat} (p1 : p.natAbs < 2 ^ m) (q1 : q.natAbs < 2 ^ m) (r1 : r.natAbs < 2 ^ n) (s1 : s.natAbs < 2 ^ n) (hm : m ≤ 900) (hn : n ≤ 900) :
    ∃ u z, m_times [v, w] h = .ok (.tup [.int u, .int z]) h ∧ 1 ≤ z ∧ Nat.gcd u.natAbs z.natAbs = 1 ∧ u * (q * s) = p * r * z ∧ u.natAbs < 2 ^ (m + n + 1) ∧ z.natAbs < 2 ^ (m + n + 1) := by
  obtain ⟨a, b, e1, x1⟩ := need_ok (h := h) (s := "one") t1 q0 (Nat.lt_of_lt_of_le q1 (Nat.pow_le_pow_right (by decide) (by omega)))
  obtain ⟨c, d, e2, x2⟩ := need_ok (h := h) (s := "other") t2 s0 (Nat.lt_of_lt_of_le s1 (Nat.pow_le_pow_right (by decide) (by omega)))
  have ba : a.natAbs < 2 ^ m := Nat.lt_of_le_of_lt x1.la p1
  have bb : b.natAbs < 2 ^ m := Nat.lt_of_le_of_lt x1.lb q1
  have bc : c.natAbs < 2 ^ n := Nat.lt_of_le_of_lt x2.la r1
  have bd : d.natAbs < 2 ^ n := Nat.lt_of_le_of_lt x2.lb s1
  have m1 : ∀ h : AH, mMul false (.int a) (.int c) h = .ok (.int (a * c)) h := fun h => mul_int' (mulOk_of ba bc (by omega))
  have m2 : ∀ h : AH, mMul false (.int b) (.int d) h = .ok (.int (b * d)) h := fun h => mul_int' (mulOk_of bb bd (by omega))
  have bd0 : b * d ≠ 0 := Int.mul_ne_zero x1.b0 x2.b0
  obtain ⟨u, z, e3, x3⟩ := reduced_ok (h := h) (p := a * c) (q := b * d) bd0 (Nat.lt_of_lt_of_le (pow_mul_lt bb bd) (Nat.pow_le_pow_right (by decide) (by omega)))
  have up : (2 : Nat) ^ (m + n + 1) = 2 * 2 ^ (m + n) := by rw [Nat.pow_succ, Nat.mul_comm]
  have w1 := pow_mul_lt ba bc
  have w2 := pow_mul_lt bb bd
  have v1 : u.natAbs < 2 ^ (m + n + 1) := by have := x3.la; omega
  have v2 : z.natAbs < 2 ^ (m + n + 1) := by have := x3.lb; omega
  refine ⟨u, z, ?_, x3.pos, x3.cop, red_mul q0 s0 x1 x2 x3, v1, v2⟩
  unfold m_times mkF b_times
  have it : ∀ l, itemsT (.tup l) = some l := fun _ => rfl
  generalize m_need_fraction = F at *
  generalize m_reduced_pair = R at *
  generalize mMul = MM at *
  simp [AVL.sNext, AVL.sSeq, AVL.sRet, AVL.sRetN, AVL.sExpr, AVL.sIf, AVL.sBrk, AVL.sCont, AVL.sOpt, AVL.sAsg, AVL.gName, AVL.gsNil, AVL.gsCons, AVL.gTup, AVL.setAll, AVL.sPar, AVL.SRes.seq, AVL.Res.toS, AVL.Res.bind, AVL.eVar, AVL.eC, AVL.eBin, AVL.eUn, AVL.tV, AVL.tAnd, AVL.tOr, AVL.tNot, AVL.eAnd, AVL.eOr, AVL.eNot, AVL.eIf, AVL.aNil, AVL.aCons, AVL.eBlt, lt_int, le_int, gt_int, ge_int, sub_int, add_int, neg_int, int_int, int_bl, eq_int, ne_int, len_lst, abs_int, ten18, pen0, pen1, pen2, pens1, pens2, AVL.gSub, AVL.eLst, AVL.lineOk, AVL.mkL, finF, AVL.eTup, AVL.eCall, e1, e2, e3, m1, m2, it, lv_two]
theorem added_ok {h : AH} {v w : AV} {p q r s : Int} (t1 : Two v p q) (t2 : Two w r s) (q0 : 1 ≤ q) (s0 : 1 ≤ s) {m n : Nat} (p1 : p.natAbs < 2 ^ m) (q1 : q.natAbs < 2 ^ m) (r1 : r.natAbs < 2 ^ n) (s1 : s.natAbs < 2 ^ n) (hm : m ≤ 900) (hn : n ≤ 900) :
    ∃ u z, m_added [v, w] h = .ok (.tup [.int u, .int z]) h ∧ 1 ≤ z ∧ Nat.gcd u.natAbs z.natAbs = 1 ∧ u * (q * s) = (p * s + r * q) * z ∧ u.natAbs < 2 ^ (m + n + 1) ∧ z.natAbs < 2 ^ (m + n + 1) := by
  obtain ⟨a, b, e1, x1⟩ := need_ok (h := h) (s := "one") t1 q0 (Nat.lt_of_lt_of_le q1 (Nat.pow_le_pow_right (by decide) (by omega)))
  obtain ⟨c, d, e2, x2⟩ := need_ok (h := h) (s := "other") t2 s0 (Nat.lt_of_lt_of_le s1 (Nat.pow_le_pow_right (by decide) (by omega)))
  have ba : a.natAbs < 2 ^ m := Nat.lt_of_le_of_lt x1.la p1
  have bb : b.natAbs < 2 ^ m := Nat.lt_of_le_of_lt x1.lb q1
  have bc : c.natAbs < 2 ^ n := Nat.lt_of_le_of_lt x2.la r1
  have bd : d.natAbs < 2 ^ n := Nat.lt_of_le_of_lt x2.lb s1
  have m1 : ∀ h : AH, mMul false (.int a) (.int d) h = .ok (.int (a * d)) h := fun h => mul_int' (mulOk_of ba bd (by omega))
  have m3 : ∀ h : AH, mMul false (.int c) (.int b) h = .ok (.int (c * b)) h := fun h => mul_int' (mulOk_of bc bb (by omega))
  have m2 : ∀ h : AH, mMul false (.int b) (.int d) h = .ok (.int (b * d)) h := fun h => mul_int' (mulOk_of bb bd (by omega))
  have bd0 : b * d ≠ 0 := Int.mul_ne_zero x1.b0 x2.b0
  obtain ⟨u, z, e3, x3⟩ := reduced_ok (h := h) (p := a * d + c * b) (q := b * d) bd0 (Nat.lt_of_lt_of_le (pow_mul_lt bb bd) (Nat.pow_le_pow_right (by decide) (by omega)))
  have up : (2 : Nat) ^ (m + n + 1) = 2 * 2 ^ (m + n) := by rw [Nat.pow_succ, Nat.mul_comm]
  have w1 := pow_mul_lt ba bd
  have w3 := pow_mul_lt bc bb
  rw [Nat.add_comm n m] at w3
  have w2 := pow_mul_lt bb bd
  have v1 : u.natAbs < 2 ^ (m + n + 1) := by have := x3.la; omega
  have v2 : z.natAbs < 2 ^ (m + n + 1) := by have := x3.lb; omega
  refine ⟨u, z, ?_, x3.pos, x3.cop, red_add q0 s0 x1 x2 x3, v1, v2⟩
  unfold m_added mkF b_added
  have it : ∀ l, itemsT (.tup l) = some l := fun _ => rfl
  generalize m_need_fraction = F at *
  generalize m_reduced_pair = R at *
  generalize mMul = MM at *
  simp [AVL.sNext, AVL.sSeq, AVL.sRet, AVL.sRetN, AVL.sExpr, AVL.sIf, AVL.sBrk, AVL.sCont, AVL.sOpt, AVL.sAsg, AVL.gName, AVL.gsNil, AVL.gsCons, AVL.gTup, AVL.setAll, AVL.sPar, AVL.SRes.seq, AVL.Res.toS, AVL.Res.bind, AVL.eVar, AVL.eC, AVL.eBin, AVL.eUn, AVL.tV, AVL.tAnd, AVL.tOr, AVL.tNot, AVL.eAnd, AVL.eOr, AVL.eNot, AVL.eIf, AVL.aNil, AVL.aCons, AVL.eBlt, lt_int, le_int, gt_int, ge_int, sub_int, add_int, neg_int, int_int, int_bl, eq_int, ne_int, len_lst, abs_int, ten18, pen0, pen1, pen2, pens1, pens2, AVL.gSub, AVL.eLst, AVL.lineOk, AVL.mkL, finF, AVL.eTup, AVL.eCall, e1, e2, e3, m1, m2, m3, it, lv_two]
end Law

namespace Law
open PySem PySem.Spec L2 AVL
theorem order_ok {h : AH} {v w : AV} {p q r s : Int} (t1 : Two v p q) (t2 : Two w r s) (q0 : 1 ≤ q) (s0 : 1 ≤ s) (p1 : p.natAbs < 2 ^ 900) (q1 : q.natAbs < 2 ^ 900) (r1 : r.natAbs < 2 ^ 900) (s1 : s.natAbs < 2 ^ 900) :
    m_order_of [v, w] h = .ok (.int ((if r * q < p * s then 1 else 0) - (if p * s < r * q then 1 else 0))) h := by
  obtain ⟨a, b, e1, x1⟩ := need_ok (h := h) (s := "one") t1 q0 (Nat.lt_of_lt_of_le q1 (Nat.pow_le_pow_right (by decide) (by decide)))
  obtain ⟨c, d, e2, x2⟩ := need_ok (h := h) (s := "other") t2 s0 (Nat.lt_of_lt_of_le s1 (Nat.pow_le_pow_right (by decide) (by decide)))
  have ba : a.natAbs < 2 ^ 900 := Nat.lt_of_le_of_lt x1.la p1
  have bb : b.natAbs < 2 ^ 900 := Nat.lt_of_le_of_lt x1.lb q1
  have bc : c.natAbs < 2 ^ 900 := Nat.lt_of_le_of_lt x2.la r1
  have bd : d.natAbs < 2 ^ 900 := Nat.lt_of_le_of_lt x2.lb s1
  have m1 : ∀ h : AH, mMul false (.int a) (.int d) h = .ok (.int (a * d)) h := fun h => mul_int' (mulOk_of ba bd (by decide))
  have m3 : ∀ h : AH, mMul false (.int c) (.int b) h = .ok (.int (c * b)) h := fun h => mul_int' (mulOk_of bc bb (by decide))
  -- the comparisons agree
  have bp := x1.pos
  have dp := x2.pos
  have k0 : 0 < b * d := Int.mul_pos (by omega) (by omega)
  have l1 : (a * d) * (q * s) = (p * s) * (b * d) := by
    calc (a * d) * (q * s) = (a * q) * (d * s) := by simp only [Int.mul_assoc, Int.mul_comm, Int.mul_left_comm]
      _ = (p * b) * (d * s) := by rw [x1.eq]
      _ = _ := by simp only [Int.mul_assoc, Int.mul_comm, Int.mul_left_comm]
  have l2 : (c * b) * (q * s) = (r * q) * (b * d) := by
    calc (c * b) * (q * s) = (c * s) * (b * q) := by simp only [Int.mul_assoc, Int.mul_comm, Int.mul_left_comm]
      _ = (r * d) * (b * q) := by rw [x2.eq]
      _ = _ := by simp only [Int.mul_assoc, Int.mul_comm, Int.mul_left_comm]
  have k1 : 0 < q * s := Int.mul_pos (by omega) (by omega)
  have c1 : (a * d < c * b) ↔ (p * s < r * q) := by
    rw [← Int.mul_lt_mul_right k1 (b := a * d), l1, l2, Int.mul_lt_mul_right k0]
  have c2 : (c * b < a * d) ↔ (r * q < p * s) := by
    rw [← Int.mul_lt_mul_right k1 (b := c * b), l1, l2, Int.mul_lt_mul_right k0]
  unfold m_order_of mkF b_order_of
  have it : ∀ l, itemsT (.tup l) = some l := fun _ => rfl
  generalize m_need_fraction = F at *
  generalize mMul = MM at *
  simp [AVL.sNext, AVL.sSeq, AVL.sRet, AVL.sRetN, AVL.sExpr, AVL.sIf, AVL.sBrk, AVL.sCont, AVL.sOpt, AVL.sAsg, AVL.gName, AVL.gsNil, AVL.gsCons, AVL.gTup, AVL.setAll, AVL.sPar, AVL.SRes.seq, AVL.Res.toS, AVL.Res.bind, AVL.eVar, AVL.eC, AVL.eBin, AVL.eUn, AVL.tV, AVL.tAnd, AVL.tOr, AVL.tNot, AVL.eAnd, AVL.eOr, AVL.eNot, AVL.eIf, AVL.aNil, AVL.aCons, AVL.eBlt, lt_int, le_int, gt_int, ge_int, sub_int, add_int, neg_int, int_int, int_bl, eq_int, ne_int, len_lst, abs_int, ten18, pen0, pen1, pen2, pens1, pens2, AVL.gSub, AVL.eLst, AVL.lineOk, AVL.mkL, finF, AVL.eTup, AVL.eCall, e1, e2, m1, m3, it, lv_int, c1, c2]
theorem div_loop {h : AH} : ∀ (n : Nat) (a b : Int), b.natAbs ≤ n → 0 ≤ a → 0 ≤ b → b.natAbs < 2 ^ 2000 →
    sWhile (tV (eBin mGt (eVar 1) (eC (.int 0)))) (sPar [0, 1] (aCons (eVar 1) (aCons (eBin mMod (eBlt mInt (aCons (eVar 0) (aNil))) (eVar 1)) (aNil)))) [some (.int a), some (.int b)] h = .next [some (.int (Nat.gcd a.natAbs b.natAbs : Nat)), some (.int 0)] h := by
  intro n
  induction n with
  | zero =>
    intro a b hn a0 b0 _
    have : b = 0 := by omega
    subst this
    rw [sWhile_eq]
    simp [AVL.sNext, AVL.sSeq, AVL.sRet, AVL.sRetN, AVL.sExpr, AVL.sIf, AVL.sBrk, AVL.sCont, AVL.sOpt, AVL.sAsg, AVL.gName, AVL.gsNil, AVL.gsCons, AVL.gTup, AVL.setAll, AVL.sPar, AVL.SRes.seq, AVL.Res.toS, AVL.Res.bind, AVL.eVar, AVL.eC, AVL.eBin, AVL.eUn, AVL.tV, AVL.tAnd, AVL.tOr, AVL.tNot, AVL.eAnd, AVL.eOr, AVL.eNot, AVL.eIf, AVL.aNil, AVL.aCons, AVL.eBlt, lt_int, le_int, gt_int, ge_int, sub_int, add_int, neg_int, int_int, int_bl, eq_int, ne_int, len_lst, abs_int, ten18, pen0, pen1, pen2, pens1, pens2, AVL.gSub, AVL.eLst, AVL.lineOk, AVL.mkL, finF, AVL.eTup, AVL.eCall]
    omega
  | succ n ih =>
    intro a b hn a0 b0 b1
    by_cases z : b = 0
    · subst z
      rw [sWhile_eq]
      simp [AVL.sNext, AVL.sSeq, AVL.sRet, AVL.sRetN, AVL.sExpr, AVL.sIf, AVL.sBrk, AVL.sCont, AVL.sOpt, AVL.sAsg, AVL.gName, AVL.gsNil, AVL.gsCons, AVL.gTup, AVL.setAll, AVL.sPar, AVL.SRes.seq, AVL.Res.toS, AVL.Res.bind, AVL.eVar, AVL.eC, AVL.eBin, AVL.eUn, AVL.tV, AVL.tAnd, AVL.tOr, AVL.tNot, AVL.eAnd, AVL.eOr, AVL.eNot, AVL.eIf, AVL.aNil, AVL.aCons, AVL.eBlt, lt_int, le_int, gt_int, ge_int, sub_int, add_int, neg_int, int_int, int_bl, eq_int, ne_int, len_lst, abs_int, ten18, pen0, pen1, pen2, pens1, pens2, AVL.gSub, AVL.eLst, AVL.lineOk, AVL.mkL, finF, AVL.eTup, AVL.eCall]
      omega
    · have bp : 0 < b := by omega
      have m : ∀ h : AH, mMod (.int a) (.int b) h = .ok (.int (a % b)) h := fun h => mod_int' bp
      have r0 := Int.emod_nonneg a z
      have r1 := Int.emod_lt_of_pos a bp
      have g : Nat.gcd b.natAbs (a % b).natAbs = Nat.gcd a.natAbs b.natAbs := by
        obtain ⟨A, rfl⟩ := Int.eq_ofNat_of_zero_le a0
        obtain ⟨B, rfl⟩ := Int.eq_ofNat_of_zero_le b0
        rw [← Int.natCast_emod]
        show Nat.gcd B (A % B) = Nat.gcd A B
        rw [Nat.gcd_comm A B, Nat.gcd_rec B A, Nat.gcd_comm]
      have e := ih b (a % b) (by omega) b0 r0 (by omega)
      rw [g] at e
      rw [sWhile_eq]
      generalize hW : sWhile (tV (eBin mGt (eVar 1) (eC (.int 0)))) (sPar [0, 1] (aCons (eVar 1) (aCons (eBin mMod (eBlt mInt (aCons (eVar 0) (aNil))) (eVar 1)) (aNil)))) = W at *
      simp [AVL.sNext, AVL.sSeq, AVL.sRet, AVL.sRetN, AVL.sExpr, AVL.sIf, AVL.sBrk, AVL.sCont, AVL.sOpt, AVL.sAsg, AVL.gName, AVL.gsNil, AVL.gsCons, AVL.gTup, AVL.setAll, AVL.sPar, AVL.SRes.seq, AVL.Res.toS, AVL.Res.bind, AVL.eVar, AVL.eC, AVL.eBin, AVL.eUn, AVL.tV, AVL.tAnd, AVL.tOr, AVL.tNot, AVL.eAnd, AVL.eOr, AVL.eNot, AVL.eIf, AVL.aNil, AVL.aCons, AVL.eBlt, lt_int, le_int, gt_int, ge_int, sub_int, add_int, neg_int, int_int, int_bl, eq_int, ne_int, len_lst, abs_int, ten18, pen0, pen1, pen2, pens1, pens2, AVL.gSub, AVL.eLst, AVL.lineOk, AVL.mkL, finF, AVL.eTup, AVL.eCall, bp, m, e]
end Law

namespace Law
open PySem PySem.Spec L2 AVL
theorem divisor_ok {h : AH} {a b : Int} (b1 : b.natAbs < 2 ^ 2000) : m_law_divisor [.int a, .int b] h = .ok (.int (Nat.gcd a.natAbs b.natAbs : Nat)) h := by
  have a2 : (if a < 0 then -a else a) = (a.natAbs : Int) := by split <;> omega
  have b2 : (if b < 0 then -b else b) = (b.natAbs : Int) := by split <;> omega
  have e := div_loop (h := h) b.natAbs (a.natAbs : Int) (b.natAbs : Int) (by omega) (by omega) (by omega) (by simpa [AVL.sNext, AVL.sSeq, AVL.sRet, AVL.sRetN, AVL.sExpr, AVL.sIf, AVL.sBrk, AVL.sCont, AVL.sOpt, AVL.sAsg, AVL.gName, AVL.gsNil, AVL.gsCons, AVL.gTup, AVL.setAll, AVL.sPar, AVL.SRes.seq, AVL.Res.toS, AVL.Res.bind, AVL.eVar, AVL.eC, AVL.eBin, AVL.eUn, AVL.tV, AVL.tAnd, AVL.tOr, AVL.tNot, AVL.eAnd, AVL.eOr, AVL.eNot, AVL.eIf, AVL.aNil, AVL.aCons, AVL.eBlt, lt_int, le_int, gt_int, ge_int, sub_int, add_int, neg_int, int_int, int_bl, eq_int, ne_int, len_lst, abs_int, ten18, pen0, pen1, pen2, pens1, pens2, AVL.gSub, AVL.eLst, AVL.lineOk, AVL.mkL, finF, AVL.eTup, AVL.eCall] using b1)
  simp only [Int.natAbs_natCast] at e
  unfold m_law_divisor mkF b_law_divisor
  generalize sWhile (tV (eBin mGt (eVar 1) (eC (.int 0)))) (sPar [0, 1] (aCons (eVar 1) (aCons (eBin mMod (eBlt mInt (aCons (eVar 0) (aNil))) (eVar 1)) (aNil)))) = W at *
  simp [AVL.sNext, AVL.sSeq, AVL.sRet, AVL.sRetN, AVL.sExpr, AVL.sIf, AVL.sBrk, AVL.sCont, AVL.sOpt, AVL.sAsg, AVL.gName, AVL.gsNil, AVL.gsCons, AVL.gTup, AVL.setAll, AVL.sPar, AVL.SRes.seq, AVL.Res.toS, AVL.Res.bind, AVL.eVar, AVL.eC, AVL.eBin, AVL.eUn, AVL.tV, AVL.tAnd, AVL.tOr, AVL.tNot, AVL.eAnd, AVL.eOr, AVL.eNot, AVL.eIf, AVL.aNil, AVL.aCons, AVL.eBlt, lt_int, le_int, gt_int, ge_int, sub_int, add_int, neg_int, int_int, int_bl, eq_int, ne_int, len_lst, abs_int, ten18, pen0, pen1, pen2, pens1, pens2, AVL.gSub, AVL.eLst, AVL.lineOk, AVL.mkL, finF, AVL.eTup, AVL.eCall, a2, b2, e, lv_int]
theorem is_ok {h : AH} {u z P Q : Int} (z0 : 1 ≤ z) (g : Nat.gcd u.natAbs z.natAbs = 1) (e : u * Q = P * z) (u1 : u.natAbs < 2 ^ 2000) (z1 : z.natAbs < 2 ^ 2000) (P1 : P.natAbs < 2 ^ 2000) (Q1 : Q.natAbs < 2 ^ 2000) :
    m_law_is [.tup [.int u, .int z], .int P, .int Q] h = .ok (.bl true) h := by
  have dv := divisor_ok (h := h) (a := u) z1
  rw [g] at dv
  have m1 : ∀ h : AH, mMul false (.int u) (.int Q) h = .ok (.int (u * Q)) h := fun h => mul_int' (mulOk_of u1 Q1 (by decide))
  have m2 : ∀ h : AH, mMul false (.int P) (.int z) h = .ok (.int (P * z)) h := fun h => mul_int' (mulOk_of P1 z1 (by decide))
  have i0 : mIx (.tup [.int u, .int z]) (.int 0) h = .ok (.int u) h := rfl
  have i1 : mIx (.tup [.int u, .int z]) (.int 1) h = .ok (.int z) h := rfl
  have t1 : mIsi isaT [.tup [.int u, .int z], .ty "tuple"] h = .ok (.bl true) h := rfl
  have l1 : mLen [.tup [.int u, .int z]] h = .ok (.int 2) h := rfl
  have q1 : mEq true (.lst []) (.lst []) h = .ok (.bl false) h := rfl
  have j1 : ∀ (x : Int) (h : AH), mIsi isaT [.int x, .ty "int"] h = .ok (.bl true) h := fun _ _ => rfl
  have j2 : ∀ (x : Int) (h : AH), mIsi isaT [.int x, .ty "bool"] h = .ok (.bl false) h := fun _ _ => rfl
  unfold m_law_is mkF b_law_is
  generalize m_law_divisor = F at *
  generalize mMul = MM at *
  generalize mIx = IX at *
  generalize hI : mIsi isaT = II at *
  simp [AVL.sNext, AVL.sSeq, AVL.sRet, AVL.sRetN, AVL.sExpr, AVL.sIf, AVL.sBrk, AVL.sCont, AVL.sOpt, AVL.sAsg, AVL.gName, AVL.gsNil, AVL.gsCons, AVL.gTup, AVL.setAll, AVL.sPar, AVL.SRes.seq, AVL.Res.toS, AVL.Res.bind, AVL.eVar, AVL.eC, AVL.eBin, AVL.eUn, AVL.tV, AVL.tAnd, AVL.tOr, AVL.tNot, AVL.eAnd, AVL.eOr, AVL.eNot, AVL.eIf, AVL.aNil, AVL.aCons, AVL.eBlt, lt_int, le_int, gt_int, ge_int, sub_int, add_int, neg_int, int_int, int_bl, eq_int, ne_int, len_lst, abs_int, ten18, pen0, pen1, pen2, pens1, pens2, AVL.gSub, AVL.eLst, AVL.lineOk, AVL.mkL, finF, AVL.eTup, AVL.eCall, t1, l1, q1, j1, j2, i0, i1, m1, m2, e, z0, dv, AVL.eComp, AVL.itSeq, AVL.compL, AVL.Res.nx, AVL.wipeA, AVL.okAll, sizeLine_eq, lv_bl]
end Law

namespace Law
open PySem PySem.Spec L2 AVL
def tp (p : Int × Int) : AV := .tup [.int p.1, .int p.2]
def foldP : List (Int × Int) → Int × Int → Int × Int
  | [], t => t
  | p :: r, t => foldP r (t.1 * p.2 + p.1 * t.2, t.2 * p.2)
structure Val (u z T B : Int) (m : Nat) : Prop where
  pos : 1 ≤ z
  cop : Nat.gcd u.natAbs z.natAbs = 1
  eq : u * B = T * z
  su : u.natAbs < 2 ^ m
  sz : z.natAbs < 2 ^ m
theorem val_step {u z T B a b x y u' z' : Int} (z0 : 1 ≤ z) (b0 : 1 ≤ b) (e1 : u * B = T * z) (e2 : a * y = x * b) (e3 : u' * (z * b) = (u * b + a * z) * z') : u' * (B * y) = (T * y + x * B) * z' := by
  have n0 : z * b ≠ 0 := by
    have := Int.mul_pos (show (0 : Int) < z by omega) (show (0 : Int) < b by omega)
    omega
  refine Int.eq_of_mul_eq_mul_right n0 ?_
  calc u' * (B * y) * (z * b) = (u' * (z * b)) * (B * y) := by simp only [Int.mul_assoc, Int.mul_comm, Int.mul_left_comm]
    _ = ((u * b + a * z) * z') * (B * y) := by rw [e3]
    _ = ((u * B) * (b * y) + (a * y) * (z * B)) * z' := by
      simp only [Int.add_mul]
      simp only [Int.mul_assoc, Int.mul_comm, Int.mul_left_comm]
    _ = ((T * z) * (b * y) + (x * b) * (z * B)) * z' := by rw [e1, e2]
    _ = (T * y + x * B) * z' * (z * b) := by
      simp only [Int.add_mul]
      simp only [Int.mul_assoc, Int.mul_comm, Int.mul_left_comm]
theorem frz_tps {g : Nat → Option AV} : ∀ ps : List (Int × Int), frzVs g (ps.map tp) = some (ps.map tp)
  | [] => by simp [AVL.sNext, AVL.sSeq, AVL.sRet, AVL.sRetN, AVL.sExpr, AVL.sIf, AVL.sBrk, AVL.sCont, AVL.sOpt, AVL.sAsg, AVL.gName, AVL.gsNil, AVL.gsCons, AVL.gTup, AVL.setAll, AVL.sPar, AVL.SRes.seq, AVL.Res.toS, AVL.Res.bind, AVL.eVar, AVL.eC, AVL.eBin, AVL.eUn, AVL.tV, AVL.tAnd, AVL.tOr, AVL.tNot, AVL.eAnd, AVL.eOr, AVL.eNot, AVL.eIf, AVL.aNil, AVL.aCons, AVL.eBlt, lt_int, le_int, gt_int, ge_int, sub_int, add_int, neg_int, int_int, int_bl, eq_int, ne_int, len_lst, abs_int, ten18, pen0, pen1, pen2, pens1, pens2, AVL.gSub, AVL.eLst, AVL.lineOk, AVL.mkL, finF, AVL.eTup, AVL.eCall, frzVs]
  | p :: r => by
    have e : frzV g (tp p) = some (tp p) := by
      unfold tp
      simp [AVL.sNext, AVL.sSeq, AVL.sRet, AVL.sRetN, AVL.sExpr, AVL.sIf, AVL.sBrk, AVL.sCont, AVL.sOpt, AVL.sAsg, AVL.gName, AVL.gsNil, AVL.gsCons, AVL.gTup, AVL.setAll, AVL.sPar, AVL.SRes.seq, AVL.Res.toS, AVL.Res.bind, AVL.eVar, AVL.eC, AVL.eBin, AVL.eUn, AVL.tV, AVL.tAnd, AVL.tOr, AVL.tNot, AVL.eAnd, AVL.eOr, AVL.eNot, AVL.eIf, AVL.aNil, AVL.aCons, AVL.eBlt, lt_int, le_int, gt_int, ge_int, sub_int, add_int, neg_int, int_int, int_bl, eq_int, ne_int, len_lst, abs_int, ten18, pen0, pen1, pen2, pens1, pens2, AVL.gSub, AVL.eLst, AVL.lineOk, AVL.mkL, finF, AVL.eTup, AVL.eCall, frzV, frzVs]
    rw [List.map_cons]
    simp [AVL.sNext, AVL.sSeq, AVL.sRet, AVL.sRetN, AVL.sExpr, AVL.sIf, AVL.sBrk, AVL.sCont, AVL.sOpt, AVL.sAsg, AVL.gName, AVL.gsNil, AVL.gsCons, AVL.gTup, AVL.setAll, AVL.sPar, AVL.SRes.seq, AVL.Res.toS, AVL.Res.bind, AVL.eVar, AVL.eC, AVL.eBin, AVL.eUn, AVL.tV, AVL.tAnd, AVL.tOr, AVL.tNot, AVL.eAnd, AVL.eOr, AVL.eNot, AVL.eIf, AVL.aNil, AVL.aCons, AVL.eBlt, lt_int, le_int, gt_int, ge_int, sub_int, add_int, neg_int, int_int, int_bl, eq_int, ne_int, len_lst, abs_int, ten18, pen0, pen1, pen2, pens1, pens2, AVL.gSub, AVL.eLst, AVL.lineOk, AVL.mkL, finF, AVL.eTup, AVL.eCall, frzVs, e, frz_tps r]
theorem lv_tps {h : AH} {ps : List (Int × Int)} : leave h.length (.tup (ps.map tp)) h = .ok (.tup (ps.map tp)) h := by
  have e : frz h h.length (.tup (ps.map tp)) = some (.tup (ps.map tp)) := by
    unfold frz
    simp [AVL.sNext, AVL.sSeq, AVL.sRet, AVL.sRetN, AVL.sExpr, AVL.sIf, AVL.sBrk, AVL.sCont, AVL.sOpt, AVL.sAsg, AVL.gName, AVL.gsNil, AVL.gsCons, AVL.gTup, AVL.setAll, AVL.sPar, AVL.SRes.seq, AVL.Res.toS, AVL.Res.bind, AVL.eVar, AVL.eC, AVL.eBin, AVL.eUn, AVL.tV, AVL.tAnd, AVL.tOr, AVL.tNot, AVL.eAnd, AVL.eOr, AVL.eNot, AVL.eIf, AVL.aNil, AVL.aCons, AVL.eBlt, lt_int, le_int, gt_int, ge_int, sub_int, add_int, neg_int, int_int, int_bl, eq_int, ne_int, len_lst, abs_int, ten18, pen0, pen1, pen2, pens1, pens2, AVL.gSub, AVL.eLst, AVL.lineOk, AVL.mkL, finF, AVL.eTup, AVL.eCall, frzV, frz_tps]
  unfold leave
  rw [e]
  show Res.ok _ (h.take h.length) = _
  rw [List.take_length]
def totB : SM := sAsg (eCall 2 m_added (aCons (eVar 1) (aCons (eCall 2 m_need_fraction (aCons (eC (.str "fractions")) (aCons (eVar 2) (aNil)))) (aNil)))) (AVL.gName 1)
theorem tot_loop {h : AH} {v0 : Option AV} : ∀ (ps : List (Int × Int)) (u z T B : Int) (m : Nat) (o : Option AV), (∀ p ∈ ps, 1 ≤ p.2 ∧ p.1.natAbs < 2 ^ 210 ∧ p.2.natAbs < 2 ^ 210) → Val u z T B m → m + 211 * ps.length ≤ 900 →
    ∃ u' z' o', forL okAll (AVL.gName 2) totB (ps.map tp) [v0, some (.tup [.int u, .int z]), o] h = .next [v0, some (.tup [.int u', .int z']), o'] h ∧ Val u' z' (foldP ps (T, B)).1 (foldP ps (T, B)).2 (m + 211 * ps.length)
  | [], u, z, T, B, m, o, _, v, _ => ⟨u, z, o, by simp [AVL.sNext, AVL.sSeq, AVL.sRet, AVL.sRetN, AVL.sExpr, AVL.sIf, AVL.sBrk, AVL.sCont, AVL.sOpt, AVL.sAsg, AVL.gName, AVL.gsNil, AVL.gsCons, AVL.gTup, AVL.setAll, AVL.sPar, AVL.SRes.seq, AVL.Res.toS, AVL.Res.bind, AVL.eVar, AVL.eC, AVL.eBin, AVL.eUn, AVL.tV, AVL.tAnd, AVL.tOr, AVL.tNot, AVL.eAnd, AVL.eOr, AVL.eNot, AVL.eIf, AVL.aNil, AVL.aCons, AVL.eBlt, lt_int, le_int, gt_int, ge_int, sub_int, add_int, neg_int, int_int, int_bl, eq_int, ne_int, len_lst, abs_int, ten18, pen0, pen1, pen2, pens1, pens2, AVL.gSub, AVL.eLst, AVL.lineOk, AVL.mkL, finF, AVL.eTup, AVL.eCall, AVL.forL, AVL.okAll], v⟩
  | p :: r, u, z, T, B, m, o, hp, v, hm => by
    obtain ⟨x, y⟩ := p
    obtain ⟨y0, x1, y1⟩ := hp (x, y) (List.mem_cons_self ..)
    simp only [List.length_cons] at hm
    obtain ⟨a, b, e1, r1⟩ := need_ok (h := h) (s := "fractions") (two_tup (x := x) (y := y)) y0 (Nat.lt_of_lt_of_le y1 (Nat.pow_le_pow_right (by decide) (by decide)))
    obtain ⟨u', z', e2, z0, g, e3, s1, s2⟩ := added_ok (h := h) (two_tup (x := u) (y := z)) (two_tup (x := a) (y := b)) v.pos r1.pos v.su v.sz (Nat.lt_of_le_of_lt r1.la x1) (Nat.lt_of_le_of_lt r1.lb y1) (by omega) (by decide)
    have v' : Val u' z' (T * y + x * B) (B * y) (m + 211) := ⟨z0, g, val_step v.pos r1.pos v.eq r1.eq e3, s1, s2⟩
    obtain ⟨u2, z2, o2, f, w⟩ := tot_loop (h := h) (v0 := v0) r u' z' (T * y + x * B) (B * y) (m + 211) (some (tp (x, y))) (fun p hp' => hp p (List.mem_cons_of_mem _ hp')) v' (by omega)
    refine ⟨u2, z2, o2, ?_, ?_⟩
    · have st : totB [v0, some (.tup [.int u, .int z]), some (tp (x, y))] h = .next [v0, some (.tup [.int u', .int z']), some (tp (x, y))] h := by
        unfold totB tp
        generalize m_added = F at *
        generalize m_need_fraction = G at *
        simp [AVL.sNext, AVL.sSeq, AVL.sRet, AVL.sRetN, AVL.sExpr, AVL.sIf, AVL.sBrk, AVL.sCont, AVL.sOpt, AVL.sAsg, AVL.gName, AVL.gsNil, AVL.gsCons, AVL.gTup, AVL.setAll, AVL.sPar, AVL.SRes.seq, AVL.Res.toS, AVL.Res.bind, AVL.eVar, AVL.eC, AVL.eBin, AVL.eUn, AVL.tV, AVL.tAnd, AVL.tOr, AVL.tNot, AVL.eAnd, AVL.eOr, AVL.eNot, AVL.eIf, AVL.aNil, AVL.aCons, AVL.eBlt, lt_int, le_int, gt_int, ge_int, sub_int, add_int, neg_int, int_int, int_bl, eq_int, ne_int, len_lst, abs_int, ten18, pen0, pen1, pen2, pens1, pens2, AVL.gSub, AVL.eLst, AVL.lineOk, AVL.mkL, finF, AVL.eTup, AVL.eCall, e1, e2]
      rw [List.map_cons]
      generalize totB = TB at *
      simp [AVL.sNext, AVL.sSeq, AVL.sRet, AVL.sRetN, AVL.sExpr, AVL.sIf, AVL.sBrk, AVL.sCont, AVL.sOpt, AVL.sAsg, AVL.gName, AVL.gsNil, AVL.gsCons, AVL.gTup, AVL.setAll, AVL.sPar, AVL.SRes.seq, AVL.Res.toS, AVL.Res.bind, AVL.eVar, AVL.eC, AVL.eBin, AVL.eUn, AVL.tV, AVL.tAnd, AVL.tOr, AVL.tNot, AVL.eAnd, AVL.eOr, AVL.eNot, AVL.eIf, AVL.aNil, AVL.aCons, AVL.eBlt, lt_int, le_int, gt_int, ge_int, sub_int, add_int, neg_int, int_int, int_bl, eq_int, ne_int, len_lst, abs_int, ten18, pen0, pen1, pen2, pens1, pens2, AVL.gSub, AVL.eLst, AVL.lineOk, AVL.mkL, finF, AVL.eTup, AVL.eCall, AVL.forL, AVL.okAll] at f ⊢
      rw [st]
      exact f
    · have e : m + 211 * (r.length + 1) = m + 211 + 211 * r.length := by omega
      rw [List.length_cons, e]
      exact w
theorem total_ok {h : AH} {ps : List (Int × Int)} (hp : ∀ p ∈ ps, 1 ≤ p.2 ∧ p.1.natAbs < 2 ^ 210 ∧ p.2.natAbs < 2 ^ 210) (hl : ps.length ≤ 4) :
    ∃ u z, m_total [.lst (ps.map tp)] h = .ok (.tup [.int u, .int z]) h ∧ Val u z (foldP ps (0, 1)).1 (foldP ps (0, 1)).2 900 := by
  obtain ⟨u, z, o, f, v⟩ := tot_loop (h := h) (v0 := some (.lst (ps.map tp))) ps 0 1 0 1 1 none hp ⟨by decide, by decide, by decide, by decide, by decide⟩ (by omega)
  have big : (2 : Nat) ^ (1 + 211 * ps.length) ≤ 2 ^ 900 := Nat.pow_le_pow_right (by decide) (by omega)
  refine ⟨u, z, ?_, ⟨v.pos, v.cop, v.eq, Nat.lt_of_lt_of_le v.su big, Nat.lt_of_lt_of_le v.sz big⟩⟩
  have ro : m_row_of [.str "fractions", .lst (ps.map tp)] h = .ok (.tup (ps.map tp)) h := by
    have mt : mTuple [.lst (ps.map tp)] h = .ok (.tup (ps.map tp)) h := rfl
    unfold m_row_of mkF b_row_of
    generalize hI : mIsi isaT = II at *
    have ii : II [.lst (ps.map tp), .tup [.ty "list", .ty "tuple"]] h = .ok (.bl true) h := by rw [← hI]; exact isi_lst
    simp [AVL.sNext, AVL.sSeq, AVL.sRet, AVL.sRetN, AVL.sExpr, AVL.sIf, AVL.sBrk, AVL.sCont, AVL.sOpt, AVL.sAsg, AVL.gName, AVL.gsNil, AVL.gsCons, AVL.gTup, AVL.setAll, AVL.sPar, AVL.SRes.seq, AVL.Res.toS, AVL.Res.bind, AVL.eVar, AVL.eC, AVL.eBin, AVL.eUn, AVL.tV, AVL.tAnd, AVL.tOr, AVL.tNot, AVL.eAnd, AVL.eOr, AVL.eNot, AVL.eIf, AVL.aNil, AVL.aCons, AVL.eBlt, lt_int, le_int, gt_int, ge_int, sub_int, add_int, neg_int, int_int, int_bl, eq_int, ne_int, len_lst, abs_int, ten18, pen0, pen1, pen2, pens1, pens2, AVL.gSub, AVL.eLst, AVL.lineOk, AVL.mkL, finF, AVL.eTup, AVL.eCall, ii, mt, sizeLine_eq, lv_tps]
  unfold m_total mkF b_total
  show finF h.length false (sSeq _ (sSeq (sFor _ _ totB) _) _ _) = _
  generalize totB = TB at *
  generalize m_row_of = R at *
  simp [AVL.sNext, AVL.sSeq, AVL.sRet, AVL.sRetN, AVL.sExpr, AVL.sIf, AVL.sBrk, AVL.sCont, AVL.sOpt, AVL.sAsg, AVL.gName, AVL.gsNil, AVL.gsCons, AVL.gTup, AVL.setAll, AVL.sPar, AVL.SRes.seq, AVL.Res.toS, AVL.Res.bind, AVL.eVar, AVL.eC, AVL.eBin, AVL.eUn, AVL.tV, AVL.tAnd, AVL.tOr, AVL.tNot, AVL.eAnd, AVL.eOr, AVL.eNot, AVL.eIf, AVL.aNil, AVL.aCons, AVL.eBlt, lt_int, le_int, gt_int, ge_int, sub_int, add_int, neg_int, int_int, int_bl, eq_int, ne_int, len_lst, abs_int, ten18, pen0, pen1, pen2, pens1, pens2, AVL.gSub, AVL.eLst, AVL.lineOk, AVL.mkL, finF, AVL.eTup, AVL.eCall, ro, AVL.sFor, AVL.itSeq, f, sizeLine_eq, lv_two]
end Law

namespace Law
open PySem PySem.Spec L2 AVL
def odds : List AV := [.non, .int 5, .str "12", .tup [], .tup [.int 1], .tup [.int 1, .int 0], .tup [.int 1, .int (-2)], .tup [.int 1, .int 2, .int 3], .tup [.bl true, .int 2], .tup [.int 1, .bl true], .tup [.int 1, .str "2"], .tup [.non, .int 1], .dct [.inl 1] [.int 2], .lst [.int 1, .int 0]]
def bads : List AV := [.non, .str "1", .bl true, .tup [.int 1], .lst [.int 2]]
section
variable {c : List Int} {a g : Int} {o b : AV} {p x4 x5 : Option AV}
abbrev good : AV := .tup [.int 1, .int 2]
abbrev vl (s : Str) : AV := .tup [.str "value", .str s]
abbrev nm (s : Str) : AV := .tup [.str "number", .str s]
theorem lam1 (ho : o ∈ odds) : eLam m_law_refused (eCall 2 m_added (aCons (eVar 1) (aCons (eVar 1) (aNil)))) [p, some o, some good, some b, x4, x5] (pen c a g) = .ok (vl "one") (pen c a g) := by
  simp only [odds, List.mem_cons, List.not_mem_nil, or_false] at ho
  rcases ho with rfl | rfl | rfl | rfl | rfl | rfl | rfl | rfl | rfl | rfl | rfl | rfl | rfl | rfl <;> kernel_rfl
theorem lam2 (ho : o ∈ odds) : eLam m_law_refused (eCall 2 m_added (aCons (eVar 2) (aCons (eVar 1) (aNil)))) [p, some o, some good, some b, x4, x5] (pen c a g) = .ok (vl "other") (pen c a g) := by
  simp only [odds, List.mem_cons, List.not_mem_nil, or_false] at ho
  rcases ho with rfl | rfl | rfl | rfl | rfl | rfl | rfl | rfl | rfl | rfl | rfl | rfl | rfl | rfl <;> kernel_rfl
theorem lam3 (ho : o ∈ odds) : eLam m_law_refused (eCall 2 m_times (aCons (eVar 1) (aCons (eVar 1) (aNil)))) [p, some o, some good, some b, x4, x5] (pen c a g) = .ok (vl "one") (pen c a g) := by
  simp only [odds, List.mem_cons, List.not_mem_nil, or_false] at ho
  rcases ho with rfl | rfl | rfl | rfl | rfl | rfl | rfl | rfl | rfl | rfl | rfl | rfl | rfl | rfl <;> kernel_rfl
theorem lam4 (ho : o ∈ odds) : eLam m_law_refused (eCall 2 m_times (aCons (eVar 2) (aCons (eVar 1) (aNil)))) [p, some o, some good, some b, x4, x5] (pen c a g) = .ok (vl "other") (pen c a g) := by
  simp only [odds, List.mem_cons, List.not_mem_nil, or_false] at ho
  rcases ho with rfl | rfl | rfl | rfl | rfl | rfl | rfl | rfl | rfl | rfl | rfl | rfl | rfl | rfl <;> kernel_rfl
theorem lam5 (ho : o ∈ odds) : eLam m_law_refused (eCall 2 m_order_of (aCons (eVar 1) (aCons (eVar 1) (aNil)))) [p, some o, some good, some b, x4, x5] (pen c a g) = .ok (vl "one") (pen c a g) := by
  simp only [odds, List.mem_cons, List.not_mem_nil, or_false] at ho
  rcases ho with rfl | rfl | rfl | rfl | rfl | rfl | rfl | rfl | rfl | rfl | rfl | rfl | rfl | rfl <;> kernel_rfl
theorem lam6 (ho : o ∈ odds) : eLam m_law_refused (eCall 2 m_order_of (aCons (eVar 2) (aCons (eVar 1) (aNil)))) [p, some o, some good, some b, x4, x5] (pen c a g) = .ok (vl "other") (pen c a g) := by
  simp only [odds, List.mem_cons, List.not_mem_nil, or_false] at ho
  rcases ho with rfl | rfl | rfl | rfl | rfl | rfl | rfl | rfl | rfl | rfl | rfl | rfl | rfl | rfl <;> kernel_rfl
theorem lam7 (ho : o ∈ odds) : eLam m_law_refused (eCall 1 m_total (aCons (eLst false (aCons (eVar 2) (aCons (eVar 1) (aNil)))) (aNil))) [p, some o, some good, some b, x4, x5] (pen c a g) = .ok (vl "fractions") (pen c a g) := by
  simp only [odds, List.mem_cons, List.not_mem_nil, or_false] at ho
  rcases ho with rfl | rfl | rfl | rfl | rfl | rfl | rfl | rfl | rfl | rfl | rfl | rfl | rfl | rfl <;> kernel_rfl
theorem lam9 (hb : b ∈ bads) : eLam m_law_refused (eCall 2 m_lowest (aCons (eVar 3) (aCons (eVar 3) (aNil)))) [p, some o, some good, some b, x4, x5] (pen c a g) = .ok (nm "p") (pen c a g) := by
  simp only [bads, List.mem_cons, List.not_mem_nil, or_false] at hb
  rcases hb with rfl | rfl | rfl | rfl | rfl <;> kernel_rfl
theorem lam10 (hb : b ∈ bads) : eLam m_law_refused (eCall 2 m_lowest (aCons (eC (.int 1)) (aCons (eVar 3) (aNil)))) [p, some o, some good, some b, x4, x5] (pen c a g) = .ok (nm "q") (pen c a g) := by
  simp only [bads, List.mem_cons, List.not_mem_nil, or_false] at hb
  rcases hb with rfl | rfl | rfl | rfl | rfl <;> kernel_rfl
theorem lam11 : eLam m_law_refused (eCall 2 m_lowest (aCons (eC (.int 0)) (aCons (eC (.int 0)) (aNil)))) [p, some o, some good, some b, x4, x5] (pen c a g) = .ok (nm "q") (pen c a g) := rfl
theorem frz_mem {g : Nat → Option AV} (ho : o ∈ odds) : frzV g o = some o := by
  simp only [odds, List.mem_cons, List.not_mem_nil, or_false] at ho
  rcases ho with rfl | rfl | rfl | rfl | rfl | rfl | rfl | rfl | rfl | rfl | rfl | rfl | rfl | rfl <;> simp [AVL.sNext, AVL.sSeq, AVL.sRet, AVL.sRetN, AVL.sExpr, AVL.sIf, AVL.sBrk, AVL.sCont, AVL.sOpt, AVL.sAsg, AVL.gName, AVL.gsNil, AVL.gsCons, AVL.gTup, AVL.setAll, AVL.sPar, AVL.SRes.seq, AVL.Res.toS, AVL.Res.bind, AVL.eVar, AVL.eC, AVL.eBin, AVL.eUn, AVL.tV, AVL.tAnd, AVL.tOr, AVL.tNot, AVL.eAnd, AVL.eOr, AVL.eNot, AVL.eIf, AVL.aNil, AVL.aCons, AVL.eBlt, lt_int, le_int, gt_int, ge_int, sub_int, add_int, neg_int, int_int, int_bl, eq_int, ne_int, len_lst, abs_int, ten18, pen0, pen1, pen2, pens1, pens2, AVL.gSub, AVL.eLst, AVL.lineOk, AVL.mkL, finF, AVL.eTup, AVL.eCall, frzV, frzVs]
theorem frz_bad {g : Nat → Option AV} (ho : o ∈ bads) : frzV g o = some o := by
  simp only [bads, List.mem_cons, List.not_mem_nil, or_false] at ho
  rcases ho with rfl | rfl | rfl | rfl | rfl <;> simp [AVL.sNext, AVL.sSeq, AVL.sRet, AVL.sRetN, AVL.sExpr, AVL.sIf, AVL.sBrk, AVL.sCont, AVL.sOpt, AVL.sAsg, AVL.gName, AVL.gsNil, AVL.gsCons, AVL.gTup, AVL.setAll, AVL.sPar, AVL.SRes.seq, AVL.Res.toS, AVL.Res.bind, AVL.eVar, AVL.eC, AVL.eBin, AVL.eUn, AVL.tV, AVL.tAnd, AVL.tOr, AVL.tNot, AVL.eAnd, AVL.eOr, AVL.eNot, AVL.eIf, AVL.aNil, AVL.aCons, AVL.eBlt, lt_int, le_int, gt_int, ge_int, sub_int, add_int, neg_int, int_int, int_bl, eq_int, ne_int, len_lst, abs_int, ten18, pen0, pen1, pen2, pens1, pens2, AVL.gSub, AVL.eLst, AVL.lineOk, AVL.mkL, finF, AVL.eTup, AVL.eCall, frzV, frzVs]
theorem frz_three {g : Nat → Option AV} (ho : o ∈ [AV.non, .int 3, .str "ab"]) : frzV g o = some o := by
  simp only [List.mem_cons, List.not_mem_nil, or_false] at ho
  rcases ho with rfl | rfl | rfl <;> simp [AVL.sNext, AVL.sSeq, AVL.sRet, AVL.sRetN, AVL.sExpr, AVL.sIf, AVL.sBrk, AVL.sCont, AVL.sOpt, AVL.sAsg, AVL.gName, AVL.gsNil, AVL.gsCons, AVL.gTup, AVL.setAll, AVL.sPar, AVL.SRes.seq, AVL.Res.toS, AVL.Res.bind, AVL.eVar, AVL.eC, AVL.eBin, AVL.eUn, AVL.tV, AVL.tAnd, AVL.tOr, AVL.tNot, AVL.eAnd, AVL.eOr, AVL.eNot, AVL.eIf, AVL.aNil, AVL.aCons, AVL.eBlt, lt_int, le_int, gt_int, ge_int, sub_int, add_int, neg_int, int_int, int_bl, eq_int, ne_int, len_lst, abs_int, ten18, pen0, pen1, pen2, pens1, pens2, AVL.gSub, AVL.eLst, AVL.lineOk, AVL.mkL, finF, AVL.eTup, AVL.eCall, frzV, frzVs]
theorem pick_mem {L : List AV} (hc : CellsOk c) {N : Nat} {h : AH} (p : Pen c N h) (hN : N < 800000) (l0 : 0 < L.length) (l1 : L.length < 1000) (fz : ∀ x ∈ L, ∀ g, frzV g x = some x) :
    ∃ x h', m_law_pick [.ref 0, .lst L] h = .ok x h' ∧ Pen c (N + 1) h' ∧ x ∈ L := by
  obtain ⟨d, h1, e1, p1, d0, d1⟩ := draw hc p (by omega) (many := (L.length : Nat)) (by omega) (log_of (n := 10) (by decide) (by omega) (by decide))
  obtain ⟨k, rfl⟩ := Int.eq_ofNat_of_zero_le d0
  have hk : k < L.length := by omega
  have ix : mIx (.lst L) (.int (k : Int)) h1 = .ok L[k] h1 := by
    have e : L2.atI L (k : Int) = some L[k] := by
      unfold L2.atI L2.ixN
      simp [AVL.sNext, AVL.sSeq, AVL.sRet, AVL.sRetN, AVL.sExpr, AVL.sIf, AVL.sBrk, AVL.sCont, AVL.sOpt, AVL.sAsg, AVL.gName, AVL.gsNil, AVL.gsCons, AVL.gTup, AVL.setAll, AVL.sPar, AVL.SRes.seq, AVL.Res.toS, AVL.Res.bind, AVL.eVar, AVL.eC, AVL.eBin, AVL.eUn, AVL.tV, AVL.tAnd, AVL.tOr, AVL.tNot, AVL.eAnd, AVL.eOr, AVL.eNot, AVL.eIf, AVL.aNil, AVL.aCons, AVL.eBlt, lt_int, le_int, gt_int, ge_int, sub_int, add_int, neg_int, int_int, int_bl, eq_int, ne_int, len_lst, abs_int, ten18, pen0, pen1, pen2, pens1, pens2, AVL.gSub, AVL.eLst, AVL.lineOk, AVL.mkL, finF, AVL.eTup, AVL.eCall, hk]
    show (match L2.atI L (k : Int) with | some y => Res.ok y h1 | none => .stuck) = _
    rw [e]
  have lv : leave h.length L[k] h1 = .ok L[k] h1 := by
    have hl : h.length = h1.length := by
      obtain ⟨a, g, rfl, _⟩ := p
      obtain ⟨a', g', rfl, _⟩ := p1
      rfl
    unfold leave frz
    rw [fz _ (List.getElem_mem hk), hl]
    show Res.ok _ (h1.take h1.length) = _
    rw [List.take_length]
  refine ⟨L[k], h1, ?_, p1, List.getElem_mem hk⟩
  unfold m_law_pick mkF b_law_pick
  generalize m_law_draw = F at *
  generalize mIx = IX at *
  simp [AVL.sNext, AVL.sSeq, AVL.sRet, AVL.sRetN, AVL.sExpr, AVL.sIf, AVL.sBrk, AVL.sCont, AVL.sOpt, AVL.sAsg, AVL.gName, AVL.gsNil, AVL.gsCons, AVL.gTup, AVL.setAll, AVL.sPar, AVL.SRes.seq, AVL.Res.toS, AVL.Res.bind, AVL.eVar, AVL.eC, AVL.eBin, AVL.eUn, AVL.tV, AVL.tAnd, AVL.tOr, AVL.tNot, AVL.eAnd, AVL.eOr, AVL.eNot, AVL.eIf, AVL.aNil, AVL.aCons, AVL.eBlt, lt_int, le_int, gt_int, ge_int, sub_int, add_int, neg_int, int_int, int_bl, eq_int, ne_int, len_lst, abs_int, ten18, pen0, pen1, pen2, pens1, pens2, AVL.gSub, AVL.eLst, AVL.lineOk, AVL.mkL, finF, AVL.eTup, AVL.eCall, e1, ix, lv]
theorem lam8 (hc : CellsOk c) {N : Nat} {h : AH} (p : Pen c N h) (hN : N < 800000) : ∃ h', eLam m_law_refused (eCall 1 m_total (aCons (eCall 2 m_law_pick (aCons (eVar 0) (aCons (eLst false (aCons (eC .non) (aCons (eC (.int 3)) (aCons (eC (.str "ab")) (aNil))))) (aNil)))) (aNil))) [some (.ref 0), some o, some good, some b, x4, x5] h = .ok (vl "fractions") h' ∧ Pen c (N + 1) h' := by
  obtain ⟨x, h1, e1, p1, hx⟩ := pick_mem hc p hN (L := [.non, .int 3, .str "ab"]) (by decide) (by decide) (fun x hx g => frz_three hx)
  refine ⟨h1, ?_, p1⟩
  have th : eCall 1 m_total (aCons (eCall 2 m_law_pick (aCons (eVar 0) (aCons (eLst false (aCons (eC .non) (aCons (eC (.int 3)) (aCons (eC (.str "ab")) (aNil))))) (aNil)))) (aNil)) [some (.ref 0), some o, some good, some b, x4, x5] h = m_total [x] h1 := by
    generalize m_law_pick = F at *
    generalize m_total = G at *
    simp [AVL.sNext, AVL.sSeq, AVL.sRet, AVL.sRetN, AVL.sExpr, AVL.sIf, AVL.sBrk, AVL.sCont, AVL.sOpt, AVL.sAsg, AVL.gName, AVL.gsNil, AVL.gsCons, AVL.gTup, AVL.setAll, AVL.sPar, AVL.SRes.seq, AVL.Res.toS, AVL.Res.bind, AVL.eVar, AVL.eC, AVL.eBin, AVL.eUn, AVL.tV, AVL.tAnd, AVL.tOr, AVL.tNot, AVL.eAnd, AVL.eOr, AVL.eNot, AVL.eIf, AVL.aNil, AVL.aCons, AVL.eBlt, lt_int, le_int, gt_int, ge_int, sub_int, add_int, neg_int, int_int, int_bl, eq_int, ne_int, len_lst, abs_int, ten18, pen0, pen1, pen2, pens1, pens2, AVL.gSub, AVL.eLst, AVL.lineOk, AVL.mkL, finF, AVL.eTup, AVL.eCall, e1, sizeLine_eq]
  obtain ⟨a, g, rfl, _⟩ := p
  obtain ⟨a', g', rfl, _⟩ := p1
  have tt : m_total [x] (pen c a' g') = .exc "BadValue" ["part"] [.str "fractions"] (pen c a' g') := by
    simp only [List.mem_cons, List.not_mem_nil, or_false] at hx
    rcases hx with rfl | rfl | rfl <;> kernel_rfl
  unfold eLam m_law_refused mGive
  simp only [th, tt]
  kernel_rfl
theorem refused_ok (hc : CellsOk c) {N : Nat} {h : AH} (p : Pen c N h) (hN : N < 700000) : ∃ h', m_law_refused_right [.ref 0] h = .ok (.bl true) h' ∧ Pen c (N + 3) h' := by
  obtain ⟨o, h1, e1, p1, ho⟩ := pick_mem hc p (by omega) (L := odds) (by decide) (by decide) (fun x hx g => frz_mem hx)
  obtain ⟨b, h2, e2, p2, hb⟩ := pick_mem hc p1 (by omega) (L := bads) (by decide) (by decide) (fun x hx g => frz_bad hx)
  unfold odds at e1
  unfold bads at e2
  obtain ⟨a, g, e0, _⟩ := id p2
  subst e0
  have q1 := lam1 (c := c) (a := a) (g := g) (b := b) (p := some (.ref 0)) (x4 := none) (x5 := none) ho
  have q2 := lam2 (c := c) (a := a) (g := g) (b := b) (p := some (.ref 0)) (x4 := none) (x5 := none) ho
  have q3 := lam3 (c := c) (a := a) (g := g) (b := b) (p := some (.ref 0)) (x4 := (some (.lst [vl "one", vl "other"]))) (x5 := none) ho
  have q4 := lam4 (c := c) (a := a) (g := g) (b := b) (p := some (.ref 0)) (x4 := (some (.lst [vl "one", vl "other"]))) (x5 := none) ho
  have q5 := lam5 (c := c) (a := a) (g := g) (b := b) (p := some (.ref 0)) (x4 := (some (.lst [vl "one", vl "other", vl "one", vl "other"]))) (x5 := none) ho
  have q6 := lam6 (c := c) (a := a) (g := g) (b := b) (p := some (.ref 0)) (x4 := (some (.lst [vl "one", vl "other", vl "one", vl "other"]))) (x5 := none) ho
  have q7 := lam7 (c := c) (a := a) (g := g) (b := b) (p := some (.ref 0)) (x4 := (some (.lst [vl "one", vl "other", vl "one", vl "other", vl "one", vl "other"]))) (x5 := none) ho
  obtain ⟨h3, q8, p3⟩ := lam8 (o := o) (b := b) (x4 := (some (.lst [vl "one", vl "other", vl "one", vl "other", vl "one", vl "other"]))) (x5 := none) hc p2 (by omega)
  refine ⟨h3, ?_, p3⟩
  obtain ⟨a3, g3, e3, _⟩ := id p3
  subst e3
  have q9 := lam9 (c := c) (a := a3) (g := g3) (o := o) (p := some (.ref 0)) (x4 := (some (.lst [vl "one", vl "other", vl "one", vl "other", vl "one", vl "other", vl "fractions", vl "fractions"]))) (x5 := none) hb
  have q10 := lam10 (c := c) (a := a3) (g := g3) (o := o) (p := some (.ref 0)) (x4 := (some (.lst [vl "one", vl "other", vl "one", vl "other", vl "one", vl "other", vl "fractions", vl "fractions"]))) (x5 := none) hb
  have q11 := lam11 (c := c) (a := a3) (g := g3) (o := o) (b := b) (p := some (.ref 0)) (x4 := (some (.lst [vl "one", vl "other", vl "one", vl "other", vl "one", vl "other", vl "fractions", vl "fractions"]))) (x5 := none)
  have ad2 : ∀ h : AH, mAdd false (.lst [vl "one", vl "other"]) (.lst [vl "one", vl "other"]) h = .ok (.lst [vl "one", vl "other", vl "one", vl "other"]) h := fun _ => rfl
  have ad4 : ∀ h : AH, mAdd false (.lst [vl "one", vl "other", vl "one", vl "other"]) (.lst [vl "one", vl "other"]) h = .ok (.lst [vl "one", vl "other", vl "one", vl "other", vl "one", vl "other"]) h := fun _ => rfl
  have ad6 : ∀ h : AH, mAdd false (.lst [vl "one", vl "other", vl "one", vl "other", vl "one", vl "other"]) (.lst [vl "fractions", vl "fractions"]) h = .ok (.lst [vl "one", vl "other", vl "one", vl "other", vl "one", vl "other", vl "fractions", vl "fractions"]) h := fun _ => rfl
  have ad8 : ∀ h : AH, mAdd false (.lst [vl "one", vl "other", vl "one", vl "other", vl "one", vl "other", vl "fractions", vl "fractions"]) (.lst [nm "p", nm "q", nm "q"]) h = .ok (.lst [vl "one", vl "other", vl "one", vl "other", vl "one", vl "other", vl "fractions", vl "fractions", nm "p", nm "q", nm "q"]) h := fun _ => rfl
  have mu3 : ∀ h : AH, mMul false (.lst [vl "one", vl "other"]) (.int 3) h = .ok (.lst [vl "one", vl "other", vl "one", vl "other", vl "one", vl "other"]) h := fun _ => rfl
  have mu2 : ∀ h : AH, mMul false (.lst [vl "fractions"]) (.int 2) h = .ok (.lst [vl "fractions", vl "fractions"]) h := fun _ => rfl
  have eqq : ∀ h : AH, mEq false (.lst [vl "one", vl "other", vl "one", vl "other", vl "one", vl "other", vl "fractions", vl "fractions", nm "p", nm "q", nm "q"]) (.lst [vl "one", vl "other", vl "one", vl "other", vl "one", vl "other", vl "fractions", vl "fractions", nm "p", nm "q", nm "q"]) h = .ok (.bl true) h := fun _ => by kernel_rfl
  have it : ∀ l, itemsT (.tup l) = some l := fun _ => rfl
  have ng : ∀ h : AH, mNeg (.int 2) h = .ok (.int (-2)) h := fun _ => rfl
  have lv : ∀ x : Bool, leave h.length (.bl x) (pen c a3 g3) = .ok (.bl x) (pen c a3 g3) := fun x => by
    obtain ⟨a0, g0, rfl, _⟩ := p
    rfl
  unfold m_law_refused_right mkF b_law_refused_right
  generalize eLam m_law_refused (eCall 2 m_added (aCons (eVar 1) (aCons (eVar 1) (aNil)))) = E1 at *
  generalize eLam m_law_refused (eCall 2 m_added (aCons (eVar 2) (aCons (eVar 1) (aNil)))) = E2 at *
  generalize eLam m_law_refused (eCall 2 m_times (aCons (eVar 1) (aCons (eVar 1) (aNil)))) = E3 at *
  generalize eLam m_law_refused (eCall 2 m_times (aCons (eVar 2) (aCons (eVar 1) (aNil)))) = E4 at *
  generalize eLam m_law_refused (eCall 2 m_order_of (aCons (eVar 1) (aCons (eVar 1) (aNil)))) = E5 at *
  generalize eLam m_law_refused (eCall 2 m_order_of (aCons (eVar 2) (aCons (eVar 1) (aNil)))) = E6 at *
  generalize eLam m_law_refused (eCall 1 m_total (aCons (eLst false (aCons (eVar 2) (aCons (eVar 1) (aNil)))) (aNil))) = E7 at *
  generalize eLam m_law_refused (eCall 1 m_total (aCons (eCall 2 m_law_pick (aCons (eVar 0) (aCons (eLst false (aCons (eC .non) (aCons (eC (.int 3)) (aCons (eC (.str "ab")) (aNil))))) (aNil)))) (aNil))) = E8 at *
  generalize eLam m_law_refused (eCall 2 m_lowest (aCons (eVar 3) (aCons (eVar 3) (aNil)))) = E9 at *
  generalize eLam m_law_refused (eCall 2 m_lowest (aCons (eC (.int 1)) (aCons (eVar 3) (aNil)))) = E10 at *
  generalize eLam m_law_refused (eCall 2 m_lowest (aCons (eC (.int 0)) (aCons (eC (.int 0)) (aNil)))) = E11 at *
  generalize m_law_pick = F at *
  generalize mAdd = AD at *
  generalize mMul = MM at *
  generalize mEq = QQ at *
  simp [AVL.sNext, AVL.sSeq, AVL.sRet, AVL.sRetN, AVL.sExpr, AVL.sIf, AVL.sBrk, AVL.sCont, AVL.sOpt, AVL.sAsg, AVL.gName, AVL.gsNil, AVL.gsCons, AVL.gTup, AVL.setAll, AVL.sPar, AVL.SRes.seq, AVL.Res.toS, AVL.Res.bind, AVL.eVar, AVL.eC, AVL.eBin, AVL.eUn, AVL.tV, AVL.tAnd, AVL.tOr, AVL.tNot, AVL.eAnd, AVL.eOr, AVL.eNot, AVL.eIf, AVL.aNil, AVL.aCons, AVL.eBlt, lt_int, le_int, gt_int, ge_int, sub_int, add_int, neg_int, int_int, int_bl, eq_int, ne_int, len_lst, abs_int, ten18, pen0, pen1, pen2, pens1, pens2, AVL.gSub, AVL.eLst, AVL.lineOk, AVL.mkL, finF, AVL.eTup, AVL.eCall, e1, e2, q1, q2, q3, q4, q5, q6, q7, q8, q9, q10, q11, ad2, ad4, ad6, ad8, mu3, mu2, eqq, it, ng, lv, sizeLine_eq]
end
end Law

namespace Law
open PySem PySem.Spec L2 AVL
theorem bnds_ints {n : Nat} : ∀ c : List Int, bnds n (c.map AV.int) = true
  | [] => rfl
  | x :: r => by
    have e := bnds_ints (n := n) r
    rw [List.map_cons]
    simp [AVL.sNext, AVL.sSeq, AVL.sRet, AVL.sRetN, AVL.sExpr, AVL.sIf, AVL.sBrk, AVL.sCont, AVL.sOpt, AVL.sAsg, AVL.gName, AVL.gsNil, AVL.gsCons, AVL.gTup, AVL.setAll, AVL.sPar, AVL.SRes.seq, AVL.Res.toS, AVL.Res.bind, AVL.eVar, AVL.eC, AVL.eBin, AVL.eUn, AVL.tV, AVL.tAnd, AVL.tOr, AVL.tNot, AVL.eAnd, AVL.eOr, AVL.eNot, AVL.eIf, AVL.aNil, AVL.aCons, AVL.eBlt, lt_int, le_int, gt_int, ge_int, sub_int, add_int, neg_int, int_int, int_bl, eq_int, ne_int, len_lst, abs_int, ten18, pen0, pen1, pen2, pens1, pens2, AVL.gSub, AVL.eLst, AVL.lineOk, AVL.mkL, finF, AVL.eTup, AVL.eCall, AVL.bnds, AVL.bnd, e]
theorem frz_ints {g : Nat → Option AV} : ∀ c : List Int, frzVs g (c.map AV.int) = some (c.map AV.int)
  | [] => by simp [AVL.sNext, AVL.sSeq, AVL.sRet, AVL.sRetN, AVL.sExpr, AVL.sIf, AVL.sBrk, AVL.sCont, AVL.sOpt, AVL.sAsg, AVL.gName, AVL.gsNil, AVL.gsCons, AVL.gTup, AVL.setAll, AVL.sPar, AVL.SRes.seq, AVL.Res.toS, AVL.Res.bind, AVL.eVar, AVL.eC, AVL.eBin, AVL.eUn, AVL.tV, AVL.tAnd, AVL.tOr, AVL.tNot, AVL.eAnd, AVL.eOr, AVL.eNot, AVL.eIf, AVL.aNil, AVL.aCons, AVL.eBlt, lt_int, le_int, gt_int, ge_int, sub_int, add_int, neg_int, int_int, int_bl, eq_int, ne_int, len_lst, abs_int, ten18, pen0, pen1, pen2, pens1, pens2, AVL.gSub, AVL.eLst, AVL.lineOk, AVL.mkL, finF, AVL.eTup, AVL.eCall, frzVs]
  | x :: r => by
    rw [List.map_cons]
    simp [AVL.sNext, AVL.sSeq, AVL.sRet, AVL.sRetN, AVL.sExpr, AVL.sIf, AVL.sBrk, AVL.sCont, AVL.sOpt, AVL.sAsg, AVL.gName, AVL.gsNil, AVL.gsCons, AVL.gTup, AVL.setAll, AVL.sPar, AVL.SRes.seq, AVL.Res.toS, AVL.Res.bind, AVL.eVar, AVL.eC, AVL.eBin, AVL.eUn, AVL.tV, AVL.tAnd, AVL.tOr, AVL.tNot, AVL.eAnd, AVL.eOr, AVL.eNot, AVL.eIf, AVL.aNil, AVL.aCons, AVL.eBlt, lt_int, le_int, gt_int, ge_int, sub_int, add_int, neg_int, int_int, int_bl, eq_int, ne_int, len_lst, abs_int, ten18, pen0, pen1, pen2, pens1, pens2, AVL.gSub, AVL.eLst, AVL.lineOk, AVL.mkL, finF, AVL.eTup, AVL.eCall, frzVs, frzV, frz_ints r]
theorem cut_all {l : List AV} (h : l.length ≤ 63) : cutA l none (some 63) = l := by
  unfold cutA
  rw [HT.sIx_none, show (63 : Int) = ((63 : Nat) : Int) from rfl, HT.sIx_nat]
  simp only [List.drop_zero, Nat.sub_zero]
  rw [Nat.min_eq_right h, List.take_length]
theorem pen_start {c : List Int} (hc : CellsOk c) : m_law_pen [.klst (c.map .int)] [] = .ok (.ref 0) (pen c 0 0) := by
  have cu : cutA (c.map AV.int) none (some 63) = c.map .int := cut_all (by rw [List.length_map]; exact hc.len)
  have sl : mSl true (.klst (c.map AV.int)) none (some 63) [] = .ok (.ref 0) [.lst (c.map .int)] := by
    show mkL true (cutA (c.map AV.int) none (some 63)) [] = _
    rw [cu]; rfl
  have li : mList true [.ref 0] [.lst (c.map AV.int)] = .ok (.ref 1) [.lst (c.map .int), .lst (c.map .int)] := rfl
  have lv : leaveK 0 (.ref 2) [.lst (c.map AV.int), .lst (c.map .int), .lst [.ref 1, .int 0, .int 0]] = .ok (.ref 0) (pen c 0 0) := by
    have f : frzs [.lst (c.map AV.int), .lst (c.map .int), .lst [.ref 1, .int 0, .int 0]] 0 [.ref 1, .int 0, .int 0] = some [.lst (c.map .int), .int 0, .int 0] := by
      unfold frzs
      simp [AVL.sNext, AVL.sSeq, AVL.sRet, AVL.sRetN, AVL.sExpr, AVL.sIf, AVL.sBrk, AVL.sCont, AVL.sOpt, AVL.sAsg, AVL.gName, AVL.gsNil, AVL.gsCons, AVL.gTup, AVL.setAll, AVL.sPar, AVL.SRes.seq, AVL.Res.toS, AVL.Res.bind, AVL.eVar, AVL.eC, AVL.eBin, AVL.eUn, AVL.tV, AVL.tAnd, AVL.tOr, AVL.tNot, AVL.eAnd, AVL.eOr, AVL.eNot, AVL.eIf, AVL.aNil, AVL.aCons, AVL.eBlt, lt_int, le_int, gt_int, ge_int, sub_int, add_int, neg_int, int_int, int_bl, eq_int, ne_int, len_lst, abs_int, ten18, pen0, pen1, pen2, pens1, pens2, AVL.gSub, AVL.eLst, AVL.lineOk, AVL.mkL, finF, AVL.eTup, AVL.eCall, frzVs, frzV, frzN, frz_ints]
    unfold leaveK
    simp [AVL.sNext, AVL.sSeq, AVL.sRet, AVL.sRetN, AVL.sExpr, AVL.sIf, AVL.sBrk, AVL.sCont, AVL.sOpt, AVL.sAsg, AVL.gName, AVL.gsNil, AVL.gsCons, AVL.gTup, AVL.setAll, AVL.sPar, AVL.SRes.seq, AVL.Res.toS, AVL.Res.bind, AVL.eVar, AVL.eC, AVL.eBin, AVL.eUn, AVL.tV, AVL.tAnd, AVL.tOr, AVL.tNot, AVL.eAnd, AVL.eOr, AVL.eNot, AVL.eIf, AVL.aNil, AVL.aCons, AVL.eBlt, lt_int, le_int, gt_int, ge_int, sub_int, add_int, neg_int, int_int, int_bl, eq_int, ne_int, len_lst, abs_int, ten18, pen0, pen1, pen2, pens1, pens2, AVL.gSub, AVL.eLst, AVL.lineOk, AVL.mkL, finF, AVL.eTup, AVL.eCall, AVL.bnds, AVL.bnd, f, pen]
  unfold m_law_pen mkF b_law_pen
  simp [AVL.sNext, AVL.sSeq, AVL.sRet, AVL.sRetN, AVL.sExpr, AVL.sIf, AVL.sBrk, AVL.sCont, AVL.sOpt, AVL.sAsg, AVL.gName, AVL.gsNil, AVL.gsCons, AVL.gTup, AVL.setAll, AVL.sPar, AVL.SRes.seq, AVL.Res.toS, AVL.Res.bind, AVL.eVar, AVL.eC, AVL.eBin, AVL.eUn, AVL.tV, AVL.tAnd, AVL.tOr, AVL.tNot, AVL.eAnd, AVL.eOr, AVL.eNot, AVL.eIf, AVL.aNil, AVL.aCons, AVL.eBlt, lt_int, le_int, gt_int, ge_int, sub_int, add_int, neg_int, int_int, int_bl, eq_int, ne_int, len_lst, abs_int, ten18, pen0, pen1, pen2, pens1, pens2, AVL.gSub, AVL.eLst, AVL.lineOk, AVL.mkL, finF, AVL.eTup, AVL.eCall, AVL.eSl, AVL.oNo, AVL.oPart, sl, li, lv, sizeLine_eq]
theorem comp_pairs {c : List Int} (hc : CellsOk c) {slw : SL} (s1 : slw[1]? = some (some (.ref 0))) (s12 : slw.length = 14) : ∀ (l : List AV) (N : Nat) (h : AH) (acc : List (Int × Int)), Pen c N h → N + 9 * l.length < 700000 → (∀ p ∈ acc, 1 ≤ p.2 ∧ p.1.natAbs < 2 ^ 210 ∧ p.2.natAbs < 2 ^ 210) →
    ∃ (ps : List (Int × Int)) (h' : AH), compL okAll (AVL.gName 12) tTrue (eCall 1 m_law_pair (aCons (eVar 1) (aNil))) slw l (acc.map tp) h = .ok (ps.map tp) h' ∧ Pen c (N + 9 * l.length) h' ∧ ps.length = acc.length + l.length ∧ ∀ p ∈ ps, 1 ≤ p.2 ∧ p.1.natAbs < 2 ^ 210 ∧ p.2.natAbs < 2 ^ 210
  | [], N, h, acc, p, _, ha => ⟨acc, h, by simp [AVL.sNext, AVL.sSeq, AVL.sRet, AVL.sRetN, AVL.sExpr, AVL.sIf, AVL.sBrk, AVL.sCont, AVL.sOpt, AVL.sAsg, AVL.gName, AVL.gsNil, AVL.gsCons, AVL.gTup, AVL.setAll, AVL.sPar, AVL.SRes.seq, AVL.Res.toS, AVL.Res.bind, AVL.eVar, AVL.eC, AVL.eBin, AVL.eUn, AVL.tV, AVL.tAnd, AVL.tOr, AVL.tNot, AVL.eAnd, AVL.eOr, AVL.eNot, AVL.eIf, AVL.aNil, AVL.aCons, AVL.eBlt, lt_int, le_int, gt_int, ge_int, sub_int, add_int, neg_int, int_int, int_bl, eq_int, ne_int, len_lst, abs_int, ten18, pen0, pen1, pen2, pens1, pens2, AVL.gSub, AVL.eLst, AVL.lineOk, AVL.mkL, finF, AVL.eTup, AVL.eCall, AVL.compL, AVL.okAll], p, by simp [AVL.sNext, AVL.sSeq, AVL.sRet, AVL.sRetN, AVL.sExpr, AVL.sIf, AVL.sBrk, AVL.sCont, AVL.sOpt, AVL.sAsg, AVL.gName, AVL.gsNil, AVL.gsCons, AVL.gTup, AVL.setAll, AVL.sPar, AVL.SRes.seq, AVL.Res.toS, AVL.Res.bind, AVL.eVar, AVL.eC, AVL.eBin, AVL.eUn, AVL.tV, AVL.tAnd, AVL.tOr, AVL.tNot, AVL.eAnd, AVL.eOr, AVL.eNot, AVL.eIf, AVL.aNil, AVL.aCons, AVL.eBlt, lt_int, le_int, gt_int, ge_int, sub_int, add_int, neg_int, int_int, int_bl, eq_int, ne_int, len_lst, abs_int, ten18, pen0, pen1, pen2, pens1, pens2, AVL.gSub, AVL.eLst, AVL.lineOk, AVL.mkL, finF, AVL.eTup, AVL.eCall], ha⟩
  | y :: r, N, h, acc, p, hN, ha => by
    simp only [List.length_cons] at hN ⊢
    obtain ⟨x, z, h1, e1, p1, x1, z0, z1⟩ := pair_ok hc p (by omega)
    have ha' : ∀ p ∈ acc ++ [(x, z)], 1 ≤ p.2 ∧ p.1.natAbs < 2 ^ 210 ∧ p.2.natAbs < 2 ^ 210 := fun q hq => by
      rcases List.mem_append.mp hq with m | m
      · exact ha q m
      · have : q = (x, z) := by simpa [AVL.sNext, AVL.sSeq, AVL.sRet, AVL.sRetN, AVL.sExpr, AVL.sIf, AVL.sBrk, AVL.sCont, AVL.sOpt, AVL.sAsg, AVL.gName, AVL.gsNil, AVL.gsCons, AVL.gTup, AVL.setAll, AVL.sPar, AVL.SRes.seq, AVL.Res.toS, AVL.Res.bind, AVL.eVar, AVL.eC, AVL.eBin, AVL.eUn, AVL.tV, AVL.tAnd, AVL.tOr, AVL.tNot, AVL.eAnd, AVL.eOr, AVL.eNot, AVL.eIf, AVL.aNil, AVL.aCons, AVL.eBlt, lt_int, le_int, gt_int, ge_int, sub_int, add_int, neg_int, int_int, int_bl, eq_int, ne_int, len_lst, abs_int, ten18, pen0, pen1, pen2, pens1, pens2, AVL.gSub, AVL.eLst, AVL.lineOk, AVL.mkL, finF, AVL.eTup, AVL.eCall] using m
        subst this
        exact ⟨z0, x1, z1⟩
    obtain ⟨ps, h2, e2, p2, l2, a2⟩ := comp_pairs hc s1 s12 r (N + 9) h1 (acc ++ [(x, z)]) p1 (by omega) ha'
    refine ⟨ps, h2, ?_, p2.mono (by omega), by rw [l2]; simp [AVL.sNext, AVL.sSeq, AVL.sRet, AVL.sRetN, AVL.sExpr, AVL.sIf, AVL.sBrk, AVL.sCont, AVL.sOpt, AVL.sAsg, AVL.gName, AVL.gsNil, AVL.gsCons, AVL.gTup, AVL.setAll, AVL.sPar, AVL.SRes.seq, AVL.Res.toS, AVL.Res.bind, AVL.eVar, AVL.eC, AVL.eBin, AVL.eUn, AVL.tV, AVL.tAnd, AVL.tOr, AVL.tNot, AVL.eAnd, AVL.eOr, AVL.eNot, AVL.eIf, AVL.aNil, AVL.aCons, AVL.eBlt, lt_int, le_int, gt_int, ge_int, sub_int, add_int, neg_int, int_int, int_bl, eq_int, ne_int, len_lst, abs_int, ten18, pen0, pen1, pen2, pens1, pens2, AVL.gSub, AVL.eLst, AVL.lineOk, AVL.mkL, finF, AVL.eTup, AVL.eCall]; omega, a2⟩
    have g1 : (slw.set 12 (some y))[1]? = some (some (.ref 0)) := by rw [List.getElem?_set_ne (by decide)]; exact s1
    rw [List.map_append] at e2
    have tpe : [(x, z)].map tp = [.tup [.int x, .int z]] := rfl
    rw [tpe] at e2
    generalize m_law_pair = F at *
    simp only [AVL.compL, AVL.okAll, if_true]
    simp [AVL.sNext, AVL.sSeq, AVL.sRet, AVL.sRetN, AVL.sExpr, AVL.sIf, AVL.sBrk, AVL.sCont, AVL.sOpt, AVL.sAsg, AVL.gName, AVL.gsNil, AVL.gsCons, AVL.gTup, AVL.setAll, AVL.sPar, AVL.SRes.seq, AVL.Res.toS, AVL.Res.bind, AVL.eVar, AVL.eC, AVL.eBin, AVL.eUn, AVL.tV, AVL.tAnd, AVL.tOr, AVL.tNot, AVL.eAnd, AVL.eOr, AVL.eNot, AVL.eIf, AVL.aNil, AVL.aCons, AVL.eBlt, lt_int, le_int, gt_int, ge_int, sub_int, add_int, neg_int, int_int, int_bl, eq_int, ne_int, len_lst, abs_int, ten18, pen0, pen1, pen2, pens1, pens2, AVL.gSub, AVL.eLst, AVL.lineOk, AVL.mkL, finF, AVL.eTup, AVL.eCall, g1, e1, AVL.Res.nx, AVL.tTrue]
    exact e2
def topB : SM := sPar [10, 11] (aCons (eBin (mAdd false) (eBin (mMul false) (eVar 10) (eBin mIx (eVar 13) (eC (.int 1)))) (eBin (mMul false) (eBin mIx (eVar 13) (eC (.int 0))) (eVar 11))) (aCons (eBin (mMul false) (eVar 11) (eBin mIx (eVar 13) (eC (.int 1)))) (aNil)))
theorem top_loop {h : AH} {v0 v1 v2 v3 v4 v5 v6 v7 v8 v9 v12 : Option AV} : ∀ (ps : List (Int × Int)) (T B : Int) (m : Nat) (o : Option AV), (∀ p ∈ ps, 1 ≤ p.2 ∧ p.1.natAbs < 2 ^ 210 ∧ p.2.natAbs < 2 ^ 210) → T.natAbs < 2 ^ m → B.natAbs < 2 ^ m → m + 211 * ps.length ≤ 900 →
    ∀ ok : AH → Bool, ok h = true → ∃ o', forL ok (AVL.gName 13) topB (ps.map tp) [v0, v1, v2, v3, v4, v5, v6, v7, v8, v9, some (.int T), some (.int B), v12, o] h = .next [v0, v1, v2, v3, v4, v5, v6, v7, v8, v9, some (.int (foldP ps (T, B)).1), some (.int (foldP ps (T, B)).2), v12, o'] h ∧
      (foldP ps (T, B)).1.natAbs < 2 ^ (m + 211 * ps.length) ∧ (foldP ps (T, B)).2.natAbs < 2 ^ (m + 211 * ps.length)
  | [], T, B, m, o, _, hT, hB, _, ok, hk => ⟨o, by simp [AVL.sNext, AVL.sSeq, AVL.sRet, AVL.sRetN, AVL.sExpr, AVL.sIf, AVL.sBrk, AVL.sCont, AVL.sOpt, AVL.sAsg, AVL.gName, AVL.gsNil, AVL.gsCons, AVL.gTup, AVL.setAll, AVL.sPar, AVL.SRes.seq, AVL.Res.toS, AVL.Res.bind, AVL.eVar, AVL.eC, AVL.eBin, AVL.eUn, AVL.tV, AVL.tAnd, AVL.tOr, AVL.tNot, AVL.eAnd, AVL.eOr, AVL.eNot, AVL.eIf, AVL.aNil, AVL.aCons, AVL.eBlt, lt_int, le_int, gt_int, ge_int, sub_int, add_int, neg_int, int_int, int_bl, eq_int, ne_int, len_lst, abs_int, ten18, pen0, pen1, pen2, pens1, pens2, AVL.gSub, AVL.eLst, AVL.lineOk, AVL.mkL, finF, AVL.eTup, AVL.eCall, AVL.forL, hk, foldP], hT, hB⟩
  | p :: r, T, B, m, o, hp, hT, hB, hm, ok, hk => by
    obtain ⟨x, y⟩ := p
    obtain ⟨y0, x1, y1⟩ := hp (x, y) (List.mem_cons_self ..)
    simp only [List.length_cons] at hm ⊢
    dsimp only at y0 x1 y1
    have m1 : ∀ h : AH, mMul false (.int T) (.int y) h = .ok (.int (T * y)) h := fun h => mul_int' (mulOk_of hT y1 (by omega))
    have m2 : ∀ h : AH, mMul false (.int x) (.int B) h = .ok (.int (x * B)) h := fun h => mul_int' (mulOk_of x1 hB (by omega))
    have m3 : ∀ h : AH, mMul false (.int B) (.int y) h = .ok (.int (B * y)) h := fun h => mul_int' (mulOk_of hB y1 (by omega))
    have up : (2 : Nat) ^ (m + 211) = 2 * 2 ^ (m + 210) := by rw [show m + 211 = m + 210 + 1 from rfl, Nat.pow_succ, Nat.mul_comm]
    have w1 := pow_mul_lt hT y1
    have w2 := pow_mul_lt x1 hB
    rw [Nat.add_comm 210 m] at w2
    have w3 := pow_mul_lt hB y1
    obtain ⟨o2, f, s1, s2⟩ := top_loop (h := h) (v0 := v0) (v1 := v1) (v2 := v2) (v3 := v3) (v4 := v4) (v5 := v5) (v6 := v6) (v7 := v7) (v8 := v8) (v9 := v9) (v12 := v12) r (T * y + x * B) (B * y) (m + 211) (some (tp (x, y))) (fun p hp' => hp p (List.mem_cons_of_mem _ hp')) (by omega) (by omega) (by omega) ok hk
    have e : m + 211 * (r.length + 1) = m + 211 + 211 * r.length := by omega
    rw [e]
    refine ⟨o2, ?_, s1, s2⟩
    have i0 : mIx (tp (x, y)) (.int 0) h = .ok (.int x) h := rfl
    have i1 : mIx (tp (x, y)) (.int 1) h = .ok (.int y) h := rfl
    have st : topB [v0, v1, v2, v3, v4, v5, v6, v7, v8, v9, some (.int T), some (.int B), v12, some (tp (x, y))] h = .next [v0, v1, v2, v3, v4, v5, v6, v7, v8, v9, some (.int (T * y + x * B)), some (.int (B * y)), v12, some (tp (x, y))] h := by
      unfold topB
      generalize mMul = MM at *
      generalize mIx = IX at *
      simp [AVL.sNext, AVL.sSeq, AVL.sRet, AVL.sRetN, AVL.sExpr, AVL.sIf, AVL.sBrk, AVL.sCont, AVL.sOpt, AVL.sAsg, AVL.gName, AVL.gsNil, AVL.gsCons, AVL.gTup, AVL.setAll, AVL.sPar, AVL.SRes.seq, AVL.Res.toS, AVL.Res.bind, AVL.eVar, AVL.eC, AVL.eBin, AVL.eUn, AVL.tV, AVL.tAnd, AVL.tOr, AVL.tNot, AVL.eAnd, AVL.eOr, AVL.eNot, AVL.eIf, AVL.aNil, AVL.aCons, AVL.eBlt, lt_int, le_int, gt_int, ge_int, sub_int, add_int, neg_int, int_int, int_bl, eq_int, ne_int, len_lst, abs_int, ten18, pen0, pen1, pen2, pens1, pens2, AVL.gSub, AVL.eLst, AVL.lineOk, AVL.mkL, finF, AVL.eTup, AVL.eCall, i0, i1, m1, m2, m3]
    rw [List.map_cons]
    generalize topB = TB at *
    simp only [AVL.forL, hk, if_true]
    simp [AVL.sNext, AVL.sSeq, AVL.sRet, AVL.sRetN, AVL.sExpr, AVL.sIf, AVL.sBrk, AVL.sCont, AVL.sOpt, AVL.sAsg, AVL.gName, AVL.gsNil, AVL.gsCons, AVL.gTup, AVL.setAll, AVL.sPar, AVL.SRes.seq, AVL.Res.toS, AVL.Res.bind, AVL.eVar, AVL.eC, AVL.eBin, AVL.eUn, AVL.tV, AVL.tAnd, AVL.tOr, AVL.tNot, AVL.eAnd, AVL.eOr, AVL.eNot, AVL.eIf, AVL.aNil, AVL.aCons, AVL.eBlt, lt_int, le_int, gt_int, ge_int, sub_int, add_int, neg_int, int_int, int_bl, eq_int, ne_int, len_lst, abs_int, ten18, pen0, pen1, pen2, pens1, pens2, AVL.gSub, AVL.eLst, AVL.lineOk, AVL.mkL, finF, AVL.eTup, AVL.eCall]
    rw [st]
    exact f
end Law

namespace Law
open PySem PySem.Spec L2 AVL
theorem repr_ok {h : AH} {i j : Int} (hi : i = -1 ∨ i = 0 ∨ i = 1) (hj : j = -1 ∨ j = 0 ∨ j = 1) : ∃ s, mRepr [.lst [.int i, .int j, .int 0]] h = .ok (.str s) h ∧ mEq true (.str s) (.str s) h = .ok (.bl false) h := by
  rcases hi with rfl | rfl | rfl <;> rcases hj with rfl | rfl | rfl
  · exact ⟨"[-1, -1, 0]", by kernel_rfl, by kernel_rfl⟩
  · exact ⟨"[-1, 0, 0]", by kernel_rfl, by kernel_rfl⟩
  · exact ⟨"[-1, 1, 0]", by kernel_rfl, by kernel_rfl⟩
  · exact ⟨"[0, -1, 0]", by kernel_rfl, by kernel_rfl⟩
  · exact ⟨"[0, 0, 0]", by kernel_rfl, by kernel_rfl⟩
  · exact ⟨"[0, 1, 0]", by kernel_rfl, by kernel_rfl⟩
  · exact ⟨"[1, -1, 0]", by kernel_rfl, by kernel_rfl⟩
  · exact ⟨"[1, 0, 0]", by kernel_rfl, by kernel_rfl⟩
  · exact ⟨"[1, 1, 0]", by kernel_rfl, by kernel_rfl⟩
theorem lowest_is {h : AH} {p q : Int} (hq : q ≠ 0) (p1 : p.natAbs < 2 ^ 200) (q1 : q.natAbs < 2 ^ 200) : ∃ a b, m_lowest [.int p, .int q] h = .ok (.tup [.int a, .int b]) h ∧ m_law_is [.tup [.int a, .int b], .int (if 0 < q then p else -p), .int (if q < 0 then -q else q)] h = .ok (.bl true) h := by
  have up : (2 : Nat) ^ 200 ≤ 2 ^ 2000 := Nat.pow_le_pow_right (by decide) (by decide)
  obtain ⟨a, b, e, r⟩ := lowest_ok (h := h) (p := p) hq (by omega)
  refine ⟨a, b, e, is_ok r.pos r.cop ?_ (by have := r.la; omega) (by have := r.lb; omega) (by split <;> omega) (by split <;> omega)⟩
  have := r.eq
  by_cases n : q < 0
  · rw [if_pos n, if_neg (by omega), Int.mul_neg, Int.neg_mul]; omega
  · rw [if_neg n, if_pos (by omega)]; exact this
def turnB : SM := (sSeq (sAsg (eTup (aCons (eCall 1 m_law_pair (aCons (eVar 1) (aNil))) (aCons (eCall 1 m_law_pair (aCons (eVar 1) (aNil))) (aCons (eCall 1 m_law_number (aCons (eVar 1) (aNil))) (aCons (eCall 1 m_law_number (aCons (eVar 1) (aNil))) (aNil)))))) (AVL.gTup 4 (AVL.gsCons (AVL.gName 3) (AVL.gsCons (AVL.gName 4) (AVL.gsCons (AVL.gName 5) (AVL.gsCons (AVL.gName 6) (AVL.gsNil)))))))
  (sSeq (sIf (tAnd (tV (eBin (mEq true) (eVar 6) (eC (.int 0)))) (tNot (tV (eCall 3 m_law_is (aCons (eCall 2 m_lowest (aCons (eVar 5) (aCons (eVar 6) (aNil)))) (aCons (eIf (tV (eBin mGt (eVar 6) (eC (.int 0)))) (eVar 5) (eUn mNeg (eVar 5))) (aCons (eBlt mAbs (aCons (eVar 6) (aNil))) (aNil)))))))) (sRet (eC (.bl false))) (sNext))
  (sSeq (sIf (tNot (tV (eCall 3 m_law_is (aCons (eCall 2 m_added (aCons (eVar 3) (aCons (eBlt (mList false) (aCons (eVar 4) (aNil))) (aNil)))) (aCons (eBin (mAdd false) (eBin (mMul false) (eBin mIx (eVar 3) (eC (.int 0))) (eBin mIx (eVar 4) (eC (.int 1)))) (eBin (mMul false) (eBin mIx (eVar 4) (eC (.int 0))) (eBin mIx (eVar 3) (eC (.int 1))))) (aCons (eBin (mMul false) (eBin mIx (eVar 3) (eC (.int 1))) (eBin mIx (eVar 4) (eC (.int 1)))) (aNil))))))) (sRet (eC (.bl false))) (sNext))
  (sSeq (sIf (tNot (tV (eCall 3 m_law_is (aCons (eCallK 1 1 2 [.p 0, .k 0] m_times (aCons (eBlt (mList false) (aCons (eVar 3) (aNil))) (aNil)) (aCons (eVar 4) (aNil))) (aCons (eBin (mMul false) (eBin mIx (eVar 3) (eC (.int 0))) (eBin mIx (eVar 4) (eC (.int 0)))) (aCons (eBin (mMul false) (eBin mIx (eVar 3) (eC (.int 1))) (eBin mIx (eVar 4) (eC (.int 1)))) (aNil))))))) (sRet (eC (.bl false))) (sNext))
  (sSeq (sPar [7, 8] (aCons (eBin (mMul false) (eBin mIx (eVar 3) (eC (.int 0))) (eBin mIx (eVar 4) (eC (.int 1)))) (aCons (eBin (mMul false) (eBin mIx (eVar 4) (eC (.int 0))) (eBin mIx (eVar 3) (eC (.int 1)))) (aNil))))
  (sSeq (sIf (tV (eBin (mEq true) (eBlt mRepr (aCons (eLst false (aCons (eCall 2 m_order_of (aCons (eVar 3) (aCons (eVar 4) (aNil)))) (aCons (eCall 2 m_order_of (aCons (eVar 4) (aCons (eVar 3) (aNil)))) (aCons (eCall 2 m_order_of (aCons (eVar 3) (aCons (eTup (aCons (eBin (mMul false) (eBin mIx (eVar 3) (eC (.int 0))) (eC (.int 3))) (aCons (eBin (mMul false) (eBin mIx (eVar 3) (eC (.int 1))) (eC (.int 3))) (aNil)))) (aNil)))) (aNil))))) (aNil))) (eBlt mRepr (aCons (eLst false (aCons (eBin mSub (eBlt mInt (aCons (eBin mGt (eVar 7) (eVar 8)) (aNil))) (eBlt mInt (aCons (eBin mLt (eVar 7) (eVar 8)) (aNil)))) (aCons (eBin mSub (eBlt mInt (aCons (eBin mGt (eVar 8) (eVar 7)) (aNil))) (eBlt mInt (aCons (eBin mLt (eVar 8) (eVar 7)) (aNil)))) (aCons (eC (.int 0)) (aNil))))) (aNil))))) (sRet (eC (.bl false))) (sNext))
  (sSeq (sPar [9, 10, 11] (aCons (eComp false (itRng1 (aCons (eCall 2 m_law_draw (aCons (eVar 1) (aCons (eC (.int 5)) (aNil)))) (aNil))) (AVL.gName 12) (tTrue) (eCall 1 m_law_pair (aCons (eVar 1) (aNil))) [12]) (aCons (eC (.int 0)) (aCons (eC (.int 1)) (aNil)))))
  (sSeq (sFor (itSeq (eVar 9)) (AVL.gName 13) (sPar [10, 11] (aCons (eBin (mAdd false) (eBin (mMul false) (eVar 10) (eBin mIx (eVar 13) (eC (.int 1)))) (eBin (mMul false) (eBin mIx (eVar 13) (eC (.int 0))) (eVar 11))) (aCons (eBin (mMul false) (eVar 11) (eBin mIx (eVar 13) (eC (.int 1)))) (aNil)))))
  (sIf (tNot (tV (eCall 3 m_law_is (aCons (eCall 1 m_total (aCons (eVar 9) (aNil))) (aCons (eVar 10) (aCons (eVar 11) (aNil))))))) (sRet (eC (.bl false))) (sNext))))))))))
theorem law_split : b_law = sSeq (sAsg (eCall 1 m_law_pen (aCons (eVar 0) (aNil))) (AVL.gName 1)) (sSeq (sFor (itRng1 (aCons (eC (.int 6)) (aNil))) (AVL.gName 2) turnB) (sRet (eCall 1 m_law_refused_right (aCons (eVar 1) (aNil))))) := rfl
end Law

namespace Law
open PySem PySem.Spec L2 AVL

section
variable {f g : SM} {t u : TM} {sl sl' : SL} {h h' h1 : AH}
theorem seq_next (e : f sl h = .next sl' h') : sSeq f g sl h = g sl' h' := by
  unfold sSeq
  rw [e]; rfl
theorem if_bl_no {e : EM} (c : e sl h = .ok (.bl false) h1) : sIf (tV e) f g sl h = g sl h1 := by
  unfold sIf tV
  rw [c]; rfl
theorem cons_ok {fa : EM} {r : AM} {x : AV} {xs : List AV} {h2 : AH} (a : fa sl h = .ok x h1) (b : r sl h1 = .ok xs h2) : aCons fa r sl h = .ok (x :: xs) h2 := by
  unfold aCons
  rw [a]
  show (r sl h1).bind _ = _
  rw [b]; rfl
theorem nil_ok : aNil sl h = .ok [] h := rfl
theorem tup2_ok {fa fb : EM} {x y : AV} (a : fa sl h = .ok x h) (b : fb sl h = .ok y h) : eTup (aCons fa (aCons fb aNil)) sl h = .ok (.tup [x, y]) h := by
  unfold eTup
  rw [cons_ok a (cons_ok b nil_ok)]
  rfl
theorem lst3_ok {fa fb fc : EM} {x y z : AV} (a : fa sl h = .ok x h) (b : fb sl h = .ok y h) (c : fc sl h = .ok z h) : eLst false (aCons fa (aCons fb (aCons fc aNil))) sl h = .ok (.lst [x, y, z]) h := by
  unfold eLst
  rw [cons_ok a (cons_ok b (cons_ok c nil_ok))]
  rfl
theorem blt_ok {F : MF} {fa : EM} {x v : AV} (a : fa sl h = .ok x h) (e : F [x] h = .ok v h) : eBlt F (aCons fa aNil) sl h = .ok v h := by
  unfold eBlt
  rw [cons_ok a nil_ok]
  exact e
end
section
variable {PA NU LO IS AD TI OO DR TO : MF} {sl : SL} {h h1 h2 h3 h4 h5 h6 : AH}
variable {v0 v1 v2 o3 o4 o5 o6 o7 o8 o9 o10 o11 o12 o13 : Option AV} {A3 A4 A3' A4' R : AV} {x1 y1 x2 y2 p q d : Int} {L : List AV}
theorem st1 {a1 a2 : AV} (e1 : PA [.ref 0] h = .ok a1 h1) (e2 : PA [.ref 0] h1 = .ok a2 h2) (e3 : NU [.ref 0] h2 = .ok (.int p) h3) (e4 : NU [.ref 0] h3 = .ok (.int q) h4) :
    (sAsg (eTup (aCons (eCall 1 PA (aCons (eVar 1) (aNil))) (aCons (eCall 1 PA (aCons (eVar 1) (aNil))) (aCons (eCall 1 NU (aCons (eVar 1) (aNil))) (aCons (eCall 1 NU (aCons (eVar 1) (aNil))) (aNil)))))) (AVL.gTup 4 (AVL.gsCons (AVL.gName 3) (AVL.gsCons (AVL.gName 4) (AVL.gsCons (AVL.gName 5) (AVL.gsCons (AVL.gName 6) (AVL.gsNil))))))) [v0, some (.ref 0), v2, o3, o4, o5, o6, o7, o8, o9, o10, o11, o12, o13] h = .next [v0, some (.ref 0), v2, some a1, some a2, some (.int p), some (.int q), o7, o8, o9, o10, o11, o12, o13] h4 := by
  have it : ∀ l, itemsT (.tup l) = some l := fun _ => rfl
  simp [AVL.sNext, AVL.sSeq, AVL.sRet, AVL.sRetN, AVL.sExpr, AVL.sIf, AVL.sBrk, AVL.sCont, AVL.sOpt, AVL.sAsg, AVL.gName, AVL.gsNil, AVL.gsCons, AVL.gTup, AVL.setAll, AVL.sPar, AVL.SRes.seq, AVL.Res.toS, AVL.Res.bind, AVL.eVar, AVL.eC, AVL.eBin, AVL.eUn, AVL.tV, AVL.tAnd, AVL.tOr, AVL.tNot, AVL.eAnd, AVL.eOr, AVL.eNot, AVL.eIf, AVL.aNil, AVL.aCons, AVL.eBlt, lt_int, le_int, gt_int, ge_int, sub_int, add_int, neg_int, int_int, int_bl, eq_int, ne_int, len_lst, abs_int, ten18, pen0, pen1, pen2, pens1, pens2, AVL.gSub, AVL.eLst, AVL.lineOk, AVL.mkL, finF, AVL.eTup, AVL.eCall, e1, e2, e3, e4, it, sizeLine_eq]
theorem st2 (g5 : sl[5]? = some (some (.int p))) (g6 : sl[6]? = some (some (.int q))) (lw : q ≠ 0 → ∃ a b, LO [.int p, .int q] h = .ok (.tup [.int a, .int b]) h ∧ IS [.tup [.int a, .int b], .int (if 0 < q then p else -p), .int (if q < 0 then -q else q)] h = .ok (.bl true) h) :
    (sIf (tAnd (tV (eBin (mEq true) (eVar 6) (eC (.int 0)))) (tNot (tV (eCall 3 IS (aCons (eCall 2 LO (aCons (eVar 5) (aCons (eVar 6) (aNil)))) (aCons (eIf (tV (eBin mGt (eVar 6) (eC (.int 0)))) (eVar 5) (eUn mNeg (eVar 5))) (aCons (eBlt mAbs (aCons (eVar 6) (aNil))) (aNil)))))))) (sRet (eC (.bl false))) (sNext)) sl h = .next sl h := by
  have ne0 : mEq true (.int q) (.int 0) h = .ok (.bl (!decide (q = 0))) h := ne_int
  generalize mEq = EQ at *
  by_cases hq : q = 0
  · subst hq
    simp only [decide_true, Bool.not_true] at ne0
    simp [AVL.sNext, AVL.sSeq, AVL.sRet, AVL.sRetN, AVL.sExpr, AVL.sIf, AVL.sBrk, AVL.sCont, AVL.sOpt, AVL.sAsg, AVL.gName, AVL.gsNil, AVL.gsCons, AVL.gTup, AVL.setAll, AVL.sPar, AVL.SRes.seq, AVL.Res.toS, AVL.Res.bind, AVL.eVar, AVL.eC, AVL.eBin, AVL.eUn, AVL.tV, AVL.tAnd, AVL.tOr, AVL.tNot, AVL.eAnd, AVL.eOr, AVL.eNot, AVL.eIf, AVL.aNil, AVL.aCons, AVL.eBlt, lt_int, le_int, gt_int, ge_int, sub_int, add_int, neg_int, int_int, int_bl, eq_int, ne_int, len_lst, abs_int, ten18, pen0, pen1, pen2, pens1, pens2, AVL.gSub, AVL.eLst, AVL.lineOk, AVL.mkL, finF, AVL.eTup, AVL.eCall, g5, g6, ne0]
  · obtain ⟨a, b, lo, li2⟩ := lw hq
    have dq : decide (q = 0) = false := by simpa [AVL.sNext, AVL.sSeq, AVL.sRet, AVL.sRetN, AVL.sExpr, AVL.sIf, AVL.sBrk, AVL.sCont, AVL.sOpt, AVL.sAsg, AVL.gName, AVL.gsNil, AVL.gsCons, AVL.gTup, AVL.setAll, AVL.sPar, AVL.SRes.seq, AVL.Res.toS, AVL.Res.bind, AVL.eVar, AVL.eC, AVL.eBin, AVL.eUn, AVL.tV, AVL.tAnd, AVL.tOr, AVL.tNot, AVL.eAnd, AVL.eOr, AVL.eNot, AVL.eIf, AVL.aNil, AVL.aCons, AVL.eBlt, lt_int, le_int, gt_int, ge_int, sub_int, add_int, neg_int, int_int, int_bl, eq_int, ne_int, len_lst, abs_int, ten18, pen0, pen1, pen2, pens1, pens2, AVL.gSub, AVL.eLst, AVL.lineOk, AVL.mkL, finF, AVL.eTup, AVL.eCall] using hq
    rw [dq] at ne0
    simp only [Bool.not_false] at ne0
    by_cases q0 : 0 < q
    · rw [if_pos q0] at li2
      simp [AVL.sNext, AVL.sSeq, AVL.sRet, AVL.sRetN, AVL.sExpr, AVL.sIf, AVL.sBrk, AVL.sCont, AVL.sOpt, AVL.sAsg, AVL.gName, AVL.gsNil, AVL.gsCons, AVL.gTup, AVL.setAll, AVL.sPar, AVL.SRes.seq, AVL.Res.toS, AVL.Res.bind, AVL.eVar, AVL.eC, AVL.eBin, AVL.eUn, AVL.tV, AVL.tAnd, AVL.tOr, AVL.tNot, AVL.eAnd, AVL.eOr, AVL.eNot, AVL.eIf, AVL.aNil, AVL.aCons, AVL.eBlt, lt_int, le_int, gt_int, ge_int, sub_int, add_int, neg_int, int_int, int_bl, eq_int, ne_int, len_lst, abs_int, ten18, pen0, pen1, pen2, pens1, pens2, AVL.gSub, AVL.eLst, AVL.lineOk, AVL.mkL, finF, AVL.eTup, AVL.eCall, g5, g6, ne0, lo, li2, q0]
    · rw [if_neg q0] at li2
      simp [AVL.sNext, AVL.sSeq, AVL.sRet, AVL.sRetN, AVL.sExpr, AVL.sIf, AVL.sBrk, AVL.sCont, AVL.sOpt, AVL.sAsg, AVL.gName, AVL.gsNil, AVL.gsCons, AVL.gTup, AVL.setAll, AVL.sPar, AVL.SRes.seq, AVL.Res.toS, AVL.Res.bind, AVL.eVar, AVL.eC, AVL.eBin, AVL.eUn, AVL.tV, AVL.tAnd, AVL.tOr, AVL.tNot, AVL.eAnd, AVL.eOr, AVL.eNot, AVL.eIf, AVL.aNil, AVL.aCons, AVL.eBlt, lt_int, le_int, gt_int, ge_int, sub_int, add_int, neg_int, int_int, int_bl, eq_int, ne_int, len_lst, abs_int, ten18, pen0, pen1, pen2, pens1, pens2, AVL.gSub, AVL.eLst, AVL.lineOk, AVL.mkL, finF, AVL.eTup, AVL.eCall, g5, g6, ne0, lo, li2, q0]
theorem st3 (g3 : sl[3]? = some (some A3)) (g4 : sl[4]? = some (some A4)) (i30 : mIx A3 (.int 0) h = .ok (.int x1) h) (i31 : mIx A3 (.int 1) h = .ok (.int y1) h) (i40 : mIx A4 (.int 0) h = .ok (.int x2) h) (i41 : mIx A4 (.int 1) h = .ok (.int y2) h) (li : mList false [A4] h = .ok A4' h) (a1 : AD [A3, A4'] h = .ok R h) (is1 : IS [R, .int (x1 * y2 + x2 * y1), .int (y1 * y2)] h = .ok (.bl true) h)
    (mm1 : mMul false (.int x1) (.int y2) h = .ok (.int (x1 * y2)) h) (mm2 : mMul false (.int x2) (.int y1) h = .ok (.int (x2 * y1)) h) (mm3 : mMul false (.int y1) (.int y2) h = .ok (.int (y1 * y2)) h) :
    (sIf (tNot (tV (eCall 3 IS (aCons (eCall 2 AD (aCons (eVar 3) (aCons (eBlt (mList false) (aCons (eVar 4) (aNil))) (aNil)))) (aCons (eBin (mAdd false) (eBin (mMul false) (eBin mIx (eVar 3) (eC (.int 0))) (eBin mIx (eVar 4) (eC (.int 1)))) (eBin (mMul false) (eBin mIx (eVar 4) (eC (.int 0))) (eBin mIx (eVar 3) (eC (.int 1))))) (aCons (eBin (mMul false) (eBin mIx (eVar 3) (eC (.int 1))) (eBin mIx (eVar 4) (eC (.int 1)))) (aNil))))))) (sRet (eC (.bl false))) (sNext)) sl h = .next sl h := by
  generalize mMul = MM at *
  generalize mIx = IX at *
  generalize mList = ML at *
  simp [AVL.sNext, AVL.sSeq, AVL.sRet, AVL.sRetN, AVL.sExpr, AVL.sIf, AVL.sBrk, AVL.sCont, AVL.sOpt, AVL.sAsg, AVL.gName, AVL.gsNil, AVL.gsCons, AVL.gTup, AVL.setAll, AVL.sPar, AVL.SRes.seq, AVL.Res.toS, AVL.Res.bind, AVL.eVar, AVL.eC, AVL.eBin, AVL.eUn, AVL.tV, AVL.tAnd, AVL.tOr, AVL.tNot, AVL.eAnd, AVL.eOr, AVL.eNot, AVL.eIf, AVL.aNil, AVL.aCons, AVL.eBlt, lt_int, le_int, gt_int, ge_int, sub_int, add_int, neg_int, int_int, int_bl, eq_int, ne_int, len_lst, abs_int, ten18, pen0, pen1, pen2, pens1, pens2, AVL.gSub, AVL.eLst, AVL.lineOk, AVL.mkL, finF, AVL.eTup, AVL.eCall, g3, g4, i30, i31, i40, i41, li, a1, is1, mm1, mm2, mm3]
theorem st4 (g3 : sl[3]? = some (some A3)) (g4 : sl[4]? = some (some A4)) (i30 : mIx A3 (.int 0) h = .ok (.int x1) h) (i31 : mIx A3 (.int 1) h = .ok (.int y1) h) (i40 : mIx A4 (.int 0) h = .ok (.int x2) h) (i41 : mIx A4 (.int 1) h = .ok (.int y2) h) (li : mList false [A3] h = .ok A3' h) (a1 : TI [A3', A4] h = .ok R h) (is1 : IS [R, .int (x1 * x2), .int (y1 * y2)] h = .ok (.bl true) h)
    (mm4 : mMul false (.int x1) (.int x2) h = .ok (.int (x1 * x2)) h) (mm3 : mMul false (.int y1) (.int y2) h = .ok (.int (y1 * y2)) h) :
    (sIf (tNot (tV (eCall 3 IS (aCons (eCallK 1 1 2 [.p 0, .k 0] TI (aCons (eBlt (mList false) (aCons (eVar 3) (aNil))) (aNil)) (aCons (eVar 4) (aNil))) (aCons (eBin (mMul false) (eBin mIx (eVar 3) (eC (.int 0))) (eBin mIx (eVar 4) (eC (.int 0)))) (aCons (eBin (mMul false) (eBin mIx (eVar 3) (eC (.int 1))) (eBin mIx (eVar 4) (eC (.int 1)))) (aNil))))))) (sRet (eC (.bl false))) (sNext)) sl h = .next sl h := by
  generalize mMul = MM at *
  generalize mIx = IX at *
  generalize mList = ML at *
  simp [AVL.sNext, AVL.sSeq, AVL.sRet, AVL.sRetN, AVL.sExpr, AVL.sIf, AVL.sBrk, AVL.sCont, AVL.sOpt, AVL.sAsg, AVL.gName, AVL.gsNil, AVL.gsCons, AVL.gTup, AVL.setAll, AVL.sPar, AVL.SRes.seq, AVL.Res.toS, AVL.Res.bind, AVL.eVar, AVL.eC, AVL.eBin, AVL.eUn, AVL.tV, AVL.tAnd, AVL.tOr, AVL.tNot, AVL.eAnd, AVL.eOr, AVL.eNot, AVL.eIf, AVL.aNil, AVL.aCons, AVL.eBlt, lt_int, le_int, gt_int, ge_int, sub_int, add_int, neg_int, int_int, int_bl, eq_int, ne_int, len_lst, abs_int, ten18, pen0, pen1, pen2, pens1, pens2, AVL.gSub, AVL.eLst, AVL.lineOk, AVL.mkL, finF, AVL.eTup, AVL.eCall, g3, g4, i30, i31, i40, i41, li, a1, is1, mm4, mm3, AVL.eCallK, srcG]
theorem st5 (i30 : mIx A3 (.int 0) h = .ok (.int x1) h) (i31 : mIx A3 (.int 1) h = .ok (.int y1) h) (i40 : mIx A4 (.int 0) h = .ok (.int x2) h) (i41 : mIx A4 (.int 1) h = .ok (.int y2) h)
    (mm1 : mMul false (.int x1) (.int y2) h = .ok (.int (x1 * y2)) h) (mm2 : mMul false (.int x2) (.int y1) h = .ok (.int (x2 * y1)) h) :
    (sPar [7, 8] (aCons (eBin (mMul false) (eBin mIx (eVar 3) (eC (.int 0))) (eBin mIx (eVar 4) (eC (.int 1)))) (aCons (eBin (mMul false) (eBin mIx (eVar 4) (eC (.int 0))) (eBin mIx (eVar 3) (eC (.int 1)))) (aNil)))) [v0, v1, v2, some A3, some A4, o5, o6, o7, o8, o9, o10, o11, o12, o13] h = .next [v0, v1, v2, some A3, some A4, o5, o6, some (.int (x1 * y2)), some (.int (x2 * y1)), o9, o10, o11, o12, o13] h := by
  generalize mMul = MM at *
  generalize mIx = IX at *
  simp [AVL.sNext, AVL.sSeq, AVL.sRet, AVL.sRetN, AVL.sExpr, AVL.sIf, AVL.sBrk, AVL.sCont, AVL.sOpt, AVL.sAsg, AVL.gName, AVL.gsNil, AVL.gsCons, AVL.gTup, AVL.setAll, AVL.sPar, AVL.SRes.seq, AVL.Res.toS, AVL.Res.bind, AVL.eVar, AVL.eC, AVL.eBin, AVL.eUn, AVL.tV, AVL.tAnd, AVL.tOr, AVL.tNot, AVL.eAnd, AVL.eOr, AVL.eNot, AVL.eIf, AVL.aNil, AVL.aCons, AVL.eBlt, lt_int, le_int, gt_int, ge_int, sub_int, add_int, neg_int, int_int, int_bl, eq_int, ne_int, len_lst, abs_int, ten18, pen0, pen1, pen2, pens1, pens2, AVL.gSub, AVL.eLst, AVL.lineOk, AVL.mkL, finF, AVL.eTup, AVL.eCall, i30, i31, i40, i41, mm1, mm2]
theorem st6a {i j : Int} {s : Str} (g3 : sl[3]? = some (some A3)) (g4 : sl[4]? = some (some A4)) (i30 : mIx A3 (.int 0) h = .ok (.int x1) h) (i31 : mIx A3 (.int 1) h = .ok (.int y1) h)
    (r1 : OO [A3, A4] h = .ok (.int i) h) (r2 : OO [A4, A3] h = .ok (.int j) h) (r3 : OO [A3, .tup [.int (x1 * 3), .int (y1 * 3)]] h = .ok (.int 0) h)
    (rp : mRepr [.lst [.int i, .int j, .int 0]] h = .ok (.str s) h)
    (mm5 : mMul false (.int x1) (.int 3) h = .ok (.int (x1 * 3)) h) (mm6 : mMul false (.int y1) (.int 3) h = .ok (.int (y1 * 3)) h) :
    (eBlt mRepr (aCons (eLst false (aCons (eCall 2 OO (aCons (eVar 3) (aCons (eVar 4) (aNil)))) (aCons (eCall 2 OO (aCons (eVar 4) (aCons (eVar 3) (aNil)))) (aCons (eCall 2 OO (aCons (eVar 3) (aCons (eTup (aCons (eBin (mMul false) (eBin mIx (eVar 3) (eC (.int 0))) (eC (.int 3))) (aCons (eBin (mMul false) (eBin mIx (eVar 3) (eC (.int 1))) (eC (.int 3))) (aNil)))) (aNil)))) (aNil))))) (aNil))) sl h = .ok (.str s) h := by
  have m5 : eBin (mMul false) (eBin mIx (eVar 3) (eC (.int 0))) (eC (.int 3)) sl h = .ok (.int (x1 * 3)) h := (eBin_ok ((eBin_ok (eVar_ok g3) rfl).trans i30) rfl).trans mm5
  have m6 : eBin (mMul false) (eBin mIx (eVar 3) (eC (.int 1))) (eC (.int 3)) sl h = .ok (.int (y1 * 3)) h := (eBin_ok ((eBin_ok (eVar_ok g3) rfl).trans i31) rfl).trans mm6
  exact blt_ok (lst3_ok (eCall2_ok (eVar_ok g3) (eVar_ok g4) r1) (eCall2_ok (eVar_ok g4) (eVar_ok g3) r2) (eCall2_ok (eVar_ok g3) (tup2_ok m5 m6) r3)) rp
theorem st6b {a b : Int} {s : Str} (g7 : sl[7]? = some (some (.int a))) (g8 : sl[8]? = some (some (.int b)))
    (rp : mRepr [.lst [.int ((if b < a then 1 else 0) - (if a < b then 1 else 0)), .int ((if a < b then 1 else 0) - (if b < a then 1 else 0)), .int 0]] h = .ok (.str s) h) :
    (eBlt mRepr (aCons (eLst false (aCons (eBin mSub (eBlt mInt (aCons (eBin mGt (eVar 7) (eVar 8)) (aNil))) (eBlt mInt (aCons (eBin mLt (eVar 7) (eVar 8)) (aNil)))) (aCons (eBin mSub (eBlt mInt (aCons (eBin mGt (eVar 8) (eVar 7)) (aNil))) (eBlt mInt (aCons (eBin mLt (eVar 8) (eVar 7)) (aNil)))) (aCons (eC (.int 0)) (aNil))))) (aNil))) sl h = .ok (.str s) h := by
  generalize mRepr = RE at *
  simp [AVL.sNext, AVL.sSeq, AVL.sRet, AVL.sRetN, AVL.sExpr, AVL.sIf, AVL.sBrk, AVL.sCont, AVL.sOpt, AVL.sAsg, AVL.gName, AVL.gsNil, AVL.gsCons, AVL.gTup, AVL.setAll, AVL.sPar, AVL.SRes.seq, AVL.Res.toS, AVL.Res.bind, AVL.eVar, AVL.eC, AVL.eBin, AVL.eUn, AVL.tV, AVL.tAnd, AVL.tOr, AVL.tNot, AVL.eAnd, AVL.eOr, AVL.eNot, AVL.eIf, AVL.aNil, AVL.aCons, AVL.eBlt, lt_int, le_int, gt_int, ge_int, sub_int, add_int, neg_int, int_int, int_bl, eq_int, ne_int, len_lst, abs_int, ten18, pen0, pen1, pen2, pens1, pens2, AVL.gSub, AVL.eLst, AVL.lineOk, AVL.mkL, finF, AVL.eTup, AVL.eCall, g7, g8, rp, sizeLine_eq]

theorem st6 {i j a b : Int} {s : Str} (g3 : sl[3]? = some (some A3)) (g4 : sl[4]? = some (some A4))  (i30 : mIx A3 (.int 0) h = .ok (.int x1) h) (i31 : mIx A3 (.int 1) h = .ok (.int y1) h) (g7 : sl[7]? = some (some (.int a))) (g8 : sl[8]? = some (some (.int b)))
    (r1 : OO [A3, A4] h = .ok (.int i) h) (r2 : OO [A4, A3] h = .ok (.int j) h) (r3 : OO [A3, .tup [.int (x1 * 3), .int (y1 * 3)]] h = .ok (.int 0) h) (ei : i = (if b < a then 1 else 0) - (if a < b then 1 else 0)) (ej : j = (if a < b then 1 else 0) - (if b < a then 1 else 0))
    (rp : mRepr [.lst [.int i, .int j, .int 0]] h = .ok (.str s) h) (rq : mEq true (.str s) (.str s) h = .ok (.bl false) h)
    (mm5 : mMul false (.int x1) (.int 3) h = .ok (.int (x1 * 3)) h) (mm6 : mMul false (.int y1) (.int 3) h = .ok (.int (y1 * 3)) h) :
    (sIf (tV (eBin (mEq true) (eBlt mRepr (aCons (eLst false (aCons (eCall 2 OO (aCons (eVar 3) (aCons (eVar 4) (aNil)))) (aCons (eCall 2 OO (aCons (eVar 4) (aCons (eVar 3) (aNil)))) (aCons (eCall 2 OO (aCons (eVar 3) (aCons (eTup (aCons (eBin (mMul false) (eBin mIx (eVar 3) (eC (.int 0))) (eC (.int 3))) (aCons (eBin (mMul false) (eBin mIx (eVar 3) (eC (.int 1))) (eC (.int 3))) (aNil)))) (aNil)))) (aNil))))) (aNil))) (eBlt mRepr (aCons (eLst false (aCons (eBin mSub (eBlt mInt (aCons (eBin mGt (eVar 7) (eVar 8)) (aNil))) (eBlt mInt (aCons (eBin mLt (eVar 7) (eVar 8)) (aNil)))) (aCons (eBin mSub (eBlt mInt (aCons (eBin mGt (eVar 8) (eVar 7)) (aNil))) (eBlt mInt (aCons (eBin mLt (eVar 8) (eVar 7)) (aNil)))) (aCons (eC (.int 0)) (aNil))))) (aNil))))) (sRet (eC (.bl false))) (sNext)) sl h = .next sl h := by
  subst ei ej
  have e1 := st6a (s := s) g3 g4 i30 i31 r1 r2 r3 rp mm5 mm6
  have e2 := st6b (s := s) g7 g8 rp
  have e3 := (eBin_ok (m := mEq true) e1 e2).trans rq
  exact if_bl_no e3
theorem st7 {CP : EM} (e5 : DR [.ref 0, .int 5] h = .ok (.int d) h5) (bd : b62 d = true) (ll : (rangeL 0 d.toNat).length ≤ 16777216)
    (cp : compL okAll (AVL.gName 12) tTrue CP [v0, some (.ref 0), v2, o3, o4, o5, o6, o7, o8, o9, o10, o11, none, o13] (rangeL 0 d.toNat) [] h5 = .ok L h6) :
    (sPar [9, 10, 11] (aCons (eComp false (itRng1 (aCons (eCall 2 DR (aCons (eVar 1) (aCons (eC (.int 5)) (aNil)))) (aNil))) (AVL.gName 12) (tTrue) CP [12]) (aCons (eC (.int 0)) (aCons (eC (.int 1)) (aNil))))) [v0, some (.ref 0), v2, o3, o4, o5, o6, o7, o8, o9, o10, o11, o12, o13] h = .next [v0, some (.ref 0), v2, o3, o4, o5, o6, o7, o8, some (.lst L), some (.int 0), some (.int 1), o12, o13] h6 := by
  simp [AVL.sNext, AVL.sSeq, AVL.sRet, AVL.sRetN, AVL.sExpr, AVL.sIf, AVL.sBrk, AVL.sCont, AVL.sOpt, AVL.sAsg, AVL.gName, AVL.gsNil, AVL.gsCons, AVL.gTup, AVL.setAll, AVL.sPar, AVL.SRes.seq, AVL.Res.toS, AVL.Res.bind, AVL.eVar, AVL.eC, AVL.eBin, AVL.eUn, AVL.tV, AVL.tAnd, AVL.tOr, AVL.tNot, AVL.eAnd, AVL.eOr, AVL.eNot, AVL.eIf, AVL.aNil, AVL.aCons, AVL.eBlt, lt_int, le_int, gt_int, ge_int, sub_int, add_int, neg_int, int_int, int_bl, eq_int, ne_int, len_lst, abs_int, ten18, pen0, pen1, pen2, pens1, pens2, AVL.gSub, AVL.eLst, AVL.lineOk, AVL.mkL, finF, AVL.eTup, AVL.eCall, e5, bd, ll, cp, AVL.eComp, AVL.itRng1, AVL.wipeA, sizeLine_eq]
theorem st8 {TB : SM} {sl' : SL} (g9 : sl[9]? = some (some (.lst L))) (lp : forL (okL (.lst L) L) (AVL.gName 13) TB L sl h = .next sl' h) :
    sFor (itSeq (eVar 9)) (AVL.gName 13) TB sl h = .next sl' h := by
  simp [AVL.sNext, AVL.sSeq, AVL.sRet, AVL.sRetN, AVL.sExpr, AVL.sIf, AVL.sBrk, AVL.sCont, AVL.sOpt, AVL.sAsg, AVL.gName, AVL.gsNil, AVL.gsCons, AVL.gTup, AVL.setAll, AVL.sPar, AVL.SRes.seq, AVL.Res.toS, AVL.Res.bind, AVL.eVar, AVL.eC, AVL.eBin, AVL.eUn, AVL.tV, AVL.tAnd, AVL.tOr, AVL.tNot, AVL.eAnd, AVL.eOr, AVL.eNot, AVL.eIf, AVL.aNil, AVL.aCons, AVL.eBlt, lt_int, le_int, gt_int, ge_int, sub_int, add_int, neg_int, int_int, int_bl, eq_int, ne_int, len_lst, abs_int, ten18, pen0, pen1, pen2, pens1, pens2, AVL.gSub, AVL.eLst, AVL.lineOk, AVL.mkL, finF, AVL.eTup, AVL.eCall, g9, lp, AVL.sFor, AVL.itSeq, items_lst]
theorem st9 {T B : Int} (g9 : sl[9]? = some (some (.lst L))) (g10 : sl[10]? = some (some (.int T))) (g11 : sl[11]? = some (some (.int B))) (tt : TO [.lst L] h = .ok R h) (is3 : IS [R, .int T, .int B] h = .ok (.bl true) h) :
    (sIf (tNot (tV (eCall 3 IS (aCons (eCall 1 TO (aCons (eVar 9) (aNil))) (aCons (eVar 10) (aCons (eVar 11) (aNil))))))) (sRet (eC (.bl false))) (sNext)) sl h = .next sl h := by
  simp [AVL.sNext, AVL.sSeq, AVL.sRet, AVL.sRetN, AVL.sExpr, AVL.sIf, AVL.sBrk, AVL.sCont, AVL.sOpt, AVL.sAsg, AVL.gName, AVL.gsNil, AVL.gsCons, AVL.gTup, AVL.setAll, AVL.sPar, AVL.SRes.seq, AVL.Res.toS, AVL.Res.bind, AVL.eVar, AVL.eC, AVL.eBin, AVL.eUn, AVL.tV, AVL.tAnd, AVL.tOr, AVL.tNot, AVL.eAnd, AVL.eOr, AVL.eNot, AVL.eIf, AVL.aNil, AVL.aCons, AVL.eBlt, lt_int, le_int, gt_int, ge_int, sub_int, add_int, neg_int, int_int, int_bl, eq_int, ne_int, len_lst, abs_int, ten18, pen0, pen1, pen2, pens1, pens2, AVL.gSub, AVL.eLst, AVL.lineOk, AVL.mkL, finF, AVL.eTup, AVL.eCall, g9, g10, g11, tt, is3]
end
end Law

namespace Law
open PySem PySem.Spec L2 AVL
theorem turn_ok {c : List Int} (hc : CellsOk c) {N : Nat} {h : AH} (p0 : Pen c N h) (hN : N < 600000) {v0 v2 o3 o4 o5 o6 o7 o8 o9 o10 o11 o12 o13 : Option AV} :
    ∃ w3 w4 w5 w6 w7 w8 w9 w10 w11 w12 w13 h', turnB [v0, some (.ref 0), v2, o3, o4, o5, o6, o7, o8, o9, o10, o11, o12, o13] h = .next [v0, some (.ref 0), v2, w3, w4, w5, w6, w7, w8, w9, w10, w11, w12, w13] h' ∧ Pen c (N + 100) h' := by
  obtain ⟨x1, y1, h1, e1, p1, bx1, py1, by1⟩ := pair_ok hc p0 (by omega)
  obtain ⟨x2, y2, h2, e2, p2, bx2, py2, by2⟩ := pair_ok hc p1 (by omega)
  obtain ⟨p, h3, e3, p3, bp⟩ := number_ok hc p2 (by omega)
  obtain ⟨q, h4, e4, p4, bq⟩ := number_ok hc p3 (by omega)
  obtain ⟨d, h5, e5, p5, d0, d1⟩ := draw hc p4 (by omega) (many := 5) (by decide) (by decide)
  have up : (2 : Nat) ^ (210 + 210 + 1) ≤ 2 ^ 2000 := Nat.pow_le_pow_right (by decide) (by decide)
  have up2 : (2 : Nat) ^ (210 + 210) ≤ 2 ^ 2000 := Nat.pow_le_pow_right (by decide) (by decide)
  have up3 : (2 : Nat) ^ (210 + 210 + 1) = 2 * 2 ^ (210 + 210) := by rw [Nat.pow_succ, Nat.mul_comm]
  obtain ⟨u, z, a1, a2, a3, a4, a5, a6⟩ := added_ok (h := h4) (two_tup (x := x1) (y := y1)) (two_lst (x := x2) (y := y2)) py1 py2 bx1 by1 bx2 by2 (by decide) (by decide)
  obtain ⟨u', z', t1, t2, t3, t4, t5, t6⟩ := times_ok (h := h4) (two_lst (x := x1) (y := y1)) (two_tup (x := x2) (y := y2)) py1 py2 bx1 by1 bx2 by2 (by decide) (by decide)
  have w1 := pow_mul_lt bx1 by2
  have w2 := pow_mul_lt bx2 by1
  have w3 := pow_mul_lt by1 by2
  have w4 := pow_mul_lt bx1 bx2
  have is1 := is_ok (h := h4) a2 a3 a4 (by omega) (by omega) (by omega) (by omega)
  have is2 := is_ok (h := h4) t2 t3 t4 (by omega) (by omega) (by omega) (by omega)
  have r1 := order_ok (h := h4) (two_tup (x := x1) (y := y1)) (two_tup (x := x2) (y := y2)) py1 py2 (Nat.lt_of_lt_of_le bx1 (Nat.pow_le_pow_right (by decide) (by decide))) (Nat.lt_of_lt_of_le by1 (Nat.pow_le_pow_right (by decide) (by decide))) (Nat.lt_of_lt_of_le bx2 (Nat.pow_le_pow_right (by decide) (by decide))) (Nat.lt_of_lt_of_le by2 (Nat.pow_le_pow_right (by decide) (by decide)))
  have r2 := order_ok (h := h4) (two_tup (x := x2) (y := y2)) (two_tup (x := x1) (y := y1)) py2 py1 (Nat.lt_of_lt_of_le bx2 (Nat.pow_le_pow_right (by decide) (by decide))) (Nat.lt_of_lt_of_le by2 (Nat.pow_le_pow_right (by decide) (by decide))) (Nat.lt_of_lt_of_le bx1 (Nat.pow_le_pow_right (by decide) (by decide))) (Nat.lt_of_lt_of_le by1 (Nat.pow_le_pow_right (by decide) (by decide)))
  have k1 : (x1 * 3).natAbs < 2 ^ 220 := by omega
  have k2 : (y1 * 3).natAbs < 2 ^ 220 := by omega
  have r3 := order_ok (h := h4) (two_tup (x := x1) (y := y1)) (two_tup (x := x1 * 3) (y := y1 * 3)) py1 (by omega) (Nat.lt_of_lt_of_le bx1 (Nat.pow_le_pow_right (by decide) (by decide))) (Nat.lt_of_lt_of_le by1 (Nat.pow_le_pow_right (by decide) (by decide))) (Nat.lt_of_lt_of_le k1 (Nat.pow_le_pow_right (by decide) (by decide))) (Nat.lt_of_lt_of_le k2 (Nat.pow_le_pow_right (by decide) (by decide)))
  have sm : x1 * 3 * y1 = x1 * (y1 * 3) := by simp only [Int.mul_assoc, Int.mul_comm, Int.mul_left_comm]
  rw [sm] at r3
  simp only [Int.lt_irrefl, if_false, Int.sub_self] at r3
  obtain ⟨sr, rp, rq⟩ := repr_ok (h := h4) (i := (if x2 * y1 < x1 * y2 then 1 else 0) - (if x1 * y2 < x2 * y1 then 1 else 0)) (j := (if x1 * y2 < x2 * y1 then 1 else 0) - (if x2 * y1 < x1 * y2 then 1 else 0)) (by split <;> split <;> simp [AVL.sNext, AVL.sSeq, AVL.sRet, AVL.sRetN, AVL.sExpr, AVL.sIf, AVL.sBrk, AVL.sCont, AVL.sOpt, AVL.sAsg, AVL.gName, AVL.gsNil, AVL.gsCons, AVL.gTup, AVL.setAll, AVL.sPar, AVL.SRes.seq, AVL.Res.toS, AVL.Res.bind, AVL.eVar, AVL.eC, AVL.eBin, AVL.eUn, AVL.tV, AVL.tAnd, AVL.tOr, AVL.tNot, AVL.eAnd, AVL.eOr, AVL.eNot, AVL.eIf, AVL.aNil, AVL.aCons, AVL.eBlt, lt_int, le_int, gt_int, ge_int, sub_int, add_int, neg_int, int_int, int_bl, eq_int, ne_int, len_lst, abs_int, ten18, pen0, pen1, pen2, pens1, pens2, AVL.gSub, AVL.eLst, AVL.lineOk, AVL.mkL, finF, AVL.eTup, AVL.eCall]) (by split <;> split <;> simp [AVL.sNext, AVL.sSeq, AVL.sRet, AVL.sRetN, AVL.sExpr, AVL.sIf, AVL.sBrk, AVL.sCont, AVL.sOpt, AVL.sAsg, AVL.gName, AVL.gsNil, AVL.gsCons, AVL.gTup, AVL.setAll, AVL.sPar, AVL.SRes.seq, AVL.Res.toS, AVL.Res.bind, AVL.eVar, AVL.eC, AVL.eBin, AVL.eUn, AVL.tV, AVL.tAnd, AVL.tOr, AVL.tNot, AVL.eAnd, AVL.eOr, AVL.eNot, AVL.eIf, AVL.aNil, AVL.aCons, AVL.eBlt, lt_int, le_int, gt_int, ge_int, sub_int, add_int, neg_int, int_int, int_bl, eq_int, ne_int, len_lst, abs_int, ten18, pen0, pen1, pen2, pens1, pens2, AVL.gSub, AVL.eLst, AVL.lineOk, AVL.mkL, finF, AVL.eTup, AVL.eCall])
  obtain ⟨ps, h6, cp, p6, pl, pa⟩ := comp_pairs hc (slw := [v0, some (.ref 0), v2, some (.tup [.int x1, .int y1]), some (.tup [.int x2, .int y2]), some (.int p), some (.int q), some (.int (x1 * y2)), some (.int (x2 * y1)), o9, o10, o11, none, o13]) rfl rfl (rangeL 0 d.toNat) _ h5 [] p5 (by simp [AVL.sNext, AVL.sSeq, AVL.sRet, AVL.sRetN, AVL.sExpr, AVL.sIf, AVL.sBrk, AVL.sCont, AVL.sOpt, AVL.sAsg, AVL.gName, AVL.gsNil, AVL.gsCons, AVL.gTup, AVL.setAll, AVL.sPar, AVL.SRes.seq, AVL.Res.toS, AVL.Res.bind, AVL.eVar, AVL.eC, AVL.eBin, AVL.eUn, AVL.tV, AVL.tAnd, AVL.tOr, AVL.tNot, AVL.eAnd, AVL.eOr, AVL.eNot, AVL.eIf, AVL.aNil, AVL.aCons, AVL.eBlt, lt_int, le_int, gt_int, ge_int, sub_int, add_int, neg_int, int_int, int_bl, eq_int, ne_int, len_lst, abs_int, ten18, pen0, pen1, pen2, pens1, pens2, AVL.gSub, AVL.eLst, AVL.lineOk, AVL.mkL, finF, AVL.eTup, AVL.eCall, rangeL]; omega) (by simp [AVL.sNext, AVL.sSeq, AVL.sRet, AVL.sRetN, AVL.sExpr, AVL.sIf, AVL.sBrk, AVL.sCont, AVL.sOpt, AVL.sAsg, AVL.gName, AVL.gsNil, AVL.gsCons, AVL.gTup, AVL.setAll, AVL.sPar, AVL.SRes.seq, AVL.Res.toS, AVL.Res.bind, AVL.eVar, AVL.eC, AVL.eBin, AVL.eUn, AVL.tV, AVL.tAnd, AVL.tOr, AVL.tNot, AVL.eAnd, AVL.eOr, AVL.eNot, AVL.eIf, AVL.aNil, AVL.aCons, AVL.eBlt, lt_int, le_int, gt_int, ge_int, sub_int, add_int, neg_int, int_int, int_bl, eq_int, ne_int, len_lst, abs_int, ten18, pen0, pen1, pen2, pens1, pens2, AVL.gSub, AVL.eLst, AVL.lineOk, AVL.mkL, finF, AVL.eTup, AVL.eCall])
  have pl4 : ps.length ≤ 4 := by rw [pl]; simp [AVL.sNext, AVL.sSeq, AVL.sRet, AVL.sRetN, AVL.sExpr, AVL.sIf, AVL.sBrk, AVL.sCont, AVL.sOpt, AVL.sAsg, AVL.gName, AVL.gsNil, AVL.gsCons, AVL.gTup, AVL.setAll, AVL.sPar, AVL.SRes.seq, AVL.Res.toS, AVL.Res.bind, AVL.eVar, AVL.eC, AVL.eBin, AVL.eUn, AVL.tV, AVL.tAnd, AVL.tOr, AVL.tNot, AVL.eAnd, AVL.eOr, AVL.eNot, AVL.eIf, AVL.aNil, AVL.aCons, AVL.eBlt, lt_int, le_int, gt_int, ge_int, sub_int, add_int, neg_int, int_int, int_bl, eq_int, ne_int, len_lst, abs_int, ten18, pen0, pen1, pen2, pens1, pens2, AVL.gSub, AVL.eLst, AVL.lineOk, AVL.mkL, finF, AVL.eTup, AVL.eCall, rangeL]; omega
  obtain ⟨o', lp, s1, s2⟩ := top_loop (h := h6) (v0 := v0) (v1 := some (.ref 0)) (v2 := v2) (v3 := some (.tup [.int x1, .int y1])) (v4 := some (.tup [.int x2, .int y2])) (v5 := some (.int p)) (v6 := some (.int q)) (v7 := some (.int (x1 * y2))) (v8 := some (.int (x2 * y1))) (v9 := some (.lst (ps.map tp))) (v12 := o12) ps 0 1 1 o13 pa (by decide) (by decide) (by omega) (okL (.lst (ps.map tp)) (ps.map tp)) okL_lst
  obtain ⟨u3, z3, tt, vv⟩ := total_ok (h := h6) pa pl4
  have up4 : (2 : Nat) ^ (1 + 211 * ps.length) ≤ 2 ^ 2000 := Nat.pow_le_pow_right (by decide) (by omega)
  have up5 : (2 : Nat) ^ 900 ≤ 2 ^ 2000 := Nat.pow_le_pow_right (by decide) (by decide)
  have is3 := is_ok (h := h6) vv.pos vv.cop vv.eq (by have := vv.su; omega) (by have := vv.sz; omega) (by omega) (by omega)
  refine ⟨some (.tup [.int x1, .int y1]), some (.tup [.int x2, .int y2]), some (.int p), some (.int q), some (.int (x1 * y2)), some (.int (x2 * y1)), some (.lst (ps.map tp)), some (.int (foldP ps (0, 1)).1), some (.int (foldP ps (0, 1)).2), o12, o', h6, ?_, p6.mono (by simp [AVL.sNext, AVL.sSeq, AVL.sRet, AVL.sRetN, AVL.sExpr, AVL.sIf, AVL.sBrk, AVL.sCont, AVL.sOpt, AVL.sAsg, AVL.gName, AVL.gsNil, AVL.gsCons, AVL.gTup, AVL.setAll, AVL.sPar, AVL.SRes.seq, AVL.Res.toS, AVL.Res.bind, AVL.eVar, AVL.eC, AVL.eBin, AVL.eUn, AVL.tV, AVL.tAnd, AVL.tOr, AVL.tNot, AVL.eAnd, AVL.eOr, AVL.eNot, AVL.eIf, AVL.aNil, AVL.aCons, AVL.eBlt, lt_int, le_int, gt_int, ge_int, sub_int, add_int, neg_int, int_int, int_bl, eq_int, ne_int, len_lst, abs_int, ten18, pen0, pen1, pen2, pens1, pens2, AVL.gSub, AVL.eLst, AVL.lineOk, AVL.mkL, finF, AVL.eTup, AVL.eCall, rangeL]; omega)⟩
  have i0 : ∀ (x y : Int) (h : AH), mIx (.tup [.int x, .int y]) (.int 0) h = .ok (.int x) h := fun _ _ _ => rfl
  have i1 : ∀ (x y : Int) (h : AH), mIx (.tup [.int x, .int y]) (.int 1) h = .ok (.int y) h := fun _ _ _ => rfl
  have li : ∀ (x y : Int) (h : AH), mList false [.tup [.int x, .int y]] h = .ok (.lst [.int x, .int y]) h := fun _ _ _ => rfl
  have mm1 : mMul false (.int x1) (.int y2) h4 = .ok (.int (x1 * y2)) h4 := mul_int' (mulOk_of bx1 by2 (by decide))
  have mm2 : mMul false (.int x2) (.int y1) h4 = .ok (.int (x2 * y1)) h4 := mul_int' (mulOk_of bx2 by1 (by decide))
  have mm3 : mMul false (.int y1) (.int y2) h4 = .ok (.int (y1 * y2)) h4 := mul_int' (mulOk_of by1 by2 (by decide))
  have mm4 : mMul false (.int x1) (.int x2) h4 = .ok (.int (x1 * x2)) h4 := mul_int' (mulOk_of bx1 bx2 (by decide))
  have mm5 : mMul false (.int x1) (.int 3) h4 = .ok (.int (x1 * 3)) h4 := mul_int' (mulOk_of bx1 (b := 2) (by decide) (by decide))
  have mm6 : mMul false (.int y1) (.int 3) h4 = .ok (.int (y1 * 3)) h4 := mul_int' (mulOk_of by1 (b := 2) (by decide) (by decide))
  have bd : b62 d = true := by unfold b62; simp [AVL.sNext, AVL.sSeq, AVL.sRet, AVL.sRetN, AVL.sExpr, AVL.sIf, AVL.sBrk, AVL.sCont, AVL.sOpt, AVL.sAsg, AVL.gName, AVL.gsNil, AVL.gsCons, AVL.gTup, AVL.setAll, AVL.sPar, AVL.SRes.seq, AVL.Res.toS, AVL.Res.bind, AVL.eVar, AVL.eC, AVL.eBin, AVL.eUn, AVL.tV, AVL.tAnd, AVL.tOr, AVL.tNot, AVL.eAnd, AVL.eOr, AVL.eNot, AVL.eIf, AVL.aNil, AVL.aCons, AVL.eBlt, lt_int, le_int, gt_int, ge_int, sub_int, add_int, neg_int, int_int, int_bl, eq_int, ne_int, len_lst, abs_int, ten18, pen0, pen1, pen2, pens1, pens2, AVL.gSub, AVL.eLst, AVL.lineOk, AVL.mkL, finF, AVL.eTup, AVL.eCall]; omega
  have ll : (rangeL 0 d.toNat).length ≤ 16777216 := by simp [AVL.sNext, AVL.sSeq, AVL.sRet, AVL.sRetN, AVL.sExpr, AVL.sIf, AVL.sBrk, AVL.sCont, AVL.sOpt, AVL.sAsg, AVL.gName, AVL.gsNil, AVL.gsCons, AVL.gTup, AVL.setAll, AVL.sPar, AVL.SRes.seq, AVL.Res.toS, AVL.Res.bind, AVL.eVar, AVL.eC, AVL.eBin, AVL.eUn, AVL.tV, AVL.tAnd, AVL.tOr, AVL.tNot, AVL.eAnd, AVL.eOr, AVL.eNot, AVL.eIf, AVL.aNil, AVL.aCons, AVL.eBlt, lt_int, le_int, gt_int, ge_int, sub_int, add_int, neg_int, int_int, int_bl, eq_int, ne_int, len_lst, abs_int, ten18, pen0, pen1, pen2, pens1, pens2, AVL.gSub, AVL.eLst, AVL.lineOk, AVL.mkL, finF, AVL.eTup, AVL.eCall, rangeL]; omega
  have lw : q ≠ 0 → _ := fun hq => lowest_is (h := h4) (p := p) hq bp bq
  simp only [List.map_nil] at cp
  unfold turnB
  refine (seq_next (st1 e1 e2 e3 e4)).trans ?_
  refine (seq_next (st2 rfl rfl lw)).trans ?_
  refine (seq_next (st3 rfl rfl (i0 _ _ _) (i1 _ _ _) (i0 _ _ _) (i1 _ _ _) (li _ _ _) a1 is1 mm1 mm2 mm3)).trans ?_
  refine (seq_next (st4 rfl rfl (i0 _ _ _) (i1 _ _ _) (i0 _ _ _) (i1 _ _ _) (li _ _ _) t1 is2 mm4 mm3)).trans ?_
  refine (seq_next (st5 (i0 _ _ _) (i1 _ _ _) (i0 _ _ _) (i1 _ _ _) mm1 mm2)).trans ?_
  refine (seq_next (st6 rfl rfl (i0 _ _ _) (i1 _ _ _) rfl rfl r1 r2 r3 rfl rfl rp rq mm5 mm6)).trans ?_
  refine (seq_next (st7 e5 bd ll cp)).trans ?_
  refine (seq_next (st8 rfl lp)).trans ?_
  exact st9 rfl rfl rfl tt is3
end Law

namespace Law
open PySem PySem.Spec L2 AVL
theorem turns {c : List Int} (hc : CellsOk c) {v0 : Option AV} : ∀ (l : List AV) (N : Nat) (h : AH) (o2 o3 o4 o5 o6 o7 o8 o9 o10 o11 o12 o13 : Option AV), Pen c N h → N + 100 * l.length < 600000 →
    ∃ w2 w3 w4 w5 w6 w7 w8 w9 w10 w11 w12 w13 h', forL okAll (AVL.gName 2) turnB l [v0, some (.ref 0), o2, o3, o4, o5, o6, o7, o8, o9, o10, o11, o12, o13] h = .next [v0, some (.ref 0), w2, w3, w4, w5, w6, w7, w8, w9, w10, w11, w12, w13] h' ∧ Pen c (N + 100 * l.length) h'
  | [], N, h, o2, o3, o4, o5, o6, o7, o8, o9, o10, o11, o12, o13, p, _ => ⟨o2, o3, o4, o5, o6, o7, o8, o9, o10, o11, o12, o13, h, by simp [AVL.sNext, AVL.sSeq, AVL.sRet, AVL.sRetN, AVL.sExpr, AVL.sIf, AVL.sBrk, AVL.sCont, AVL.sOpt, AVL.sAsg, AVL.gName, AVL.gsNil, AVL.gsCons, AVL.gTup, AVL.setAll, AVL.sPar, AVL.SRes.seq, AVL.Res.toS, AVL.Res.bind, AVL.eVar, AVL.eC, AVL.eBin, AVL.eUn, AVL.tV, AVL.tAnd, AVL.tOr, AVL.tNot, AVL.eAnd, AVL.eOr, AVL.eNot, AVL.eIf, AVL.aNil, AVL.aCons, AVL.eBlt, lt_int, le_int, gt_int, ge_int, sub_int, add_int, neg_int, int_int, int_bl, eq_int, ne_int, len_lst, abs_int, ten18, pen0, pen1, pen2, pens1, pens2, AVL.gSub, AVL.eLst, AVL.lineOk, AVL.mkL, finF, AVL.eTup, AVL.eCall, AVL.forL, AVL.okAll], p⟩
  | y :: r, N, h, o2, o3, o4, o5, o6, o7, o8, o9, o10, o11, o12, o13, p, hN => by
    simp only [List.length_cons] at hN ⊢
    obtain ⟨w3, w4, w5, w6, w7, w8, w9, w10, w11, w12, w13, h1, e, p1⟩ := turn_ok hc p (by omega) (v0 := v0) (v2 := some y) (o3 := o3) (o4 := o4) (o5 := o5) (o6 := o6) (o7 := o7) (o8 := o8) (o9 := o9) (o10 := o10) (o11 := o11) (o12 := o12) (o13 := o13)
    obtain ⟨u2, u3, u4, u5, u6, u7, u8, u9, u10, u11, u12, u13, h2, f, p2⟩ := turns hc (v0 := v0) r (N + 100) h1 (some y) w3 w4 w5 w6 w7 w8 w9 w10 w11 w12 w13 p1 (by omega)
    refine ⟨u2, u3, u4, u5, u6, u7, u8, u9, u10, u11, u12, u13, h2, ?_, p2.mono (by omega)⟩
    generalize turnB = TB at *
    simp only [AVL.forL, AVL.okAll, if_true]
    simp [AVL.sNext, AVL.sSeq, AVL.sRet, AVL.sRetN, AVL.sExpr, AVL.sIf, AVL.sBrk, AVL.sCont, AVL.sOpt, AVL.sAsg, AVL.gName, AVL.gsNil, AVL.gsCons, AVL.gTup, AVL.setAll, AVL.sPar, AVL.SRes.seq, AVL.Res.toS, AVL.Res.bind, AVL.eVar, AVL.eC, AVL.eBin, AVL.eUn, AVL.tV, AVL.tAnd, AVL.tOr, AVL.tNot, AVL.eAnd, AVL.eOr, AVL.eNot, AVL.eIf, AVL.aNil, AVL.aCons, AVL.eBlt, lt_int, le_int, gt_int, ge_int, sub_int, add_int, neg_int, int_int, int_bl, eq_int, ne_int, len_lst, abs_int, ten18, pen0, pen1, pen2, pens1, pens2, AVL.gSub, AVL.eLst, AVL.lineOk, AVL.mkL, finF, AVL.eTup, AVL.eCall]
    rw [e]
    exact f
end Law

namespace Law
open PySem PySem.Spec L2 AVL
theorem asg_ok {e : EM} {sl : SL} {h h1 : AH} {v : AV} {i : Nat} (a : e sl h = .ok v h1) : sAsg e (AVL.gName i) sl h = .next (sl.set i (some v)) h1 := by
  unfold sAsg
  rw [a]; rfl
theorem for_ok {it : IM} {g : GM} {b : SM} {sl sl' : SL} {h h1 h2 : AH} {l : List AV} {ok : AH → Bool} (a : it sl h = .ok (l, ok) h1) (e : forL ok g b l sl h1 = .next sl' h2) : sFor it g b sl h = .next sl' h2 := by
  unfold sFor
  rw [a]; exact e
theorem ret_ok {e : EM} {sl : SL} {h h1 : AH} {v : AV} (a : e sl h = .ok v h1) : sRet e sl h = .ret v h1 := by
  unfold sRet
  rw [a]; rfl
theorem range6 {sl : SL} {h : AH} : itRng1 (aCons (eC (.int 6)) (aNil)) sl h = .ok (rangeL 0 6, okAll) h := by
  unfold itRng1
  rfl
theorem law_true (ns : List Int) (h1 : ns.length ≤ 63) (h2 : ∀ z ∈ ns, Builtin.Int.intBits z ≤ 1048576) : ∃ h, m_law [.klst (ns.map .int)] [] = .ok (.bl true) h := by
  have hc : CellsOk ns := ⟨h1, fun z hz => PySem.intBits_le_iff.mp (h2 z hz)⟩
  have p0 : Pen ns 0 (pen ns 0 0) := ⟨0, 0, rfl, by decide, by decide, by decide, Nat.two_pow_pos _⟩
  have a1 := pen_start hc
  have l6 : (rangeL 0 6).length = 6 := by simp [rangeL]
  obtain ⟨w2, w3, w4, w5, w6, w7, w8, w9, w10, w11, w12, w13, h', e, p⟩ := turns hc (v0 := some (.klst (ns.map .int))) (rangeL 0 6) 0 _ none none none none none none none none none none none none p0 (by omega)
  obtain ⟨h'', r, _⟩ := refused_ok hc p (by omega)
  have st : b_law [some (.klst (ns.map .int)), none, none, none, none, none, none, none, none, none, none, none, none, none] [] = .ret (.bl true) h'' := by
    rw [law_split]
    refine (seq_next (asg_ok (eCall1_ok (eVar_ok rfl) a1))).trans ?_
    refine (seq_next (for_ok range6 e)).trans ?_
    exact ret_ok (eCall1_ok (eVar_ok rfl) r)
  refine ⟨h''.take 0, ?_⟩
  unfold m_law mkF
  show finF _ _ (b_law [some (.klst (ns.map .int)), none, none, none, none, none, none, none, none, none, none, none, none, none] []) = _
  rw [st]
  rfl
end Law

open PySem PySem.W PySem.Calls PyProof.Rows
theorem PySem.Challenge.cw_roundflatwild_k01_fractions_of_any_size_holds : PySem.Challenge.rw_roundflatwild_k01_fractions_of_any_size.Holds := by
  w_on; o_law
  refine HandSHeadRun.head_imp (r := OpenLaw.row PySem.Challenge.rw_roundflatwild_k01_fractions_of_any_size) (q := view (OpenLaw.row PySem.Challenge.rw_roundflatwild_k01_fractions_of_any_size).prog [0, 27]) (H := Law.hk) (ob := Law.ob) (M := 20000) (loose := Law.looseL) (d := HandSHeadRun.topDef (OpenLaw.row PySem.Challenge.rw_roundflatwild_k01_fractions_of_any_size).prog 27) (kwd := []) Law.ob_eq
    Law.run (by kernel_rfl) (by kernel_rfl) (by kernel_rfl) (by rfl) (by first | assumption | decide +kernel) (by decide +kernel) ⟨rfl, rfl, rfl, rfl, rfl, by decide +kernel⟩ ?hw (Law.law_holds Law.law_true)
  case hw => w_witness2

