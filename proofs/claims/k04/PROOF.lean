import PyProof.Rows.All
import Wide.All
import OpenK.AllK
import Wide.FinOn
import HandS.ForMost
import HandS.Exc
import HandS.TryOnly
import HandS.ExcOwn
import HandS.WordsExc
import HandS.IsInst
import HandS.Wide
import HandS.ExcIs
import HandS.Comp
import HandS.Conv
import HandS.OwnIter
import HandS.WideBits
import PySem.Challenge.RW_lampcrossings_k04_beats_windows
set_option Elab.async false
set_option maxRecDepth 100000
set_option maxHeartbeats 2000000
set_option autoImplicit false
/-! VS1: represented data in the place of heaps: slots, what stands in them, and the judgements over them. -/
namespace VS
open PySem L2
abbrev Fg := PySem.W.Frag

/-- data that a value stands for -/
class Rp (α : Type) where
  rp : Fg → Hp → V → α → Prop
  mono : ∀ {K : Fg} {H H' : Hp} {v : V} {a : α}, Same H H' → rp K H v a → rp K H' v a

theorem paired_imp {α β : Type} {F G : α → β → Prop} (h : ∀ a b, F a b → G a b) : ∀ {l : List α} {m : List β}, Paired F l m → Paired G l m
  | _, _, .nil => .nil
  | _, _, .cons r t => .cons (h _ _ r) (paired_imp h t)
theorem paired_get {α β : Type} {F : α → β → Prop} : ∀ {l : List α} {m : List β} {i : Nat} {b : β}, Paired F l m → m[i]? = some b → ∃ a, l[i]? = some a ∧ F a b
  | _, _, _, _, .nil, h => by simp at h
  | _, _, 0, b, .cons r t, h => by simp at h; subst h; exact ⟨_, rfl, r⟩
  | _, _, i + 1, b, .cons r t, h => by
    obtain ⟨a, h1, h2⟩ := paired_get (i := i) t (by simpa using h)
    exact ⟨a, by simpa using h1, h2⟩
theorem paired_get' {α β : Type} {F : α → β → Prop} : ∀ {l : List α} {m : List β} {i : Nat} {a : α}, Paired F l m → l[i]? = some a → ∃ b, m[i]? = some b ∧ F a b
  | _, _, _, _, .nil, h => by simp at h
  | _, _, 0, b, .cons r t, h => by simp at h; subst h; exact ⟨_, rfl, r⟩
  | _, _, i + 1, b, .cons r t, h => by
    obtain ⟨a, h1, h2⟩ := paired_get' (i := i) t (by simpa using h)
    exact ⟨a, by simpa using h1, h2⟩
theorem paired_len {α β : Type} {F : α → β → Prop} {l : List α} {m : List β} (p : Paired F l m) : l.length = m.length := Paired.length p
theorem paired_app {α β : Type} {F : α → β → Prop} : ∀ {l l' : List α} {m m' : List β}, Paired F l m → Paired F l' m' → Paired F (l ++ l') (m ++ m')
  | _, _, _, _, .nil, q => q
  | _, _, _, _, .cons r t, q => .cons r (paired_app t q)
theorem paired_set {α β : Type} {F : α → β → Prop} {a : α} {b : β} (r : F a b) : ∀ {l : List α} {m : List β} (i : Nat), Paired F l m → Paired F (l.set i a) (m.set i b)
  | _, _, _, .nil => .nil
  | _, _, 0, .cons _ t => .cons r t
  | _, _, i + 1, .cons q t => .cons q (paired_set r i t)
theorem paired_take {α β : Type} {F : α → β → Prop} : ∀ {l : List α} {m : List β} (n : Nat), Paired F l m → Paired F (l.take n) (m.take n)
  | _, _, 0, _ => .nil
  | _, _, _ + 1, .nil => .nil
  | _, _, n + 1, .cons r t => .cons r (paired_take n t)
theorem paired_drop {α β : Type} {F : α → β → Prop} : ∀ {l : List α} {m : List β} (n : Nat), Paired F l m → Paired F (l.drop n) (m.drop n)
  | _, _, 0, r => r
  | _, _, _ + 1, .nil => .nil
  | _, _, n + 1, .cons _ t => paired_drop n t

theorem same_upd {H : Hp} {p : Addr} {o : HO} (h : H p = none) : Same H (upd H p o) := fun b u e => by rw [upd_ne (ne_of_none e h)]; exact e
theorem same_upd2 {H H' : Hp} {p : Addr} {o : HO} (s : Same H H') : Same (upd H p o) (upd H' p o) := fun b u e => by
  by_cases hb : b = p
  · subst hb; rw [upd_same] at e ⊢; exact e
  · rw [upd_ne hb] at e ⊢; exact s b u e
theorem seqT_mono {K : Fg} {H H' : Hp} {a : Addr} {xs : List V} (e : Same H H') (h : SqT K H a xs) : SqT K H' a xs := by
  rcases h with (h | ⟨o, h⟩) | h
  · exact .inl (.inl (e _ _ h))
  · exact .inl (.inr ⟨o, e _ _ h⟩)
  · exact .inr h

/-! ### data -/
instance rInt : Rp Int := ⟨fun _ _ v a => v = .int a, fun _ h => h⟩
instance rBool : Rp Bool := ⟨fun _ _ v a => v = .bl a, fun _ h => h⟩
instance rStr : Rp Str := ⟨fun _ _ v a => v = .str a, fun _ h => h⟩
instance rNone : Rp Unit := ⟨fun _ _ v _ => v = .non, fun _ h => h⟩
section
variable {α β γ : Type}
instance rList [r : Rp α] : Rp (List α) := ⟨fun K H v xs => ∃ a vs, v = .ref a ∧ H a = some (.lst vs) ∧ Paired (r.rp K H) vs xs,
  fun e ⟨a, vs, h1, h2, h3⟩ => ⟨a, vs, h1, e _ _ h2, paired_imp (fun _ _ h => r.mono e h) h3⟩⟩
/-- the script: a list that is read alone -/
structure Scr where
  l : List Int
instance rScr : Rp Scr := ⟨fun K H v xs => ∃ a, v = .ref a ∧ SqL K H a (xs.l.map V.int), fun e ⟨a, h1, h2⟩ => ⟨a, h1, e.seq h2⟩⟩
/-- a tuple of any length -/
structure Tup (α : Type) where
  l : List α
instance rTup [r : Rp α] : Rp (Tup α) := ⟨fun K H v xs => ∃ a vs, v = .ref a ∧ H a = some (.tup vs) ∧ Paired (r.rp K H) vs xs.l,
  fun e ⟨a, vs, h1, h2, h3⟩ => ⟨a, vs, h1, e _ _ h2, paired_imp (fun _ _ h => r.mono e h) h3⟩⟩
instance rPair [r : Rp α] [s : Rp β] : Rp (α × β) := ⟨fun K H v x => ∃ a v1 v2, v = .ref a ∧ H a = some (.tup [v1, v2]) ∧ r.rp K H v1 x.1 ∧ s.rp K H v2 x.2,
  fun e ⟨a, v1, v2, h1, h2, h3, h4⟩ => ⟨a, v1, v2, h1, e _ _ h2, r.mono e h3, s.mono e h4⟩⟩
structure T3 (α β γ : Type) where
  a : α
  b : β
  c : γ
instance rT3 [r : Rp α] [s : Rp β] [t : Rp γ] : Rp (T3 α β γ) := ⟨fun K H v x => ∃ a v1 v2 v3, v = .ref a ∧ H a = some (.tup [v1, v2, v3]) ∧ r.rp K H v1 x.a ∧ s.rp K H v2 x.b ∧ t.rp K H v3 x.c,
  fun e ⟨a, v1, v2, v3, h1, h2, h3, h4, h5⟩ => ⟨a, v1, v2, v3, h1, e _ _ h2, r.mono e h3, s.mono e h4, t.mono e h5⟩⟩
instance rOpt [r : Rp α] : Rp (Option α) := ⟨fun K H v o => match o with | none => v = .non | some a => v ≠ .non ∧ r.rp K H v a,
  fun {K H H' v o} e h => by
    cases o with
    | none => exact h
    | some a => exact ⟨h.1, r.mono e h.2⟩⟩
end

/-! ### slots -/
/-- what is owned: its addresses, and what stands there (Hb: the data's ground; H: the whole) -/
structure Res where
  as : List Addr
  R : Fg → Hp → Hp → Prop
  stab : ∀ {K : Fg} {Hb H Hb' H' : Hp}, Same Hb Hb' → (∀ a, a ∈ as → H' a = H a) → R K Hb H → R K Hb' H'
/-- a list that is owned -/
def Res.lst {α : Type} (i : Rp α) (xs : List α) (l : Addr) : Res := ⟨[l], fun K Hb H => ∃ vs, H l = some (.lst vs) ∧ Paired (i.rp K Hb) vs xs,
  fun e k ⟨vs, h1, h2⟩ => ⟨vs, by rw [k _ (List.mem_singleton.mpr rfl)]; exact h1, paired_imp (fun _ _ h => i.mono e h) h2⟩⟩
inductive Slot : Type 1 where
  | val {α : Type} (i : Rp α) (a : α)
  | own (p : Bool) (l : Addr) (r : Res)
  | rf (l : Addr)
  | no
def slotOk (K : Fg) (Hb H : Hp) : Slot → Option V → Prop
  | .val i a, o => ∃ v, o = some v ∧ i.rp K Hb v a
  | .own _ l r, o => o = some (.ref l) ∧ r.R K Hb H
  | .rf l, o => o = some (.ref l)
  | .no, _ => True
/-- where a def began: the heap, its arguments' ground, what is owned by arguments -/
structure Bs where
  H : Hp
  Hb : Hp
  F : Addr → Prop
structure Reps (K : Fg) (B : Bs) (Γ : List Slot) (Hb H : Hp) (σ : St) : Prop where
  len : σ.length = Γ.length
  sub : Same Hb H
  b0 : Same B.Hb Hb
  fr : ∀ a o, B.H a = some o → ¬ B.F a → H a = some o
  al : ∀ a, B.H a ≠ none → H a ≠ none
  dis : ∀ a, B.H a ≠ none → B.Hb a = none → Hb a = none
  ok : ∀ (i : Nat) (s : Slot), Γ[i]? = some s → slotOk K Hb H s (σ[i]?.join)
  foot : ∀ (i : Nat) (p : Bool) (l : Addr) (r : Res) (a : Addr), Γ[i]? = some (.own p l r) → a ∈ r.as → H a ≠ none ∧ Hb a = none ∧ (B.H a = none ∨ (p = true ∧ B.F a))
  apart : ∀ (i j : Nat) (p : Bool) (l : Addr) (r : Res) (p' : Bool) (l' : Addr) (r' : Res) (a : Addr), Γ[i]? = some (.own p l r) → Γ[j]? = some (.own p' l' r') → a ∈ r.as → a ∈ r'.as → i = j

section
variable {K : Fg} {B : Bs} {Γ Γ' : List Slot} {Hb H Hb' H' : Hp} {σ σ' τ τ' : St}
/-- the same heaps, other slots: the owned ones are some of those before -/
theorem Reps.re (h : Reps K B Γ Hb H σ) (hl : σ'.length = Γ'.length) (hok : ∀ (i : Nat) (s : Slot), Γ'[i]? = some s → slotOk K Hb H s (σ'[i]?.join)) (f : Nat → Nat)
    (hf : ∀ (i : Nat) (p : Bool) (l : Addr) (r : Res), Γ'[i]? = some (.own p l r) → Γ[f i]? = some (.own p l r)) (inj : ∀ (i j : Nat) (p : Bool) (l : Addr) (r : Res) (p' : Bool) (l' : Addr) (r' : Res), Γ'[i]? = some (.own p l r) → Γ'[j]? = some (.own p' l' r') → f i = f j → i = j) : Reps K B Γ' Hb H σ' :=
  ⟨hl, h.sub, h.b0, h.fr, h.al, h.dis, hok, fun i p l r a e m => h.foot (f i) p l r a (hf i p l r e) m,
    fun i j p l r p' l' r' a e e' m m' => inj i j p l r p' l' r' e e' (h.apart (f i) (f j) p l r p' l' r' a (hf _ _ _ _ e) (hf _ _ _ _ e') m m')⟩
theorem slotOk.mono {s : Slot} {o : Option V} (e : Same Hb Hb') (k : ∀ p l r, s = .own p l r → ∀ a, a ∈ r.as → H' a = H a) (h : slotOk K Hb H s o) : slotOk K Hb' H' s o := by
  cases s with
  | val i a => obtain ⟨v, e1, e2⟩ := h; exact ⟨v, e1, i.mono e e2⟩
  | own p l r => exact ⟨h.1, r.stab e (k p l r rfl) h.2⟩
  | rf l => exact h
  | no => exact h
/-- a new object, of the ground -/
theorem Reps.laid (h : Reps K B Γ Hb H σ) {p : Addr} (hp : H p = none) (o : HO) : Reps K B Γ (upd Hb p o) (upd H p o) σ := by
  have hbp : Hb p = none := by
    cases e : Hb p with
    | none => rfl
    | some u => rw [h.sub p u e] at hp; cases hp
  have b0 : B.H p = none := by
    cases e : B.H p with
    | none => rfl
    | some u => exact absurd hp (h.al p (by rw [e]; exact fun z => nomatch z))
  refine ⟨h.len, same_upd2 h.sub, h.b0.trans (same_upd hbp), fun a o' e n => ?_, fun a e => ?_, fun a e n => ?_, fun i s e => ?_, fun i q l r a e m => ?_, h.apart⟩
  · rw [upd_ne (by rintro rfl; rw [b0] at e; cases e)]; exact h.fr a o' e n
  · by_cases ha : a = p
    · subst ha; rw [upd_same]; exact fun z => nomatch z
    · rw [upd_ne ha]; exact h.al a e
  · rw [upd_ne (by rintro rfl; exact e b0)]; exact h.dis a e n
  · refine slotOk.mono (same_upd hbp) (fun q l r es a m => ?_) (h.ok i s e)
    subst es
    have := (h.foot i q l r a e m).1
    rw [upd_ne (by rintro rfl; exact this hp)]
  · obtain ⟨h1, h2, h3⟩ := h.foot i q l r a e m
    have ne : a ≠ p := by rintro rfl; exact h1 hp
    rw [upd_ne ne, upd_ne ne]
    exact ⟨h1, h2, h3⟩
theorem Reps.base_none (h : Reps K B Γ Hb H σ) {p : Addr} (hp : H p = none) : Hb p = none := by
  cases e : Hb p with
  | none => rfl
  | some u => rw [h.sub p u e] at hp; cases hp
theorem Reps.start_none (h : Reps K B Γ Hb H σ) {p : Addr} (hp : H p = none) : B.H p = none := by
  cases e : B.H p with
  | none => rfl
  | some u => exact absurd hp (h.al p (by rw [e]; exact fun z => nomatch z))
theorem get_app.{u} {α : Type u} {l : List α} {x s : α} {i : Nat} (e : (l ++ [x])[i]? = some s) : (l[i]? = some s ∧ i < l.length) ∨ (i = l.length ∧ s = x) := by
  rcases Nat.lt_trichotomy i l.length with h | h | h
  · rw [List.getElem?_append_left h] at e; exact .inl ⟨e, h⟩
  · subst h; simp at e; exact .inr ⟨rfl, e.symm⟩
  · rw [List.getElem?_append_right (Nat.le_of_lt h)] at e
    have : 0 < i - l.length := by omega
    rw [List.getElem?_eq_none (by simp; omega)] at e; cases e
theorem join_app_left {σ : St} {x : Option V} {i : Nat} (h : i < σ.length) : ((σ ++ [x])[i]?).join = (σ[i]?).join := by rw [List.getElem?_append_left h]
theorem join_app_last {σ : St} {x : Option V} {i : Nat} (h : i = σ.length) : ((σ ++ [x])[i]?).join = x := by subst h; simp
/-- a slot more, that owns nothing -/
theorem Reps.push (h : Reps K B Γ Hb H σ) {s : Slot} {x : Option V} (hs : slotOk K Hb H s x) (no : ∀ p l r, s ≠ .own p l r) : Reps K B (Γ ++ [s]) Hb H (σ ++ [x]) := by
  refine h.re (by simp [h.len]) (fun i t e => ?_) id (fun i p l r e => ?_) (fun i j p l r p' l' r' _ _ e => e)
  · rcases get_app e with ⟨e, hi⟩ | ⟨rfl, rfl⟩
    · rw [join_app_left (by rw [h.len]; exact hi)]; exact h.ok i t e
    · rw [join_app_last h.len.symm]; exact hs
  · rcases get_app e with ⟨e, _⟩ | ⟨_, e⟩
    · exact e
    · exact absurd e.symm (no p l r)
/-- a slot less -/
theorem Reps.pop {s : Slot} {x : Option V} (h : Reps K B (Γ ++ [s]) Hb H (σ ++ [x])) : Reps K B Γ Hb H σ := by
  have hl : σ.length = Γ.length := by have := h.len; simp at this; exact this
  refine h.re hl (fun i t e => ?_) id (fun i p l r e => ?_) (fun i j p l r p' l' r' _ _ e => e)
  · have hi : i < Γ.length := (List.getElem?_eq_some_iff.mp e).1
    have := h.ok i t (by rw [List.getElem?_append_left hi]; exact e)
    rw [join_app_left (by rw [hl]; exact hi)] at this
    exact this
  · have hi : i < Γ.length := (List.getElem?_eq_some_iff.mp e).1
    show (Γ ++ [s])[i]? = _
    rw [List.getElem?_append_left hi]; exact e
/-- a new object that is owned -/
theorem Reps.pushOwn (h : Reps K B Γ Hb H σ) {p : Addr} (hp : H p = none) {o : HO} {r : Res} (ha : r.as = [p]) (hr : r.R K Hb (upd H p o)) : Reps K B (Γ ++ [.own false p r]) Hb (upd H p o) (σ ++ [some (.ref p)]) := by
  have hbp := h.base_none hp
  have b0 := h.start_none hp
  refine ⟨by simp [h.len], h.sub.trans (same_upd hp), h.b0, fun a o' e n => ?_, fun a e => ?_, h.dis, fun i s e => ?_, fun i q l r' a e m => ?_, fun i j q l r1 q' l' r2 a e e' m m' => ?_⟩
  · rw [upd_ne (by rintro rfl; rw [b0] at e; cases e)]; exact h.fr a o' e n
  · by_cases hap : a = p
    · subst hap; rw [upd_same]; exact fun z => nomatch z
    · rw [upd_ne hap]; exact h.al a e
  · rcases get_app e with ⟨e, hi⟩ | ⟨rfl, rfl⟩
    · rw [join_app_left (by rw [h.len]; exact hi)]
      refine slotOk.mono (Same.refl _) (fun q l r es a m => ?_) (h.ok i s e)
      subst es
      have := (h.foot i q l r a e m).1
      rw [upd_ne (by rintro rfl; exact this hp)]
    · rw [join_app_last h.len.symm]; exact ⟨rfl, hr⟩
  · rcases get_app e with ⟨e, hi⟩ | ⟨rfl, e0⟩
    · obtain ⟨h1, h2, h3⟩ := h.foot i q l r' a e m
      rw [upd_ne (by rintro rfl; exact h1 hp)]
      exact ⟨h1, h2, h3⟩
    · cases e0
      rw [ha] at m
      have : a = p := by simpa using m
      subst this
      rw [upd_same]
      exact ⟨(fun z => nomatch z), hbp, .inl b0⟩
  · rcases get_app e with ⟨ea, hi⟩ | ⟨rfl, e0⟩
    · rcases get_app e' with ⟨eb, hi'⟩ | ⟨rfl, e1⟩
      · exact h.apart i j q l r1 q' l' r2 a ea eb m m'
      · cases e1
        rw [ha] at m'
        have ap : a = p := by simpa using m'
        rw [ap] at m
        exact absurd hp (h.foot i q l r1 p ea m).1
    · rcases get_app e' with ⟨eb, hi'⟩ | ⟨rfl, e1⟩
      · cases e0
        rw [ha] at m
        have ap : a = p := by simpa using m
        rw [ap] at m'
        exact absurd hp (h.foot j q' l' r2 p eb m').1
      · rfl
theorem get_set.{u} {α : Type u} {l : List α} {x s : α} {i j : Nat} (e : (l.set j x)[i]? = some s) : (i ≠ j ∧ l[i]? = some s) ∨ (i = j ∧ s = x) := by
  by_cases h : j = i
  · subst h
    have hi : j < (l.set j x).length := (List.getElem?_eq_some_iff.mp e).1
    rw [List.getElem?_set_self (by simpa using hi)] at e
    exact .inr ⟨rfl, (Option.some.inj e).symm⟩
  · rw [List.getElem?_set_ne h] at e
    exact .inl ⟨fun z => h z.symm, e⟩
/-- a local slot set to what owns nothing -/
theorem Reps.set (h : Reps K B Γ Hb H σ) (i : Nat) {s : Slot} {x : Option V} (hs : slotOk K Hb H s x) (no : ∀ p l r, s ≠ .own p l r) : Reps K B (Γ.set i s) Hb H (σ.set i x) := by
  refine h.re (by simp [h.len]) (fun j t e => ?_) id (fun j p l r e => ?_) (fun i j p l r p' l' r' _ _ e => e)
  · rcases get_set e with ⟨hj, e⟩ | ⟨rfl, rfl⟩
    · rw [List.getElem?_set_ne (Ne.symm hj)]; exact h.ok j t e
    · have hi : j < (Γ.set j t).length := (List.getElem?_eq_some_iff.mp e).1
      rw [List.getElem?_set_self (by rw [h.len]; simpa using hi)]
      exact hs
  · rcases get_set e with ⟨_, e⟩ | ⟨_, e⟩
    · exact e
    · exact absurd e.symm (no p l r)
/-- a local slot takes the last, owned -/
theorem Reps.setOwn {p : Bool} {l : Addr} {r : Res} {x : Option V} (h : Reps K B (Γ ++ [.own p l r]) Hb H (σ ++ [x])) (i : Nat) : Reps K B (Γ.set i (.own p l r)) Hb H (σ.set i x) := by
  have hl : σ.length = Γ.length := by have := h.len; simp at this; exact this
  have last : (Γ ++ [Slot.own p l r])[Γ.length]? = some (.own p l r) := by simp
  have hx := h.ok Γ.length _ last
  rw [join_app_last hl.symm] at hx
  refine h.re (by simp [hl]) (fun j t e => ?_) (fun j => if j = i then Γ.length else j) (fun j p' l' r' e => ?_) (fun j k p1 l1 r1 p2 l2 r2 e1 e2 e => ?_)
  · rcases get_set e with ⟨hj, e⟩ | ⟨rfl, rfl⟩
    · have hi : j < Γ.length := (List.getElem?_eq_some_iff.mp e).1
      rw [List.getElem?_set_ne (Ne.symm hj)]
      have := h.ok j t (by rw [List.getElem?_append_left hi]; exact e)
      rw [join_app_left (by rw [hl]; exact hi)] at this
      exact this
    · have hi : j < (Γ.set j (Slot.own p l r)).length := (List.getElem?_eq_some_iff.mp e).1
      rw [List.getElem?_set_self (by rw [hl]; simpa using hi)]
      exact hx
  · rcases get_set e with ⟨hj, e⟩ | ⟨rfl, e0⟩
    · show (Γ ++ [Slot.own p l r])[if j = i then Γ.length else j]? = _
      rw [if_neg hj]
      have hi : j < Γ.length := (List.getElem?_eq_some_iff.mp e).1
      rw [List.getElem?_append_left hi]; exact e
    · show (Γ ++ [Slot.own p l r])[if j = j then Γ.length else j]? = _
      rw [if_pos rfl, last, e0]
  · have b1 : j < Γ.length := by have := (List.getElem?_eq_some_iff.mp e1).1; simpa using this
    have b2 : k < Γ.length := by have := (List.getElem?_eq_some_iff.mp e2).1; simpa using this
    have e : (if j = i then Γ.length else j) = (if k = i then Γ.length else k) := e
    by_cases c1 : j = i
    · by_cases c2 : k = i
      · rw [c1, c2]
      · rw [if_pos c1, if_neg c2] at e; omega
    · by_cases c2 : k = i
      · rw [if_neg c1, if_pos c2] at e; omega
      · rw [if_neg c1, if_neg c2] at e; exact e
/-- the heaps have grown: the ground by new objects, the whole by more -/
structure Gw (Hb H Hb' H' : Hp) : Prop where
  b : Same Hb Hb'
  h : Same H H'
  s : Same Hb' H'
  d : ∀ a, H a ≠ none → Hb a = none → Hb' a = none
theorem Gw.refl (e : Same Hb H) : Gw Hb H Hb H := ⟨Same.refl _, Same.refl _, e, fun _ _ n => n⟩
theorem none_of (e : Same Hb H) {p : Addr} (hp : H p = none) : Hb p = none := by
  cases q : Hb p with
  | none => rfl
  | some u => rw [e p u q] at hp; cases hp
theorem some_ne {o : HO} {a : Addr} (e : H a = some o) : H a ≠ none := by rw [e]; exact fun z => nomatch z
theorem Gw.new (e : Same Hb H) {p : Addr} (hp : H p = none) (o : HO) : Gw Hb H (upd Hb p o) (upd H p o) :=
  ⟨same_upd (none_of e hp), same_upd hp, same_upd2 e, fun a h n => by rw [upd_ne (by rintro rfl; exact h hp)]; exact n⟩
theorem Gw.trans {Hb2 H2 : Hp} (a : Gw Hb H Hb' H') (b : Gw Hb' H' Hb2 H2) : Gw Hb H Hb2 H2 :=
  ⟨a.b.trans b.b, a.h.trans b.h, b.s, fun x h n => b.d x (by
    cases q : H x with
    | none => exact absurd q h
    | some u => exact some_ne (a.h x u q)) (a.d x h n)⟩
theorem Reps.gw (h : Reps K B Γ Hb H σ) (g : Gw Hb H Hb' H') : Reps K B Γ Hb' H' σ := by
  have keep : ∀ a, H a ≠ none → H' a = H a := fun a n => by
    cases q : H a with
    | none => exact absurd q n
    | some u => exact g.h a u q
  refine ⟨h.len, g.s, h.b0.trans g.b, fun a o e n => g.h a o (h.fr a o e n), fun a e => ?_, fun a e n => g.d a (h.al a e) (h.dis a e n), fun i s e => ?_, fun i q l r a e m => ?_, h.apart⟩
  · rw [keep a (h.al a e)]; exact h.al a e
  · refine slotOk.mono g.b (fun q l r es a m => ?_) (h.ok i s e)
    subst es
    exact keep a (h.foot i q l r a e m).1
  · obtain ⟨h1, h2, h3⟩ := h.foot i q l r a e m
    exact ⟨by rw [keep a h1]; exact h1, g.d a h1 h2, h3⟩
/-- what is owned at slot i is changed -/
theorem Reps.write (h : Reps K B Γ Hb H σ) {i : Nat} {p : Bool} {l : Addr} {r r' : Res} (e : Γ[i]? = some (.own p l r)) (off : ∀ a, a ∉ r.as → a ∉ r'.as → H' a = H a) (new : ∀ a, a ∈ r'.as → a ∈ r.as ∨ H a = none)
    (on : ∀ a, a ∈ r.as ∨ a ∈ r'.as → H' a ≠ none) (hr : r'.R K Hb H') : Reps K B (Γ.set i (.own p l r')) Hb H' σ := by
  have hi : i < Γ.length := (List.getElem?_eq_some_iff.mp e).1
  have hol : ∀ a, H a ≠ none → Hb a ≠ none ∨ (B.H a ≠ none ∧ ¬ B.F a) → a ∉ r.as := fun a _ h2 m => by
    obtain ⟨_, f2, f3⟩ := h.foot i p l r a e m
    rcases h2 with h2 | ⟨h2, h4⟩
    · exact h2 f2
    · rcases f3 with f3 | ⟨_, f3⟩
      · exact h2 f3
      · exact h4 f3
  have hol' : ∀ a, H a ≠ none → a ∉ r.as → a ∉ r'.as := fun a h1 h2 m => (new a m).elim h2 h1
  refine ⟨by rw [List.length_set]; exact h.len, fun a o q => ?_, h.b0, fun a o q n => ?_, fun a q => ?_, h.dis, fun j s q => ?_, fun j q1 l1 r1 a q m => ?_, fun j k p1 l1 r1 p2 l2 r2 a q1 q2 m1 m2 => ?_⟩
  · have h1 := some_ne (h.sub a o q)
    have h2 := hol a h1 (.inl (some_ne q))
    rw [off a h2 (hol' a h1 h2)]; exact h.sub a o q
  · have h1 := h.al a (some_ne q)
    have h2 := hol a h1 (.inr ⟨some_ne q, n⟩)
    rw [off a h2 (hol' a h1 h2)]; exact h.fr a o q n
  · by_cases c1 : a ∈ r.as
    · exact on a (.inl c1)
    · by_cases c2 : a ∈ r'.as
      · exact on a (.inr c2)
      · rw [off a c1 c2]; exact h.al a q
  · rcases get_set q with ⟨hj, q⟩ | ⟨rfl, rfl⟩
    · refine slotOk.mono (Same.refl _) (fun q1 l1 r1 es a m => ?_) (h.ok j s q)
      subst es
      have n1 : a ∉ r.as := fun m' => hj (h.apart j i _ _ _ _ _ _ a q e m m')
      exact off a n1 (hol' a (h.foot j _ _ _ a q m).1 n1)
    · exact ⟨(h.ok j _ e).1, hr⟩
  · rcases get_set q with ⟨hj, q⟩ | ⟨rfl, q0⟩
    · obtain ⟨h1, h2, h3⟩ := h.foot j q1 l1 r1 a q m
      have n1 : a ∉ r.as := fun m' => hj (h.apart j i _ _ _ _ _ _ a q e m m')
      exact ⟨by rw [off a n1 (hol' a h1 n1)]; exact h1, h2, h3⟩
    · cases q0
      refine ⟨on a (.inr m), ?_, ?_⟩
      · rcases new a m with c | c
        · exact (h.foot _ _ _ _ a e c).2.1
        · exact h.base_none c
      · rcases new a m with c | c
        · exact (h.foot _ _ _ _ a e c).2.2
        · exact .inl (h.start_none c)
  · rcases get_set q1 with ⟨hj, qa⟩ | ⟨ej, z1⟩
    · rcases get_set q2 with ⟨hk, qb⟩ | ⟨ek, z2⟩
      · exact h.apart j k _ _ _ _ _ _ a qa qb m1 m2
      · cases z2
        rcases new a m2 with c | c
        · exact absurd (h.apart j i _ _ _ _ _ _ a qa e m1 c) hj
        · exact absurd c (h.foot j _ _ _ a qa m1).1
    · rcases get_set q2 with ⟨hk, qb⟩ | ⟨ek, z2⟩
      · cases z1
        rcases new a m1 with c | c
        · exact absurd (h.apart i k _ _ _ _ _ _ a e qb c m2).symm hk
        · exact absurd c (h.foot k _ _ _ a qb m2).1
      · rw [ej, ek]
/-- an owned list of the def's own is let go: it is ground from here on -/
theorem Reps.freeze {α : Type} {ri : Rp α} {xs : List α} (h : Reps K B Γ Hb H σ) {i : Nat} {l : Addr} (e : Γ[i]? = some (.own false l (Res.lst ri xs l))) :
    ∃ Hb', Same Hb Hb' ∧ Reps K B (Γ.set i (.val (rList (r := ri)) xs)) Hb' H σ ∧ (rList (r := ri)).rp K Hb' (.ref l) xs := by
  obtain ⟨hl, vs, hv, hp⟩ := h.ok i _ e
  obtain ⟨f1, f2, f3⟩ := h.foot i _ _ _ l e (List.mem_singleton.mpr rfl)
  have b0 : B.H l = none := f3.elim id fun z => absurd z.1 Bool.false_ne_true
  have sb : Same Hb (upd Hb l (.lst vs)) := same_upd f2
  have rp : (rList (r := ri)).rp K (upd Hb l (.lst vs)) (.ref l) xs := ⟨l, vs, rfl, upd_same, paired_imp (fun _ _ z => ri.mono sb z) hp⟩
  have hi : i < Γ.length := (List.getElem?_eq_some_iff.mp e).1
  have sub' : Same (upd Hb l (.lst vs)) H := fun a o q => by
    by_cases ha : a = l
    · subst ha; rw [upd_same] at q; rw [hv]; exact q
    · rw [upd_ne ha] at q; exact h.sub a o q
  have h' : Reps K B (Γ.set i .no) Hb H σ := by
    refine h.re (by rw [List.length_set]; exact h.len) (fun j t q => ?_) id (fun j p l r q => ?_) fun i j p l r p' l' r' _ _ z => z
    · rcases get_set q with ⟨hj, q⟩ | ⟨rfl, rfl⟩
      · exact h.ok j t q
      · exact True.intro
    · rcases get_set q with ⟨_, q⟩ | ⟨_, q⟩
      · exact q
      · cases q
  have ownj : ∀ (j : Nat) (p : Bool) (l1 : Addr) (r1 : Res), (Γ.set i Slot.no)[j]? = some (.own p l1 r1) → l ∉ r1.as := fun j p l1 r1 q m => by
    rcases get_set q with ⟨hj, q⟩ | ⟨_, q⟩
    · exact hj (h.apart j i _ _ _ _ _ _ l q e m (List.mem_singleton.mpr rfl))
    · cases q
  have h2 : Reps K B (Γ.set i .no) (upd Hb l (.lst vs)) H σ := by
    refine ⟨h'.len, sub', h'.b0.trans sb, h'.fr, h'.al, fun a q n => ?_, fun j s q => ?_, fun j p l1 r1 a q m => ?_, h'.apart⟩
    · rw [upd_ne (by rintro rfl; exact q b0)]; exact h'.dis a q n
    · exact slotOk.mono sb (fun _ _ _ _ _ _ => rfl) (h'.ok j s q)
    · obtain ⟨g1, g2, g3⟩ := h'.foot j p l1 r1 a q m
      refine ⟨g1, ?_, g3⟩
      rw [upd_ne (by rintro rfl; exact ownj j p l1 r1 q m)]; exact g2
  refine ⟨upd Hb l (.lst vs), sb, ?_, rp⟩
  have hs : σ[i]?.join = some (.ref l) := hl
  refine h2.re (by rw [List.length_set]; exact h.len) (fun j t q => ?_) id (fun j p l1 r1 q => ?_) fun i j p l r p' l' r' _ _ z => z
  · rcases get_set q with ⟨hj, q⟩ | ⟨rfl, rfl⟩
    · exact h2.ok j t (by rw [List.getElem?_set_ne (Ne.symm hj)]; exact q)
    · exact ⟨_, hs, rp⟩
  · rcases get_set q with ⟨hj, q⟩ | ⟨_, q⟩
    · show (Γ.set i Slot.no)[j]? = _
      rw [List.getElem?_set_ne (Ne.symm hj)]; exact q
    · cases q
end
end VS

set_option maxHeartbeats 2000000
set_option autoImplicit false
/-! VS2: the judgements over slots; expressions. -/
namespace VS
open PySem L2

/-! ### what an expression, a test, arguments, statements are worth, at the slots' values and the heap -/
def we (X : Cx) (e : Expr) (σ : St) (H : Hp) (Q : VK) : Prop := ∀ (pins : List (Addr × Obj)) (s : Shared), Inv X pins σ H s → wpAny (model X.prog X.w) X.A (eval e X.env) (EP X pins σ Q) X.xe s
def wt (X : Cx) (e : Expr) (σ : St) (H : Hp) (Q : Bool → Hp → Prop) : Prop := ∀ (pins : List (Addr × Obj)) (s : Shared), Inv X pins σ H s → wpAny (model X.prog X.w) X.A (isTrue e X.env (eval e X.env)) (TP X pins σ Q) X.xe s
def wtw (X : Cx) (e : Expr) (σ : St) (H : Hp) (Q : Bool → Hp → Prop) : Prop := ∀ (whole : Sem Value) (pins : List (Addr × Obj)) (s : Shared), Inv X pins σ H s → wpAny (model X.prog X.w) X.A (isTrue e X.env whole) (TP X pins σ Q) X.xe s
def wa (X : Cx) (es : List Expr) (σ : St) (H : Hp) (Q : List V → Hp → Prop) : Prop := ∀ (pos : Pos) (pins : List (Addr × Obj)) (s : Shared), Inv X pins σ H s → wpAny (model X.prog X.w) X.A (spliced (backTo pos (starEach es X.env))) (AP X pins σ Q) X.xe s
def w1 (X : Cx) (st : Stmt) (D : Ends) (σ : St) (H : Hp) : Prop := ∀ (pins : List (Addr × Obj)) (s : Shared), Inv X pins σ H s → wpAny (model X.prog X.w) X.A (exec st X.env) (SP X pins D) X.xe s
def ws (X : Cx) (st : List Stmt) (D : Ends) (σ : St) (H : Hp) : Prop := ∀ (pins : List (Addr × Obj)) (s : Shared), Inv X pins σ H s → wpAny (model X.prog X.w) X.A (execs st X.env) (SP X pins D) X.xe s
section
variable {X : Cx} {e : Expr} {es : List Expr} {st : Stmt} {sts : List Stmt} {σ : St} {H : Hp}
theorem pe_we : PE X e (we X e) := ⟨fun pins s _ _ _ I h => h pins s I⟩
theorem pt_wt : PT X e (wt X e) := ⟨fun pins s _ _ _ I h => h pins s I⟩
theorem pw_wt : PW X e (wtw X e) := ⟨fun w pins s _ _ _ I h => h w pins s I⟩
theorem pa_wa : PA X es (wa X es) := ⟨fun pos pins s _ _ _ I h => h pos pins s I⟩
theorem ps_w1 : PS X st (fun D σ H => w1 X st D σ H) := ⟨fun pins s _ _ _ I h => h pins s I⟩
theorem ps_ws : PSs X sts (fun D σ H => ws X sts D σ H) := ⟨fun pins s _ _ _ I h => h pins s I⟩
theorem we_of {t : TE} {Q : VK} (h : PE X e t) (q : t σ H Q) : we X e σ H Q := fun pins s I => h.run pins s σ H Q I q
theorem wt_of {t : TT} {Q : Bool → Hp → Prop} (h : PT X e t) (q : t σ H Q) : wt X e σ H Q := fun pins s I => h.run pins s σ H Q I q
theorem wtw_of {t : TT} {Q : Bool → Hp → Prop} (h : PW X e t) (q : t σ H Q) : wtw X e σ H Q := fun w pins s I => h.run w pins s σ H Q I q
theorem wtw.wt {Q : Bool → Hp → Prop} (h : wtw X e σ H Q) : wt X e σ H Q := fun pins s I => h _ pins s I
theorem wa_of {t : TA} {Q : List V → Hp → Prop} (h : PA X es t) (q : t σ H Q) : wa X es σ H Q := fun pos pins s I => h.run pos pins s σ H Q I q
theorem w1_of {t : TS} {D : Ends} (h : PS X st t) (q : t D σ H) : w1 X st D σ H := fun pins s I => h.run pins s σ H D I q
theorem ws_of {t : TS} {D : Ends} (h : PSs X sts t) (q : t D σ H) : ws X sts D σ H := fun pins s I => h.run pins s σ H D I q
end

abbrev Gam := List Slot
/-- e gives (a value that stands for) a; the slots become Γ' -/
def EvX (X : Cx) (e : Expr) (Γ : Gam) {α : Type} (i : Rp α) (a : α) (Γ' : Gam) : Prop :=
  ∀ (B : Bs) (Hb H : Hp) (σ τ : St) (Q : VK), σ.length = X.N.length → Reps X.K B Γ Hb H (σ ++ τ) →
    (∀ v Hb2 H2, Same Hb Hb2 → Reps X.K B Γ' Hb2 H2 (σ ++ τ) → i.rp X.K Hb2 v a → Q v H2) → we X e σ H Q
/-- e gives something new that is owned: r l at its address l, as a last slot -/
def EvN (X : Cx) (e : Expr) (Γ : Gam) (r : Addr → Res) (Γ' : Gam) : Prop :=
  ∀ (B : Bs) (Hb H : Hp) (σ τ : St) (Q : VK), σ.length = X.N.length → Reps X.K B Γ Hb H (σ ++ τ) →
    (∀ l Hb2 H2, Same Hb Hb2 → Reps X.K B (Γ' ++ [.own false l (r l)]) Hb2 H2 (σ ++ τ ++ [some (.ref l)]) → Q (.ref l) H2) → we X e σ H Q
/-- e is a name of what is owned at l -/
def EvR (X : Cx) (e : Expr) (Γ : Gam) (l : Addr) : Prop :=
  ∀ (B : Bs) (Hb H : Hp) (σ τ : St) (Q : VK), σ.length = X.N.length → Reps X.K B Γ Hb H (σ ++ τ) → Q (.ref l) H → we X e σ H Q
def EvT (X : Cx) (e : Expr) (Γ : Gam) (b : Bool) (Γ' : Gam) : Prop :=
  ∀ (B : Bs) (Hb H : Hp) (σ τ : St) (Q : Bool → Hp → Prop), σ.length = X.N.length → Reps X.K B Γ Hb H (σ ++ τ) →
    (∀ Hb2 H2, Same Hb Hb2 → Reps X.K B Γ' Hb2 H2 (σ ++ τ) → Q b H2) → wt X e σ H Q
def EvW (X : Cx) (e : Expr) (Γ : Gam) (b : Bool) (Γ' : Gam) : Prop :=
  ∀ (B : Bs) (Hb H : Hp) (σ τ : St) (Q : Bool → Hp → Prop), σ.length = X.N.length → Reps X.K B Γ Hb H (σ ++ τ) →
    (∀ Hb2 H2, Same Hb Hb2 → Reps X.K B Γ' Hb2 H2 (σ ++ τ) → Q b H2) → wtw X e σ H Q

section
variable {K : Fg} {B : Bs} {Γ Γ' : Gam} {Hb H Hb' H' : Hp} {σ σ' τ τ' : St}
theorem Reps.gwPush (h : Reps K B Γ Hb H σ) (g : Gw Hb H Hb' H') {s : Slot} {x : Option V} (hs : slotOk K Hb' H' s x) (no : ∀ p l r, s ≠ .own p l r) : Reps K B (Γ ++ [s]) Hb' H' (σ ++ [x]) := (h.gw g).push hs no
theorem Reps.at (h : Reps K B Γ Hb H (σ ++ τ)) {k : Nat} {s : Slot} (hk : k < σ.length) (e : Γ[k]? = some s) : slotOk K Hb H s (σ[k]?.join) := by
  have := h.ok k s e
  rw [List.getElem?_append_left hk] at this
  exact this
theorem join_some {σ : St} {k : Nat} {v : V} (h : σ[k]?.join = some v) : σ[k]? = some (some v) := by
  cases e : σ[k]? with
  | none => rw [e] at h; cases h
  | some o => rw [e] at h; have h' : o = some v := h; rw [h']
end

section
variable {X : Cx} {a b c e : Expr} {Γ Γ1 Γ2 Γ3 : Gam} {pos : Pos} {α β γ : Type} {i : Rp α} {j : Rp β} {k : Rp γ} {x : α} {y : β} {z : γ}

theorem ev_is {x' : α} (h : EvX X e Γ i x Γ1) (q : x = x') : EvX X e Γ i x' Γ1 := by rw [← q]; exact h
/-! ### names and constants -/
theorem ev_var (n : Nat) {m : Str} (hN : X.N[n]? = some m := by rfl) (hs : Γ[n]? = some (.val i x) := by rfl) (hv : Vis X.env.scope m := by first | exact Or.inl rfl | exact Or.inr (Or.inl rfl) | exact Or.inr (Or.inr rfl))
    (hd : (m == ("__debug__" : Str)) = false := by decide) (hcd : (m == ("__classdict__" : Str)) = false := by decide) : EvX X (.Name m pos) Γ i x Γ := by
  intro B Hb H σ τ Q hl R q
  have hn : n < σ.length := by rw [hl]; exact (List.getElem?_eq_some_iff.mp hN).1
  obtain ⟨v, e, r⟩ := R.at hn hs
  exact we_of (pe_var hN hv hd hcd) ⟨v, join_some e, q v Hb H (Same.refl _) R r⟩
theorem er_var (n : Nat) {m : Str} {p : Bool} {l : Addr} {r : Res} (hN : X.N[n]? = some m := by rfl) (hs : Γ[n]? = some (.own p l r) := by rfl) (hv : Vis X.env.scope m := by first | exact Or.inl rfl | exact Or.inr (Or.inl rfl) | exact Or.inr (Or.inr rfl))
    (hd : (m == ("__debug__" : Str)) = false := by decide) (hcd : (m == ("__classdict__" : Str)) = false := by decide) : EvR X (.Name m pos) Γ l := by
  intro B Hb H σ τ Q hl R q
  have hn : n < σ.length := by rw [hl]; exact (List.getElem?_eq_some_iff.mp hN).1
  obtain ⟨e, _⟩ := R.at hn hs
  exact we_of (pe_var hN hv hd hcd) ⟨.ref l, join_some e, q⟩
theorem ev_int {n : Int} {m : Nat} : EvX X (.Constant (.int n) m pos) Γ rInt n Γ := fun B Hb H σ τ Q _ R q => we_of pe_int (q _ Hb H (Same.refl _) R rfl)
theorem ev_bl {t : Bool} {m : Nat} : EvX X (.Constant (.bool t) m pos) Γ rBool t Γ := fun B Hb H σ τ Q _ R q => we_of pe_bl (q _ Hb H (Same.refl _) R rfl)
theorem ev_non {m : Nat} : EvX X (.Constant .none m pos) Γ rNone () Γ := fun B Hb H σ τ Q _ R q => we_of pe_non (q _ Hb H (Same.refl _) R rfl)
theorem ev_nonO {m : Nat} : EvX X (.Constant .none m pos) Γ (rOpt (r := i)) none Γ := fun B Hb H σ τ Q _ R q => we_of pe_non (q _ Hb H (Same.refl _) R rfl)
theorem ev_str {t : Str} {m : Nat} : EvX X (.Constant (.str t) m pos) Γ rStr t Γ := fun B Hb H σ τ Q _ R q => we_of pe_str (q _ Hb H (Same.refl _) R rfl)
/-- a module's int, a module's text -/
theorem ev_globI {m : Str} {n : Int} {t : Tok} (hm : X.mg m = some (.int n t)) (hg : Gl X m := by rfl) (hd : (m == ("__debug__" : Str)) = false := by decide) : EvX X (.Name m pos) Γ rInt n Γ :=
  fun B Hb H σ τ Q _ R q => we_of (pe_glob (v := .int n) hg hm ⟨t, rfl⟩ hd) (q _ Hb H (Same.refl _) R rfl)
theorem ev_globS {m : Str} {n : Str} {t : Tok} (hm : X.mg m = some (.str n t)) (hg : Gl X m := by rfl) (hd : (m == ("__debug__" : Str)) = false := by decide) : EvX X (.Name m pos) Γ rStr n Γ :=
  fun B Hb H σ τ Q _ R q => we_of (pe_glob (v := .str n) hg hm ⟨t, rfl⟩ hd) (q _ Hb H (Same.refl _) R rfl)

/-! ### operators -/
/-- f on data: z of x and y -/
def OpV (X : Cx) (f : Value → Value → Sem Value) (i : Rp α) (x : α) (j : Rp β) (y : β) (k : Rp γ) (z : γ) : Prop :=
  ∃ r, OpR X f r ∧ ∀ (Hb H : Hp) (v u : V) (Q : VK), Same Hb H → i.rp X.K Hb v x → j.rp X.K Hb u y → (∀ w Hb2 H2, Gw Hb H Hb2 H2 → k.rp X.K Hb2 w z → Q w H2) → r v u H Q
theorem ev_op {op : Operator} (ha : EvX X a Γ i x Γ1) (hb : EvX X b Γ1 j y Γ2) (h : OpV X (binaryOp op) i x j y k z) : EvX X (.BinOp a op b pos) Γ k z Γ2 := by
  intro B Hb H σ τ Q hl R q
  obtain ⟨r, ho, hr⟩ := h
  refine we_of (pe_op ho pe_we pe_we) (ha B Hb H σ τ _ hl R fun v Hb1 H1 s1 R1 rv => hb B Hb1 H1 σ τ _ hl R1 fun u Hb2 H2 s2 R2 ru => ?_)
  exact hr Hb2 H2 v u Q R2.sub (i.mono s2 rv) ru fun w Hb3 H3 g rw => q w Hb3 H3 ((s1.trans s2).trans g.b) (R2.gw g) rw
theorem ev_cmp {op : CmpOp} (ha : EvX X a Γ i x Γ1) (hb : EvX X b Γ1 j y Γ2) (h : OpV X (compareOp op) i x j y k z) (hm : behindInMarks op b = false := by first | exact nomark _ | rfl) : EvX X (.Compare a [op] [b] pos) Γ k z Γ2 := by
  intro B Hb H σ τ Q hl R q
  obtain ⟨r, ho, hr⟩ := h
  refine we_of (pe_cmpR ho pe_we pe_we hm) (ha B Hb H σ τ _ hl R fun v Hb1 H1 s1 R1 rv => hb B Hb1 H1 σ τ _ hl R1 fun u Hb2 H2 s2 R2 ru => ?_)
  exact hr Hb2 H2 v u Q R2.sub (i.mono s2 rv) ru fun w Hb3 H3 g rw => q w Hb3 H3 ((s1.trans s2).trans g.b) (R2.gw g) rw
theorem et_cmp {op : CmpOp} {t : Bool} (ha : EvX X a Γ i x Γ1) (hb : EvX X b Γ1 j y Γ2) (h : OpV X (compareOp op) i x j y rBool t) (hm : behindInMarks op b = false := by first | exact nomark _ | rfl) : EvT X (.Compare a [op] [b] pos) Γ t Γ2 := by
  intro B Hb H σ τ Q hl R q
  obtain ⟨r, ho, hr⟩ := h
  refine wt_of (pt_cmpR ho pe_we pe_we hm) (ha B Hb H σ τ _ hl R fun v Hb1 H1 s1 R1 rv => hb B Hb1 H1 σ τ _ hl R1 fun u Hb2 H2 s2 R2 ru => ?_)
  exact hr Hb2 H2 v u _ R2.sub (i.mono s2 rv) ru fun w Hb3 H3 g rw => ⟨t, rw, q Hb3 H3 ((s1.trans s2).trans g.b) (R2.gw g)⟩
/-- a < b < c -/
theorem ev_chain {op op' : CmpOp} {t u : Bool} (h : OpV X (compareOp op) i x j y rBool t) (h' : t = true → OpV X (compareOp op') j y k z rBool u) (ho' : ∃ r, OpR X (compareOp op') r) (ha : EvX X a Γ i x Γ) (hb : EvX X b Γ j y Γ) (hc : t = true → EvX X c Γ k z Γ) (hm : lastMarks [op, op'] [b, c] = false := by rfl) :
    EvX X (.Compare a [op, op'] [b, c] pos) Γ rBool (t && u) Γ := by
  intro B Hb H σ τ Q hl R q
  obtain ⟨r, ho, hr⟩ := h
  cases t with
  | true =>
    obtain ⟨r', ho', hr'⟩ := h' rfl
    refine we_of (pe_chain ho ho' pe_we pe_we pe_we hm) (ha B Hb H σ τ _ hl R fun v Hb1 H1 s1 R1 rv => hb B Hb1 H1 σ τ _ hl R1 fun u' Hb2 H2 s2 R2 ru => ?_)
    refine hr Hb2 H2 v u' _ R2.sub (i.mono s2 rv) ru fun w Hb3 H3 g rw => ⟨true, rw, ?_⟩
    rw [if_pos rfl]
    refine hc rfl B Hb3 H3 σ τ _ hl (R2.gw g) fun w' Hb4 H4 s4 R4 rw' => ?_
    exact hr' Hb4 H4 u' w' Q R4.sub (j.mono (g.b.trans s4) ru) rw' fun w'' Hb5 H5 g5 r5 => q w'' Hb5 H5 ((((s1.trans s2).trans g.b).trans s4).trans g5.b) (R4.gw g5) r5
  | false =>
    obtain ⟨r', ho'⟩ := ho'
    refine we_of (pe_chain ho ho' pe_we pe_we pe_we hm) (ha B Hb H σ τ _ hl R fun v Hb1 H1 s1 R1 rv => hb B Hb1 H1 σ τ _ hl R1 fun u' Hb2 H2 s2 R2 ru => ?_)
    refine hr Hb2 H2 v u' _ R2.sub (i.mono s2 rv) ru fun w Hb3 H3 g rw => ⟨false, rw, ?_⟩
    rw [if_neg Bool.false_ne_true]
    exact q _ Hb3 H3 ((s1.trans s2).trans g.b) (R2.gw g) rfl

section
variable {m n : Int}
theorem ov_I0 {f : Value → Value → Sem Value} {g : Int → Int → Int} (h : OpR X f (rI0 fun i j => .int (g i j))) : OpV X f rInt m rInt n rInt (g m n) :=
  ⟨_, h, fun Hb H v u Q s rv ru q => ⟨m, n, rv, ru, q _ Hb H (Gw.refl s) rfl⟩⟩
theorem ov_I {f : Value → Value → Sem Value} {C : Int → Int → Prop} {g : Int → Int → Int} (h : OpR X f (rI C fun i j => .int (g i j))) (hc : C m n) : OpV X f rInt m rInt n rInt (g m n) :=
  ⟨_, h, fun Hb H v u Q s rv ru q => ⟨m, n, rv, ru, hc, q _ Hb H (Gw.refl s) rfl⟩⟩
theorem ov_B0 {f : Value → Value → Sem Value} {g : Int → Int → Bool} (h : OpR X f (rI0 fun i j => .bl (g i j))) : OpV X f rInt m rInt n rBool (g m n) :=
  ⟨_, h, fun Hb H v u Q s rv ru q => ⟨m, n, rv, ru, q _ Hb H (Gw.refl s) rfl⟩⟩
theorem ov_add : OpV X (binaryOp .Add) rInt m rInt n rInt (m + n) := ov_I0 op_add
theorem ov_sub : OpV X (binaryOp .Sub) rInt m rInt n rInt (m - n) := ov_I0 op_sub
theorem ov_mul (h : CMulW m n) : OpV X (binaryOp .Mult) rInt m rInt n rInt (m * n) := ov_I op_mulW h
theorem ov_div (h : CDivW m n) : OpV X (binaryOp .FloorDiv) rInt m rInt n rInt (m / n) := ov_I op_fdivW h
theorem ov_mod (h : 0 < n) : OpV X (binaryOp .Mod) rInt m rInt n rInt (m % n) := ov_I op_mod h
theorem ov_pow (h : CPow m n) : OpV X (binaryOp .Pow) rInt m rInt n rInt (m ^ n.toNat) := ov_I op_pow h
theorem ov_shl (h : CPow m n) : OpV X (binaryOp .LShift) rInt m rInt n rInt (m * 2 ^ n.toNat) := ov_I op_shl h
theorem ov_shr (h : 0 ≤ n) : OpV X (binaryOp .RShift) rInt m rInt n rInt (m / 2 ^ n.toNat) := ov_I op_shr h
theorem ov_and : OpV X (binaryOp .BitAnd) rInt m rInt n rInt (Builtin.bitAnd m n) := ov_I0 op_and
theorem ov_or : OpV X (binaryOp .BitOr) rInt m rInt n rInt (Builtin.bitOr m n) := ov_I0 op_or
theorem ov_xor : OpV X (binaryOp .BitXor) rInt m rInt n rInt (Builtin.bitXor m n) := ov_I0 op_xor
theorem ov_lt : OpV X (compareOp .Lt) rInt m rInt n rBool (decide (m < n)) := ov_B0 op_lt
theorem ov_le : OpV X (compareOp .LtE) rInt m rInt n rBool (decide (m ≤ n)) := ov_B0 op_le
theorem ov_gt : OpV X (compareOp .Gt) rInt m rInt n rBool (decide (n < m)) := ov_B0 op_gt
theorem ov_ge : OpV X (compareOp .GtE) rInt m rInt n rBool (decide (n ≤ m)) := ov_B0 op_ge
end
/-- == of scalars -/
theorem ov_eqI {m n : Int} : OpV X (compareOp .Eq) rInt m rInt n rBool (decide (m = n)) := ⟨_, op_eq, fun Hb H v u Q s rv ru q => by
  have rv : v = .int m := rv
  have ru : u = .int n := ru
  subst rv ru
  refine ⟨rfl, q _ Hb H (Gw.refl s) ?_⟩
  show V.bl _ = V.bl _
  congr 1
  by_cases h : m = n
  · subst h; simp
  · have : ¬ V.int m = V.int n := fun z => h (V.int.inj z)
    rw [decide_eq_false h, decide_eq_false this]⟩
theorem ov_neI {m n : Int} : OpV X (compareOp .NotEq) rInt m rInt n rBool (!decide (m = n)) := ⟨_, op_ne, fun Hb H v u Q s rv ru q => by
  have rv : v = .int m := rv
  have ru : u = .int n := ru
  subst rv ru
  refine ⟨rfl, q _ Hb H (Gw.refl s) ?_⟩
  show V.bl _ = V.bl _
  congr 2
  by_cases h : m = n
  · subst h; simp
  · have : ¬ V.int m = V.int n := fun z => h (V.int.inj z)
    rw [decide_eq_false h, decide_eq_false this]⟩
theorem ov_eqStr {m n : Str} : OpV X (compareOp .Eq) rStr m rStr n rBool (decide (m = n)) := ⟨_, op_eq, fun Hb H v u Q s rv ru q => by
  have rv : v = .str m := rv
  have ru : u = .str n := ru
  subst rv ru
  refine ⟨rfl, q _ Hb H (Gw.refl s) ?_⟩
  show V.bl _ = V.bl _
  congr 1
  by_cases h : m = n
  · subst h; simp
  · have : ¬ V.str m = V.str n := fun z => h (V.str.inj z)
    rw [decide_eq_false h, decide_eq_false this]⟩
theorem ov_neStr {m n : Str} : OpV X (compareOp .NotEq) rStr m rStr n rBool (!decide (m = n)) := ⟨_, op_ne, fun Hb H v u Q s rv ru q => by
  have rv : v = .str m := rv
  have ru : u = .str n := ru
  subst rv ru
  refine ⟨rfl, q _ Hb H (Gw.refl s) ?_⟩
  show V.bl _ = V.bl _
  congr 2
  by_cases h : m = n
  · subst h; simp
  · have : ¬ V.str m = V.str n := fun z => h (V.str.inj z)
    rw [decide_eq_false h, decide_eq_false this]⟩
theorem ov_eqB {m n : Bool} : OpV X (compareOp .Eq) rBool m rBool n rBool (decide (m = n)) := ⟨_, op_eq, fun Hb H v u Q s rv ru q => by
  have rv : v = .bl m := rv
  have ru : u = .bl n := ru
  subst rv ru
  refine ⟨rfl, q _ Hb H (Gw.refl s) ?_⟩
  show V.bl _ = V.bl _
  congr 1
  by_cases h : m = n
  · subst h; simp
  · have : ¬ V.bl m = V.bl n := fun z => h (V.bl.inj z)
    rw [decide_eq_false h, decide_eq_false this]⟩
theorem ev_neg {n : Int} (h : EvX X a Γ rInt n Γ1) : EvX X (.UnaryOp .USub a pos) Γ rInt (-n) Γ1 := by
  intro B Hb H σ τ Q hl R q
  exact we_of (pe_un un_neg pe_we) (h B Hb H σ τ _ hl R fun v Hb1 H1 s1 R1 rv => ⟨n, rv, q _ Hb1 H1 s1 R1 rfl⟩)

/-! ### is None -/
theorem ov_isNo {o : Option α} {m : Nat} {pos' : Pos} (h : EvX X a Γ (rOpt (r := i)) o Γ1) : EvX X (.Compare a [.Is] [.Constant .none m pos'] pos) Γ rBool (decide (o = none)) Γ1 := by
  intro B Hb H σ τ Q hl R q
  refine we_of (pe_cmp (pc_isN pe_we)) (h B Hb H σ τ _ hl R fun v Hb1 H1 s1 R1 rv => q _ Hb1 H1 s1 R1 ?_)
  cases o with
  | none => have rv : v = .non := rv; subst rv; simp; rfl
  | some a => have rv : v ≠ .non := rv.1; show V.bl _ = V.bl _; rw [decide_eq_false rv]; simp
end
end VS

set_option maxHeartbeats 2000000
set_option autoImplicit false
/-! VS3: tests, and, or, not; lists and tuples; calls of built-ins. -/
namespace VS
open PySem L2
section
variable {X : Cx} {a b c e : Expr} {es rest : List Expr} {Γ Γ1 Γ2 Γ3 : Gam} {pos : Pos} {α β γ : Type} {i : Rp α} {j : Rp β} {k : Rp γ} {x : α} {y : β} {z : γ} {t u : Bool}

/-! ### tests -/
theorem et_val (h : EvX X e Γ rBool t Γ1) (he : ∀ whole, isTrue e X.env whole = (do let v ← whole; standAt e.pos; holding [v] (truthy v)) := by intro _; rfl) : EvT X e Γ t Γ1 := by
  intro B Hb H σ τ Q hl R q
  exact wt_of (pt_val pe_we he) (h B Hb H σ τ _ hl R fun v Hb1 H1 s1 R1 rv => ⟨t, rv, q Hb1 H1 s1 R1⟩)
theorem et_is {t' : Bool} (h : EvT X e Γ t Γ1) (q : t = t') : EvT X e Γ t' Γ1 := by rw [← q]; exact h
theorem et_int {n : Int} (h : EvX X e Γ rInt n Γ1) (he : ∀ whole, isTrue e X.env whole = (do let v ← whole; standAt e.pos; holding [v] (truthy v)) := by intro _; rfl) : EvT X e Γ (n != 0) Γ1 := by
  intro B Hb H σ τ Q hl R q
  refine wt_of (pt_truth pe_we he) (h B Hb H σ τ _ hl R fun v Hb1 H1 s1 R1 rv => ⟨n != 0, ?_, q Hb1 H1 s1 R1⟩)
  have rv : v = .int n := rv
  subst rv
  rfl
theorem et_not (h : EvT X e Γ t Γ1) : EvT X (.UnaryOp .Not e pos) Γ (!t) Γ1 := by
  intro B Hb H σ τ Q hl R q
  exact wt_of (pt_not pt_wt) (h B Hb H σ τ _ hl R fun Hb1 H1 s1 R1 => q Hb1 H1 s1 R1)
theorem ew_and1 (h : EvT X e Γ t Γ1) : EvW X (.BoolOp .And [e] pos) Γ t Γ1 := fun B Hb H σ τ Q hl R q => wtw_of (pw_and1 pt_wt) (h B Hb H σ τ _ hl R q)
theorem ew_or1 (h : EvT X e Γ t Γ1) : EvW X (.BoolOp .Or [e] pos) Γ t Γ1 := fun B Hb H σ τ Q hl R q => wtw_of (pw_or1 pt_wt) (h B Hb H σ τ _ hl R q)
theorem ew_and (h : EvT X a Γ t Γ1) (h2 : t = true → EvW X (.BoolOp .And (b :: rest) pos) Γ1 u Γ1) : EvW X (.BoolOp .And (a :: b :: rest) pos) Γ (t && u) Γ1 := by
  intro B Hb H σ τ Q hl R q
  refine wtw_of (pw_and pt_wt pw_wt) (h B Hb H σ τ _ hl R fun Hb1 H1 s1 R1 => ?_)
  cases t with
  | true => exact h2 rfl B Hb1 H1 σ τ Q hl R1 fun Hb2 H2 s2 R2 => q Hb2 H2 (s1.trans s2) R2
  | false => exact q Hb1 H1 s1 R1
theorem ew_or (h : EvT X a Γ t Γ1) (h2 : t = false → EvW X (.BoolOp .Or (b :: rest) pos) Γ1 u Γ1) : EvW X (.BoolOp .Or (a :: b :: rest) pos) Γ (t || u) Γ1 := by
  intro B Hb H σ τ Q hl R q
  refine wtw_of (pw_or pt_wt pw_wt) (h B Hb H σ τ _ hl R fun Hb1 H1 s1 R1 => ?_)
  cases t with
  | false => exact h2 rfl B Hb1 H1 σ τ Q hl R1 fun Hb2 H2 s2 R2 => q Hb2 H2 (s1.trans s2) R2
  | true => exact q Hb1 H1 s1 R1
/-- the left operand true (false) and known: the right one may change what is owned -/
theorem ew_andT (h : EvT X a Γ true Γ1) (h2 : EvW X (.BoolOp .And (b :: rest) pos) Γ1 u Γ2) : EvW X (.BoolOp .And (a :: b :: rest) pos) Γ u Γ2 := fun B Hb H σ τ Q hl R q =>
  wtw_of (pw_and pt_wt pw_wt) (h B Hb H σ τ _ hl R fun Hb1 H1 s1 R1 => h2 B Hb1 H1 σ τ Q hl R1 fun Hb2 H2 s2 R2 => q Hb2 H2 (s1.trans s2) R2)
theorem ew_andF (h : EvT X a Γ false Γ1) : EvW X (.BoolOp .And (a :: b :: rest) pos) Γ false Γ1 := fun B Hb H σ τ Q hl R q =>
  wtw_of (pw_and pt_wt pw_wt) (h B Hb H σ τ _ hl R fun Hb1 H1 s1 R1 => q Hb1 H1 s1 R1)
theorem ew_orF (h : EvT X a Γ false Γ1) (h2 : EvW X (.BoolOp .Or (b :: rest) pos) Γ1 u Γ2) : EvW X (.BoolOp .Or (a :: b :: rest) pos) Γ u Γ2 := fun B Hb H σ τ Q hl R q =>
  wtw_of (pw_or pt_wt pw_wt) (h B Hb H σ τ _ hl R fun Hb1 H1 s1 R1 => h2 B Hb1 H1 σ τ Q hl R1 fun Hb2 H2 s2 R2 => q Hb2 H2 (s1.trans s2) R2)
theorem ew_orT (h : EvT X a Γ true Γ1) : EvW X (.BoolOp .Or (a :: b :: rest) pos) Γ true Γ1 := fun B Hb H σ τ Q hl R q =>
  wtw_of (pw_or pt_wt pw_wt) (h B Hb H σ τ _ hl R fun Hb1 H1 s1 R1 => q Hb1 H1 s1 R1)
theorem et_w (h : EvW X e Γ t Γ1) : EvT X e Γ t Γ1 := fun B Hb H σ τ Q hl R q => (h B Hb H σ τ Q hl R q).wt
/-- and, or, not as values -/
theorem ev_one {op : BoolOp} (h : EvX X e Γ i x Γ1) : EvX X (.BoolOp op [e] pos) Γ i x Γ1 := fun B Hb H σ τ Q hl R q => we_of (pe_one pe_we) (h B Hb H σ τ Q hl R q)
theorem ev_and (h : EvX X a Γ rBool t Γ1) (h2 : t = true → EvX X (.BoolOp .And (b :: rest) pos) Γ1 rBool u Γ1) : EvX X (.BoolOp .And (a :: b :: rest) pos) Γ rBool (t && u) Γ1 := by
  intro B Hb H σ τ Q hl R q
  refine we_of (pe_and pe_we pe_we) (h B Hb H σ τ _ hl R fun v Hb1 H1 s1 R1 rv => ⟨t, rv, ?_⟩)
  cases t with
  | true =>
    rw [if_pos rfl]
    exact h2 rfl B Hb1 H1 σ τ Q hl R1 fun v Hb2 H2 s2 R2 => q v Hb2 H2 (s1.trans s2) R2
  | false =>
    rw [if_neg Bool.false_ne_true]
    exact q _ Hb1 H1 s1 R1 rfl
theorem ev_or (h : EvX X a Γ rBool t Γ1) (h2 : t = false → EvX X (.BoolOp .Or (b :: rest) pos) Γ1 rBool u Γ1) : EvX X (.BoolOp .Or (a :: b :: rest) pos) Γ rBool (t || u) Γ1 := by
  intro B Hb H σ τ Q hl R q
  refine we_of (pe_or pe_we pe_we) (h B Hb H σ τ _ hl R fun v Hb1 H1 s1 R1 rv => ⟨t, rv, ?_⟩)
  cases t with
  | false =>
    rw [if_neg Bool.false_ne_true]
    exact h2 rfl B Hb1 H1 σ τ Q hl R1 fun v Hb2 H2 s2 R2 => q v Hb2 H2 (s1.trans s2) R2
  | true =>
    rw [if_pos rfl]
    exact q _ Hb1 H1 s1 R1 rfl
theorem ev_not (h : EvX X a Γ rBool t Γ1) : EvX X (.UnaryOp .Not a pos) Γ rBool (!t) Γ1 := by
  intro B Hb H σ τ Q hl R q
  exact we_of (pe_not pe_we) (h B Hb H σ τ _ hl R fun v Hb1 H1 s1 R1 rv => ⟨t, rv, q _ Hb1 H1 s1 R1 rfl⟩)
theorem ev_if {x1 x2 : α} (h : EvT X c Γ t Γ1) (h1 : t = true → EvX X a Γ1 i x1 Γ2) (h2 : t = false → EvX X b Γ1 i x2 Γ2) : EvX X (.IfExp c a b pos) Γ i (if t = true then x1 else x2) Γ2 := by
  intro B Hb H σ τ Q hl R q
  refine we_of (pe_ifExp pt_wt pe_we pe_we) (h B Hb H σ τ _ hl R fun Hb1 H1 s1 R1 => ?_)
  cases t with
  | true =>
    rw [if_pos rfl]
    exact h1 rfl B Hb1 H1 σ τ Q hl R1 fun v Hb2 H2 s2 R2 => q v Hb2 H2 (s1.trans s2) R2
  | false =>
    rw [if_neg Bool.false_ne_true]
    exact h2 rfl B Hb1 H1 σ τ Q hl R1 fun v Hb2 H2 s2 R2 => q v Hb2 H2 (s1.trans s2) R2

/-! ### readable lists -/
def LAt (K : Fg) (Hb H : Hp) (p : Addr) (i : Rp α) (xs : List α) : Prop := ∃ vs, H p = some (.lst vs) ∧ Paired (i.rp K Hb) vs xs
def EvL (X : Cx) (e : Expr) (Γ : Gam) {α : Type} (i : Rp α) (xs : List α) (Γ' : Gam) : Prop :=
  ∀ (B : Bs) (Hb H : Hp) (σ τ : L2.St) (Q : VK), σ.length = X.N.length → Reps X.K B Γ Hb H (σ ++ τ) →
    (∀ p Hb2 H2, Same Hb Hb2 → Reps X.K B Γ' Hb2 H2 (σ ++ τ) → (∀ Hb3 H3, Same Hb2 Hb3 → Reps X.K B Γ' Hb3 H3 (σ ++ τ) → LAt X.K Hb3 H3 p i xs) → Q (.ref p) H2) → we X e σ H Q
theorem el_val {xs : List α} (h : EvX X e Γ (rList (r := i)) xs Γ1) : EvL X e Γ i xs Γ1 := by
  intro B Hb H σ τ Q hl R q
  refine h B Hb H σ τ Q hl R fun v Hb1 H1 s1 R1 rv => ?_
  obtain ⟨p, vs, rfl, h1, h2⟩ := rv
  exact q p Hb1 H1 s1 R1 fun Hb3 H3 s3 R3 => ⟨vs, R3.sub _ _ (s3 _ _ h1), paired_imp (fun _ _ z => i.mono s3 z) h2⟩
theorem el_var (n : Nat) {m : Str} {p : Bool} {l : Addr} {xs : List α} (hN : X.N[n]? = some m := by rfl) (hs : Γ[n]? = some (.own p l (Res.lst i xs l)) := by rfl) (hv : Vis X.env.scope m := by first | exact Or.inl rfl | exact Or.inr (Or.inl rfl) | exact Or.inr (Or.inr rfl))
    (hd : (m == ("__debug__" : Str)) = false := by decide) (hcd : (m == ("__classdict__" : Str)) = false := by decide) : EvL X (.Name m pos) Γ i xs Γ := by
  intro B Hb H σ τ Q hl R q
  refine er_var n hN hs hv hd hcd B Hb H σ τ Q hl R (q l Hb H (Same.refl _) R fun Hb3 H3 s3 R3 => ?_)
  have hn : n < σ.length := by rw [hl]; exact (List.getElem?_eq_some_iff.mp hN).1
  exact (R3.at hn hs).2
/-- a name of a list, ground or owned -/
theorem ev_new {xs : List α} (h : EvN X e Γ (Res.lst i xs) Γ1) : EvX X e Γ (rList (r := i)) xs Γ1 := by
  intro B Hb H σ τ Q hl R q
  refine h B Hb H σ τ Q hl R fun l Hb1 H1 s1 R1 => ?_
  have hlen : (σ ++ τ).length = Γ1.length := by have := R1.len; simp only [List.length_append, List.length_singleton] at this ⊢; omega
  have e1 : (Γ1 ++ [Slot.own false l (Res.lst i xs l)])[Γ1.length]? = some (.own false l (Res.lst i xs l)) := by simp
  obtain ⟨Hb2, s2, R2, rp⟩ := R1.freeze e1
  have e2 : (Γ1 ++ [Slot.own false l (Res.lst i xs l)]).set Γ1.length (.val (rList (r := i)) xs) = Γ1 ++ [.val (rList (r := i)) xs] := by simp
  rw [e2] at R2
  exact q _ Hb2 H1 (s1.trans s2) R2.pop rp

/-! ### arguments -/
inductive Ag : Type 1 where
  | v {α : Type} (i : Rp α) (a : α)
  | r (l : Addr)
def Ag.ok (K : Fg) (Hb : Hp) : Ag → V → Prop
  | .v i a, u => i.rp K Hb u a
  | .r l, u => u = .ref l
theorem Ag.ok_mono {K : Fg} {Hb Hb' : Hp} {g : Ag} {u : V} (s : Same Hb Hb') (h : g.ok K Hb u) : g.ok K Hb' u := by
  cases g with
  | v i a => exact i.mono s h
  | r l => exact h
inductive AgsOk (K : Fg) (Hb : Hp) : List Ag → List V → Prop where
  | nil : AgsOk K Hb [] []
  | cons {g : Ag} {gs : List Ag} {v : V} {vs : List V} (h : g.ok K Hb v) (t : AgsOk K Hb gs vs) : AgsOk K Hb (g :: gs) (v :: vs)
def EvA (X : Cx) (es : List Expr) (Γ : Gam) (P : List Ag → Gam → Prop) : Prop :=
  ∀ (B : Bs) (Hb H : Hp) (σ τ : L2.St) (Q : List V → Hp → Prop), σ.length = X.N.length → Reps X.K B Γ Hb H (σ ++ τ) →
    (∀ gs Γ' vs Hb2 H2 τ', P gs Γ' → Same Hb Hb2 → Reps X.K B Γ' Hb2 H2 (σ ++ τ ++ τ') → AgsOk X.K Hb2 gs vs → Q vs H2) → wa X es σ H Q
theorem ea_nil {P : List Ag → Gam → Prop} (h : P [] Γ) : EvA X [] Γ P := fun B Hb H σ τ Q hl R q => wa_of pa_nil (q [] Γ [] Hb H [] h (Same.refl _) (by rw [List.append_nil]; exact R) .nil)
theorem ea_v {P : List Ag → Gam → Prop} (h : EvX X e Γ i x Γ1) (ht : EvA X es Γ1 fun gs Γ' => P (.v i x :: gs) Γ') (hs : starEach (e :: es) X.env = (false, eval e X.env) :: starEach es X.env := by rfl) : EvA X (e :: es) Γ P := by
  intro B Hb H σ τ Q hl R q
  refine wa_of (pa_cons pe_we pa_wa hs) (h B Hb H σ τ _ hl R fun v Hb1 H1 s1 R1 rv => ht B Hb1 H1 σ τ _ hl R1 fun gs Γ' vs Hb2 H2 τ' hp s2 R2 ok => ?_)
  exact q _ Γ' _ Hb2 H2 τ' hp (s1.trans s2) R2 (.cons (i.mono s2 rv) ok)
theorem ea_r {P : List Ag → Gam → Prop} {l : Addr} (h : EvR X e Γ l) (ht : EvA X es Γ fun gs Γ' => P (.r l :: gs) Γ') (hs : starEach (e :: es) X.env = (false, eval e X.env) :: starEach es X.env := by rfl) : EvA X (e :: es) Γ P := by
  intro B Hb H σ τ Q hl R q
  refine wa_of (pa_cons pe_we pa_wa hs) (h B Hb H σ τ _ hl R (ht B Hb H σ τ _ hl R fun gs Γ' vs Hb2 H2 τ' hp s2 R2 ok => ?_))
  exact q _ Γ' _ Hb2 H2 τ' hp s2 R2 (.cons rfl ok)
theorem ea_n {P : List Ag → Gam → Prop} {r : Addr → Res} (h : EvN X e Γ r Γ1) (ht : ∀ l, EvA X es (Γ1 ++ [.own false l (r l)]) fun gs Γ' => P (.r l :: gs) Γ') (hs : starEach (e :: es) X.env = (false, eval e X.env) :: starEach es X.env := by rfl) : EvA X (e :: es) Γ P := by
  intro B Hb H σ τ Q hl R q
  refine wa_of (pa_cons pe_we pa_wa hs) (h B Hb H σ τ _ hl R fun l Hb1 H1 s1 R1 => ht l B Hb1 H1 σ (τ ++ [some (.ref l)]) _ hl (by rw [← List.append_assoc]; exact R1) fun gs Γ' vs Hb2 H2 τ' hp s2 R2 ok => ?_)
  exact q _ Γ' _ Hb2 H2 ([some (.ref l)] ++ τ') hp (s1.trans s2) (by rw [← List.append_assoc] at R2 ⊢; exact R2) (.cons rfl ok)

/-! ### displays -/
/-- expressions of one kind, one after another -/
def EvLs (X : Cx) (es : List Expr) (Γ : Gam) {α : Type} (i : Rp α) (xs : List α) (Γ' : Gam) : Prop :=
  ∀ (B : Bs) (Hb H : Hp) (σ τ : L2.St) (Q : List V → Hp → Prop), σ.length = X.N.length → Reps X.K B Γ Hb H (σ ++ τ) →
    (∀ vs Hb2 H2, Same Hb Hb2 → Reps X.K B Γ' Hb2 H2 (σ ++ τ) → Paired (i.rp X.K Hb2) vs xs → Q vs H2) → wa X es σ H Q
theorem els_nil : EvLs X [] Γ i [] Γ := fun B Hb H σ τ Q hl R q => wa_of pa_nil (q [] Hb H (Same.refl _) R .nil)
theorem els_cons {xs : List α} (h : EvX X e Γ i x Γ1) (ht : EvLs X es Γ1 i xs Γ2) (hs : starEach (e :: es) X.env = (false, eval e X.env) :: starEach es X.env := by rfl) : EvLs X (e :: es) Γ i (x :: xs) Γ2 := by
  intro B Hb H σ τ Q hl R q
  refine wa_of (pa_cons pe_we pa_wa hs) (h B Hb H σ τ _ hl R fun v Hb1 H1 s1 R1 rv => ht B Hb1 H1 σ τ _ hl R1 fun vs Hb2 H2 s2 R2 ok => ?_)
  exact q _ Hb2 H2 (s1.trans s2) R2 (.cons (i.mono s2 rv) ok)
theorem sz_ok {n : Nat} (h : n ≤ 100000) : n ≤ sizeLine := Nat.le_trans h (by decide)
theorem sz_lt {n : Nat} (h : n < 100000) : n < sizeLine := Nat.lt_of_lt_of_le h (by decide)
/-- [a, b, ..], owned -/
theorem en_lst {xs : List α} (h : EvLs X es Γ i xs Γ1) (hz : xs.length ≤ 100000 := by simp) : EvN X (.List es pos) Γ (Res.lst i xs) Γ1 := by
  intro B Hb H σ τ Q hl R q
  refine we_of (pe_lst pa_wa) (h B Hb H σ τ _ hl R fun vs Hb2 H2 s2 R2 ok => ⟨by rw [paired_len ok]; exact sz_ok hz, fun p hp => ?_⟩)
  exact q p Hb2 _ s2 (R2.pushOwn hp rfl ⟨vs, upd_same, ok⟩)
theorem ev_tupV {xs : List α} (h : EvLs X es Γ i xs Γ1) (hz : xs.length ≤ 100000 := by simp) {m : Nat} : EvX X (.Tuple es m pos) Γ (rTup (r := i)) ⟨xs⟩ Γ1 := by
  intro B Hb H σ τ Q hl R q
  refine we_of (pe_tup pa_wa) (h B Hb H σ τ _ hl R fun vs Hb2 H2 s2 R2 ok => ⟨by rw [paired_len ok]; exact sz_ok hz, fun p hp => ?_⟩)
  have g := Gw.new R2.sub hp (.tup vs)
  exact q _ _ _ (s2.trans g.b) (R2.gw g) ⟨p, vs, rfl, upd_same, paired_imp (fun _ _ z => i.mono g.b z) ok⟩
theorem ev_tup2 (ha : EvX X a Γ i x Γ1) (hb : EvX X b Γ1 j y Γ2) {m : Nat} (hs : starEach [a, b] X.env = (false, eval a X.env) :: starEach [b] X.env := by rfl) (hs2 : starEach [b] X.env = (false, eval b X.env) :: starEach [] X.env := by rfl) :
    EvX X (.Tuple [a, b] m pos) Γ (rPair (r := i) (s := j)) (x, y) Γ2 := by
  intro B Hb H σ τ Q hl R q
  refine we_of (pe_tup (pa_cons pe_we (pa_cons pe_we pa_nil hs2) hs)) (ha B Hb H σ τ _ hl R fun v Hb1 H1 s1 R1 rv => hb B Hb1 H1 σ τ _ hl R1 fun w Hb2 H2 s2 R2 rw' => ⟨by show 2 ≤ sizeLine; decide, fun p hp => ?_⟩)
  have g := Gw.new R2.sub hp (.tup [v, w])
  exact q _ _ _ ((s1.trans s2).trans g.b) (R2.gw g) ⟨p, v, w, rfl, upd_same, i.mono (s2.trans g.b) rv, j.mono g.b rw'⟩
theorem ev_tup3 (ha : EvX X a Γ i x Γ1) (hb : EvX X b Γ1 j y Γ2) (hc : EvX X c Γ2 k z Γ3) {m : Nat} (hs : starEach [a, b, c] X.env = (false, eval a X.env) :: starEach [b, c] X.env := by rfl) (hs2 : starEach [b, c] X.env = (false, eval b X.env) :: starEach [c] X.env := by rfl)
    (hs3 : starEach [c] X.env = (false, eval c X.env) :: starEach [] X.env := by rfl) : EvX X (.Tuple [a, b, c] m pos) Γ (rT3 (r := i) (s := j) (t := k)) ⟨x, y, z⟩ Γ3 := by
  intro B Hb H σ τ Q hl R q
  refine we_of (pe_tup (pa_cons pe_we (pa_cons pe_we (pa_cons pe_we pa_nil hs3) hs2) hs)) (ha B Hb H σ τ _ hl R fun v Hb1 H1 s1 R1 rv => hb B Hb1 H1 σ τ _ hl R1 fun w Hb2 H2 s2 R2 rw' => hc B Hb2 H2 σ τ _ hl R2 fun u' Hb3 H3 s3 R3 ru => ⟨by show 3 ≤ sizeLine; decide, fun p hp => ?_⟩)
  have g := Gw.new R3.sub hp (.tup [v, w, u'])
  exact q _ _ _ (((s1.trans s2).trans s3).trans g.b) (R3.gw g) ⟨p, v, w, u', rfl, upd_same, i.mono ((s2.trans s3).trans g.b) rv, j.mono (s3.trans g.b) rw', k.mono g.b ru⟩

/-! ### items -/
theorem ev_ixL {xs : List α} {n : Int} (hl' : EvL X a Γ i xs Γ1) (hi : EvX X b Γ1 rInt n Γ1) (h0 : 0 ≤ n) (hx : xs[n.toNat]? = some x) (hs : PlainIx b := by exact fun _ _ => rfl) : EvX X (.Subscript a b pos) Γ i x Γ1 := by
  intro B Hb H σ τ Q hl R q
  refine we_of (pe_ix ix_list pe_we pe_we hs) (hl' B Hb H σ τ _ hl R fun p Hb1 H1 s1 R1 hp => hi B Hb1 H1 σ τ _ hl R1 fun v Hb2 H2 s2 R2 rv => ?_)
  obtain ⟨vs, h1, h2⟩ := hp Hb2 H2 s2 R2
  obtain ⟨w, hw, rw'⟩ := paired_get h2 hx
  have e : n = ((n.toNat : Nat) : Int) := (Int.toNat_of_nonneg h0).symm
  exact ⟨p, vs, n, w, rfl, rv, SqL.of h1, by rw [e]; exact atI_nat hw, q w Hb2 H2 (s1.trans s2) R2 rw'⟩
/-- the last one -/
theorem ev_ixLast {xs : List α} (hl' : EvL X a Γ i xs Γ1) (hi : EvX X b Γ1 rInt (-1) Γ1) (hx : xs.getLast? = some x) (hs : PlainIx b := by exact fun _ _ => rfl) : EvX X (.Subscript a b pos) Γ i x Γ1 := by
  intro B Hb H σ τ Q hl R q
  refine we_of (pe_ix ix_list pe_we pe_we hs) (hl' B Hb H σ τ _ hl R fun p Hb1 H1 s1 R1 hp => hi B Hb1 H1 σ τ _ hl R1 fun v Hb2 H2 s2 R2 rv => ?_)
  obtain ⟨vs, h1, h2⟩ := hp Hb2 H2 s2 R2
  rw [List.getLast?_eq_getElem?] at hx
  obtain ⟨w, hw, rw'⟩ := paired_get h2 hx
  rw [← paired_len h2] at hw
  obtain ⟨us, rfl⟩ : ∃ us, vs = us ++ [w] := by
    have hne : vs ≠ [] := by rintro rfl; simp at hw
    refine ⟨vs.dropLast, ?_⟩
    have e := List.dropLast_concat_getLast hne
    rw [List.getLast_eq_getElem] at e
    have e2 := (List.getElem?_eq_some_iff.mp hw).2
    rw [e2] at e
    exact e.symm
  exact ⟨p, _, -1, w, rfl, rv, SqL.of h1, atI_last us w, q w Hb2 H2 (s1.trans s2) R2 rw'⟩
theorem ev_ixT {xs : List α} {n : Int} (hl' : EvX X a Γ (rTup (r := i)) ⟨xs⟩ Γ1) (hi : EvX X b Γ1 rInt n Γ2) (h0 : 0 ≤ n) (hx : xs[n.toNat]? = some x) (hs : PlainIx b := by exact fun _ _ => rfl) : EvX X (.Subscript a b pos) Γ i x Γ2 := by
  intro B Hb H σ τ Q hl R q
  refine we_of (pe_ix ix_tup pe_we pe_we hs) (hl' B Hb H σ τ _ hl R fun u Hb1 H1 s1 R1 ru => hi B Hb1 H1 σ τ _ hl R1 fun v Hb2 H2 s2 R2 rv => ?_)
  obtain ⟨p, vs, rfl, h1, h2⟩ := ru
  obtain ⟨w, hw, rw'⟩ := paired_get h2 hx
  have e : n = ((n.toNat : Nat) : Int) := (Int.toNat_of_nonneg h0).symm
  exact ⟨p, vs, n, w, rfl, rv, SqT.of (R2.sub _ _ (s2 _ _ h1)), by rw [e]; exact atI_nat hw, q w Hb2 H2 (s1.trans s2) R2 (i.mono s2 rw')⟩
/-- t[0], t[1], t[2] of a pair, a triple -/
theorem ev_p0 {p : α × β} {m : Nat} {q1 : Pos} (h : EvX X a Γ (rPair (r := i) (s := j)) p Γ1) : EvX X (.Subscript a (.Constant (.int 0) m q1) pos) Γ i p.1 Γ1 := by
  intro B Hb H σ τ Q hl R q
  refine we_of (pe_ix ix_tup pe_we pe_int (fun _ _ => rfl)) (h B Hb H σ τ _ hl R fun u Hb1 H1 s1 R1 ru => ?_)
  obtain ⟨p, v, w, rfl, h1, h2, h3⟩ := ru
  exact ⟨p, _, 0, v, rfl, rfl, SqT.of (R1.sub _ _ h1), atI_nat (j := 0) rfl, q v Hb1 H1 s1 R1 h2⟩
theorem ev_p1 {p : α × β} {m : Nat} {q1 : Pos} (h : EvX X a Γ (rPair (r := i) (s := j)) p Γ1) : EvX X (.Subscript a (.Constant (.int 1) m q1) pos) Γ j p.2 Γ1 := by
  intro B Hb H σ τ Q hl R q
  refine we_of (pe_ix ix_tup pe_we pe_int (fun _ _ => rfl)) (h B Hb H σ τ _ hl R fun u Hb1 H1 s1 R1 ru => ?_)
  obtain ⟨p, v, w, rfl, h1, h2, h3⟩ := ru
  exact ⟨p, _, 1, w, rfl, rfl, SqT.of (R1.sub _ _ h1), atI_nat (j := 1) rfl, q w Hb1 H1 s1 R1 h3⟩
theorem ev_t0 {p : T3 α β γ} {m : Nat} {q1 : Pos} (h : EvX X a Γ (rT3 (r := i) (s := j) (t := k)) p Γ1) : EvX X (.Subscript a (.Constant (.int 0) m q1) pos) Γ i p.a Γ1 := by
  intro B Hb H σ τ Q hl R q
  refine we_of (pe_ix ix_tup pe_we pe_int (fun _ _ => rfl)) (h B Hb H σ τ _ hl R fun u Hb1 H1 s1 R1 ru => ?_)
  obtain ⟨p, v, w, v3, rfl, h1, h2, h3, h4⟩ := ru
  exact ⟨p, _, 0, v, rfl, rfl, SqT.of (R1.sub _ _ h1), atI_nat (j := 0) rfl, q v Hb1 H1 s1 R1 h2⟩
theorem ev_t1 {p : T3 α β γ} {m : Nat} {q1 : Pos} (h : EvX X a Γ (rT3 (r := i) (s := j) (t := k)) p Γ1) : EvX X (.Subscript a (.Constant (.int 1) m q1) pos) Γ j p.b Γ1 := by
  intro B Hb H σ τ Q hl R q
  refine we_of (pe_ix ix_tup pe_we pe_int (fun _ _ => rfl)) (h B Hb H σ τ _ hl R fun u Hb1 H1 s1 R1 ru => ?_)
  obtain ⟨p, v, w, v3, rfl, h1, h2, h3, h4⟩ := ru
  exact ⟨p, _, 1, w, rfl, rfl, SqT.of (R1.sub _ _ h1), atI_nat (j := 1) rfl, q w Hb1 H1 s1 R1 h3⟩
theorem ev_t2 {p : T3 α β γ} {m : Nat} {q1 : Pos} (h : EvX X a Γ (rT3 (r := i) (s := j) (t := k)) p Γ1) : EvX X (.Subscript a (.Constant (.int 2) m q1) pos) Γ k p.c Γ1 := by
  intro B Hb H σ τ Q hl R q
  refine we_of (pe_ix ix_tup pe_we pe_int (fun _ _ => rfl)) (h B Hb H σ τ _ hl R fun u Hb1 H1 s1 R1 ru => ?_)
  obtain ⟨p, v, w, v3, rfl, h1, h2, h3, h4⟩ := ru
  exact ⟨p, _, 2, v3, rfl, rfl, SqT.of (R1.sub _ _ h1), atI_nat (j := 2) rfl, q v3 Hb1 H1 s1 R1 h4⟩
/-- script[k] -/
theorem ev_ixS {xs : List Int} {n m : Int} (hl' : EvX X a Γ rScr ⟨xs⟩ Γ1) (hi : EvX X b Γ1 rInt n Γ2) (h0 : 0 ≤ n) (hx : xs[n.toNat]? = some m) (hs : PlainIx b := by exact fun _ _ => rfl) : EvX X (.Subscript a b pos) Γ rInt m Γ2 := by
  intro B Hb H σ τ Q hl R q
  refine we_of (pe_ix ix_list pe_we pe_we hs) (hl' B Hb H σ τ _ hl R fun u Hb1 H1 s1 R1 ru => hi B Hb1 H1 σ τ _ hl R1 fun v Hb2 H2 s2 R2 rv => ?_)
  obtain ⟨p, rfl, h1⟩ := ru
  have e : n = ((n.toNat : Nat) : Int) := (Int.toNat_of_nonneg h0).symm
  exact ⟨p, _, n, .int m, rfl, rv, (s2.trans R2.sub).seq h1, by rw [e]; exact atI_nat (by rw [List.getElem?_map, hx]; rfl), q _ Hb2 H2 (s1.trans s2) R2 rfl⟩

/-! ### calls of built-ins -/
/-- f(a, ..) by values -/
theorem ev_blt {m id : Str} {p p2 : Pos} {r : List V → Hp → VK → Prop} {P : List Ag → Gam → Prop} {f : Value} (pe : ∀ ta : TA, PA X (e :: es) ta → PE X (.Call (.Name m p) (e :: es) [] p2) (tCB r ta)) (ha : EvA X (e :: es) Γ P)
    (hr : ∀ gs Γ', P gs Γ' → Γ' = Γ1 ∧ ∀ (Hb H : Hp) (vs : List V) (Q : VK), Same Hb H → AgsOk X.K Hb gs vs → (∀ w Hb2 H2, Gw Hb H Hb2 H2 → i.rp X.K Hb2 w x → Q w H2) → r vs H Q) (hl1 : Γ1.length = Γ.length) : EvX X (.Call (.Name m p) (e :: es) [] p2) Γ i x Γ1 := by
  intro B Hb H σ τ Q hl R q
  refine we_of (pe _ pa_wa) (ha B Hb H σ τ _ hl R fun gs Γ' vs Hb2 H2 τ' hp s2 R2 ok => ?_)
  obtain ⟨rfl, h⟩ := hr gs Γ' hp
  have e1 : τ' = [] := by
    have h1 := R2.len
    have h2 := R.len
    simp only [List.length_append] at h1 h2
    have : τ'.length = 0 := by omega
    exact List.eq_nil_of_length_eq_zero this
  subst e1
  rw [List.append_nil] at R2
  exact h Hb2 H2 vs Q R2.sub ok fun w Hb3 H3 g rw' => q w Hb3 H3 (s2.trans g.b) (R2.gw g) rw'
/-- one argument of the ground -/
theorem ev_b1 {m id : Str} {p p2 : Pos} {r : List V → Hp → VK → Prop} (pe : ∀ ta : TA, PA X [a] ta → PE X (.Call (.Name m p) [a] [] p2) (tCB r ta)) (ha : EvX X a Γ j y Γ1)
    (hr : ∀ (Hb H : Hp) (v : V) (Q : VK), Same Hb H → j.rp X.K Hb v y → (∀ w Hb2 H2, Gw Hb H Hb2 H2 → i.rp X.K Hb2 w x → Q w H2) → r [v] H Q) (hs : starEach [a] X.env = (false, eval a X.env) :: starEach [] X.env := by rfl) : EvX X (.Call (.Name m p) [a] [] p2) Γ i x Γ1 := by
  intro B Hb H σ τ Q hl R q
  refine we_of (pe _ (pa_cons pe_we pa_nil hs)) (ha B Hb H σ τ _ hl R fun v Hb1 H1 s1 R1 rv => ?_)
  exact hr Hb1 H1 v Q R1.sub rv fun w Hb3 H3 g rw' => q w Hb3 H3 (s1.trans g.b) (R1.gw g) rw'
theorem ev_b2 {m id : Str} {p p2 : Pos} {r : List V → Hp → VK → Prop} (pe : ∀ ta : TA, PA X [a, b] ta → PE X (.Call (.Name m p) [a, b] [] p2) (tCB r ta)) (ha : EvX X a Γ j y Γ1) (hb : EvX X b Γ1 k z Γ2)
    (hr : ∀ (Hb H : Hp) (v u : V) (Q : VK), Same Hb H → j.rp X.K Hb v y → k.rp X.K Hb u z → (∀ w Hb2 H2, Gw Hb H Hb2 H2 → i.rp X.K Hb2 w x → Q w H2) → r [v, u] H Q)
    (hs : starEach [a, b] X.env = (false, eval a X.env) :: starEach [b] X.env := by rfl) (hs2 : starEach [b] X.env = (false, eval b X.env) :: starEach [] X.env := by rfl) : EvX X (.Call (.Name m p) [a, b] [] p2) Γ i x Γ2 := by
  intro B Hb H σ τ Q hl R q
  refine we_of (pe _ (pa_cons pe_we (pa_cons pe_we pa_nil hs2) hs)) (ha B Hb H σ τ _ hl R fun v Hb1 H1 s1 R1 rv => hb B Hb1 H1 σ τ _ hl R1 fun u Hb2 H2 s2 R2 ru => ?_)
  exact hr Hb2 H2 v u Q R2.sub (j.mono s2 rv) ru fun w Hb3 H3 g rw' => q w Hb3 H3 ((s1.trans s2).trans g.b) (R2.gw g) rw'
section
variable {p p2 : Pos}
theorem ev_abs {n : Int} (hm : X.mg "abs" = none) (ha : EvX X a Γ rInt n Γ1) (hg : Gl X "abs" := by rfl) (hs : starEach [a] X.env = (false, eval a X.env) :: starEach [] X.env := by rfl) : EvX X (.Call (.Name "abs" p) [a] [] p2) Γ rInt (if n < 0 then -n else n) Γ1 :=
  ev_b1 (id := "") (fun ta h => pe_callB call_abs hg hm (by decide +kernel) h (he := hs)) ha (hs := hs) fun Hb H v Q s rv q => ⟨n, by rw [show v = .int n from rv], q _ Hb H (Gw.refl s) rfl⟩
theorem ev_intI {n : Int} (hm : X.mg "int" = none) (ha : EvX X a Γ rInt n Γ1) (hg : Gl X "int" := by rfl) (hs : starEach [a] X.env = (false, eval a X.env) :: starEach [] X.env := by rfl) : EvX X (.Call (.Name "int" p) [a] [] p2) Γ rInt n Γ1 :=
  ev_b1 (id := "") (fun ta h => pe_callTy call_int1 hg hm (by decide +kernel) h (he := hs)) ha (hs := hs) fun Hb H v Q s rv q => .inl ⟨n, by rw [show v = .int n from rv], q _ Hb H (Gw.refl s) rfl⟩
theorem ev_intB (hm : X.mg "int" = none) (ha : EvX X a Γ rBool t Γ1) (hg : Gl X "int" := by rfl) (hs : starEach [a] X.env = (false, eval a X.env) :: starEach [] X.env := by rfl) : EvX X (.Call (.Name "int" p) [a] [] p2) Γ rInt (if t then 1 else 0) Γ1 :=
  ev_b1 (id := "") (fun ta h => pe_callTy call_int1 hg hm (by decide +kernel) h (he := hs)) ha (hs := hs) fun Hb H v Q s rv q => .inr ⟨t, by rw [show v = .bl t from rv], q _ Hb H (Gw.refl s) rfl⟩
theorem ev_max {m n : Int} (hm : X.mg "max" = none) (ha : EvX X a Γ rInt m Γ1) (hb : EvX X b Γ1 rInt n Γ2) (hc : X.calm = true := by rfl) (hg : Gl X "max" := by rfl) (hs : starEach [a, b] X.env = (false, eval a X.env) :: starEach [b] X.env := by rfl) (hs2 : starEach [b] X.env = (false, eval b X.env) :: starEach [] X.env := by rfl) : EvX X (.Call (.Name "max" p) [a, b] [] p2) Γ rInt (if n > m then n else m) Γ2 :=
  ev_b2 (id := "") (fun ta h => pe_callB (call_max2 hc) hg hm (by decide +kernel) h (he := hs) (hpl := by rw [hs2]; rfl)) ha hb (hs := hs) (hs2 := hs2) fun Hb H v u Q s rv ru q => ⟨m, n, by rw [show v = .int m from rv, show u = .int n from ru], q _ Hb H (Gw.refl s) rfl⟩
theorem ev_min {m n : Int} (hm : X.mg "min" = none) (ha : EvX X a Γ rInt m Γ1) (hb : EvX X b Γ1 rInt n Γ2) (hc : X.calm = true := by rfl) (hg : Gl X "min" := by rfl) (hs : starEach [a, b] X.env = (false, eval a X.env) :: starEach [b] X.env := by rfl) (hs2 : starEach [b] X.env = (false, eval b X.env) :: starEach [] X.env := by rfl) : EvX X (.Call (.Name "min" p) [a, b] [] p2) Γ rInt (if n < m then n else m) Γ2 :=
  ev_b2 (id := "") (fun ta h => pe_callB (call_min2 hc) hg hm (by decide +kernel) h (he := hs) (hpl := by rw [hs2]; rfl)) ha hb (hs := hs) (hs2 := hs2) fun Hb H v u Q s rv ru q => ⟨m, n, by rw [show v = .int m from rv, show u = .int n from ru], q _ Hb H (Gw.refl s) rfl⟩
theorem ev_lenL {xs : List α} (hm : X.mg "len" = none) (ha : EvL X a Γ i xs Γ1) (hg : Gl X "len" := by rfl) (hs : starEach [a] X.env = (false, eval a X.env) :: starEach [] X.env := by rfl) : EvX X (.Call (.Name "len" p) [a] [] p2) Γ rInt (xs.length : Int) Γ1 := by
  intro B Hb H σ τ Q hl R q
  refine we_of (pe_callB call_len_seq hg hm (by decide +kernel) (pa_cons pe_we pa_nil hs) (he := hs)) (ha B Hb H σ τ _ hl R fun l Hb1 H1 s1 R1 hp => ?_)
  obtain ⟨vs, h1, h2⟩ := hp Hb1 H1 (Same.refl _) R1
  exact ⟨l, vs, rfl, .inl (SqL.of h1), by rw [paired_len h2]; exact q _ Hb1 H1 s1 R1 rfl⟩
theorem ev_lenT {xs : List α} (hm : X.mg "len" = none) (ha : EvX X a Γ (rTup (r := i)) ⟨xs⟩ Γ1) (hg : Gl X "len" := by rfl) (hs : starEach [a] X.env = (false, eval a X.env) :: starEach [] X.env := by rfl) : EvX X (.Call (.Name "len" p) [a] [] p2) Γ rInt (xs.length : Int) Γ1 :=
  ev_b1 (id := "") (fun ta h => pe_callB call_len_seq hg hm (by decide +kernel) h (he := hs)) ha (hs := hs) fun Hb H v Q s rv q => by
    obtain ⟨l, vs, rfl, h1, h2⟩ := rv
    exact ⟨l, vs, rfl, .inr (SqT.of (s _ _ h1)), by rw [paired_len h2]; exact q _ Hb H (Gw.refl s) rfl⟩
theorem ev_lenS {xs : List Int} (hm : X.mg "len" = none) (ha : EvX X a Γ rScr ⟨xs⟩ Γ1) (hg : Gl X "len" := by rfl) (hs : starEach [a] X.env = (false, eval a X.env) :: starEach [] X.env := by rfl) : EvX X (.Call (.Name "len" p) [a] [] p2) Γ rInt (xs.length : Int) Γ1 :=
  ev_b1 (id := "") (fun ta h => pe_callB call_len_seq hg hm (by decide +kernel) h (he := hs)) ha (hs := hs) fun Hb H v Q s rv q => by
    obtain ⟨l, rfl, h1⟩ := rv
    exact ⟨l, _, rfl, .inl (s.seq h1), by rw [List.length_map]; exact q _ Hb H (Gw.refl s) rfl⟩
/-- list(xs), tuple(xs) -/
theorem en_list {xs : List α} (hm : X.mg "list" = none) (ha : EvL X a Γ i xs Γ1) (hg : Gl X "list" := by rfl) (hs : starEach [a] X.env = (false, eval a X.env) :: starEach [] X.env := by rfl) : EvN X (.Call (.Name "list" p) [a] [] p2) Γ (Res.lst i xs) Γ1 := by
  intro B Hb H σ τ Q hl R q
  refine we_of (pe_callTy call_list_of hg hm (by decide +kernel) (pa_cons pe_we pa_nil hs) (he := hs)) (ha B Hb H σ τ _ hl R fun l Hb1 H1 s1 R1 hp => ?_)
  obtain ⟨vs, h1, h2⟩ := hp Hb1 H1 (Same.refl _) R1
  exact ⟨l, vs, rfl, .inl (SqL.of h1), fun n hn => q n Hb1 _ s1 (R1.pushOwn hn rfl ⟨vs, upd_same, h2⟩)⟩
theorem en_listT {xs : List α} (hm : X.mg "list" = none) (ha : EvX X a Γ (rTup (r := i)) ⟨xs⟩ Γ1) (hg : Gl X "list" := by rfl) (hs : starEach [a] X.env = (false, eval a X.env) :: starEach [] X.env := by rfl) : EvN X (.Call (.Name "list" p) [a] [] p2) Γ (Res.lst i xs) Γ1 := by
  intro B Hb H σ τ Q hl R q
  refine we_of (pe_callTy call_list_of hg hm (by decide +kernel) (pa_cons pe_we pa_nil hs) (he := hs)) (ha B Hb H σ τ _ hl R fun v Hb1 H1 s1 R1 rv => ?_)
  obtain ⟨l, vs, rfl, h1, h2⟩ := rv
  exact ⟨l, vs, rfl, .inr (SqT.of (R1.sub _ _ h1)), fun n hn => q n Hb1 _ s1 (R1.pushOwn hn rfl ⟨vs, upd_same, h2⟩)⟩
theorem ev_tuple {xs : List α} (hm : X.mg "tuple" = none) (ha : EvL X a Γ i xs Γ1) (hg : Gl X "tuple" := by rfl) (hs : starEach [a] X.env = (false, eval a X.env) :: starEach [] X.env := by rfl) : EvX X (.Call (.Name "tuple" p) [a] [] p2) Γ (rTup (r := i)) ⟨xs⟩ Γ1 := by
  intro B Hb H σ τ Q hl R q
  refine we_of (pe_callTy call_tuple_of hg hm (by decide +kernel) (pa_cons pe_we pa_nil hs) (he := hs)) (ha B Hb H σ τ _ hl R fun l Hb1 H1 s1 R1 hp => ?_)
  obtain ⟨vs, h1, h2⟩ := hp Hb1 H1 (Same.refl _) R1
  refine ⟨l, vs, rfl, .inl ⟨SqL.of h1, fun n hn => ?_⟩⟩
  have g := Gw.new R1.sub hn (.tup vs)
  exact q _ _ _ (s1.trans g.b) (R1.gw g) ⟨n, vs, rfl, upd_same, paired_imp (fun _ _ z => i.mono g.b z) h2⟩
end

/-! ### lists put together -/
theorem en_cat {xs ys : List α} (ha : EvL X a Γ i xs Γ1) (hb : EvL X b Γ1 i ys Γ1) (hz : xs.length + ys.length ≤ 100000) : EvN X (.BinOp a .Add b pos) Γ (Res.lst i (xs ++ ys)) Γ1 := by
  intro B Hb H σ τ Q hl R q
  refine we_of (pe_op op_cat pe_we pe_we) (ha B Hb H σ τ _ hl R fun l Hb1 H1 s1 R1 hp => hb B Hb1 H1 σ τ _ hl R1 fun l2 Hb2 H2 s2 R2 hp2 => ?_)
  obtain ⟨vs, h1, h2⟩ := hp Hb2 H2 s2 R2
  obtain ⟨us, g1, g2⟩ := hp2 Hb2 H2 (Same.refl _) R2
  refine ⟨l, l2, vs, us, rfl, rfl, h1, g1, by rw [paired_len h2, paired_len g2]; exact sz_ok hz, fun n hn => ?_⟩
  exact q n Hb2 _ (s1.trans s2) (R2.pushOwn hn rfl ⟨_, upd_same, paired_app h2 g2⟩)
end
end VS

set_option maxHeartbeats 2000000
set_option autoImplicit false
/-! VS4: statements, defs and their calls. -/
namespace VS
open PySem L2

/-- an error: its class's name, its fields -/
structure Er where
  name : Str
  fs : List (Str × Ag)
def RepEr (K : Fg) (Hb : Hp) (cls : Value) (d : Option Addr) (e : Er) : Prop :=
  ∃ C, PySem.W.nsIn K mainGlobals e.name = some (some (.ref C)) ∧ cls = .ref C ∧ ((e.fs = [] ∧ d = none) ∨ e.fs ≠ [] ∧ ∃ dd vs, d = some dd ∧ Hb dd = some (.xd vs) ∧ ∀ p, p ∈ e.fs → ∃ v, vs.lookup p.1 = some v ∧ p.2.ok K Hb v)
inductive Out : Type 1 where
  | nx (Γ : Gam)
  | bk (Γ : Gam)
  | ct (Γ : Gam)
  | rt (s : Ag) (Γ : Gam)
  | er (e : Er) (Γ : Gam)
/-- the ends D, W are what P says -/
structure Fin (X : Cx) (W : WX) (B : Bs) (Hb : Hp) (D : Ends) (P : Out → Prop) : Prop where
  nx : ∀ Γ', P (.nx Γ') → ∀ Hb' H' σ' τ', Same Hb Hb' → σ'.length = X.N.length → Reps X.K B Γ' Hb' H' (σ' ++ τ') → D.nx σ' H'
  bk : ∀ Γ', P (.bk Γ') → ∀ Hb' H' σ' τ', Same Hb Hb' → σ'.length = X.N.length → Reps X.K B Γ' Hb' H' (σ' ++ τ') → D.bk σ' H'
  ct : ∀ Γ', P (.ct Γ') → ∀ Hb' H' σ' τ', Same Hb Hb' → σ'.length = X.N.length → Reps X.K B Γ' Hb' H' (σ' ++ τ') → D.ct σ' H'
  rt : ∀ s Γ', P (.rt s Γ') → ∀ Hb' H' σ' τ' v, Same Hb Hb' → σ'.length = X.N.length → Reps X.K B Γ' Hb' H' (σ' ++ τ') → s.ok X.K Hb' v → D.rt v H'
  er : ∀ e Γ', P (.er e Γ') → ∀ Hb' H' σ' τ' cls d, Same Hb Hb' → σ'.length = X.N.length → Reps X.K B Γ' Hb' H' (σ' ++ τ') → RepEr X.K Hb' cls d e → W cls d σ' H'
theorem Fin.later {X : Cx} {W : WX} {B : Bs} {Hb Hb2 : Hp} {D : Ends} {P : Out → Prop} (F : Fin X W B Hb D P) (s : Same Hb Hb2) : Fin X W B Hb2 D P :=
  ⟨fun Γ' p Hb' H' σ' τ' e => F.nx Γ' p Hb' H' σ' τ' (s.trans e), fun Γ' p Hb' H' σ' τ' e => F.bk Γ' p Hb' H' σ' τ' (s.trans e), fun Γ' p Hb' H' σ' τ' e => F.ct Γ' p Hb' H' σ' τ' (s.trans e),
    fun t Γ' p Hb' H' σ' τ' v e => F.rt t Γ' p Hb' H' σ' τ' v (s.trans e), fun t Γ' p Hb' H' σ' τ' cls d e => F.er t Γ' p Hb' H' σ' τ' cls d (s.trans e)⟩
def SG (X : Cx) (W : WX) (sts : List Stmt) (Γ : Gam) (P : Out → Prop) : Prop :=
  ∀ (B : Bs) (Hb H : Hp) (σ τ : L2.St) (D : Ends), σ.length = X.N.length → Reps X.K B Γ Hb H (σ ++ τ) → Fin X W B Hb D P → ws X sts D σ H
def S1 (X : Cx) (W : WX) (st : Stmt) (Γ : Gam) (P : Out → Prop) : Prop :=
  ∀ (B : Bs) (Hb H : Hp) (σ τ : L2.St) (D : Ends), σ.length = X.N.length → Reps X.K B Γ Hb H (σ ++ τ) → Fin X W B Hb D P → w1 X st D σ H
/-- then the rest -/
def thenP (X : Cx) (W : WX) (rest : List Stmt) (P : Out → Prop) : Out → Prop
  | .nx Γ => SG X W rest Γ P
  | o => P o
/-- a loop's body: back to I -/
def loopP (I : Gam → Prop) (P : Out → Prop) : Out → Prop
  | .nx Γ => I Γ
  | .ct Γ => I Γ
  | .bk Γ => P (.nx Γ)
  | o => P o

section
variable {X : Cx} {W : WX} {a b c e : Expr} {es : List Expr} {st : Stmt} {A rest : List Stmt} {Γ Γ1 Γ2 : Gam} {pos pos' : Pos} {α β γ : Type} {i : Rp α} {j : Rp β} {k : Rp γ} {x : α} {y : β} {z : γ} {t : Bool} {P : Out → Prop}

theorem sg_nil (h : P (.nx Γ)) : SG X W [] Γ P := fun B Hb H σ τ D hl R F => ws_of pss_nil (F.nx Γ h Hb H σ τ (Same.refl _) hl R)
theorem sg_cons (h : S1 X W st Γ (thenP X W rest P)) : SG X W (st :: rest) Γ P := fun B Hb H σ τ D hl R F => by
  refine ws_of (pss_cons ps_w1 ps_ws) (h B Hb H σ τ { D with nx := fun σ H => ws X rest D σ H } hl R ⟨fun Γ' p Hb' H' σ' τ' s hl' R' => ?_, F.bk, F.ct, F.rt, F.er⟩)
  exact p B Hb' H' σ' τ' D hl' R' (F.later s)
theorem sg_one (h : S1 X W st Γ P) : SG X W [st] Γ P := fun B Hb H σ τ D hl R F => ws_of (pss_one ps_w1) (h B Hb H σ τ D hl R F)
theorem S1.imp {P' : Out → Prop} (h : S1 X W st Γ P') (hp : ∀ o, P' o → P o) : S1 X W st Γ P := fun B Hb H σ τ D hl R F =>
  h B Hb H σ τ D hl R ⟨fun Γ' p => F.nx Γ' (hp _ p), fun Γ' p => F.bk Γ' (hp _ p), fun Γ' p => F.ct Γ' (hp _ p), fun s Γ' p => F.rt s Γ' (hp _ p), fun s Γ' p => F.er s Γ' (hp _ p)⟩
theorem SG.imp {P' : Out → Prop} (h : SG X W A Γ P') (hp : ∀ o, P' o → P o) : SG X W A Γ P := fun B Hb H σ τ D hl R F =>
  h B Hb H σ τ D hl R ⟨fun Γ' p => F.nx Γ' (hp _ p), fun Γ' p => F.bk Γ' (hp _ p), fun Γ' p => F.ct Γ' (hp _ p), fun s Γ' p => F.rt s Γ' (hp _ p), fun s Γ' p => F.er s Γ' (hp _ p)⟩

/-! ### assignments -/
theorem set_app {Γ : Gam} {σ τ : L2.St} {n : Nat} {s : Slot} {o : Option V} {K : Fg} {B : Bs} {Hb H : Hp} (hn : n < σ.length) (R : Reps K B (Γ.set n s) Hb H ((σ ++ τ).set n o)) : Reps K B (Γ.set n s) Hb H (σ.set n o ++ τ) := by
  rw [List.set_append_left n o hn] at R
  exact R
theorem s_asg (n : Nat) {m : Str} (h : EvX X e Γ i x Γ1) (hp : P (.nx (Γ1.set n (.val i x)))) (hN : X.N.Nodup) (hi : X.N[n]? = some m := by rfl) (hx : Loc X.env.scope m := by first | exact Or.inl rfl | exact Or.inr rfl)
    (hs : swapsWith e (some (.Name m pos')) pos.line X.env = pure false := by rfl) (hf : X.fn m = true ∨ X.env.scope.names.lookup m = some .local := by first | exact .inl rfl | exact .inr rfl) :
    S1 X W (.Assign [.Name m pos'] e pos) Γ P := by
  intro B Hb H σ τ D hl R F
  have hn : n < σ.length := by rw [hl]; exact (List.getElem?_eq_some_iff.mp hi).1
  refine w1_of (ps_set hN hi hx pe_we hs hf) (h B Hb H σ τ _ hl R fun v Hb1 H1 s1 R1 rv => ?_)
  exact F.nx _ hp Hb1 H1 _ τ s1 (by rw [List.length_set]; exact hl) (set_app hn (R1.set n (s := .val i x) (x := some v) ⟨v, rfl, rv⟩ fun _ _ _ z => nomatch z))
theorem s_asgN (n : Nat) {m : Str} {r : Addr → Res} (h : EvN X e Γ r Γ1) (hp : ∀ l, P (.nx (Γ1.set n (.own false l (r l))))) (hN : X.N.Nodup) (hi : X.N[n]? = some m := by rfl) (hx : Loc X.env.scope m := by first | exact Or.inl rfl | exact Or.inr rfl)
    (hs : swapsWith e (some (.Name m pos')) pos.line X.env = pure false := by rfl) (hf : X.fn m = true ∨ X.env.scope.names.lookup m = some .local := by first | exact .inl rfl | exact .inr rfl) :
    S1 X W (.Assign [.Name m pos'] e pos) Γ P := by
  intro B Hb H σ τ D hl R F
  have hn : n < σ.length := by rw [hl]; exact (List.getElem?_eq_some_iff.mp hi).1
  refine w1_of (ps_set hN hi hx pe_we hs hf) (h B Hb H σ τ _ hl R fun l Hb1 H1 s1 R1 => ?_)
  have R2 := R1.setOwn n
  have lk : ((Γ1 ++ [Slot.own false l (r l)])[Γ1.length]?) = some (.own false l (r l)) := by simp
  exact F.nx _ (hp l) Hb1 H1 _ τ s1 (by rw [List.length_set]; exact hl) (set_app hn R2)
theorem s_expr (h : EvX X e Γ i x Γ1) (hp : P (.nx Γ1)) (hs : swapsWith e none pos.line X.env = pure false := by rfl) : S1 X W (.Expr e pos) Γ P := by
  intro B Hb H σ τ D hl R F
  exact w1_of (ps_expr pe_we hs) (h B Hb H σ τ _ hl R fun v Hb1 H1 s1 R1 rv => F.nx _ hp Hb1 H1 _ τ s1 hl R1)
theorem s_ret (h : EvX X e Γ i x Γ1) (hp : P (.rt (.v i x) Γ1)) : S1 X W (.Return (some e) pos) Γ P := by
  intro B Hb H σ τ D hl R F
  exact w1_of (ps_ret pe_we) (h B Hb H σ τ _ hl R fun v Hb1 H1 s1 R1 rv => F.rt _ _ hp Hb1 H1 _ τ v s1 hl R1 rv)
theorem s_retR {l : Addr} (h : EvR X e Γ l) (hp : P (.rt (.r l) Γ)) : S1 X W (.Return (some e) pos) Γ P := by
  intro B Hb H σ τ D hl R F
  exact w1_of (ps_ret pe_we) (h B Hb H σ τ _ hl R (F.rt _ _ hp Hb H _ τ _ (Same.refl _) hl R rfl))
theorem s_retN {r : Addr → Res} (h : EvN X e Γ r Γ1) (hp : ∀ l, P (.rt (.r l) (Γ1 ++ [.own false l (r l)]))) : S1 X W (.Return (some e) pos) Γ P := by
  intro B Hb H σ τ D hl R F
  exact w1_of (ps_ret pe_we) (h B Hb H σ τ _ hl R fun l Hb1 H1 s1 R1 => F.rt _ _ (hp l) Hb1 H1 _ (τ ++ [some (.ref l)]) _ s1 hl (by rw [← List.append_assoc]; exact R1) rfl)
theorem s_retE (hp : P (.rt (.v rNone ()) Γ)) : S1 X W (.Return none pos) Γ P := by
  intro B Hb H σ τ D hl R F
  exact w1_of ps_retN (F.rt _ _ hp Hb H _ τ _ (Same.refl _) hl R rfl)
theorem s_pass (hp : P (.nx Γ)) : S1 X W (.Pass pos) Γ P := fun B Hb H σ τ D hl R F => w1_of ps_pass (F.nx Γ hp Hb H σ τ (Same.refl _) hl R)
theorem s_brk (hp : P (.bk Γ)) : S1 X W (.Break pos) Γ P := fun B Hb H σ τ D hl R F => w1_of ps_break (F.bk Γ hp Hb H σ τ (Same.refl _) hl R)
theorem s_cont (hp : P (.ct Γ)) : S1 X W (.Continue pos) Γ P := fun B Hb H σ τ D hl R F => w1_of ps_continue (F.ct Γ hp Hb H σ τ (Same.refl _) hl R)
theorem s_if {A' : List Stmt} (h : EvT X c Γ t Γ1) (h1 : t = true → SG X W A Γ1 P) (h2 : t = false → SG X W A' Γ1 P) : S1 X W (.If c A A' pos) Γ P := by
  intro B Hb H σ τ D hl R F
  refine w1_of (ps_if pt_wt ps_ws ps_ws) (h B Hb H σ τ _ hl R fun Hb1 H1 s1 R1 => ?_)
  cases t with
  | true => rw [if_pos rfl]; exact h1 rfl B Hb1 H1 σ τ D hl R1 (F.later s1)
  | false => rw [if_neg Bool.false_ne_true]; exact h2 rfl B Hb1 H1 σ τ D hl R1 (F.later s1)

/-! ### what is owned is changed -/
theorem reps_lst {K : Fg} {B : Bs} {Hb H : Hp} {σ : L2.St} {n : Nat} {p : Bool} {l : Addr} {xs ys : List α} (R : Reps K B Γ Hb H σ) (e : Γ[n]? = some (.own p l (Res.lst i xs l))) {vs : List V} (h : Paired (i.rp K Hb) vs ys) :
    Reps K B (Γ.set n (.own p l (Res.lst i ys l))) Hb (upd H l (.lst vs)) σ :=
  R.write e (fun a h1 _ => upd_ne (fun z => h1 (List.mem_singleton.mpr z))) (fun a m => .inl m) (fun a m => by
    have m' : a ∈ [l] := by rcases m with m | m <;> exact m
    rw [List.mem_singleton.mp m', upd_same]; exact fun z => nomatch z) ⟨vs, upd_same, h⟩
/-- xs.append(e), xs owned in slot n -/
theorem s_append (n : Nat) {m : Str} {p : Bool} {l : Addr} {xs : List α} {p1 p2 p3 : Pos} (h : EvX X e Γ i x Γ1) (hs : Γ1[n]? = some (.own p l (Res.lst i xs l)) := by rfl) (hs0 : Γ[n]? = some (.own p l (Res.lst i xs l)) := by rfl) (hz : xs.length < 100000)
    (hp : P (.nx (Γ1.set n (.own p l (Res.lst i (xs ++ [x]) l))))) (hN : X.N[n]? = some m := by rfl) (hv : Vis X.env.scope m := by first | exact Or.inl rfl | exact Or.inr (Or.inl rfl) | exact Or.inr (Or.inr rfl))
    (hst : starEach [e] X.env = (false, eval e X.env) :: starEach [] X.env := by rfl) (hd : (m == ("__debug__" : Str)) = false := by decide) (hcd : (m == ("__classdict__" : Str)) = false := by decide)
    (hpe : ∀ {to : TE} {ta : TA}, PE X (.Name m p1) to → PA X [e] ta → PE X (.Call (.Attribute (.Name m p1) "append" p2) [e] [] p3) (tBM X.K "list" rAppend to ta) := by
      intro to ta h1 h2; exact pe_bm PySem.F.plainAttrs_list PySem.F.slot_list_append PySem.F.type_list_append mt_append h1 h2)
    (hsw : swapsWith (.Call (.Attribute (.Name m p1) "append" p2) [e] [] p3) none pos.line X.env = pure false := by rfl) :
    S1 X W (.Expr (.Call (.Attribute (.Name m p1) "append" p2) [e] [] p3) pos) Γ P := by
  intro B Hb H σ τ D hl R F
  have hn : n < σ.length := by rw [hl]; exact (List.getElem?_eq_some_iff.mp hN).1
  refine w1_of (ps_expr (hpe (pe_var hN hv hd hcd) (pa_cons pe_we pa_nil hst)) hsw) ?_
  obtain ⟨e1, vs0, h0, _⟩ := R.at hn hs0
  refine ⟨.ref l, join_some e1, .inl ⟨rfl, _, .inl (.inl h0)⟩, h B Hb H σ τ _ hl R fun v Hb1 H1 s1 R1 rv => ?_⟩
  obtain ⟨_, vs, h2, h3⟩ := R1.at hn hs
  refine ⟨l, vs, v, rfl, rfl, h2, by rw [paired_len h3]; exact sz_lt hz, ?_⟩
  exact F.nx _ hp Hb1 _ σ τ s1 hl (reps_lst R1 hs (paired_app h3 (.cons rv .nil)))
/-- xs[j] = e, xs owned in slot n -/
theorem s_setL (n : Nat) {m : Str} {p : Bool} {l : Addr} {xs : List α} {q : Int} {p1 p2 : Pos} (h : EvX X e Γ i x Γ1) (hi : EvX X b Γ1 rInt q Γ1) (hs : Γ1[n]? = some (.own p l (Res.lst i xs l)) := by rfl) (h0 : 0 ≤ q) (hq : q < xs.length)
    (hp : P (.nx (Γ1.set n (.own p l (Res.lst i (xs.set q.toNat x) l))))) (hN : X.N[n]? = some m := by rfl) (hv : Vis X.env.scope m := by first | exact Or.inl rfl | exact Or.inr (Or.inl rfl) | exact Or.inr (Or.inr rfl))
    (hd : (m == ("__debug__" : Str)) = false := by decide) (hcd : (m == ("__classdict__" : Str)) = false := by decide)
    (hpe : ∀ {g : TG} , PG X (.Subscript (.Name m p1) b p2) g → PS X (.Assign [.Subscript (.Name m p1) b p2] e pos) (tAsg (we X e) g) := by intro g h; exact ps_asg pe_we h)
    (hpg : ∀ {to ti : TE}, PE X (.Name m p1) to → PE X b ti → PG X (.Subscript (.Name m p1) b p2) (gSub to ti rSetL) := by intro to ti h1 h2; exact pg_sub h1 h2 set_list) :
    S1 X W (.Assign [.Subscript (.Name m p1) b p2] e pos) Γ P := by
  intro B Hb H σ τ D hl R F
  have hn : n < σ.length := by rw [hl]; exact (List.getElem?_eq_some_iff.mp hN).1
  refine w1_of (hpe (hpg (pe_var hN hv hd hcd) pe_we)) (h B Hb H σ τ _ hl R fun v Hb1 H1 s1 R1 rv => ?_)
  obtain ⟨e1, _⟩ := R1.at hn hs
  refine ⟨.ref l, join_some e1, hi B Hb1 H1 σ τ _ hl R1 fun w Hb2 H2 s2 R2 rw' => ?_⟩
  obtain ⟨_, vs, h2, h3⟩ := R2.at hn hs
  have hlen := paired_len h3
  refine ⟨l, vs, q, q.toNat, rfl, rw', h2, ?_, ?_⟩
  · unfold ixN
    rw [if_pos h0, if_pos (by omega)]
  · exact F.nx _ hp Hb2 _ σ τ (s1.trans s2) hl (reps_lst R2 hs (paired_set (i.mono s2 rv) _ h3))
end

/-! ### defs -/
/-- a call: its arguments' slots, how it ends, the slots behind -/
inductive Rs : Type 1 where
  | val {α : Type} (i : Rp α) (a : α)
  | new (r : Addr → Res)
  | er (e : Er)
structure Cl where
  args : List Slot
  R : Rs → List Slot → Prop
def footS (ss : List Slot) (a : Addr) : Prop := ∃ p l r, Slot.own p l r ∈ ss ∧ a ∈ r.as
/-- the post slots: nothing, or what was owned before at the same address -/
def postOk (as ps : List Slot) : Prop := ps.length = as.length ∧ ∀ (n : Nat) (s : Slot), ps[n]? = some s → s = .no ∨ ∃ l r r', s = .own true l r ∧ as[n]? = some (.own true l r')
def spG (K : Fg) (S : Cl → Prop) : Sp := fun vs H Q E => ∃ c, S c ∧ ∃ Hb, c.args.length = vs.length ∧ Reps K ⟨H, Hb, footS c.args⟩ c.args Hb H (vs.map some) ∧ ∀ out ps, c.R out ps → postOk c.args ps →
  (∀ (α : Type) (i : Rp α) (a : α), out = .val i a → ∀ v Hb2 H2, Reps K ⟨H, Hb, footS c.args⟩ ps Hb2 H2 (vs.map some) → i.rp K Hb2 v a → Q v H2) ∧
  (∀ r, out = .new r → ∀ l Hb2 H2, Reps K ⟨H, Hb, footS c.args⟩ (ps ++ [.own false l (r l)]) Hb2 H2 (vs.map some ++ [some (.ref l)]) → Q (.ref l) H2) ∧
  (∀ e, out = .er e → ∀ cls d Hb2 H2, Reps K ⟨H, Hb, footS c.args⟩ ps Hb2 H2 (vs.map some) → RepEr K Hb2 cls d e → E cls d H2)
/-- the post slots as a body's slots have them -/
def postIn (ps : List Slot) (Γ : Gam) : Prop := ∀ (n : Nat) (p : Bool) (l : Addr) (r : Res), ps[n]? = some (.own p l r) → Γ[n]? = some (.own p l r)
/-- how a body must end -/
def endP (c : Cl) : Out → Prop
  | .rt (.v i a) Γ => ∃ ps, c.R (.val i a) ps ∧ postOk c.args ps ∧ postIn ps Γ
  | .rt (.r l) Γ => ∃ r m ps, c.R (.new r) ps ∧ postOk c.args ps ∧ postIn ps Γ ∧ ps.length ≤ m ∧ Γ[m]? = some (.own false l (r l))
  | .nx Γ => ∃ ps, c.R (.val rNone ()) ps ∧ postOk c.args ps ∧ postIn ps Γ
  | .er e Γ => ∃ ps, c.R (.er e) ps ∧ postOk c.args ps ∧ postIn ps Γ
  | _ => False
/-- at a def's beginning -/
theorem reps_start {K : Fg} {B : Bs} {Hb H : Hp} {ss : List Slot} {vs : List V} {N : List Str} (R : Reps K B ss Hb H (vs.map some)) : Reps K B (ss ++ List.replicate (N.length - vs.length) .no) Hb H (L2.start N vs ++ []) := by
  rw [List.append_nil]
  unfold L2.start
  have hl : vs.length = ss.length := by have := R.len; simpa using this
  refine R.re (by simp [hl]) (fun n s e => ?_) id (fun n p l r e => ?_) fun i j p l r p' l' r' _ _ z => z
  · by_cases hn : n < ss.length
    · rw [List.getElem?_append_left hn] at e
      rw [List.getElem?_append_left (by simpa [hl] using hn)]
      exact R.ok n s e
    · rw [List.getElem?_append_right (Nat.le_of_not_lt hn)] at e
      have := List.mem_of_getElem? e
      rw [List.mem_replicate] at this
      rw [this.2]
      exact True.intro
  · by_cases hn : n < ss.length
    · rw [List.getElem?_append_left hn] at e; exact e
    · rw [List.getElem?_append_right (Nat.le_of_not_lt hn)] at e
      have := List.mem_of_getElem? e
      rw [List.mem_replicate] at this
      cases this.2
/-- at its end: only what was owned by arguments is told -/
theorem reps_end {K : Fg} {B : Bs} {Hb0 Hb H0 H : Hp} {as ps : List Slot} {vs : List V} {σ : L2.St} {Γ : Gam} (hpo : postOk as ps) (hlen : as.length = vs.length) (R0 : Reps K B as Hb0 H0 (vs.map some)) (R : Reps K B Γ Hb H σ)
    (hg : postIn ps Γ) : Reps K B ps Hb H (vs.map some) := by
  refine R.re (by rw [List.length_map, hpo.1, hlen]) (fun n s e => ?_) id (fun n p l r e => hg n p l r e) fun i j p l r p' l' r' _ _ z => z
  rcases hpo.2 n s e with rfl | ⟨l, r, r', rfl, e'⟩
  · exact True.intro
  · have h0 := R0.ok n _ e'
    have h1 := R.ok n _ (hg n _ _ _ e)
    exact ⟨h0.1, h1.2⟩
theorem reps_endN {K : Fg} {B : Bs} {Hb0 Hb H0 H : Hp} {as ps : List Slot} {vs : List V} {σ : L2.St} {Γ : Gam} {m : Nat} {l0 : Addr} {r0 : Res} (hpo : postOk as ps) (hlen : as.length = vs.length) (R0 : Reps K B as Hb0 H0 (vs.map some)) (R : Reps K B Γ Hb H σ)
    (hm : ps.length ≤ m) (em : Γ[m]? = some (.own false l0 r0)) (hg : postIn ps Γ) : Reps K B (ps ++ [.own false l0 r0]) Hb H (vs.map some ++ [some (.ref l0)]) := by
  have hpl : (vs.map some).length = ps.length := by rw [List.length_map, hpo.1, hlen]
  refine R.re (by rw [List.length_append, List.length_append, hpl]; rfl) (fun n s e => ?_) (fun n => if n = ps.length then m else n) (fun n p l r e => ?_) fun i j p l r p' l' r' e1 e2 z => ?_
  · rcases get_app e with ⟨e, hn⟩ | ⟨rfl, rfl⟩
    · rw [join_app_left (by rw [hpl]; exact hn)]
      rcases hpo.2 n s e with rfl | ⟨l, r, r', rfl, e'⟩
      · exact True.intro
      · exact ⟨(R0.ok n _ e').1, (R.ok n _ (hg n _ _ _ e)).2⟩
    · rw [join_app_last hpl.symm]
      exact ⟨rfl, (R.ok m _ em).2⟩
  · show Γ[if n = ps.length then m else n]? = _
    rcases get_app e with ⟨e, hn⟩ | ⟨rfl, e0⟩
    · rw [if_neg (Nat.ne_of_lt hn)]; exact hg n p l r e
    · rw [if_pos rfl, em, e0]
  · have z : (if i = ps.length then m else i) = (if j = ps.length then m else j) := z
    have b1 : i < ps.length ∨ i = ps.length := by rcases get_app e1 with ⟨_, h⟩ | ⟨h, _⟩ <;> omega
    have b2 : j < ps.length ∨ j = ps.length := by rcases get_app e2 with ⟨_, h⟩ | ⟨h, _⟩ <;> omega
    by_cases c1 : i = ps.length
    · by_cases c2 : j = ps.length
      · rw [c1, c2]
      · rw [if_pos c1, if_neg c2] at z; omega
    · by_cases c2 : j = ps.length
      · rw [if_neg c1, if_pos c2] at z; omega
      · rw [if_neg c1, if_neg c2] at z; exact z

section
variable {P : Program} {w : World} {K : Fg} {mg : Str → Option Value} {base : Heap}
/-- what a name of the text is: a def that keeps the promise S -/
structure Def (P : Program) (w : World) (K : Fg) (mg : Str → Option Value) (base : Heap) (x : Str) (n : Nat) (ps : List Str) (S : Cl → Prop) : Prop where
  ex : ∃ f fd, mg x = some (.ref f) ∧ PySem.W.keepIn K (.ref f) = true ∧ Binds K fd ps [] ∧ FnOk P w K mg base (L2.CX P w) n f fd ps (spG K S)
/-- THE RULE of a def -/
theorem fn_ok {x qual : Str} {st : Stmt} {f : Addr} {fd : FuncData} {N ps : List Str} {n : Nat} {S : Cl → Prop} (F : Fun K x qual st f fd) (sc : FnScope N ps (defScope st)) (hS : ∀ c, S c → c.args.length = ps.length)
    (hbody : ∀ (cdv : Value) (A : Around) (outer : List Env) (s : Shared) (H : Hp) (E : XK) (c : Cl) (W : WX), Room n (A.deeper (PyProof.Rows.envOfC qual (defScope st) s.heap.objs.size f cdv)) → S c →
      Takes (cxOf (L2.CX P w) P w K mg base N qual (defScope st) f cdv A outer s H E) W →
      PassesOwn (model P w) (A.deeper (PyProof.Rows.envOfC qual (defScope st) s.heap.objs.size f cdv)) (PyProof.Rows.envOfC qual (defScope st) s.heap.objs.size f cdv) (cxOf (L2.CX P w) P w K mg base N qual (defScope st) f cdv A outer s H E).xe →
      (∀ cls d σ σ' H, W cls d σ H → W cls d σ' H) →
      SG (cxOf (L2.CX P w) P w K mg base N qual (defScope st) f cdv A outer s H E) W (defBody st) (c.args ++ List.replicate (N.length - ps.length) .no) (endP c)) :
    FnOk P w K mg base (L2.CX P w) (n + 1) f fd ps (spG K S) := by
  refine F.okX sc (fun vs H Q E h => ?_) (fun cdv A outer s H vs Q E hr h => ?_)
  · obtain ⟨c, hc, Hb, h1, _⟩ := h
    rw [← h1]; exact hS c hc
  · obtain ⟨c, hc, Hb, h1, R, q⟩ := h
    have tk : Takes (cxOf (L2.CX P w) P w K mg base N qual (defScope st) f cdv A outer s H E) (fun cls d _ H => E cls d H) := takes_of rfl rfl rfl rfl
    have po : PassesOwn (model P w) (A.deeper (PyProof.Rows.envOfC qual (defScope st) s.heap.objs.size f cdv)) (PyProof.Rows.envOfC qual (defScope st) s.heap.objs.size f cdv) (cxOf (L2.CX P w) P w K mg base N qual (defScope st) f cdv A outer s H E).xe :=
      passes_of (X := cxOf (L2.CX P w) P w K mg base N qual (defScope st) f cdv A outer s H E) rfl
    have hb := hbody cdv A outer s H E c _ hr hc tk po (fun _ _ _ _ _ h => h)
    have hlp : ps.length = vs.length := by rw [← hS c hc]; exact h1
    refine ⟨_, ps_ws, hb ⟨H, Hb, footS c.args⟩ Hb H (L2.start N vs) [] _ ?_ (by rw [hlp]; exact reps_start R) ?_⟩
    · show (L2.start N vs).length = N.length
      unfold L2.start
      have : vs.length ≤ N.length := by
        rw [← hlp]
        have e := congrArg List.length sc.pre
        rw [List.length_take] at e
        omega
      simp; omega
    · refine ⟨fun Γ' ⟨ps', p1, p2, p3⟩ Hb' H' σ' τ' s hl R' => ?_, fun Γ' p => p.elim, fun Γ' p => p.elim, fun s Γ' p Hb' H' σ' τ' v sm hl R' ok => ?_, fun e Γ' ⟨ps', p1, p2, p3⟩ Hb' H' σ' τ' cls d sm hl R' re => ?_⟩
      · exact (q _ _ p1 p2).1 _ _ _ rfl _ Hb' H' (reps_end p2 h1 R R' p3) rfl
      · cases s with
        | v i a =>
          obtain ⟨ps', p1, p2, p3⟩ := p
          exact (q _ _ p1 p2).1 _ _ _ rfl v Hb' H' (reps_end p2 h1 R R' p3) ok
        | r l =>
          obtain ⟨r, m, ps', p1, p2, p3, e2, e3⟩ := p
          have ok : v = .ref l := ok
          rw [ok]
          exact (q _ _ p1 p2).2.1 r rfl l Hb' H' (reps_endN p2 h1 R R' e2 e3 p3)
      · exact (q _ _ p1 p2).2.2 e rfl cls d Hb' H' (reps_end p2 h1 R R' p3) re
end

/-! ### short words for promises -/
/-- the ends: a value, nothing owned -/
def detV {α : Type} (i : Rp α) (x : α) (n : Nat) : Rs → List Slot → Prop := fun o ps => o = .val i x ∧ ps = List.replicate n .no
def detN (r : Addr → Res) (n : Nat) : Rs → List Slot → Prop := fun o ps => o = .new r ∧ ps = List.replicate n .no
def detE (e : Er) (n : Nat) : Rs → List Slot → Prop := fun o ps => o = .er e ∧ ps = List.replicate n .no
/-- a value of which R holds, with what is owned in place j then -/
def relV {α : Type} (i : Rp α) (j : Nat) (l : Addr) (R : α → Res → Prop) (n : Nat) : Rs → List Slot → Prop := fun o ps => ∃ x r, R x r ∧ o = .val i x ∧ ps = (List.replicate n .no).set j (.own true l r)
def isOwn : Slot → Bool
  | .own _ _ _ => true
  | _ => false
theorem post_nos (as : List Slot) {n : Nat} (h : as.length = n := by rfl) : postOk as (List.replicate n .no) := ⟨by simp [h], fun j s e => .inl (List.eq_of_mem_replicate (List.mem_of_getElem? e))⟩
theorem in_nos {n : Nat} {Γ : Gam} : postIn (List.replicate n .no) Γ := fun j p l r e => by cases List.eq_of_mem_replicate (List.mem_of_getElem? e)
theorem end_v {α : Type} {i : Rp α} {x y : α} {as : List Slot} {n : Nat} {Γ : Gam} (e : x = y) (h : as.length = n := by rfl) : endP ⟨as, detV i y n⟩ (.rt (.v i x) Γ) := ⟨_, ⟨by rw [e], rfl⟩, post_nos as h, in_nos⟩
theorem end_n {r : Addr → Res} {as : List Slot} {n : Nat} {l : Addr} {Γ : Gam} (m : Nat) (hm : n ≤ m) (e : Γ[m]? = some (.own false l (r l))) (h : as.length = n := by rfl) : endP ⟨as, detN r n⟩ (.rt (.r l) Γ) :=
  ⟨r, m, _, ⟨rfl, rfl⟩, post_nos as h, in_nos, by simpa using hm, e⟩
theorem end_e {e' e : Er} {as : List Slot} {n : Nat} {Γ : Gam} (q : e' = e) (h : as.length = n := by rfl) : endP ⟨as, detE e n⟩ (.er e' Γ) := ⟨_, ⟨by rw [q], rfl⟩, post_nos as h, in_nos⟩
theorem end_rel {α : Type} {i : Rp α} {x : α} {as : List Slot} {n j : Nat} {l : Addr} {R : α → Res → Prop} {r r0 : Res} {Γ : Gam} (hR : R x r) (ha : as[j]? = some (.own true l r0) := by rfl) (hg : Γ[j]? = some (.own true l r) := by rfl) (h : as.length = n := by rfl) : endP ⟨as, relV i j l R n⟩ (.rt (.v i x) Γ) := by
  have hj : j < n := by rw [← h]; exact (List.getElem?_eq_some_iff.mp ha).1
  refine ⟨_, ⟨x, r, hR, rfl, rfl⟩, ⟨by simp [h], fun k s e => ?_⟩, fun k p l' r' e => ?_⟩
  · rcases get_set e with ⟨hk, e⟩ | ⟨rfl, rfl⟩
    · exact .inl (List.eq_of_mem_replicate (List.mem_of_getElem? e))
    · exact .inr ⟨l, r, r0, rfl, ha⟩
  · rcases get_set e with ⟨hk, e⟩ | ⟨rfl, e0⟩
    · cases List.eq_of_mem_replicate (List.mem_of_getElem? e)
    · cases e0; exact hg
theorem end_nx {c : Cl} {Γ : Gam} (h : endP c (.rt (.v rNone ()) Γ)) : endP c (.nx Γ) := h
end VS

set_option maxHeartbeats 2000000
set_option autoImplicit false
/-! VS5: calls of defs. -/
namespace VS
open PySem L2

section
variable {K : Fg} {B : Bs} {Γ Γ' Γ'' cs cp : Gam} {Hb H Hb2 H2 : Hp} {σ' σ'' ρ : L2.St} {p0 : Bool} {fm g : Nat → Nat}
/-- what a slot is behind a call -/
inductive Aft (Γ' cs cp : Gam) (σ' σ'' : L2.St) (p0 : Bool) (fm g : Nat → Nat) (m : Nat) : Slot → Prop where
  | no : Aft Γ' cs cp σ' σ'' p0 fm g m .no
  | old {s : Slot} (h : Γ'[m]? = some s) (v : σ''[m]?.join = σ'[m]?.join) (n : ∀ (j : Nat) (q : Bool) (l : Addr) (r : Res), cs[j]? = some (.own q l r) → fm j ≠ m) : Aft Γ' cs cp σ' σ'' p0 fm g m s
  | post {q p : Bool} {l : Addr} {r : Res} (h : cp[g m]? = some (.own q l r)) (v : σ''[m]?.join = some (.ref l)) (t : q = true → p = p0) (f : q = false → p = false) : Aft Γ' cs cp σ' σ'' p0 fm g m (.own p l r)
theorem Reps.called (R : Reps K B Γ' Hb H σ') (hm : ∀ (j : Nat) (q : Bool) (l : Addr) (r : Res), cs[j]? = some (.own q l r) → Γ'[fm j]? = some (.own p0 l r)) (C : Reps K ⟨H, Hb, footS cs⟩ cp Hb2 H2 ρ) (hlen : σ''.length = Γ''.length)
    (hs : ∀ (m : Nat) (s : Slot), Γ''[m]? = some s → Aft Γ' cs cp σ' σ'' p0 fm g m s) (gi : ∀ m m', m < Γ''.length → m' < Γ''.length → g m = g m' → m = m') : Reps K B Γ'' Hb2 H2 σ'' := by
  -- an address of an own argument
  have hF : ∀ a, footS cs a → ∃ (j : Nat) (l : Addr) (r : Res), (∃ q l' r', cs[j]? = some (.own q l' r')) ∧ Γ'[fm j]? = some (.own p0 l r) ∧ a ∈ r.as := fun a ⟨q, l, r, m, ha⟩ => by
    obtain ⟨j, e⟩ := List.mem_iff_getElem?.mp m
    exact ⟨j, l, r, ⟨q, l, r, e⟩, hm j q l r e, ha⟩
  have keep : ∀ a, H a ≠ none → ¬ footS cs a → H2 a = H a := fun a n f => by
    cases e : H a with
    | none => exact absurd e n
    | some o => exact C.fr a o e f
  refine ⟨hlen, C.sub, R.b0.trans C.b0, fun a o e n => ?_, fun a e => C.al a (R.al a e), fun a e n => C.dis a (R.al a e) (R.dis a e n), fun m s e => ?_, fun m p l r a e ha => ?_, fun m m' p l r p' l' r' a e e' ha ha' => ?_⟩
  · refine C.fr a o (R.fr a o e n) fun f => ?_
    obtain ⟨j, l, r, _, h1, h2⟩ := hF a f
    rcases (R.foot _ _ _ _ a h1 h2).2.2 with z | z
    · rw [e] at z; cases z
    · exact n z.2
  · have A := hs m s e
    cases A with
    | no => exact True.intro
    | old h v n =>
      rw [v]
      refine slotOk.mono C.b0 (fun p l r es a ha => ?_) (R.ok m s h)
      subst es
      obtain ⟨f1, f2, _⟩ := R.foot m p l r a h ha
      refine keep a f1 fun f => ?_
      obtain ⟨j, l', r', ⟨q, l2, r2, ej⟩, h1, h2⟩ := hF a f
      exact n j q l2 r2 ej (R.apart _ _ _ _ _ _ _ _ a h1 h h2 ha)
    | post h v t f =>
      rw [v]
      exact ⟨rfl, (C.ok _ _ h).2⟩
  · have A := hs m _ e
    cases A with
    | old h v n =>
      obtain ⟨f1, f2, f3⟩ := R.foot m p l r a h ha
      refine ⟨?_, C.dis a f1 f2, f3⟩
      rw [keep a f1 fun f => ?_]
      · exact f1
      · obtain ⟨j, l', r', ⟨q, l2, r2, ej⟩, h1, h2⟩ := hF a f
        exact n j q l2 r2 ej (R.apart _ _ _ _ _ _ _ _ a h1 h h2 ha)
    | @post q _ _ _ h v t f =>
      obtain ⟨f1, f2, f3⟩ := C.foot _ q l r a h ha
      refine ⟨f1, f2, ?_⟩
      rcases f3 with f3 | ⟨f3, f4⟩
      · exact .inl (R.start_none f3)
      · obtain ⟨j, l', r', _, h1, h2⟩ := hF a f4
        rcases (R.foot _ _ _ _ a h1 h2).2.2 with z | z
        · exact .inl z
        · exact .inr ⟨(t f3).trans z.1, z.2⟩
  · have A := hs m _ e
    have A' := hs m' _ e'
    have bm : m < Γ''.length := (List.getElem?_eq_some_iff.mp e).1
    have bm' : m' < Γ''.length := (List.getElem?_eq_some_iff.mp e').1
    -- an old one and one of the call's
    have mix : ∀ {m m' : Nat} {p p' q : Bool} {l l' : Addr} {r r' : Res}, Γ'[m]? = some (.own p l r) → (∀ (j : Nat) (q : Bool) (l : Addr) (r : Res), cs[j]? = some (.own q l r) → fm j ≠ m) → cp[g m']? = some (.own q l' r') → a ∈ r.as → a ∈ r'.as → False := fun {m m' p p' q l l' r r'} h n h' ha ha' => by
      obtain ⟨f1, f2, f3⟩ := C.foot _ _ _ _ a h' ha'
      obtain ⟨g1, _, _⟩ := R.foot m p l r a h ha
      rcases f3 with f3 | ⟨_, f4⟩
      · exact g1 f3
      · obtain ⟨j, l2, r2, ⟨q2, l3, r3, ej⟩, h1, h2⟩ := hF a f4
        exact n j q2 l3 r3 ej (R.apart _ _ _ _ _ _ _ _ a h1 h h2 ha)
    cases A with
    | old h v n =>
      cases A' with
      | old h' v' n' => exact R.apart _ _ _ _ _ _ _ _ a h h' ha ha'
      | post h' v' t' f' => exact (mix (p' := p') (m' := m') h n h' ha ha').elim
    | post h v t f =>
      cases A' with
      | old h' v' n' => exact (mix (p' := p) (m' := m) h' n' h ha' ha).elim
      | post h' v' t' f' => exact gi m m' bm bm' (C.apart _ _ _ _ _ _ _ _ a h h' ha ha')
end

/-- the slot that an argument is -/
def agS : Ag → Slot
  | .v i a => .val i a
  | .r _ => .no
def allV : List Ag → Prop
  | [] => True
  | .v _ _ :: r => allV r
  | .r _ :: _ => False
/-- arguments at a call: ss, the owned ones where Γ' has them (fm) -/
structure ArgsAt (Γ' : Gam) (p0 : Bool) (fm : Nat → Nat) (gs : List Ag) (ss : List Slot) : Prop where
  len : gs.length = ss.length
  at_ : ∀ (j : Nat) (g : Ag) (s : Slot), gs[j]? = some g → ss[j]? = some s → (∃ (α : Type) (i : Rp α) (a : α), g = .v i a ∧ s = .val i a) ∨ ∃ l r, g = .r l ∧ s = .own true l r ∧ Γ'[fm j]? = some (.own p0 l r)
  inj : ∀ (j j' : Nat) (l : Addr) (r : Res) (l' : Addr) (r' : Res), ss[j]? = some (.own true l r) → ss[j']? = some (.own true l' r') → fm j = fm j' → j = j'
theorem agsOk_len {K : Fg} {Hb : Hp} : ∀ {gs : List Ag} {vs : List V}, AgsOk K Hb gs vs → gs.length = vs.length
  | _, _, .nil => rfl
  | _, _, .cons _ t => by rw [List.length_cons, List.length_cons, agsOk_len t]
theorem agsOk_get {K : Fg} {Hb : Hp} : ∀ {gs : List Ag} {vs : List V} {j : Nat} {v : V}, AgsOk K Hb gs vs → vs[j]? = some v → ∃ g, gs[j]? = some g ∧ g.ok K Hb v
  | _, _, _, _, .nil, h => by simp at h
  | _, _, 0, v, .cons h t, e => by simp at e; subst e; exact ⟨_, rfl, h⟩
  | _, _, j + 1, v, .cons h t, e => by
    obtain ⟨g, h1, h2⟩ := agsOk_get (j := j) t (by simpa using e)
    exact ⟨g, by simpa using h1, h2⟩
theorem ArgsAt.own {Γ' : Gam} {p0 : Bool} {fm : Nat → Nat} {gs : List Ag} {ss : List Slot} (h : ArgsAt Γ' p0 fm gs ss) {j : Nat} {q : Bool} {l : Addr} {r : Res} (e : ss[j]? = some (.own q l r)) : q = true ∧ gs[j]? = some (.r l) ∧ Γ'[fm j]? = some (.own p0 l r) := by
  have hj : j < gs.length := by rw [h.len]; exact (List.getElem?_eq_some_iff.mp e).1
  rcases h.at_ j gs[j] _ (List.getElem?_eq_getElem hj) e with ⟨α, i, a, _, z⟩ | ⟨l', r', z1, z2, z3⟩
  · cases z
  · cases z2
    exact ⟨rfl, by rw [List.getElem?_eq_getElem hj, z1], z3⟩
/-- the callee's beginning -/
theorem Reps.args {K : Fg} {B : Bs} {Γ' : Gam} {Hb H : Hp} {σ' : L2.St} {p0 : Bool} {fm : Nat → Nat} {gs : List Ag} {ss : List Slot} {vs : List V} (R : Reps K B Γ' Hb H σ') (h : ArgsAt Γ' p0 fm gs ss) (ok : AgsOk K Hb gs vs) : Reps K ⟨H, Hb, footS ss⟩ ss Hb H (vs.map some) := by
  have hl : vs.length = ss.length := by rw [← agsOk_len ok, h.len]
  refine ⟨by rw [List.length_map, hl], R.sub, Same.refl _, fun a o e _ => e, fun a e => e, fun a _ n => n, fun j s e => ?_, fun j q l r a e ha => ?_, fun j j' q l r q' l' r' a e e' ha ha' => ?_⟩
  · have hj : j < vs.length := by rw [hl]; exact (List.getElem?_eq_some_iff.mp e).1
    obtain ⟨g, hg, hok⟩ := agsOk_get ok (List.getElem?_eq_getElem hj)
    have ev : ((vs.map some)[j]?).join = some vs[j] := by rw [List.getElem?_map, List.getElem?_eq_getElem hj]; rfl
    rw [ev]
    rcases h.at_ j g s hg e with ⟨α, i, a, rfl, rfl⟩ | ⟨l, r, rfl, rfl, e3⟩
    · exact ⟨_, rfl, hok⟩
    · have hok : vs[j] = .ref l := hok
      rw [hok]
      exact ⟨rfl, (R.ok _ _ e3).2⟩
  · obtain ⟨rfl, _, e3⟩ := h.own e
    obtain ⟨f1, f2, _⟩ := R.foot _ _ _ _ a e3 ha
    exact ⟨f1, f2, .inr ⟨rfl, true, l, r, List.mem_of_getElem? e, ha⟩⟩
  · obtain ⟨rfl, _, e3⟩ := h.own e
    obtain ⟨rfl, _, e3'⟩ := h.own e'
    exact h.inj j j' l r l' r' e e' (R.apart _ _ _ _ _ _ _ _ a e3 e3' ha ha')

section
variable {X : Cx} {e : Expr} {es : List Expr} {Γ Γ1 Γ2 : Gam} {m : Str} {p pos : Pos} {α : Type} {i : Rp α} {x : α} {n : Nat} {ps : List Str} {S : Cl → Prop}

/-- THE RULE of a call, by what is known behind the arguments -/
theorem call_sem (d : Def X.prog X.w X.K X.mg X.base m n ps S) (hr : Room n X.A) {B : Bs} {Hb H : Hp} {σ τ : L2.St} {Q : VK} {Pa : List Ag → Gam → Prop} (hl : σ.length = X.N.length) (R : Reps X.K B Γ Hb H (σ ++ τ)) (ha : EvA X (e :: es) Γ Pa)
    (h : ∀ gs Γ', Pa gs Γ' → ∃ p0 fm c, S c ∧ ArgsAt Γ' p0 fm gs c.args ∧ ∀ (vs : List V) (Hb1 H1 : Hp) (τ' : L2.St), Same Hb Hb1 → Reps X.K B Γ' Hb1 H1 (σ ++ τ ++ τ') → ∀ out qs, c.R out qs → postOk c.args qs →
      (∀ er, out ≠ .er er) ∧
      (∀ (β : Type) (j : Rp β) (b : β), out = .val j b → ∀ v Hb2 H2, Reps X.K ⟨H1, Hb1, footS c.args⟩ qs Hb2 H2 (vs.map some) → j.rp X.K Hb2 v b → Q v H2) ∧
      (∀ r, out = .new r → ∀ l Hb2 H2, Reps X.K ⟨H1, Hb1, footS c.args⟩ (qs ++ [.own false l (r l)]) Hb2 H2 (vs.map some ++ [some (.ref l)]) → Q (.ref l) H2))
    (hg : Gl X m := by rfl) (hdb : (m == ("__debug__" : Str)) = false := by decide) (he : starEach (e :: es) X.env = (false, eval e X.env) :: starEach es X.env := by rfl) (hpl : (backTo pos (starEach es X.env)).any (·.1) = false := by rfl) :
    we X (.Call (.Name m p) (e :: es) [] pos) σ H Q := by
  obtain ⟨f, fd, h1, h2, h3, F⟩ := d.ex
  refine we_of (pe_call F hr hg h1 h2 h3 .nil passL pa_wa hdb he hpl) (ha B Hb H σ τ _ hl R fun gs Γ' vs Hb1 H1 τ' hp s1 R1 ok => ?_)
  obtain ⟨p0, fm, c, hc, hat, hq⟩ := h gs Γ' hp
  rw [List.append_nil]
  refine ⟨c, hc, Hb1, by rw [← hat.len, agsOk_len ok], R1.args hat ok, fun out qs ho hpo => ?_⟩
  obtain ⟨q0, q1, q2⟩ := hq vs Hb1 H1 τ' s1 R1 out qs ho hpo
  exact ⟨q1, q2, fun er eq => absurd eq (q0 er)⟩

theorem tau_nil {K : Fg} {B B' : Bs} {Hb H Hb' H' : Hp} {σ τ τ' : L2.St} (R : Reps K B Γ Hb H (σ ++ τ)) (R' : Reps K B' Γ1 Hb' H' (σ ++ τ ++ τ')) (h : Γ1.length = Γ.length) : τ' = [] := by
  have h1 := R'.len
  have h2 := R.len
  simp only [List.length_append] at h1 h2
  exact List.eq_nil_of_length_eq_zero (by omega)
theorem allV_at {Γ' : Gam} : ∀ (gs : List Ag), allV gs → ArgsAt Γ' true (fun _ => 0) gs (gs.map agS)
  | gs, h => by
    have hv : ∀ (gs : List Ag), allV gs → ∀ (j : Nat) (g : Ag), gs[j]? = some g → ∃ (α : Type) (i : Rp α) (a : α), g = .v i a := by
      intro gs
      induction gs with
      | nil => intro _ j g e; simp at e
      | cons g0 r ih =>
        intro h j g e
        cases g0 with
        | v i a =>
          cases j with
          | zero => simp at e; exact ⟨_, i, a, e.symm⟩
          | succ j => exact ih h j g (by simpa using e)
        | r l => exact h.elim
    have own : ∀ (j : Nat) (l : Addr) (r : Res), (gs.map agS)[j]? ≠ some (.own true l r) := fun j l r e => by
      rw [List.getElem?_map] at e
      cases q : gs[j]? with
      | none => rw [q] at e; cases e
      | some g =>
        obtain ⟨α, i, a, rfl⟩ := hv gs h j g q
        rw [q] at e
        cases e
    refine ⟨by rw [List.length_map], fun j g s e1 e2 => ?_, fun j j' l r l' r' e => absurd e (own j l r)⟩
    obtain ⟨α, i, a, rfl⟩ := hv gs h j g e1
    rw [List.getElem?_map, e1] at e2
    cases e2
    exact .inl ⟨α, i, a, rfl, rfl⟩
theorem noVal {gs : List Ag} (h : allV gs) {j : Nat} {q : Bool} {l : Addr} {r : Res} (e : (gs.map agS)[j]? = some (.own q l r)) : False := by
  have := ((allV_at (Γ' := []) gs h).own e).2.2
  simp at this
/-- nothing owned is handed in -/
theorem ev_call (d : Def X.prog X.w X.K X.mg X.base m n ps S) (hr : Room n X.A) (ha : EvA X (e :: es) Γ fun gs Γ' => Γ' = Γ1 ∧ allV gs ∧ S ⟨gs.map agS, detV i x gs.length⟩) (hl1 : Γ1.length = Γ.length := by rfl)
    (hg : Gl X m := by rfl) (hdb : (m == ("__debug__" : Str)) = false := by decide) (he : starEach (e :: es) X.env = (false, eval e X.env) :: starEach es X.env := by rfl) (hpl : (backTo pos (starEach es X.env)).any (·.1) = false := by rfl) :
    EvX X (.Call (.Name m p) (e :: es) [] pos) Γ i x Γ1 := by
  intro B Hb H σ τ Q hl R q
  refine call_sem d hr hl R ha (fun gs Γ' ⟨hG, hv, hc⟩ => ?_) hg hdb he hpl
  subst hG
  refine ⟨true, fun _ => 0, _, hc, allV_at gs hv, fun vs Hb1 H1 τ' s1 R1 out qs ⟨ho, hqs⟩ hpo => ?_⟩
  subst ho
  refine ⟨(fun er z => nomatch z), fun β j b z v Hb2 H2 C rv => ?_, fun r z => nomatch z⟩
  cases z
  have et := tau_nil R R1 hl1
  subst et
  rw [List.append_nil] at R1
  refine q v Hb2 H2 (s1.trans C.b0) ?_ rv
  exact R1.called (p0 := true) (fm := fun _ => 0) (g := id) (fun j q l r e => (noVal hv e).elim) C R1.len (fun m s e => .old e rfl fun j q l r e => (noVal hv e).elim) fun _ _ _ _ z => z
theorem called_new {K : Fg} {B : Bs} {Γ' cs qs : Gam} {Hb1 H1 Hb2 H2 : Hp} {σ' ρ : L2.St} {l : Addr} {r : Res} (R : Reps K B Γ' Hb1 H1 σ') (hn : ∀ (j : Nat) (q : Bool) (l : Addr) (r : Res), cs[j]? ≠ some (.own q l r))
    (C : Reps K ⟨H1, Hb1, footS cs⟩ (qs ++ [.own false l r]) Hb2 H2 ρ) : Reps K B (Γ' ++ [.own false l r]) Hb2 H2 (σ' ++ [some (.ref l)]) := by
  refine R.called (p0 := true) (fm := fun _ => 0) (g := fun m => if m = Γ'.length then qs.length else qs.length + 1 + m) (fun j q l r e => absurd e (hn j q l r)) C (by have := R.len; simp only [List.length_append, List.length_singleton] at this ⊢; omega) (fun m s e => ?_) fun a b ha hb z => ?_
  · rcases get_app e with ⟨e, hm⟩ | ⟨rfl, rfl⟩
    · exact .old e (join_app_left (by rw [R.len]; exact hm)) fun j q l r e => absurd e (hn j q l r)
    · refine .post (q := false) ?_ (join_app_last R.len.symm) (fun z => nomatch z) fun _ => rfl
      show (qs ++ [Slot.own false l r])[if Γ'.length = Γ'.length then qs.length else qs.length + 1 + Γ'.length]? = _
      rw [if_pos rfl]
      simp
  · have z : (if a = Γ'.length then qs.length else qs.length + 1 + a) = (if b = Γ'.length then qs.length else qs.length + 1 + b) := z
    by_cases c1 : a = Γ'.length
    · by_cases c2 : b = Γ'.length
      · rw [c1, c2]
      · rw [if_pos c1, if_neg c2] at z; omega
    · by_cases c2 : b = Γ'.length
      · rw [if_neg c1, if_pos c2] at z; omega
      · rw [if_neg c1, if_neg c2] at z; omega
theorem en_call {r : Addr → Res} (d : Def X.prog X.w X.K X.mg X.base m n ps S) (hr : Room n X.A) (ha : EvA X (e :: es) Γ fun gs Γ' => Γ' = Γ1 ∧ allV gs ∧ S ⟨gs.map agS, detN r gs.length⟩) (hl1 : Γ1.length = Γ.length := by rfl)
    (hg : Gl X m := by rfl) (hdb : (m == ("__debug__" : Str)) = false := by decide) (he : starEach (e :: es) X.env = (false, eval e X.env) :: starEach es X.env := by rfl) (hpl : (backTo pos (starEach es X.env)).any (·.1) = false := by rfl) :
    EvN X (.Call (.Name m p) (e :: es) [] pos) Γ r Γ1 := by
  intro B Hb H σ τ Q hl R q
  refine call_sem d hr hl R ha (fun gs Γ' ⟨hG, hv, hc⟩ => ?_) hg hdb he hpl
  subst hG
  refine ⟨true, fun _ => 0, _, hc, allV_at gs hv, fun vs Hb1 H1 τ' s1 R1 out qs ⟨ho, hqs⟩ hpo => ?_⟩
  subst ho
  refine ⟨(fun er z => nomatch z), (fun β j b z => nomatch z), fun r' z l Hb2 H2 C => ?_⟩
  cases z
  have et := tau_nil R R1 hl1
  subst et
  rw [List.append_nil] at R1
  exact q l Hb2 H2 (s1.trans C.b0) (called_new R1 (fun j q l r e => noVal hv e) C)

/-! ### one owned argument, in place j, of slot b -/
def oneOwn : Nat → Addr → List Ag → Prop
  | _, _, [] => False
  | 0, l, .r l' :: t => l' = l ∧ allV t
  | 0, _, .v _ _ :: _ => False
  | j + 1, l, .v _ _ :: t => oneOwn j l t
  | _ + 1, _, .r _ :: _ => False
theorem allV_get : ∀ {gs : List Ag}, allV gs → ∀ {j : Nat} {g : Ag}, gs[j]? = some g → ∃ (α : Type) (i : Rp α) (a : α), g = .v i a
  | [], _, j, g, e => by simp at e
  | .v i a :: r, h, 0, g, e => by simp at e; exact ⟨_, i, a, e.symm⟩
  | .v i a :: r, h, j + 1, g, e => allV_get (gs := r) h (j := j) (by simpa using e)
  | .r l :: r, h, _, _, _ => h.elim
theorem oneOwn_get : ∀ {gs : List Ag} {j : Nat} {l : Addr}, oneOwn j l gs → gs[j]? = some (.r l) ∧ ∀ {k : Nat} {g : Ag}, k ≠ j → gs[k]? = some g → ∃ (α : Type) (i : Rp α) (a : α), g = .v i a
  | [], _, _, h => by simp [oneOwn] at h
  | .r l' :: t, 0, l, h => by
    obtain ⟨rfl, h⟩ := h
    refine ⟨rfl, fun {k g} hk e => ?_⟩
    cases k with
    | zero => exact absurd rfl hk
    | succ k => exact allV_get h (j := k) (by simpa using e)
  | .v _ _ :: _, 0, _, h => h.elim
  | .r _ :: _, _ + 1, _, h => h.elim
  | .v i a :: t, j + 1, l, h => by
    obtain ⟨h1, h2⟩ := oneOwn_get (gs := t) (j := j) h
    refine ⟨by simpa using h1, fun {k g} hk e => ?_⟩
    cases k with
    | zero => simp at e; exact ⟨_, i, a, e.symm⟩
    | succ k => exact h2 (k := k) (by omega) (by simpa using e)
theorem oneOwn_at {Γ' : Gam} {gs : List Ag} {j b : Nat} {l : Addr} {r : Res} {p0 : Bool} (h : oneOwn j l gs) (hb : Γ'[b]? = some (.own p0 l r)) : ArgsAt Γ' p0 (fun _ => b) gs ((gs.map agS).set j (.own true l r)) := by
  obtain ⟨h1, h2⟩ := oneOwn_get h
  have jl : j < gs.length := (List.getElem?_eq_some_iff.mp h1).1
  have no : ∀ (k : Nat) (l' : Addr) (r' : Res), ((gs.map agS).set j (.own true l r))[k]? = some (.own true l' r') → k = j := fun k l' r' e => by
    rcases get_set e with ⟨hk, e⟩ | ⟨hk, _⟩
    · rw [List.getElem?_map] at e
      cases q : gs[k]? with
      | none => rw [q] at e; cases e
      | some g =>
        obtain ⟨α, i, a, rfl⟩ := h2 hk q
        rw [q] at e
        cases e
    · exact hk
  refine ⟨by simp, fun k g s e1 e2 => ?_, fun k k' l1 r1 l2 r2 e1 e2 _ => (no k l1 r1 e1).trans (no k' l2 r2 e2).symm⟩
  rcases get_set e2 with ⟨hk, e2⟩ | ⟨rfl, rfl⟩
  · obtain ⟨α, i, a, rfl⟩ := h2 hk e1
    rw [List.getElem?_map, e1] at e2
    cases e2
    exact .inl ⟨α, i, a, rfl, rfl⟩
  · rw [h1] at e1
    cases e1
    exact .inr ⟨l, r, rfl, rfl, hb⟩
theorem set_no {n j : Nat} {k : Nat} {s : Slot} {q : Bool} {l : Addr} {r : Res} (e : ((List.replicate n Slot.no).set j s)[k]? = some (.own q l r)) : k = j ∧ s = .own q l r := by
  rcases get_set e with ⟨hk, e⟩ | ⟨hk, e⟩
  · cases List.eq_of_mem_replicate (List.mem_of_getElem? e)
  · exact ⟨hk, e.symm⟩
/-- the slots behind: slot b has what the call left there -/
theorem called_one {K : Fg} {B : Bs} {Γ' : Gam} {Hb1 H1 Hb2 H2 : Hp} {σ' ρ : L2.St} {gs : List Ag} {j b : Nat} {l : Addr} {r r' : Res} {p0 : Bool} {extra : List Slot} (R : Reps K B Γ' Hb1 H1 σ') (h : oneOwn j l gs) (hb : Γ'[b]? = some (.own p0 l r))
    (C : Reps K ⟨H1, Hb1, footS ((gs.map agS).set j (.own true l r))⟩ ((List.replicate gs.length .no).set j (.own true l r') ++ extra) Hb2 H2 ρ) : Reps K B (Γ'.set b (.own p0 l r')) Hb2 H2 σ' := by
  have A := oneOwn_at h hb
  have jl : j < gs.length := (List.getElem?_eq_some_iff.mp (oneOwn_get h).1).1
  have bl : b < Γ'.length := (List.getElem?_eq_some_iff.mp hb).1
  refine R.called (p0 := p0) (fm := fun _ => b) (g := fun m => if m = b then j else gs.length + extra.length + 1 + m) (fun k q l r e => (A.own e).2.2) C (by rw [List.length_set]; exact R.len) (fun m s e => ?_) fun x y hx hy z => ?_
  · rcases get_set e with ⟨hm, e⟩ | ⟨rfl, rfl⟩
    · exact .old e rfl fun _ _ _ _ _ z => hm z.symm
    · refine .post (q := true) ?_ (R.ok m _ hb).1 (fun _ => rfl) (fun z => nomatch z)
      show ((List.replicate gs.length Slot.no).set j (.own true l r') ++ extra)[if m = m then j else _]? = _
      rw [if_pos rfl, List.getElem?_append_left (by simpa using jl), List.getElem?_set_self (by simpa using jl)]
  · have z : (if x = b then j else gs.length + extra.length + 1 + x) = (if y = b then j else gs.length + extra.length + 1 + y) := z
    by_cases c1 : x = b
    · by_cases c2 : y = b
      · rw [c1, c2]
      · rw [if_pos c1, if_neg c2] at z; omega
    · by_cases c2 : y = b
      · rw [if_neg c1, if_pos c2] at z; omega
      · rw [if_neg c1, if_neg c2] at z; omega
/-- what an expression gives, by a word -/
def EvQ (X : Cx) (e : Expr) (Γ : Gam) {α : Type} (i : Rp α) (R : α → Gam → Prop) : Prop :=
  ∀ (B : Bs) (Hb H : Hp) (σ τ : L2.St) (Q : VK), σ.length = X.N.length → Reps X.K B Γ Hb H (σ ++ τ) →
    (∀ a Γ' v Hb2 H2, R a Γ' → Same Hb Hb2 → Reps X.K B Γ' Hb2 H2 (σ ++ τ) → i.rp X.K Hb2 v a → Q v H2) → we X e σ H Q
/-- .. handed in by its name: slot b changes -/
theorem eq_call1 (j b : Nat) {l : Addr} {r : Res} {Rr : α → Res → Prop} {p0 : Bool} (d : Def X.prog X.w X.K X.mg X.base m n ps S) (hr : Room n X.A)
    (ha : EvA X (e :: es) Γ fun gs Γ' => Γ' = Γ1 ∧ oneOwn j l gs ∧ S ⟨(gs.map agS).set j (.own true l r), relV i j l Rr gs.length⟩) (hb : Γ1[b]? = some (.own p0 l r) := by rfl) (hl1 : Γ1.length = Γ.length := by rfl)
    (hg : Gl X m := by rfl) (hdb : (m == ("__debug__" : Str)) = false := by decide) (he : starEach (e :: es) X.env = (false, eval e X.env) :: starEach es X.env := by rfl) (hpl : (backTo pos (starEach es X.env)).any (·.1) = false := by rfl) :
    EvQ X (.Call (.Name m p) (e :: es) [] pos) Γ i (fun x Γ' => ∃ r', Rr x r' ∧ Γ' = Γ1.set b (.own p0 l r')) := by
  intro B Hb H σ τ Q hl R q
  refine call_sem d hr hl R ha (fun gs Γ' ⟨hG, hv, hc⟩ => ?_) hg hdb he hpl
  subst hG
  refine ⟨p0, fun _ => b, _, hc, oneOwn_at hv hb, fun vs Hb1 H1 τ' s1 R1 out qs ⟨x, r', hR, ho, hqs⟩ hpo => ?_⟩
  subst ho hqs
  refine ⟨(fun er z => nomatch z), fun β j b z v Hb2 H2 C rv => ?_, fun r z => nomatch z⟩
  cases z
  have et := tau_nil R R1 hl1
  subst et
  rw [List.append_nil] at R1
  exact q x _ v Hb2 H2 ⟨r', hR, rfl⟩ (s1.trans C.b0) (called_one (extra := []) R1 hv hb (by rw [List.append_nil]; exact C)) rv
/-- .. new, handed in and then gone -/
theorem eq_call1g (j : Nat) {r : Addr → Res} {Rr : Addr → α → Res → Prop} (d : Def X.prog X.w X.K X.mg X.base m n ps S) (hr : Room n X.A)
    (ha : EvA X (e :: es) Γ fun gs Γ' => ∃ l, Γ' = Γ1 ++ [.own false l (r l)] ∧ oneOwn j l gs ∧ S ⟨(gs.map agS).set j (.own true l (r l)), relV i j l (Rr l) gs.length⟩) (hl1 : Γ1.length = Γ.length := by rfl)
    (hg : Gl X m := by rfl) (hdb : (m == ("__debug__" : Str)) = false := by decide) (he : starEach (e :: es) X.env = (false, eval e X.env) :: starEach es X.env := by rfl) (hpl : (backTo pos (starEach es X.env)).any (·.1) = false := by rfl) :
    EvQ X (.Call (.Name m p) (e :: es) [] pos) Γ i (fun x Γ' => (∃ l r', Rr l x r') ∧ Γ' = Γ1) := by
  intro B Hb H σ τ Q hl R q
  refine call_sem d hr hl R ha (fun gs Γ' ⟨l, hG, hv, hc⟩ => ?_) hg hdb he hpl
  have hb : Γ'[Γ1.length]? = some (.own false l (r l)) := by rw [hG]; simp
  refine ⟨false, fun _ => Γ1.length, _, hc, oneOwn_at hv hb, fun vs Hb1 H1 τ' s1 R1 out qs ⟨x, r', hR, ho, hqs⟩ hpo => ?_⟩
  subst ho hqs
  refine ⟨(fun er z => nomatch z), fun β j b z v Hb2 H2 C rv => ?_, fun r z => nomatch z⟩
  cases z
  have R3 := called_one (extra := []) R1 hv hb (by rw [List.append_nil]; exact C)
  have e1 : Γ'.set Γ1.length (.own false l r') = Γ1 ++ [.own false l r'] := by rw [hG]; simp
  rw [e1] at R3
  obtain ⟨o, rfl⟩ : ∃ o, τ' = [o] := by
    have h1 := R3.len
    have h2 := R.len
    simp only [List.length_append, List.length_singleton] at h1 h2
    have h3 : τ'.length = 1 := by omega
    match τ', h3 with
    | [o], _ => exact ⟨o, rfl⟩
  exact q x _ v Hb2 H2 ⟨⟨l, r', hR⟩, rfl⟩ (s1.trans C.b0) R3.pop rv
end

section
variable {X : Cx} {W : WX} {a b e : Expr} {Γ Γ1 : Gam} {pos pos' : Pos} {α β γ : Type} {i : Rp α} {j : Rp β} {k : Rp γ} {x : α} {y : β} {P : Out → Prop}
/-! ### expressions by a word -/
theorem eq_x (h : EvX X e Γ i x Γ1) : EvQ X e Γ i (fun a Γ' => a = x ∧ Γ' = Γ1) := fun B Hb H σ τ Q hl R q => h B Hb H σ τ Q hl R fun v Hb2 H2 s R2 rv => q x Γ1 v Hb2 H2 ⟨rfl, rfl⟩ s R2 rv
theorem eq_imp {R R' : α → Gam → Prop} (h : EvQ X e Γ i R) (hi : ∀ a Γ', R a Γ' → R' a Γ') : EvQ X e Γ i R' := fun B Hb H σ τ Q hl R1 q => h B Hb H σ τ Q hl R1 fun a Γ' v Hb2 H2 r s R2 rv => q a Γ' v Hb2 H2 (hi _ _ r) s R2 rv
def rSem (X : Cx) (f : Value → Value → Sem Value) : R2 := fun x y H Q => ∀ (pins : List (Addr × Obj)) (s : Shared) (σ : L2.St) (v u : Value), Inv X pins σ H s → RelV x v → RelV y u → wpAny (model X.prog X.w) X.A (f v u) (EP X pins σ Q) X.xe s
theorem op_sem {f : Value → Value → Sem Value} : OpR X f (rSem X f) := fun pins s σ H x y v u Q I rx ry h => h pins s σ v u I rx ry
theorem OpV.sem {f : Value → Value → Sem Value} {x : α} {y : β} {z : γ} (h : OpV X f i x j y k z) {Hb H : Hp} {v u : V} {Q : VK} (s : Same Hb H) (rv : i.rp X.K Hb v x) (ru : j.rp X.K Hb u y) (q : ∀ w Hb2 H2, Gw Hb H Hb2 H2 → k.rp X.K Hb2 w z → Q w H2) : rSem X f v u H Q := by
  obtain ⟨r, ho, hr⟩ := h
  exact fun pins s' σ v' u' I rx ry => ho pins s' σ H v u v' u' Q I rx ry (hr Hb H v u Q s rv ru q)
/-- both operands by a word -/
theorem eq_op {op : Operator} {R1 : α → Gam → Prop} {R3 : γ → Gam → Prop} {Rb : α → β → Gam → Prop} (ha : EvQ X a Γ i R1) (hb : ∀ x Γ1, R1 x Γ1 → EvQ X b Γ1 j (Rb x)) (h : ∀ x Γ1 y Γ2, R1 x Γ1 → Rb x y Γ2 → ∃ z, OpV X (binaryOp op) i x j y k z ∧ R3 z Γ2) : EvQ X (.BinOp a op b pos) Γ k R3 := by
  intro B Hb H σ τ Q hl R q
  refine we_of (pe_op op_sem pe_we pe_we) (ha B Hb H σ τ _ hl R fun x Γ1 v Hb1 H1 r1 s1 R1 rv => hb x Γ1 r1 B Hb1 H1 σ τ _ hl R1 fun y Γ2 u Hb2 H2 r2 s2 R2 ru => ?_)
  obtain ⟨z, hz, r3⟩ := h x Γ1 y Γ2 r1 r2
  exact hz.sem R2.sub (i.mono s2 rv) ru fun w Hb3 H3 g rw' => q z Γ2 w Hb3 H3 r3 ((s1.trans s2).trans g.b) (R2.gw g) rw'
/-- the left operand known -/
theorem eq_opR {op : Operator} {R2 : β → Gam → Prop} {f : β → γ} (ha : EvX X a Γ i x Γ1) (hb : EvQ X b Γ1 j R2) (h : ∀ y Γ2, R2 y Γ2 → OpV X (binaryOp op) i x j y k (f y)) : EvQ X (.BinOp a op b pos) Γ k (fun z Γ' => ∃ y, R2 y Γ' ∧ z = f y) :=
  eq_op (eq_x ha) (Rb := fun _ => R2) (fun x' Γ' ⟨e1, e2⟩ => by rw [e2]; exact hb) fun x' Γ' y Γ2 ⟨e1, e2⟩ r => ⟨f y, by rw [e1]; exact h y Γ2 r, y, r, rfl⟩
/-- the right operand known, whatever the left one is -/
theorem eq_opL {op : Operator} {R1 : α → Gam → Prop} {f : α → γ} (ha : EvQ X a Γ i R1) (hb : ∀ x Γ1, R1 x Γ1 → EvX X b Γ1 j y Γ1) (h : ∀ x Γ1, R1 x Γ1 → OpV X (binaryOp op) i x j y k (f x)) : EvQ X (.BinOp a op b pos) Γ k (fun z Γ' => ∃ x, R1 x Γ' ∧ z = f x) :=
  eq_op ha (Rb := fun x y' Γ' => R1 x Γ' ∧ y' = y) (fun x Γ1 r => eq_imp (eq_x (hb x Γ1 r)) fun a Γ' ⟨e1, e2⟩ => ⟨by rw [e2]; exact r, e1⟩) fun x Γ1' y' Γ2 r1 ⟨r2, e⟩ => ⟨f x, by rw [e]; exact h x Γ2 r2, x, r2, rfl⟩
def EvTQ (X : Cx) (e : Expr) (Γ : Gam) (R : Bool → Gam → Prop) : Prop :=
  ∀ (B : Bs) (Hb H : Hp) (σ τ : L2.St) (Q : Bool → Hp → Prop), σ.length = X.N.length → Reps X.K B Γ Hb H (σ ++ τ) →
    (∀ b Γ' Hb2 H2, R b Γ' → Same Hb Hb2 → Reps X.K B Γ' Hb2 H2 (σ ++ τ) → Q b H2) → wt X e σ H Q
theorem etq_cmp {op : CmpOp} {R1 : α → Gam → Prop} {R3 : Bool → Gam → Prop} {Rb : α → β → Gam → Prop} (ha : EvQ X a Γ i R1) (hb : ∀ x Γ1, R1 x Γ1 → EvQ X b Γ1 j (Rb x)) (h : ∀ x Γ1 y Γ2, R1 x Γ1 → Rb x y Γ2 → ∃ z, OpV X (compareOp op) i x j y rBool z ∧ R3 z Γ2)
    (hm : behindInMarks op b = false := by first | exact nomark _ | rfl) : EvTQ X (.Compare a [op] [b] pos) Γ R3 := by
  intro B Hb H σ τ Q hl R q
  refine wt_of (pt_cmpR op_sem pe_we pe_we hm) (ha B Hb H σ τ _ hl R fun x Γ1 v Hb1 H1 r1 s1 R1 rv => hb x Γ1 r1 B Hb1 H1 σ τ _ hl R1 fun y Γ2 u Hb2 H2 r2 s2 R2 ru => ?_)
  obtain ⟨z, hz, r3⟩ := h x Γ1 y Γ2 r1 r2
  exact hz.sem R2.sub (i.mono s2 rv) ru fun w Hb3 H3 g rw' => ⟨z, rw', q z Γ2 Hb3 H3 r3 ((s1.trans s2).trans g.b) (R2.gw g)⟩
/-- a draw compared with what is known -/
theorem etq_cmpL {op : CmpOp} {R1 : α → Gam → Prop} {f : α → Bool} (ha : EvQ X a Γ i R1) (hb : ∀ x Γ1, R1 x Γ1 → EvX X b Γ1 j y Γ1) (h : ∀ x Γ1, R1 x Γ1 → OpV X (compareOp op) i x j y rBool (f x))
    (hm : behindInMarks op b = false := by first | exact nomark _ | rfl) : EvTQ X (.Compare a [op] [b] pos) Γ (fun t Γ' => ∃ x, R1 x Γ' ∧ t = f x) :=
  etq_cmp ha (Rb := fun x y' Γ' => R1 x Γ' ∧ y' = y) (fun x Γ1 r => eq_imp (eq_x (hb x Γ1 r)) fun a Γ' ⟨e1, e2⟩ => ⟨by rw [e2]; exact r, e1⟩) (fun x Γ1' y' Γ2 r1 ⟨r2, e⟩ => ⟨f x, by rw [e]; exact h x Γ2 r2, x, r2, rfl⟩) hm
theorem s_ifQ {c : Expr} {A A' : List Stmt} {R : Bool → Gam → Prop} (h : EvTQ X c Γ R) (h1 : ∀ Γ', R true Γ' → SG X W A Γ' P) (h2 : ∀ Γ', R false Γ' → SG X W A' Γ' P) : S1 X W (.If c A A' pos) Γ P := by
  intro B Hb H σ τ D hl R0 F
  refine w1_of (ps_if pt_wt ps_ws ps_ws) (h B Hb H σ τ _ hl R0 fun t Γ1 Hb1 H1 r s1 R1 => ?_)
  cases t with
  | true => rw [if_pos rfl]; exact h1 Γ1 r B Hb1 H1 σ τ D hl R1 (F.later s1)
  | false => rw [if_neg Bool.false_ne_true]; exact h2 Γ1 r B Hb1 H1 σ τ D hl R1 (F.later s1)
theorem s_asgQ (n : Nat) {m : Str} {R : α → Gam → Prop} (h : EvQ X e Γ i R) (hp : ∀ a Γ1, R a Γ1 → P (.nx (Γ1.set n (.val i a)))) (hN : X.N.Nodup) (hi : X.N[n]? = some m := by rfl) (hx : Loc X.env.scope m := by first | exact Or.inl rfl | exact Or.inr rfl)
    (hs : swapsWith e (some (.Name m pos')) pos.line X.env = pure false := by rfl) (hf : X.fn m = true ∨ X.env.scope.names.lookup m = some .local := by first | exact .inl rfl | exact .inr rfl) :
    S1 X W (.Assign [.Name m pos'] e pos) Γ P := by
  intro B Hb H σ τ D hl R0 F
  have hn : n < σ.length := by rw [hl]; exact (List.getElem?_eq_some_iff.mp hi).1
  refine w1_of (ps_set hN hi hx pe_we hs hf) (h B Hb H σ τ _ hl R0 fun x Γ1 v Hb1 H1 r s1 R1 rv => ?_)
  exact F.nx _ (hp x Γ1 r) Hb1 H1 _ τ s1 (by rw [List.length_set]; exact hl) (set_app hn (R1.set n (s := .val i x) (x := some v) ⟨v, rfl, rv⟩ fun _ _ _ z => nomatch z))
theorem s_retQ {R : α → Gam → Prop} (h : EvQ X e Γ i R) (hp : ∀ a Γ1, R a Γ1 → P (.rt (.v i a) Γ1)) : S1 X W (.Return (some e) pos) Γ P := by
  intro B Hb H σ τ D hl R0 F
  exact w1_of (ps_ret pe_we) (h B Hb H σ τ _ hl R0 fun x Γ1 v Hb1 H1 r s1 R1 rv => F.rt _ _ (hp x Γ1 r) Hb1 H1 _ τ v s1 hl R1 rv)
theorem s_exprQ {R : α → Gam → Prop} (h : EvQ X e Γ i R) (hp : ∀ a Γ1, R a Γ1 → P (.nx Γ1)) (hs : swapsWith e none pos.line X.env = pure false := by rfl) : S1 X W (.Expr e pos) Γ P := by
  intro B Hb H σ τ D hl R0 F
  exact w1_of (ps_expr pe_we hs) (h B Hb H σ τ _ hl R0 fun x Γ1 v Hb1 H1 r s1 R1 rv => F.nx _ (hp x Γ1 r) Hb1 H1 _ τ s1 hl R1)
/-- an argument by a word -/
theorem ea_q {es : List Expr} {P : List Ag → Gam → Prop} {R : α → Gam → Prop} (h : EvQ X e Γ i R) (ht : ∀ x Γ1, R x Γ1 → EvA X es Γ1 fun gs Γ' => P (.v i x :: gs) Γ') (hs : starEach (e :: es) X.env = (false, eval e X.env) :: starEach es X.env := by rfl) : EvA X (e :: es) Γ P := by
  intro B Hb H σ τ Q hl R0 q
  refine wa_of (pa_cons pe_we pa_wa hs) (h B Hb H σ τ _ hl R0 fun x Γ1 v Hb1 H1 r s1 R1 rv => ht x Γ1 r B Hb1 H1 σ τ _ hl R1 fun gs Γ' vs Hb2 H2 τ' hp s2 R2 ok => ?_)
  exact q _ Γ' _ Hb2 H2 τ' hp (s1.trans s2) R2 (.cons (i.mono s2 rv) ok)
end
end VS

set_option maxHeartbeats 2000000
set_option autoImplicit false
/-! VS6: objects of the text's classes. -/
namespace VS
open PySem L2

inductive FsOk (K : Fg) (Hb : Hp) : List (Str × V) → List (Str × Ag) → Prop where
  | nil : FsOk K Hb [] []
  | cons {f : Str} {v : V} {g : Ag} {vs : List (Str × V)} {fs : List (Str × Ag)} (h : g.ok K Hb v) (t : FsOk K Hb vs fs) : FsOk K Hb ((f, v) :: vs) ((f, g) :: fs)
theorem FsOk.mono {K : Fg} {Hb Hb' : Hp} {vs : List (Str × V)} {fs : List (Str × Ag)} (s : Same Hb Hb') (h : FsOk K Hb vs fs) : FsOk K Hb' vs fs := by
  induction h with
  | nil => exact .nil
  | cons h t ih => exact .cons (Ag.ok_mono s h) ih
theorem FsOk.len {K : Fg} {Hb : Hp} {vs : List (Str × V)} {fs : List (Str × Ag)} (h : FsOk K Hb vs fs) : vs.length = fs.length := by
  induction h with
  | nil => rfl
  | cons h t ih => rw [List.length_cons, List.length_cons, ih]
/-- the class of this name stands at C -/
def ClsAt (K : Fg) (name : Str) (C : Addr) : Prop := PySem.W.nsIn K mainGlobals name = some (some (.ref C))
theorem ClsAt.eq {K : Fg} {name : Str} {C C' : Addr} (h : ClsAt K name C) (h' : ClsAt K name C') : C = C' := by
  unfold ClsAt at h h'
  rw [h] at h'
  cases h'
  rfl
/-- an object that does not change: its fields are those of the data -/
@[reducible] def rObj {α : Type} (name : Str) (flds : α → List (Str × Ag)) : Rp α := ⟨fun K H v a => ∃ p C dx vs, v = .ref p ∧ ClsAt K name C ∧ H p = some (.ins C dx vs) ∧ FsOk K H vs (flds a),
  fun s ⟨p, C, dx, vs, h1, h2, h3, h4⟩ => ⟨p, C, dx, vs, h1, h2, s _ _ h3, h4.mono s⟩⟩
/-- one that is owned -/
def Res.obj (name : Str) (fs : List (Str × Ag)) (x : Addr) : Res := ⟨[x], fun K Hb H => ∃ C dx vs, ClsAt K name C ∧ H x = some (.ins C dx vs) ∧ FsOk K Hb vs fs,
  fun s k ⟨C, dx, vs, h1, h2, h3⟩ => ⟨C, dx, vs, h1, by rw [k _ (List.mem_singleton.mpr rfl)]; exact h2, h3.mono s⟩⟩
theorem flookup {K : Fg} {Hb : Hp} {vs : List (Str × V)} {fs : List (Str × Ag)} {f : Str} {g : Ag} (h : FsOk K Hb vs fs) (e : fs.lookup f = some g) : ∃ v, vs.lookup f = some v ∧ g.ok K Hb v := by
  induction h with
  | nil => simp at e
  | @cons f1 v1 g2 vs fs h t ih =>
    rw [List.lookup_cons] at e ⊢
    by_cases c : (f == f1) = true
    · rw [c] at e ⊢
      cases e
      exact ⟨v1, rfl, h⟩
    · have c' : (f == f1) = false := by simpa using c
      rw [c'] at e ⊢
      exact ih e
theorem flookup_none {K : Fg} {Hb : Hp} {vs : List (Str × V)} {fs : List (Str × Ag)} {f : Str} (h : FsOk K Hb vs fs) (e : fs.lookup f = none) : vs.lookup f = none := by
  induction h with
  | nil => rfl
  | @cons f1 v1 g2 vs fs h t ih =>
    rw [List.lookup_cons] at e ⊢
    by_cases c : (f == f1) = true
    · rw [c] at e; cases e
    · have c' : (f == f1) = false := by simpa using c
      rw [c'] at e ⊢
      exact ih e
def putA (f : Str) (g : Ag) : List (Str × Ag) → List (Str × Ag)
  | [] => [(f, g)]
  | (h, x) :: r => if h = f then (h, g) :: r else (h, x) :: putA f g r
theorem put_ok {K : Fg} {Hb : Hp} {f : Str} {v : V} {g : Ag} (hg : g.ok K Hb v) {vs : List (Str × V)} {fs : List (Str × Ag)} (h : FsOk K Hb vs fs) : FsOk K Hb (putF f v vs) (putA f g fs) := by
  induction h with
  | nil => exact .cons hg .nil
  | @cons f1 v1 g2 vs fs h t ih =>
    show FsOk K Hb (if f1 = f then (f1, v) :: vs else (f1, v1) :: putF f v vs) (if f1 = f then (f1, g) :: fs else (f1, g2) :: putA f g fs)
    by_cases c : f1 = f
    · rw [if_pos c, if_pos c]; exact .cons hg t
    · rw [if_neg c, if_neg c]; exact .cons h ih

/-- what is asked of a class -/
structure Kls (K : Fg) (mg : Str → Option Value) (name : Str) (C : Addr) : Prop where
  ns : ClsAt K name C
  mg : mg name = some (.ref C)
  cl : Cls K C
section
variable {X : Cx} {W : WX} {a b c e : Expr} {es : List Expr} {Γ Γ1 Γ2 : Gam} {pos pos' p1 p2 p3 : Pos} {α β γ : Type} {i : Rp α} {j : Rp β} {k : Rp γ} {x : α} {y : β} {P : Out → Prop} {name f m : Str} {C : Addr} {flds : α → List (Str × Ag)}
/-- e.f of data -/
theorem ev_fld (h : EvX X e Γ (rObj name flds) x Γ1) (kl : Kls X.K X.mg name C) (hn : NoAttr X.K C f) (hf : (flds x).lookup f = some (.v j y) := by rfl) (hb : attributeBase e f X.env (eval e X.env) = eval e X.env := by rfl) : EvX X (.Attribute e f pos) Γ j y Γ1 := by
  intro B Hb H σ τ Q hl R q
  refine we_of (pe_fld pe_we hb) (h B Hb H σ τ _ hl R fun v Hb1 H1 s1 R1 rv => ?_)
  obtain ⟨p, C', dx, vs, rfl, hc, hp, hfs⟩ := rv
  have e1 := kl.ns.eq hc
  subst e1
  obtain ⟨w, hw, ok⟩ := flookup hfs hf
  exact ⟨p, C, dx, vs, w, rfl, R1.sub _ _ hp, kl.cl, hn, hw, q w Hb1 H1 s1 R1 ok⟩
/-- x.f, x owned in slot n -/
theorem ev_fldO (n : Nat) {p : Bool} {l : Addr} {fs : List (Str × Ag)} (kl : Kls X.K X.mg name C) (hn : NoAttr X.K C f) (hs : Γ[n]? = some (.own p l (Res.obj name fs l)) := by rfl) (hf : fs.lookup f = some (.v j y) := by rfl) (hN : X.N[n]? = some m := by rfl)
    (hv : Vis X.env.scope m := by first | exact Or.inl rfl | exact Or.inr (Or.inl rfl) | exact Or.inr (Or.inr rfl)) (hd : (m == ("__debug__" : Str)) = false := by decide) (hcd : (m == ("__classdict__" : Str)) = false := by decide)
    (hb : attributeBase (.Name m p1) f X.env (eval (.Name m p1) X.env) = eval (.Name m p1) X.env := by rfl) : EvX X (.Attribute (.Name m p1) f pos) Γ j y Γ := by
  intro B Hb H σ τ Q hl R q
  have hn' : n < σ.length := by rw [hl]; exact (List.getElem?_eq_some_iff.mp hN).1
  obtain ⟨e1, C', dx, vs, hc, hp, hfs⟩ := R.at hn' hs
  have e2 := kl.ns.eq hc
  subst e2
  obtain ⟨w, hw, ok⟩ := flookup hfs hf
  exact we_of (pe_fld (pe_var hN hv hd hcd) hb) ⟨_, join_some e1, l, C, dx, vs, w, rfl, hp, kl.cl, hn, hw, q w Hb H (Same.refl _) R ok⟩
/-- x.f = e, x owned in slot n -/
theorem s_fldO (n : Nat) {p : Bool} {l : Addr} {fs : List (Str × Ag)} (h : EvX X e Γ j y Γ1) (kl : Kls X.K X.mg name C) (hn : NoAttr X.K C f) (hp : P (.nx (Γ1.set n (.own p l (Res.obj name (putA f (.v j y) fs) l))))) (hs : Γ1[n]? = some (.own p l (Res.obj name fs l)) := by rfl)
    (hz : fs.length < 1000 := by exact Nat.le_of_ble_eq_true rfl) (hN : X.N[n]? = some m := by rfl) (hv : Vis X.env.scope m := by first | exact Or.inl rfl | exact Or.inr (Or.inl rfl) | exact Or.inr (Or.inr rfl))
    (hd : (m == ("__debug__" : Str)) = false := by decide) (hcd : (m == ("__classdict__" : Str)) = false := by decide) (hsw : swapsWith e (some (.Attribute (.Name m p1) f pos')) pos.line X.env = pure false := by rfl) :
    S1 X W (.Assign [.Attribute (.Name m p1) f pos'] e pos) Γ P := by
  intro B Hb H σ τ D hl R F
  have hn' : n < σ.length := by rw [hl]; exact (List.getElem?_eq_some_iff.mp hN).1
  refine w1_of (ps_fld (pe_var hN hv hd hcd) pe_we hsw) (h B Hb H σ τ _ hl R fun v Hb1 H1 s1 R1 rv => ?_)
  obtain ⟨e1, C', dx, vs, hc, hp', hfs⟩ := R1.at hn' hs
  have e2 := kl.ns.eq hc
  subst e2
  refine ⟨_, join_some e1, l, C, dx, vs, rfl, hp', kl.cl, hn, by rw [hfs.len]; exact hz, ?_⟩
  refine F.nx _ hp Hb1 _ σ τ s1 hl (R1.write hs (fun a h1 _ => upd_ne fun z => h1 (List.mem_singleton.mpr z)) (fun a h1 => .inl h1) (fun a h1 => ?_) ⟨C, dx, _, hc, upd_same, put_ok (g := .v j y) rv hfs⟩)
  have h2 : a ∈ [l] := h1.elim id id
  rw [List.mem_singleton.mp h2, upd_same]
  exact fun z => nomatch z
/-- an owned object of the def's own is let go -/
theorem Reps.freezeG {K : Fg} {B : Bs} {Hb H : Hp} {σ : L2.St} (h : Reps K B Γ Hb H σ) {n : Nat} {l : Addr} {r : Res} (e : Γ[n]? = some (.own false l r)) :
    ∃ Hb', Same Hb Hb' ∧ (∀ a, a ∈ r.as → Hb' a = H a) ∧ Reps K B (Γ.set n .no) Hb' H σ := by
  have sb : Same Hb (fun a => if a ∈ r.as then H a else Hb a) := fun a o q => by
    by_cases c : a ∈ r.as
    · rw [(h.foot n _ _ _ a e c).2.1] at q; cases q
    · show (if a ∈ r.as then H a else Hb a) = _
      rw [if_neg c]; exact q
  refine ⟨_, sb, fun a c => if_pos c, ?_⟩
  refine ⟨by rw [List.length_set]; exact h.len, fun a o q => ?_, h.b0.trans sb, h.fr, h.al, fun a q n' => ?_, fun k s q => ?_, fun k p l1 r1 a q m => ?_, fun k k' p l1 r1 p' l1' r1' a q q' m m' => ?_⟩
  · have q : (if a ∈ r.as then H a else Hb a) = some o := q
    by_cases c : a ∈ r.as
    · rw [if_pos c] at q; exact q
    · rw [if_neg c] at q; exact h.sub a o q
  · by_cases c : a ∈ r.as
    · rcases (h.foot n _ _ _ a e c).2.2 with z | z
      · exact absurd z q
      · exact absurd z.1 Bool.false_ne_true
    · show (if a ∈ r.as then H a else Hb a) = _
      rw [if_neg c]; exact h.dis a q n'
  · rcases get_set q with ⟨hk, q⟩ | ⟨_, rfl⟩
    · exact slotOk.mono sb (fun _ _ _ _ _ _ => rfl) (h.ok k s q)
    · exact True.intro
  · rcases get_set q with ⟨hk, q⟩ | ⟨_, q0⟩
    · obtain ⟨g1, g2, g3⟩ := h.foot k p l1 r1 a q m
      refine ⟨g1, ?_, g3⟩
      show (if a ∈ r.as then H a else Hb a) = _
      rw [if_neg fun c => hk (h.apart k n _ _ _ _ _ _ a q e m c)]
      exact g2
    · cases q0
  · rcases get_set q with ⟨hk, q⟩ | ⟨_, q0⟩
    · rcases get_set q' with ⟨hk', q'⟩ | ⟨_, q0⟩
      · exact h.apart k k' _ _ _ _ _ _ a q q' m m'
      · cases q0
    · cases q0
/-- something new and owned, as data -/
theorem ev_newG {r : Addr → Res} {i : Rp α} {x : α} (h : EvN X e Γ r Γ1) (hr : ∀ (l : Addr) (Hb H Hb' : Hp), (r l).R X.K Hb H → Same Hb Hb' → (∀ a, a ∈ (r l).as → Hb' a = H a) → i.rp X.K Hb' (.ref l) x) : EvX X e Γ i x Γ1 := by
  intro B Hb H σ τ Q hl R q
  refine h B Hb H σ τ Q hl R fun l Hb1 H1 s1 R1 => ?_
  have e1 : (Γ1 ++ [Slot.own false l (r l)])[Γ1.length]? = some (.own false l (r l)) := by simp
  obtain ⟨Hb2, s2, on, R2⟩ := R1.freezeG e1
  have e2 : (Γ1 ++ [Slot.own false l (r l)]).set Γ1.length .no = Γ1 ++ [.no] := by simp
  rw [e2] at R2
  exact q _ Hb2 H1 (s1.trans s2) R2.pop (hr l Hb1 H1 Hb2 (R1.ok _ _ e1).2 s2 on)
theorem ev_newO {fs : List (Str × Ag)} (h : EvN X e Γ (Res.obj name fs) Γ1) (hf : flds x = fs := by rfl) : EvX X e Γ (rObj name flds) x Γ1 := ev_newG h fun l Hb H Hb' ⟨C, dx, vs, h1, h2, h3⟩ s on =>
  ⟨l, C, dx, vs, rfl, h1, by rw [on l (List.mem_singleton.mpr rfl)]; exact h2, by rw [hf]; exact h3.mono s⟩

/-! ### methods -/
/-- how a class is made: its __init__ keeps the promise S -/
structure DefI (P : Program) (w : World) (K : Fg) (mg : Str → Option Value) (base : Heap) (name : Str) (C : Addr) (n : Nat) (ps : List Str) (S : Cl → Prop) : Prop where
  ex : ∃ f fd, Mk K C f ∧ Binds K fd ps [] ∧ FnOk P w K mg base (L2.CX P w) n f fd ps (spG K S)
structure DefM (P : Program) (w : World) (K : Fg) (mg : Str → Option Value) (base : Heap) (C : Addr) (m : Str) (n : Nat) (ps : List Str) (S : Cl → Prop) : Prop where
  ex : ∃ f fd, Meth K C m f ∧ Binds K fd ps [] ∧ FnOk P w K mg base (L2.CX P w) n f fd ps (spG K S)
/-- what __init__ leaves of the new object -/
def initR (name : Str) (l : Addr) (fs : List (Str × Ag)) (n : Nat) : Rs → List Slot → Prop := relV rNone 0 l (fun _ r => r = Res.obj name fs l) n
variable {ps : List Str} {S : Cl → Prop} {n : Nat}
theorem reps_new {K : Fg} {B : Bs} {Γ' : Gam} {Hb H : Hp} {σ' : L2.St} (R : Reps K B Γ' Hb H σ') {x dx C : Addr} (hx : H x = none) (hd : H dx = none) (ne : dx ≠ x) (hc : ClsAt K name C) :
    Reps K B (Γ' ++ [.own false x (Res.obj name [] x)]) (upd Hb dx (.own x)) (upd (upd H dx (.own x)) x (.ins C dx [])) (σ' ++ [some (.ref x)]) :=
  (R.laid hd (.own x)).pushOwn (by rw [upd_ne (Ne.symm ne)]; exact hx) rfl ⟨C, dx, [], hc, upd_same, .nil⟩
/-- C(a, ..) -/
theorem en_make {fs : Addr → List (Str × Ag)} (d : DefI X.prog X.w X.K X.mg X.base name C n ps S) (kl : Kls X.K X.mg name C) (hr : Room (n + 1) X.A)
    (ha : EvA X (e :: es) Γ fun gs Γ' => Γ' = Γ1 ∧ allV gs ∧ ∀ l, S ⟨.own true l (Res.obj name [] l) :: gs.map agS, initR name l (fs l) (gs.length + 1)⟩) (hl1 : Γ1.length = Γ.length := by rfl)
    (hg : Gl X name := by rfl) (hdb : (name == ("__debug__" : Str)) = false := by decide) (he : starEach (e :: es) X.env = (false, eval e X.env) :: starEach es X.env := by rfl) (hpl : (backTo pos (starEach es X.env)).any (·.1) = false := by rfl) :
    EvN X (.Call (.Name name p1) (e :: es) [] pos) Γ (fun l => Res.obj name (fs l) l) Γ1 := by
  intro B Hb H σ τ Q hl R q
  obtain ⟨f, fd, hm, hb, F⟩ := d.ex
  refine we_of (pe_make hm F hr hg kl.mg hb .nil passL pa_wa hdb he hpl) (ha B Hb H σ τ _ hl R fun gs Γ' vs Hb1 H1 τ' hp s1 R1 ok => ?_)
  obtain ⟨rfl, hv, hc⟩ := hp
  intro x dx hx hd ne
  have et := tau_nil R R1 hl1
  subst et
  rw [List.append_nil] at R1 ⊢
  have R2 := reps_new R1 hx hd ne kl.ns
  have sb : Same Hb1 (upd Hb1 dx (.own x)) := same_upd (R1.base_none hd)
  have ok2 : AgsOk X.K (upd Hb1 dx (.own x)) (.r x :: gs) (.ref x :: vs) := by
    refine .cons rfl ?_
    have : ∀ {gs : List Ag} {vs : List V}, AgsOk X.K Hb1 gs vs → AgsOk X.K (upd Hb1 dx (.own x)) gs vs := by
      intro gs vs h
      induction h with
      | nil => exact .nil
      | cons h t ih => exact .cons (Ag.ok_mono sb h) ih
    exact this ok
  have one : oneOwn 0 x (.r x :: gs) := ⟨rfl, hv⟩
  have hb2 : (Γ' ++ [Slot.own false x (Res.obj name [] x)])[Γ'.length]? = some (.own false x (Res.obj name [] x)) := by simp
  have es1 : ((Ag.r x :: gs).map agS).set 0 (.own true x (Res.obj name [] x)) = .own true x (Res.obj name [] x) :: gs.map agS := rfl
  have A := oneOwn_at one hb2
  rw [es1] at A
  refine ⟨_, hc x, upd Hb1 dx (.own x), by have := agsOk_len ok2; simp at this ⊢; omega, R2.args A ok2, fun out qs ⟨u, r, hR, ho, hqs⟩ hpo => ?_⟩
  subst ho hqs hR
  refine ⟨fun β j b z v Hb2 H2 Cc rv => ?_, (fun r z => nomatch z), fun er z => nomatch z⟩
  cases z
  refine ⟨rv, q x Hb2 H2 (s1.trans (sb.trans Cc.b0)) ?_⟩
  have Cc' : Reps X.K ⟨upd (upd H1 dx (.own x)) x (.ins C dx []), upd Hb1 dx (.own x), footS (((Ag.r x :: gs).map agS).set 0 (.own true x (Res.obj name [] x)))⟩ ((List.replicate (Ag.r x :: gs).length Slot.no).set 0 (.own true x (Res.obj name (fs x) x)) ++ []) Hb2 H2 ((V.ref x :: vs).map some) := by
    rw [List.append_nil]; exact Cc
  have R3 := called_one (extra := []) R2 one hb2 Cc'
  have e3 : (Γ' ++ [Slot.own false x (Res.obj name [] x)]).set Γ'.length (.own false x (Res.obj name (fs x) x)) = Γ' ++ [.own false x (Res.obj name (fs x) x)] := by simp
  rw [e3] at R3
  exact R3

/-! ### what a callee is asked, at the values -/
theorem sp_val {K : Fg} {B : Bs} {Γ' : Gam} {Hb H : Hp} {σ' : L2.St} {gs : List Ag} {vs : List V} {Q : VK} {E : XK} {k : Rp γ} {z : γ} (R : Reps K B Γ' Hb H σ') (hv : allV gs) (ok : AgsOk K Hb gs vs) (hc : S ⟨gs.map agS, detV k z gs.length⟩)
    (q : ∀ v Hb2 H2, Gw Hb H Hb2 H2 → Reps K B Γ' Hb2 H2 σ' → k.rp K Hb2 v z → Q v H2) : spG K S vs H Q E := by
  refine ⟨_, hc, Hb, by have := agsOk_len ok; simpa using this, R.args (allV_at (Γ' := Γ') gs hv) ok, fun out qs ⟨ho, hqs⟩ hpo => ?_⟩
  subst ho
  refine ⟨fun β j b e v Hb2 H2 Cc rv => ?_, (fun r e => nomatch e), fun er e => nomatch e⟩
  cases e
  have nf : ∀ a, ¬ footS (gs.map agS) a := fun a ⟨p, l, r, m, _⟩ => by
    obtain ⟨j, e⟩ := List.mem_iff_getElem?.mp m
    exact noVal hv e
  have R2 : Reps K B Γ' Hb2 H2 σ' := R.called (p0 := true) (fm := fun _ => 0) (g := id) (fun j q l r e => (noVal hv e).elim) Cc R.len (fun m s e => .old e rfl fun j q l r e => (noVal hv e).elim) fun _ _ _ _ z => z
  exact q v Hb2 H2 ⟨Cc.b0, fun a o e => Cc.fr a o e (nf a), Cc.sub, fun a n nb => Cc.dis a n nb⟩ R2 rv
theorem sp_new {K : Fg} {B : Bs} {Γ' : Gam} {Hb H : Hp} {σ' : L2.St} {gs : List Ag} {vs : List V} {Q : VK} {E : XK} {r : Addr → Res} (R : Reps K B Γ' Hb H σ') (hv : allV gs) (ok : AgsOk K Hb gs vs) (hc : S ⟨gs.map agS, detN r gs.length⟩)
    (q : ∀ l Hb2 H2, Same Hb Hb2 → Reps K B (Γ' ++ [.own false l (r l)]) Hb2 H2 (σ' ++ [some (.ref l)]) → Q (.ref l) H2) : spG K S vs H Q E := by
  refine ⟨_, hc, Hb, by have := agsOk_len ok; simpa using this, R.args (allV_at (Γ' := Γ') gs hv) ok, fun out qs ⟨ho, hqs⟩ hpo => ?_⟩
  subst ho
  refine ⟨(fun β j b e => nomatch e), fun r' e l Hb2 H2 Cc => ?_, fun er e => nomatch e⟩
  cases e
  exact q l Hb2 H2 Cc.b0 (called_new R (fun j q l r e => noVal hv e) Cc)
theorem sp_err {K : Fg} {B : Bs} {Γ' : Gam} {Hb H : Hp} {σ' : L2.St} {gs : List Ag} {vs : List V} {Q : VK} {E : XK} {er : Er} (R : Reps K B Γ' Hb H σ') (hv : allV gs) (ok : AgsOk K Hb gs vs) (hc : S ⟨gs.map agS, detE er gs.length⟩)
    (q : ∀ cls d Hb2 H2, Gw Hb H Hb2 H2 → Reps K B Γ' Hb2 H2 σ' → RepEr K Hb2 cls d er → E cls d H2) : spG K S vs H Q E := by
  refine ⟨_, hc, Hb, by have := agsOk_len ok; simpa using this, R.args (allV_at (Γ' := Γ') gs hv) ok, fun out qs ⟨ho, hqs⟩ hpo => ?_⟩
  subst ho
  refine ⟨(fun β j b e => nomatch e), (fun r' e => nomatch e), fun er' e cls d Hb2 H2 Cc re => ?_⟩
  cases e
  have nf : ∀ a, ¬ footS (gs.map agS) a := fun a ⟨p, l, r, m, _⟩ => by
    obtain ⟨j, e⟩ := List.mem_iff_getElem?.mp m
    exact noVal hv e
  have R2 : Reps K B Γ' Hb2 H2 σ' := R.called (p0 := true) (fm := fun _ => 0) (g := id) (fun j q l r e => (noVal hv e).elim) Cc R.len (fun m s e => .old e rfl fun j q l r e => (noVal hv e).elim) fun _ _ _ _ z => z
  exact q cls d Hb2 H2 ⟨Cc.b0, fun a o e => Cc.fr a o e (nf a), Cc.sub, fun a n nb => Cc.dis a n nb⟩ R2 re
/-- o.m(a, ..), o data -/
theorem ev_meth {o : Expr} {pl : Sem Bool} {k : Rp γ} {z : γ} (d : DefM X.prog X.w X.K X.mg X.base C m n ps S) (kl : Kls X.K X.mg name C) (hr : Room n X.A) (h : EvX X o Γ (rObj name flds) x Γ1) (hm : (flds x).lookup m = none := by rfl)
    (ha : EvA X (e :: es) Γ1 fun gs Γ' => Γ' = Γ2 ∧ allV gs ∧ S ⟨.val (rObj name flds) x :: gs.map agS, detV k z (gs.length + 1)⟩) (hl1 : Γ2.length = Γ1.length := by rfl)
    (he : starEach (e :: es) X.env = (false, eval e X.env) :: starEach es X.env := by rfl) (hpl : (backTo pos (starEach es X.env)).any (·.1) = false := by rfl)
    (ht : eval (.Call (.Attribute o m p1) (e :: es) [] pos) X.env = (do
      let ov ← eval o X.env
      standAt p1.atName
      let (f, first) ← holding [ov] (getMethod ov m pl)
      callWith pos f first (backTo pos (starEach (e :: es) X.env)) (backToKw pos (keywordEach [] X.env))) := by rfl) :
    EvX X (.Call (.Attribute o m p1) (e :: es) [] pos) Γ k z Γ2 := by
  intro B Hb H σ τ Q hl R q
  obtain ⟨f, fd, hm', hb, F⟩ := d.ex
  refine we_of (pe_meth (pl := pl) pe_we kl.cl hm' F hr hb .nil passL pa_wa he hpl ht) (h B Hb H σ τ _ hl R fun v Hb1 H1 s1 R1 rv => ?_)
  obtain ⟨p, C', dx, vs, rfl, hc, hp, hfs⟩ := id rv
  have e1 := kl.ns.eq hc
  subst e1
  refine ⟨p, dx, vs, rfl, R1.sub _ _ hp, flookup_none hfs hm, ha B Hb1 H1 σ τ _ hl R1 fun gs Γ' us Hb2 H2 τ' ⟨hG, hv, hc⟩ s2 R2 ok => ?_⟩
  subst hG
  have et := tau_nil R1 R2 hl1
  subst et
  rw [List.append_nil] at R2 ⊢
  exact sp_val (gs := .v (rObj name flds) x :: gs) R2 hv (.cons ((rObj name flds).mono s2 rv) ok) hc fun w Hb3 H3 g R3 rw' => q w Hb3 H3 ((s1.trans s2).trans g.b) R3 rw'
theorem ev_meth0 {o : Expr} {pl : Sem Bool} {k : Rp γ} {z : γ} (d : DefM X.prog X.w X.K X.mg X.base C m n ps S) (kl : Kls X.K X.mg name C) (hr : Room n X.A) (h : EvX X o Γ (rObj name flds) x Γ1) (hc : S ⟨[.val (rObj name flds) x], detV k z 1⟩) (hm : (flds x).lookup m = none := by rfl)
    (ht : eval (.Call (.Attribute o m p1) [] [] pos) X.env = (do
      let ov ← eval o X.env
      standAt p1.atName
      let (f, first) ← holding [ov] (getMethod ov m pl)
      callWith pos f first (backTo pos (starEach [] X.env)) (backToKw pos (keywordEach [] X.env))) := by rfl) :
    EvX X (.Call (.Attribute o m p1) [] [] pos) Γ k z Γ1 := by
  intro B Hb H σ τ Q hl R q
  obtain ⟨f, fd, hm', hb, F⟩ := d.ex
  refine we_of (pe_meth0 (pl := pl) pe_we kl.cl hm' F hr hb .nil passL ht) (h B Hb H σ τ _ hl R fun v Hb1 H1 s1 R1 rv => ?_)
  obtain ⟨p, C', dx, vs, rfl, hc', hp, hfs⟩ := id rv
  have e1 := kl.ns.eq hc'
  subst e1
  refine ⟨p, dx, vs, rfl, R1.sub _ _ hp, flookup_none hfs hm, ?_⟩
  exact sp_val (gs := [.v (rObj name flds) x]) R1 True.intro (.cons rv .nil) hc fun w Hb3 H3 g R3 rw' => q w Hb3 H3 (s1.trans g.b) R3 rw'

/-! ### staticmethods, by the class's name -/
structure StM (K : Fg) (C : Addr) (m : Str) (g : Addr) : Prop where
  ex : ∃ mc p rest, PySem.W.readsIn K C mc = true ∧ PySem.W.specialIn K (.ref C) "__getattribute__" = some (some (.builtin "type.__getattribute__")) ∧ PySem.W.findCls K (.ref C) mc m = some (.get (.builtin "staticmethod.__get__") (.ref p) .none (.ref C)) ∧
    PySem.W.recIn K p "staticmethod" = some (.ref g :: rest) ∧ PySem.W.keepIn K (.ref g) = true
structure DefS (P : Program) (w : World) (K : Fg) (mg : Str → Option Value) (base : Heap) (C : Addr) (m : Str) (n : Nat) (ps : List Str) (S : Cl → Prop) : Prop where
  ex : ∃ f fd, StM K C m f ∧ Binds K fd ps [] ∧ FnOk P w K mg base (L2.CX P w) n f fd ps (spG K S)
/-- the term: C.m(..) -/
def tStat (C : Addr) (sp : Sp) (E : XK) (ta : TE) (t : TA) : TE := fun σ H Q => ta σ H fun x H1 => x = .ref C ∧ t σ H1 fun vs H2 => sp vs H2 Q E
theorem pe_stat {CX : CXT} {k : Nat} {g : Addr} {fd : FuncData} {sp : Sp} {E : XK} {o : Expr} {ta : TE} {t : TA} {pl : Sem Bool} (he : PE X o ta) (c : StM X.K C m g) (F : FnOk X.prog X.w X.K X.mg X.base CX k g fd ps sp) (hr : Room k X.A) (hb : Binds X.K fd ps []) (hx : Passes CX X E) (ha : PA X (e :: es) t)
    (hst : starEach (e :: es) X.env = (false, eval e X.env) :: starEach es X.env := by rfl) (hpl : (backTo pos (starEach es X.env)).any (·.1) = false := by rfl)
    (ht : eval (.Call (.Attribute o m p1) (e :: es) [] pos) X.env = (do
      let ov ← eval o X.env
      standAt p1.atName
      let (f, first) ← holding [ov] (getMethod ov m pl)
      callWith pos f first (backTo pos (starEach (e :: es) X.env)) (backToKw pos (keywordEach [] X.env))) := by rfl) :
    PE X (.Call (.Attribute o m p1) (e :: es) [] pos) (tStat C sp E ta t) := by
  refine ⟨fun pins s σ H Q I h => ?_⟩
  refine PySem.W.methodCall_KW (pl := pl) (thn (he.run pins s σ H _ I h) fun u s1 ⟨x, H1, I1, rx, ex, q⟩ => ?_) ht
  subst ex
  obtain rfl : u = Value.ref C := rx
  obtain ⟨mc, p, rest, c1, c2, c3, c4, c5⟩ := c.ex
  refine PySem.W.method_cls I1.kIn c2 (PySem.W.cls_bind I1.kIn c1 c3 (wpAny_call (PySem.W.sm_get (s := { s1 with toks := s1.toks + 1 }) I1.kIn c4 (PySem.W.handed_on rfl ?_))))
  have I2 := I1.tok (s1.toks + 1)
  refine PySem.W.callWith_K (first := []) (h₀ := X.base) I1.ok.mod.kin c5 (thn (ha.run pos pins _ σ H1 _ I2 q) fun us s2 ⟨vs, H2, I3, rv, q2⟩ => ⟨I3.kIn, ?_⟩) hst hpl
  have q2' : sp (vs ++ []) H2 Q E := by rw [List.append_nil]; exact q2
  exact run_fn F hr hb .nil hx I3 rv q2'
theorem ev_stat {q1 : Pos} {k : Rp γ} {z : γ} {pl : Sem Bool} (d : DefS X.prog X.w X.K X.mg X.base C m n ps S) (kl : Kls X.K X.mg name C) (hr : Room n X.A) (ha : EvA X (e :: es) Γ fun gs Γ' => Γ' = Γ1 ∧ allV gs ∧ S ⟨gs.map agS, detV k z gs.length⟩) (hl1 : Γ1.length = Γ.length := by rfl) (hg : Gl X name := by rfl) (hdb : (name == ("__debug__" : Str)) = false := by decide)
    (he : starEach (e :: es) X.env = (false, eval e X.env) :: starEach es X.env := by rfl) (hpl : (backTo pos (starEach es X.env)).any (·.1) = false := by rfl)
    (ht : eval (.Call (.Attribute (.Name name q1) m p1) (e :: es) [] pos) X.env = (do
      let ov ← eval (.Name name q1) X.env
      standAt p1.atName
      let (f, first) ← holding [ov] (getMethod ov m pl)
      callWith pos f first (backTo pos (starEach (e :: es) X.env)) (backToKw pos (keywordEach [] X.env))) := by rfl) :
    EvX X (.Call (.Attribute (.Name name q1) m p1) (e :: es) [] pos) Γ k z Γ1 := by
  intro B Hb H σ τ Q hl R q
  obtain ⟨f, fd, hm', hb, F⟩ := d.ex
  refine we_of (pe_stat (pl := pl) (pe_glob (v := .ref C) hg kl.mg rfl hdb) hm' F hr hb passL pa_wa he hpl ht) ⟨rfl, ha B Hb H σ τ _ hl R fun gs Γ' us Hb2 H2 τ' ⟨hG, hv, hc⟩ s2 R2 ok => ?_⟩
  subst hG
  have et := tau_nil R R2 hl1
  subst et
  rw [List.append_nil] at R2
  exact sp_val R2 hv ok hc fun w Hb3 H3 g R3 rw' => q w Hb3 H3 (s2.trans g.b) R3 rw'
end
end VS

set_option maxHeartbeats 2000000
set_option autoImplicit false
/-! VS7: exceptions. -/
namespace VS
open PySem L2
/-- e raises er -/
def EvE (X : Cx) (W : WX) (e : Expr) (Γ : Gam) (er : Er) (Γ' : Gam) : Prop :=
  ∀ (B : Bs) (Hb H : Hp) (σ τ : L2.St) (Q : VK), σ.length = X.N.length → Reps X.K B Γ Hb H (σ ++ τ) →
    (∀ cls d Hb2 H2, Same Hb Hb2 → Reps X.K B Γ' Hb2 H2 (σ ++ τ) → RepEr X.K Hb2 cls d er → W cls d σ H2) → we X e σ H Q
section
variable {X : Cx} {W : WX} {a b c e : Expr} {es : List Expr} {Γ Γ1 Γ2 : Gam} {pos pos' p p1 p2 p3 : Pos} {α β γ : Type} {i : Rp α} {x : α} {P : Out → Prop} {name f m : Str} {C : Addr} {er : Er} {n : Nat} {ps : List Str} {S : Cl → Prop} {flds : α → List (Str × Ag)}
theorem ee_call (d : Def X.prog X.w X.K X.mg X.base m n ps S) (tk : Takes X W) (hr : Room n X.A) (ha : EvA X (e :: es) Γ fun gs Γ' => Γ' = Γ1 ∧ allV gs ∧ S ⟨gs.map agS, detE er gs.length⟩) (hl1 : Γ1.length = Γ.length := by rfl)
    (hg : Gl X m := by rfl) (hdb : (m == ("__debug__" : Str)) = false := by decide) (he : starEach (e :: es) X.env = (false, eval e X.env) :: starEach es X.env := by rfl) (hpl : (backTo pos (starEach es X.env)).any (·.1) = false := by rfl) :
    EvE X W (.Call (.Name m p) (e :: es) [] pos) Γ er Γ1 := by
  intro B Hb H σ τ Q hl R q
  obtain ⟨f, fd, h1, h2, h3, F⟩ := d.ex
  refine we_of (pe_callS F hr hg h1 h2 h3 (passAt tk) pa_wa hdb he hpl) (ha B Hb H σ τ _ hl R fun gs Γ' vs Hb1 H1 τ' ⟨hG, hv, hc⟩ s1 R1 ok => ?_)
  subst hG
  have et := tau_nil R R1 hl1
  subst et
  rw [List.append_nil] at R1
  exact sp_err R1 hv ok hc fun cls d Hb2 H2 g R2 re => q cls d Hb2 H2 (s1.trans g.b) R2 re
/-- C.m(..), a staticmethod that raises -/
theorem ee_stat {q1 : Pos} {pl : Sem Bool} (d : DefS X.prog X.w X.K X.mg X.base C m n ps S) (kl : Kls X.K X.mg name C) (tk : Takes X W) (fl : ∀ cls d σ σ' H, W cls d σ H → W cls d σ' H) (hr : Room n X.A)
    (ha : EvA X (e :: es) Γ fun gs Γ' => Γ' = Γ1 ∧ allV gs ∧ S ⟨gs.map agS, detE er gs.length⟩) (hl1 : Γ1.length = Γ.length := by rfl) (hg : Gl X name := by rfl) (hdb : (name == ("__debug__" : Str)) = false := by decide)
    (he : starEach (e :: es) X.env = (false, eval e X.env) :: starEach es X.env := by rfl) (hpl : (backTo pos (starEach es X.env)).any (·.1) = false := by rfl)
    (ht : eval (.Call (.Attribute (.Name name q1) m p1) (e :: es) [] pos) X.env = (do
      let ov ← eval (.Name name q1) X.env
      standAt p1.atName
      let (f, first) ← holding [ov] (getMethod ov m pl)
      callWith pos f first (backTo pos (starEach (e :: es) X.env)) (backToKw pos (keywordEach [] X.env))) := by rfl) :
    EvE X W (.Call (.Attribute (.Name name q1) m p1) (e :: es) [] pos) Γ er Γ1 := by
  intro B Hb H σ τ Q hl R q
  obtain ⟨f, fd, hm', hb, F⟩ := d.ex
  have hx : Passes (L2.CX X.prog X.w) X (fun cls d H => W cls d σ H) := passes_call tk fun cls d σ' H h => fl cls d σ σ' H h
  refine we_of (pe_stat (pl := pl) (pe_glob (v := .ref C) hg kl.mg rfl hdb) hm' F hr hb hx pa_wa he hpl ht) ⟨rfl, ha B Hb H σ τ _ hl R fun gs Γ' us Hb2 H2 τ' ⟨hG, hv, hc⟩ s2 R2 ok => ?_⟩
  subst hG
  have et := tau_nil R R2 hl1
  subst et
  rw [List.append_nil] at R2
  exact sp_err R2 hv ok hc fun cls d Hb3 H3 g R3 re => q cls d Hb3 H3 (s2.trans g.b) R3 re
/-- o.m(a, ..), o data, that raises -/
theorem ee_meth {o : Expr} {pl : Sem Bool} (d : DefM X.prog X.w X.K X.mg X.base C m n ps S) (kl : Kls X.K X.mg name C) (tk : Takes X W) (fl : ∀ cls d σ σ' H, W cls d σ H → W cls d σ' H) (hr : Room n X.A) (h : EvX X o Γ (rObj name flds) x Γ1) (hm : (flds x).lookup m = none := by rfl)
    (ha : EvA X (e :: es) Γ1 fun gs Γ' => Γ' = Γ2 ∧ allV gs ∧ S ⟨.val (rObj name flds) x :: gs.map agS, detE er (gs.length + 1)⟩) (hl1 : Γ2.length = Γ1.length := by rfl)
    (he : starEach (e :: es) X.env = (false, eval e X.env) :: starEach es X.env := by rfl) (hpl : (backTo pos (starEach es X.env)).any (·.1) = false := by rfl)
    (ht : eval (.Call (.Attribute o m p1) (e :: es) [] pos) X.env = (do
      let ov ← eval o X.env
      standAt p1.atName
      let (f, first) ← holding [ov] (getMethod ov m pl)
      callWith pos f first (backTo pos (starEach (e :: es) X.env)) (backToKw pos (keywordEach [] X.env))) := by rfl) :
    EvE X W (.Call (.Attribute o m p1) (e :: es) [] pos) Γ er Γ2 := by
  intro B Hb H σ τ Q hl R q
  obtain ⟨f, fd, hm', hb, F⟩ := d.ex
  have hx : Passes (L2.CX X.prog X.w) X (fun cls d H => W cls d σ H) := passes_call tk fun cls d σ' H h => fl cls d σ σ' H h
  refine we_of (pe_meth (pl := pl) pe_we kl.cl hm' F hr hb .nil hx pa_wa he hpl ht) (h B Hb H σ τ _ hl R fun v Hb1 H1 s1 R1 rv => ?_)
  obtain ⟨p, C', dx, vs, rfl, hc, hp, hfs⟩ := id rv
  have e1 := kl.ns.eq hc
  subst e1
  refine ⟨p, dx, vs, rfl, R1.sub _ _ hp, flookup_none hfs hm, ha B Hb1 H1 σ τ _ hl R1 fun gs Γ' us Hb2 H2 τ' ⟨hG, hv, hc⟩ s2 R2 ok => ?_⟩
  subst hG
  have et := tau_nil R1 R2 hl1
  subst et
  rw [List.append_nil] at R2 ⊢
  exact sp_err (gs := .v (rObj name flds) x :: gs) R2 hv (.cons ((rObj name flds).mono s2 rv) ok) hc fun cls d Hb3 H3 g R3 re => q cls d Hb3 H3 ((s1.trans s2).trans g.b) R3 re
/-- C(a, ..), whose __init__ raises -/
theorem ee_make (d : DefI X.prog X.w X.K X.mg X.base name C n ps S) (kl : Kls X.K X.mg name C) (tk : Takes X W) (fl : ∀ cls d σ σ' H, W cls d σ H → W cls d σ' H) (hr : Room (n + 1) X.A)
    (ha : EvA X (e :: es) Γ fun gs Γ' => Γ' = Γ1 ∧ allV gs ∧ ∀ l, S ⟨.own true l (Res.obj name [] l) :: gs.map agS, detE er (gs.length + 1)⟩) (hl1 : Γ1.length = Γ.length := by rfl)
    (hg : Gl X name := by rfl) (hdb : (name == ("__debug__" : Str)) = false := by decide) (he : starEach (e :: es) X.env = (false, eval e X.env) :: starEach es X.env := by rfl) (hpl : (backTo pos (starEach es X.env)).any (·.1) = false := by rfl) :
    EvE X W (.Call (.Name name p1) (e :: es) [] pos) Γ er Γ1 := by
  intro B Hb H σ τ Q hl R q
  obtain ⟨f, fd, hm, hb, F⟩ := d.ex
  have hx : Passes (L2.CX X.prog X.w) X (fun cls d H => W cls d σ H) := passes_call tk fun cls d σ' H h => fl cls d σ σ' H h
  refine we_of (pe_make hm F hr hg kl.mg hb .nil hx pa_wa hdb he hpl) (ha B Hb H σ τ _ hl R fun gs Γ' vs Hb1 H1 τ' hp s1 R1 ok => ?_)
  obtain ⟨rfl, hv, hc⟩ := hp
  intro x dx hx hd ne
  have et := tau_nil R R1 hl1
  subst et
  rw [List.append_nil] at R1 ⊢
  have R2 := reps_new R1 hx hd ne kl.ns
  have sb : Same Hb1 (upd Hb1 dx (.own x)) := same_upd (R1.base_none hd)
  have ok2 : AgsOk X.K (upd Hb1 dx (.own x)) (.r x :: gs) (.ref x :: vs) := by
    refine .cons rfl ?_
    have : ∀ {gs : List Ag} {vs : List V}, AgsOk X.K Hb1 gs vs → AgsOk X.K (upd Hb1 dx (.own x)) gs vs := by
      intro gs vs h
      induction h with
      | nil => exact .nil
      | cons h t ih => exact .cons (Ag.ok_mono sb h) ih
    exact this ok
  have one : oneOwn 0 x (.r x :: gs) := ⟨rfl, hv⟩
  have hb2 : (Γ' ++ [Slot.own false x (Res.obj name [] x)])[Γ'.length]? = some (.own false x (Res.obj name [] x)) := by simp
  have es1 : ((Ag.r x :: gs).map agS).set 0 (.own true x (Res.obj name [] x)) = .own true x (Res.obj name [] x) :: gs.map agS := rfl
  have A := oneOwn_at one hb2
  rw [es1] at A
  refine ⟨_, hc x, upd Hb1 dx (.own x), by have := agsOk_len ok2; simp at this ⊢; omega, R2.args A ok2, fun out qs ⟨ho, hqs⟩ hpo => ?_⟩
  subst ho hqs
  refine ⟨(fun β j b z => nomatch z), (fun r z => nomatch z), fun er z cls d Hb2 H2 Cc re => ?_⟩
  cases z
  refine q cls d Hb2 H2 (s1.trans (sb.trans Cc.b0)) ?_ re
  have R3 : Reps X.K B (Γ' ++ [.no]) Hb2 H2 (σ ++ τ ++ [some (.ref x)]) := by
    refine R2.called (p0 := false) (fm := fun _ => Γ'.length) (g := id) (fun k q l r e => ?_) Cc (by have := R2.len; simpa using this) (fun m s e => ?_) fun _ _ _ _ z => z
    · cases k with
      | zero => simp at e; obtain ⟨rfl, rfl, rfl⟩ := e; exact hb2
      | succ k => exact (noVal hv (j := k) (by simpa using e)).elim
    · rcases get_app e with ⟨e, hm⟩ | ⟨rfl, rfl⟩
      · refine .old (by rw [List.getElem?_append_left hm]; exact e) rfl fun _ _ _ _ _ z => ?_
        have z : Γ'.length = m := z
        omega
      · exact .no
  exact R3.pop
/-! statements whose expression raises -/
theorem s_exprE (h : EvE X W e Γ er Γ1) (hp : P (.er er Γ1)) (hs : swapsWith e none pos.line X.env = pure false := by rfl) : S1 X W (.Expr e pos) Γ P := by
  intro B Hb H σ τ D hl R F
  exact w1_of (ps_expr pe_we hs) (h B Hb H σ τ _ hl R fun cls d Hb2 H2 s R2 re => F.er er Γ1 hp Hb2 H2 σ τ cls d s hl R2 re)
theorem s_retX (h : EvE X W e Γ er Γ1) (hp : P (.er er Γ1)) : S1 X W (.Return (some e) pos) Γ P := by
  intro B Hb H σ τ D hl R F
  exact w1_of (ps_ret pe_we) (h B Hb H σ τ _ hl R fun cls d Hb2 H2 s R2 re => F.er er Γ1 hp Hb2 H2 σ τ cls d s hl R2 re)
theorem s_asgE {q : Nat} {m : Str} (h : EvE X W e Γ er Γ1) (hp : P (.er er Γ1)) (hN : X.N.Nodup) (hi : X.N[q]? = some m := by rfl) (hx : Loc X.env.scope m := by first | exact Or.inl rfl | exact Or.inr rfl)
    (hs : swapsWith e (some (.Name m pos')) pos.line X.env = pure false := by rfl) (hf : X.fn m = true ∨ X.env.scope.names.lookup m = some .local := by first | exact .inl rfl | exact .inr rfl) :
    S1 X W (.Assign [.Name m pos'] e pos) Γ P := by
  intro B Hb H σ τ D hl R F
  exact w1_of (ps_set hN hi hx pe_we hs hf) (h B Hb H σ τ _ hl R fun cls d Hb2 H2 s R2 re => F.er er Γ1 hp Hb2 H2 σ τ cls d s hl R2 re)
/-! raise -/
structure ExcK (K : Fg) (mg : Str → Option Value) (name : Str) (C : Addr) : Prop where
  ns : ClsAt K name C
  mg : mg name = some (.ref C)
  mkE : ∃ B newId initId bmB, ExcBaseFacts B newId initId bmB ∧ PySem.W.excIn K C bmB newId = true
  kp : PySem.W.keepIn K (.ref C) = true
  sub : PySem.W.subIn K (.ref C) (.type "BaseException") = some true
  ty : PySem.W.typeIn K (.ref C) = some (.type "type")
theorem s_raise {j : Nat} {t : Str} (k : ExcK X.K X.mg name C) (tk : Takes X W) (hp : P (.er ⟨name, []⟩ Γ)) (hc : X.calm = true := by rfl) (hg : Gl X name := by rfl) (hdb : (name == ("__debug__" : Str)) = false := by decide) :
    S1 X W (.Raise (some (.Call (.Name name p) [.Constant (.str t) j p2] [] pos)) none pos') Γ P := by
  intro B Hb H σ τ D hl R F
  obtain ⟨B', nw, it, bm, E, q⟩ := k.mkE
  exact w1_of (ps_raise hc tk (pmk_own E q k.mg k.kp (raises_own k.sub k.ty) hg hdb)) (F.er _ _ hp Hb H σ τ _ _ (Same.refl _) hl R ⟨C, k.ns, rfl, .inl ⟨rfl, rfl⟩⟩)
end
/-! ### try -/
/-- how a suite may end -/
def noEr (P : Out → Prop) : Out → Prop
  | .er _ _ => False
  | o => P o
/-- a suite's end, the name's slot gone -/
def goneP (i : Nat) (P : Out → Prop) : Out → Prop
  | .nx Γ => P (.nx (Γ.set i .no))
  | .bk Γ => P (.bk (Γ.set i .no))
  | .ct Γ => P (.ct (Γ.set i .no))
  | .rt s Γ => P (.rt s Γ)
  | .er _ _ => False
/-- the body's end where a clause for the class c stands behind it: T is asked of the suite -/
def tryP (K : Fg) (c : Value) (T : Er → Gam → Prop) (P : Out → Prop) : Out → Prop
  | .er e Γ => ∃ b C, ClsAt K e.name C ∧ PySem.W.exmOne K (.ref C) c = some b ∧ (b = true → T e Γ) ∧ (b = false → P (.er e Γ))
  | o => P o
section
variable {X : Cx} {W : WX} {Γ : Gam} {pos pos' np : Pos} {P : Out → Prop} {x m : Str} {c : Value} {body suite : List Stmt} {b₀ : Stmt}
theorem repEr_cls {K : Fg} {Hb : Hp} {cls : Value} {d : Option Addr} {e : Er} {C : Addr} (h : RepEr K Hb cls d e) (k : ClsAt K e.name C) : cls = .ref C := by
  obtain ⟨C', h1, h2, _⟩ := h
  rw [ClsAt.eq k h1]; exact h2
theorem s_tryOnly (tk : Takes X W) (hc : Names X x c)
    (hb : ∀ (W' : WX) (pn : List (Addr × Obj)) (xe : Value → Shared → Prop), Takes (X.tr pn xe) W' → PassesOwn (model X.prog X.w) X.A X.env xe → SG (X.tr pn xe) W' body Γ
      (tryP X.K c (fun e Γ' => ∀ (a : Addr) (oe : Obj) (C : Addr) (d : Option Addr) (pn : List (Addr × Obj)), ClsAt X.K e.name C → (e.fs = [] → d = none) → Zc (.ref C) d oe → (∃ vs, oe.data = .fields vs) → SG (X.suite a ((a, oe) :: pn)) (fun _ _ _ _ => False) (b₀ :: suite) Γ' (noEr P)) P))
    (hs : X.stack = X.env :: X.outer := by rfl) (hf : X.env.frame = some X.env.locals := by rfl) :
    S1 X W (.Try body [.ExceptHandler (some (.Name x np)) none (b₀ :: suite) pos'] [] [] pos) Γ P := by
  intro B Hb H σ τ D hl R F
  refine w1_of (ps_try_only (ts := fun a cls d D σ H => ∀ (oe : Obj) (pn : List (Addr × Obj)), Zc cls d oe → (∃ vs, oe.data = .fields vs) → ws (X.suite a ((a, oe) :: pn)) (b₀ :: suite) D σ H)
    (tb := fun W' D σ H => ∀ (pn : List (Addr × Obj)) (xe : Value → Shared → Prop), Takes (X.tr pn xe) W' → PassesOwn (model X.prog X.w) X.A X.env xe → ws (X.tr pn xe) body D σ H) hs hf hc tk
    (fun W' pn xe t po => ⟨fun pins s σ H D I h => h pn xe t po pins s I⟩) (fun a oe cls d pn z v => ⟨fun pins s σ H D I h => h oe pn z v pins s I⟩)) ?_
  intro pn xe t po
  refine hb _ pn xe t po B Hb H σ τ D hl R ⟨F.nx, F.bk, F.ct, F.rt, fun e Γ' ⟨b, C, hC, h1, h2, h3⟩ Hb' H' σ' τ' cls d s hl' R' re => ?_⟩
  obtain rfl := repEr_cls re hC
  refine ⟨b, h1, fun hb a _ oe pn z v => ?_, fun hb => F.er e Γ' (h3 hb) Hb' H' σ' τ' _ d s hl' R' re⟩
  refine h2 hb a oe C d pn hC (fun q => ?_) z v B Hb' H' σ' τ' D hl' R' (Fin.later (Hb := Hb) ⟨F.nx, F.bk, F.ct, F.rt, fun e Γ' h => h.elim⟩ s)
  obtain ⟨_, _, _, q2 | ⟨q1, _⟩⟩ := re
  · exact q2.2
  · exact absurd q q1
theorem s_tryAs (n : Nat) (tk : Takes X W) (hN : X.N.Nodup) (hc : Names X x c)
    (hb : ∀ (W' : WX) (pn : List (Addr × Obj)) (xe : Value → Shared → Prop), Takes (X.tr pn xe) W' → PassesOwn (model X.prog X.w) X.A X.env xe → SG (X.tr pn xe) W' body Γ
      (tryP X.K c (fun e Γ' => ∀ (a : Addr) (oe : Obj) (C : Addr) (d : Option Addr) (pn : List (Addr × Obj)), ClsAt X.K e.name C → (e.fs = [] → d = none) → Zc (.ref C) d oe → (∃ vs, oe.data = .fields vs) → SG (X.suite a ((a, oe) :: pn)) (fun _ _ _ _ => False) (b₀ :: suite) (Γ'.set n (.rf a)) (goneP n P)) P))
    (hs : X.stack = X.env :: X.outer := by rfl) (hf : X.env.frame = some X.env.locals := by rfl) (hi : X.N[n]? = some m := by rfl) (hln : X.env.kindOf m = some .local := by rfl) :
    S1 X W (.Try body [.ExceptHandler (some (.Name x np)) (some m) (b₀ :: suite) pos'] [] [] pos) Γ P := by
  intro B Hb H σ τ D hl R F
  have hn : n < σ.length := by rw [hl]; exact (List.getElem?_eq_some_iff.mp hi).1
  refine w1_of (ps_try_as (ts := fun a cls d D σ H => ∀ (oe : Obj) (pn : List (Addr × Obj)), Zc cls d oe → (∃ vs, oe.data = .fields vs) → ws (X.suite a ((a, oe) :: pn)) (b₀ :: suite) D σ H)
    (tb := fun W' D σ H => ∀ (pn : List (Addr × Obj)) (xe : Value → Shared → Prop), Takes (X.tr pn xe) W' → PassesOwn (model X.prog X.w) X.A X.env xe → ws (X.tr pn xe) body D σ H) hs hf hN hi hln hc tk
    (fun W' pn xe t po => ⟨fun pins s σ H D I h => h pn xe t po pins s I⟩) (fun a oe cls d pn z v => ⟨fun pins s σ H D I h => h oe pn z v pins s I⟩)) ?_
  intro pn xe t po
  refine hb _ pn xe t po B Hb H σ τ D hl R ⟨F.nx, F.bk, F.ct, F.rt, fun e Γ' ⟨b, C, hC, h1, h2, h3⟩ Hb' H' σ' τ' cls d s hl' R' re => ?_⟩
  obtain rfl := repEr_cls re hC
  have hn' : n < σ'.length := by rw [hl']; rw [hl] at hn; exact hn
  have gone : ∀ {Γ6 : Gam} {Hb6 H6 : Hp} {σ6 τ6 : L2.St}, σ6.length = X.N.length → Reps X.K B Γ6 Hb6 H6 (σ6 ++ τ6) → Reps X.K B (Γ6.set n .no) Hb6 H6 (σ6.set n none ++ τ6) := fun {Γ6 Hb6 H6 σ6 τ6} h6 R6 => by
    have R7 := R6.set n (s := .no) (x := none) True.intro fun _ _ _ z => nomatch z
    rw [List.set_append_left n none (by rw [h6]; rw [hl] at hn; exact hn)] at R7
    exact R7
  refine ⟨b, h1, fun hb a _ oe pn z v => ?_, fun hb => F.er e Γ' (h3 hb) Hb' H' σ' τ' _ d s hl' R' re⟩
  refine h2 hb a oe C d pn hC (fun q => ?_) z v B Hb' H' (σ'.set n (some (.ref a))) τ' _ (by rw [List.length_set]; exact hl') ?_ ?_
  · obtain ⟨_, _, _, q2 | ⟨q1, _⟩⟩ := re
    · exact q2.2
    · exact absurd q q1
  · have R7 := R'.set n (s := .rf a) (x := some (.ref a)) rfl fun _ _ _ z => nomatch z
    rw [List.set_append_left n _ hn'] at R7
    exact R7
  · exact ⟨fun Γ6 p Hb6 H6 σ6 τ6 s6 h6 R6 => F.nx _ p Hb6 H6 _ τ6 (s.trans s6) (by rw [List.length_set]; exact h6) (gone h6 R6), fun Γ6 p Hb6 H6 σ6 τ6 s6 h6 R6 => F.bk _ p Hb6 H6 _ τ6 (s.trans s6) (by rw [List.length_set]; exact h6) (gone h6 R6),
      fun Γ6 p Hb6 H6 σ6 τ6 s6 h6 R6 => F.ct _ p Hb6 H6 _ τ6 (s.trans s6) (by rw [List.length_set]; exact h6) (gone h6 R6), fun t6 Γ6 p Hb6 H6 σ6 τ6 v6 s6 h6 R6 ok => F.rt t6 _ p Hb6 H6 σ6 τ6 v6 (s.trans s6) h6 R6 ok, fun e6 Γ6 h => h.elim⟩
end
end VS

set_option maxHeartbeats 2000000
set_option autoImplicit false
/-! VS8: what is walked; for, while; comprehensions. -/
namespace VS
open PySem L2
def wI (X : Cx) (tg iter : Expr) : TI := fun σ H R => ∀ (pins : List (Addr × Obj)) (s : Shared), Inv X pins σ H s → wpAny (model X.prog X.w) X.A (eval iter X.env) (fun v s1 => wpAny (model X.prog X.w) X.A (pyIter v) (PIE X pins σ tg R) X.xe s1) X.xe s
def wg (X : Cx) (tg : Expr) : TG := fun v σ H Q => ∀ (pins : List (Addr × Obj)) (s : Shared) (u : Value), Inv X pins σ H s → RelV v u → wpAny (model X.prog X.w) X.A (assign tg X.env u) (fun _ s' => ∃ σ' H', Inv X pins σ' H' s' ∧ Q σ' H') X.xe s
def wts (X : Cx) (ifs : List Expr) : TT := fun σ H Q => ∀ (pins : List (Addr × Obj)) (s : Shared), Inv X pins σ H s → wpAny (model X.prog X.w) X.A (forIn ifs true fun c r => if r = true then do let ok ← isTrue c X.env (eval c X.env); pure (ForInStep.yield ok) else pure (ForInStep.yield r)) (TP X pins σ Q) X.xe s
section
variable {X : Cx} {tg iter : Expr} {ifs : List Expr} {σ : L2.St} {H : Hp}
theorem pi_wI : PI X tg iter (wI X tg iter) := ⟨fun pins s _ _ _ I h => h pins s I⟩
theorem pg_wg : PG X tg (wg X tg) := ⟨fun pins s _ _ _ u _ I r h => h pins s u I r⟩
theorem pts_wts : PTs X ifs (wts X ifs) := ⟨fun pins s _ _ _ I h => h pins s I⟩
theorem wI_of {t : TI} {R : It → Hp → Prop} (h : PI X tg iter t) (q : t σ H R) : wI X tg iter σ H R := fun pins s I => h.run pins s σ H R I q
theorem wg_of {t : TG} {v : V} {Q : L2.St → Hp → Prop} (h : PG X tg t) (q : t v σ H Q) : wg X tg v σ H Q := fun pins s u I r => h.run pins s σ H v u Q I r q
theorem wts_of {t : TT} {Q : Bool → Hp → Prop} (h : PTs X ifs t) (q : t σ H Q) : wts X ifs σ H Q := fun pins s I => h.run pins s σ H Q I q
end
/-- the walk J gives xs, while G holds of the slots -/
def Seq {α : Type} (K : Fg) (B : Bs) (J : It) (Hb0 : Hp) (i : Rp α) (xs : List α) (G : Gam → Prop) : Prop :=
  ∀ (Γ : Gam) (Hb H : Hp) (σ : L2.St) (k : Nat), Same Hb0 Hb → Reps K B Γ Hb H σ → G Γ → (∀ x, xs[k]? = some x → J.go k H ∧ ∀ v H', J.yld k H v H' → ∃ Hb', Gw Hb H Hb' H' ∧ i.rp K Hb' v x) ∧ (xs.length ≤ k → J.stop k H)
def EvI (X : Cx) (tg iter : Expr) (Γ : Gam) {α : Type} (i : Rp α) (xs : List α) (Γ1 : Gam) (G : Gam → Prop) : Prop :=
  ∀ (B : Bs) (Hb H : Hp) (σ τ : L2.St) (R : It → Hp → Prop), σ.length = X.N.length → Reps X.K B Γ Hb H (σ ++ τ) →
    (∀ J Hb2 H2, Same Hb Hb2 → Reps X.K B Γ1 Hb2 H2 (σ ++ τ) → Seq X.K B J Hb2 i xs G → R J H2) → wI X tg iter σ H R
def anyG : Gam → Prop := fun _ => True
def TgX (X : Cx) (tg : Expr) (Γ : Gam) {α : Type} (i : Rp α) (x : α) (Γ1 : Gam) : Prop :=
  ∀ (B : Bs) (Hb H : Hp) (σ τ : L2.St) (v : V) (Q : L2.St → Hp → Prop), σ.length = X.N.length → Reps X.K B Γ Hb H (σ ++ τ) → i.rp X.K Hb v x →
    (∀ σ', σ'.length = X.N.length → Reps X.K B Γ1 Hb H (σ' ++ τ) → Q σ' H) → wg X tg v σ H Q
section
variable {X : Cx} {W : WX} {tg iter a b c e elt : Expr} {es ifs : List Expr} {body : List Stmt} {Γ Γ1 Γ2 : Gam} {pos pos' p p1 p2 : Pos} {α β γ : Type} {i : Rp α} {j : Rp β} {k : Rp γ} {x : α} {y : β} {z : γ} {P : Out → Prop} {G : Gam → Prop} {m m2 m3 : Str}
/-! ### what is walked -/
theorem itl_seq {K : Fg} {B : Bs} {Hb0 : Hp} {l : Addr} {vs : List V} {xs : List α} (h : Hb0 l = some (.lst vs)) (hp : Paired (i.rp K Hb0) vs xs) : Seq K B (Itl K l) Hb0 i xs anyG := fun Γ Hb H σ n s R _ => by
  have hH : SqL K H l vs := .of (R.sub _ _ (s _ _ h))
  refine ⟨fun x hx => ?_, fun hn => ⟨vs, hH, by rw [paired_len hp]; exact hn⟩⟩
  obtain ⟨v, hv, rv⟩ := paired_get hp hx
  refine ⟨⟨vs, v, hH, hv⟩, fun v' H' ⟨e, y⟩ => ?_⟩
  subst e
  have e2 := y vs hH
  rw [hv] at e2
  cases e2
  exact ⟨Hb, .refl R.sub, i.mono s rv⟩
theorem ei_list {xs : List α} (h : EvX X e Γ (rList (r := i)) xs Γ1) : EvI X tg e Γ i xs Γ1 anyG := by
  intro B Hb H σ τ R hl R0 q
  refine wI_of (pi_list pe_we) (h B Hb H σ τ _ hl R0 fun v Hb1 H1 s1 R1 rv => ?_)
  obtain ⟨l, vs, rfl, h1, h2⟩ := rv
  exact ⟨l, rfl, ⟨vs, .of (R1.sub _ _ h1)⟩, q _ Hb1 H1 s1 R1 (itl_seq h1 h2)⟩
theorem ei_own (n : Nat) {bb : Bool} {l : Addr} {xs : List α} (hN : X.N[n]? = some m := by rfl) (hs : Γ[n]? = some (.own bb l (Res.lst i xs l)) := by rfl) (hv : Vis X.env.scope m := by first | exact Or.inl rfl | exact Or.inr (Or.inl rfl) | exact Or.inr (Or.inr rfl))
    (hd : (m == ("__debug__" : Str)) = false := by decide) (hcd : (m == ("__classdict__" : Str)) = false := by decide) : EvI X tg (.Name m pos) Γ i xs Γ (fun Γ' => Γ'[n]? = some (.own bb l (Res.lst i xs l))) := by
  intro B Hb H σ τ R hl R0 q
  have hn : n < σ.length := by rw [hl]; exact (List.getElem?_eq_some_iff.mp hN).1
  obtain ⟨e1, vs, h1, h2⟩ := R0.at hn hs
  refine wI_of (pi_list (pe_var hN hv hd hcd)) ⟨_, join_some e1, l, rfl, ⟨vs, .of h1⟩, q _ Hb H (Same.refl _) R0 ?_⟩
  intro Γ' Hb' H' σ' n' s R' hg
  obtain ⟨vs', g1, g2⟩ := (R'.ok n _ hg).2
  have hH : SqL X.K H' l vs' := .of g1
  refine ⟨fun x hx => ?_, fun hn => ⟨vs', hH, by rw [paired_len g2]; exact hn⟩⟩
  obtain ⟨v, hv, rv⟩ := paired_get g2 hx
  refine ⟨⟨vs', v, hH, hv⟩, fun v' H2 ⟨e, y⟩ => ?_⟩
  subst e
  have e2 := y vs' hH
  rw [hv] at e2
  cases e2
  exact ⟨Hb', .refl R'.sub, rv⟩
theorem ei_tup {xs : List α} (h : EvX X e Γ (rTup (r := i)) ⟨xs⟩ Γ1) : EvI X tg e Γ i xs Γ1 anyG := by
  intro B Hb H σ τ R hl R0 q
  refine wI_of (pi_tup pe_we) (h B Hb H σ τ _ hl R0 fun v Hb1 H1 s1 R1 rv => ?_)
  obtain ⟨l, vs, rfl, h1, h2⟩ := rv
  refine ⟨l, rfl, ⟨vs, .of (R1.sub _ _ h1)⟩, q _ Hb1 H1 s1 R1 ?_⟩
  intro Γ' Hb' H' σ' n s R' _
  have hH : SqT X.K H' l vs := .of (R'.sub _ _ (s _ _ h1))
  refine ⟨fun x hx => ?_, fun hn => ⟨vs, hH, by rw [paired_len h2]; exact hn⟩⟩
  obtain ⟨v, hv, rv⟩ := paired_get h2 hx
  refine ⟨⟨vs, v, hH, hv⟩, fun v' H2 ⟨e, y⟩ => ?_⟩
  subst e
  have e2 := y vs hH
  rw [hv] at e2
  cases e2
  exact ⟨Hb', .refl R'.sub, i.mono s rv⟩
/-- lo, .., hi - 1 -/
def rg (lo hi : Int) : List Int := (List.range (hi - lo).toNat).map fun n => lo + (n : Nat)
theorem rg_len {lo hi : Int} : (rg lo hi).length = (hi - lo).toNat := by unfold rg; simp
theorem rg_get {lo hi : Int} {n : Nat} {x : Int} : (rg lo hi)[n]? = some x ↔ n < (hi - lo).toNat ∧ x = lo + n := by
  unfold rg
  rw [List.getElem?_map]
  by_cases h : n < (hi - lo).toNat
  · rw [List.getElem?_range h]
    simp [h, eq_comm]
  · rw [List.getElem?_eq_none (by simpa using h)]
    simp [h]
theorem rg_mem {lo hi x : Int} : x ∈ rg lo hi ↔ lo ≤ x ∧ x < hi := by
  unfold rg
  rw [List.mem_map]
  constructor
  · rintro ⟨n, h, rfl⟩
    rw [List.mem_range] at h
    omega
  · rintro ⟨h1, h2⟩
    exact ⟨(x - lo).toNat, by rw [List.mem_range]; omega, by omega⟩
theorem itr_seq {K : Fg} {B : Bs} {Hb0 : Hp} {lo hi : Int} : Seq K B (Itr lo (hi - lo).toNat) Hb0 rInt (rg lo hi) anyG := fun Γ Hb H σ n s R _ => by
  refine ⟨fun x hx => ?_, fun hn => by rw [rg_len] at hn; exact hn⟩
  obtain ⟨h1, h2⟩ := rg_get.mp hx
  exact ⟨h1, fun v H' ⟨e, y⟩ => ⟨Hb, by rw [e]; exact .refl R.sub, by rw [h2]; exact y⟩⟩
theorem ei_range1 {n : Int} (hm : X.mg "range" = none) (ha : EvX X a Γ rInt n Γ1) (h1 : -(2 ^ 62) ≤ n) (h2 : n < 2 ^ 62) (hg : Gl X "range" := by rfl) (hs : starEach [a] X.env = [(false, eval a X.env)] := by rfl) : EvI X tg (.Call (.Name "range" p) [a] [] pos) Γ rInt (rg 0 n) Γ1 anyG := by
  intro B Hb H σ τ R hl R0 q
  refine wI_of (pi_range1 hg hm (pa_cons pe_we pa_nil (by rw [hs]; rfl)) hs) (ha B Hb H σ τ _ hl R0 fun v Hb1 H1 s1 R1 rv => ?_)
  refine ⟨n, by rw [show v = V.int n from rv], h1, h2, q _ Hb1 H1 s1 R1 ?_⟩
  have := itr_seq (K := X.K) (B := B) (Hb0 := Hb1) (lo := 0) (hi := n)
  rw [Int.sub_zero] at this
  exact this
theorem ei_range2 {m n : Int} (hm : X.mg "range" = none) (ha : EvX X a Γ rInt m Γ1) (hb : EvX X b Γ1 rInt n Γ2) (h1 : -(2 ^ 62) ≤ m) (h2 : m < 2 ^ 62) (h3 : -(2 ^ 62) ≤ n) (h4 : n < 2 ^ 62) (hg : Gl X "range" := by rfl)
    (hs : starEach [a, b] X.env = [(false, eval a X.env), (false, eval b X.env)] := by rfl) (hs2 : starEach [b] X.env = [(false, eval b X.env)] := by rfl) : EvI X tg (.Call (.Name "range" p) [a, b] [] pos) Γ rInt (rg m n) Γ2 anyG := by
  intro B Hb H σ τ R hl R0 q
  refine wI_of (pi_range2 hg hm (pa_cons pe_we (pa_cons pe_we pa_nil (by rw [hs2]; rfl)) (by rw [hs, hs2])) hs hs2) (ha B Hb H σ τ _ hl R0 fun v Hb1 H1 s1 R1 rv => hb B Hb1 H1 σ τ _ hl R1 fun u Hb2 H2 s2 R2 ru => ?_)
  exact ⟨m, n, by rw [show v = V.int m from rv, show u = V.int n from ru], ⟨h1, h2, h3, h4⟩, q _ Hb2 H2 (s1.trans s2) R2 itr_seq⟩
/-! ### targets -/
theorem tg_name (n : Nat) (hN : X.N.Nodup) (hi : X.N[n]? = some m := by rfl) (hx : Loc X.env.scope m := by first | exact Or.inl rfl | exact Or.inr rfl) (hf : X.fn m = true ∨ X.env.scope.names.lookup m = some .local := by first | exact .inl rfl | exact .inr rfl) : TgX X (.Name m pos) Γ i x (Γ.set n (.val i x)) := by
  intro B Hb H σ τ v Q hl R rv q
  have hn : n < σ.length := by rw [hl]; exact (List.getElem?_eq_some_iff.mp hi).1
  exact wg_of (pg_name hN hi hx hf) (q _ (by rw [List.length_set]; exact hl) (set_app hn (R.set n (s := .val i x) (x := some v) ⟨v, rfl, rv⟩ fun _ _ _ z => nomatch z)))
theorem tg_pair (n n2 : Nat) {kk : Nat} {q : α × β} (hN : X.N.Nodup) (hc : X.calm = true := by rfl) (hi : X.N[n]? = some m := by rfl) (hi2 : X.N[n2]? = some m2 := by rfl) (hx : Loc X.env.scope m := by first | exact Or.inl rfl | exact Or.inr rfl) (hx2 : Loc X.env.scope m2 := by first | exact Or.inl rfl | exact Or.inr rfl)
    (hf : X.fn m = true ∨ X.env.scope.names.lookup m = some .local := by first | exact .inl rfl | exact .inr rfl) (hf2 : X.fn m2 = true ∨ X.env.scope.names.lookup m2 = some .local := by first | exact .inl rfl | exact .inr rfl)
    (pg : ∀ {t1 t2 : TG}, PG X (.Name m p1) t1 → PG X (.Name m2 p2) t2 → PG X (.Tuple [.Name m p1, .Name m2 p2] kk pos) (gTup X.K 2 (gCons t1 (gCons t2 gNil))) := by intro t1 t2 h1 h2; exact pg_tup rfl (pgs_cons h1 (pgs_cons h2 pgs_nil))) :
    TgX X (.Tuple [.Name m p1, .Name m2 p2] kk pos) Γ (rPair (r := i) (s := j)) q ((Γ.set n (.val i q.1)).set n2 (.val j q.2)) := by
  intro B Hb H σ τ v Q hl R rv qq
  have hn : n < σ.length := by rw [hl]; exact (List.getElem?_eq_some_iff.mp hi).1
  have hn2 : n2 < σ.length := by rw [hl]; exact (List.getElem?_eq_some_iff.mp hi2).1
  obtain ⟨l, v1, v2, rfl, h1, r1, r2⟩ := rv
  refine wg_of (pg (pg_name hN hi hx hf) (pg_name hN hi2 hx2 hf2)) ⟨l, [v1, v2], rfl, .of (R.sub _ _ h1), rfl, v1, [v2], rfl, v2, [], rfl, rfl, ?_⟩
  refine qq _ (by rw [List.length_set, List.length_set]; exact hl) ?_
  have R1 := set_app hn (R.set n (s := .val i q.1) (x := some v1) ⟨v1, rfl, r1⟩ fun _ _ _ z => nomatch z)
  exact set_app (by rw [List.length_set]; exact hn2) (R1.set n2 (s := .val j q.2) (x := some v2) ⟨v2, rfl, r2⟩ fun _ _ _ z => nomatch z)
/-! ### for, while -/
theorem s_for {xs : List α} (h : EvI X tg iter Γ i xs Γ1 G) (po : PassesOwn (model X.prog X.w) X.A X.env X.xe) (I : Nat → Gam → Prop) (h0 : I 0 Γ1) (hG : ∀ n Γ', I n Γ' → G Γ')
    (hb : ∀ n x Γk, xs[n]? = some x → I n Γk → ∃ Γt, TgX X tg Γk i x Γt ∧ SG X W body Γt (loopP (I (n + 1)) P)) (hd : ∀ Γ', I xs.length Γ' → P (.nx Γ')) (hc : X.calm = true := by rfl) (hs : ∀ x, foldedSetIterable iter X.env x = pure x := by intro _; rfl) :
    S1 X W (.For tg iter body [] pos) Γ P := by
  intro B Hb H σ τ D hl R F
  refine w1_of (ps_for po hc pi_wI pg_wg ps_ws hs) (h B Hb H σ τ _ hl R fun J Hb1 H1 s1 R1 sq => ?_)
  refine ⟨fun n m σ' H' => m = xs.length - n ∧ n ≤ xs.length ∧ ∃ Γk Hb' τ', I n Γk ∧ Same Hb1 Hb' ∧ σ'.length = X.N.length ∧ Reps X.K B Γk Hb' H' (σ' ++ τ'), ⟨_, rfl, Nat.zero_le _, Γ1, Hb1, τ, h0, Same.refl _, hl, R1⟩, ?_⟩
  rintro n m σ' H' ⟨rfl, hk, Γk, Hb', τ', hI, sb, hl', R'⟩
  obtain ⟨q1, q2⟩ := sq Γk Hb' H' _ n sb R' (hG n Γk hI)
  by_cases hlt : n < xs.length
  · have hx : xs[n]? = some xs[n] := List.getElem?_eq_getElem hlt
    obtain ⟨go, yl⟩ := q1 _ hx
    refine .inr ⟨go, fun σ2 H2 => ∃ Γk Hb' τ', I (n + 1) Γk ∧ Same Hb1 Hb' ∧ σ2.length = X.N.length ∧ Reps X.K B Γk Hb' H2 (σ2 ++ τ'), fun σ2 H2 h2 => ⟨xs.length - (n + 1), by omega, rfl, hlt, h2⟩, fun v H2 y => ?_⟩
    obtain ⟨Hb2, g, rv⟩ := yl v H2 y
    obtain ⟨Γt, ht, hbody⟩ := hb n _ Γk hx hI
    have s02 : Same Hb1 Hb2 := sb.trans g.b
    refine ht B Hb2 H2 σ' τ' v _ hl' (R'.gw g) rv fun σ2 hl2 R2 => ?_
    refine hbody B Hb2 H2 σ2 τ' _ hl2 R2 ⟨fun Γ' p Hb3 H3 σ3 τ3 s3 l3 R3 => ⟨Γ', Hb3, τ3, p, s02.trans s3, l3, R3⟩, fun Γ' p Hb3 H3 σ3 τ3 s3 l3 R3 => F.nx Γ' p Hb3 H3 σ3 τ3 ((s1.trans s02).trans s3) l3 R3,
      fun Γ' p Hb3 H3 σ3 τ3 s3 l3 R3 => ⟨Γ', Hb3, τ3, p, s02.trans s3, l3, R3⟩, fun t Γ' p Hb3 H3 σ3 τ3 v3 s3 l3 R3 ok => F.rt t Γ' p Hb3 H3 σ3 τ3 v3 ((s1.trans s02).trans s3) l3 R3 ok,
      fun e Γ' p Hb3 H3 σ3 τ3 cls d s3 l3 R3 re => F.er e Γ' p Hb3 H3 σ3 τ3 cls d ((s1.trans s02).trans s3) l3 R3 re⟩
  · have e : n = xs.length := by omega
    subst e
    exact .inl ⟨q2 (Nat.le_refl _), F.nx Γk (hd Γk hI) Hb' H' σ' τ' (s1.trans sb) hl' R'⟩
theorem s_while (po : PassesOwn (model X.prog X.w) X.A X.env X.xe) (I : Nat → Gam → Prop) {m0 : Nat} (h0 : I m0 Γ)
    (hb : ∀ n Γk, I n Γk → ∃ t Γc, EvT X c Γk t Γc ∧ (t = true → SG X W body Γc (loopP (fun Γ' => ∃ n', n' < n ∧ I n' Γ') P)) ∧ (t = false → P (.nx Γc))) : S1 X W (.While c body [] pos) Γ P := by
  intro B Hb H σ τ D hl R F
  refine w1_of (ps_while po pt_wt ps_ws) ⟨fun n σ' H' => ∃ Γk Hb' τ', I n Γk ∧ Same Hb Hb' ∧ σ'.length = X.N.length ∧ Reps X.K B Γk Hb' H' (σ' ++ τ'), ⟨m0, Γ, Hb, τ, h0, Same.refl _, hl, R⟩, ?_⟩
  rintro n σ' H' ⟨Γk, Hb', τ', hI, sb, hl', R'⟩
  obtain ⟨t, Γc, ht, h1, h2⟩ := hb n Γk hI
  refine ht B Hb' H' σ' τ' _ hl' R' fun Hb2 H2 s2 R2 => ?_
  have s02 := sb.trans s2
  cases t with
  | true =>
    rw [if_pos rfl]
    refine ⟨fun σ3 H3 => ∃ n', n' < n ∧ ∃ Γk Hb' τ', I n' Γk ∧ Same Hb Hb' ∧ σ3.length = X.N.length ∧ Reps X.K B Γk Hb' H3 (σ3 ++ τ'), fun σ3 H3 h3 => h3, ?_⟩
    exact h1 rfl B Hb2 H2 σ' τ' _ hl' R2 ⟨fun Γ' ⟨n', a1, a2⟩ Hb3 H3 σ3 τ3 s3 l3 R3 => ⟨n', a1, Γ', Hb3, τ3, a2, s02.trans s3, l3, R3⟩, fun Γ' p Hb3 H3 σ3 τ3 s3 l3 R3 => F.nx Γ' p Hb3 H3 σ3 τ3 (s02.trans s3) l3 R3,
      fun Γ' ⟨n', a1, a2⟩ Hb3 H3 σ3 τ3 s3 l3 R3 => ⟨n', a1, Γ', Hb3, τ3, a2, s02.trans s3, l3, R3⟩, fun t Γ' p Hb3 H3 σ3 τ3 v3 s3 l3 R3 ok => F.rt t Γ' p Hb3 H3 σ3 τ3 v3 (s02.trans s3) l3 R3 ok,
      fun e Γ' p Hb3 H3 σ3 τ3 cls d s3 l3 R3 re => F.er e Γ' p Hb3 H3 σ3 τ3 cls d (s02.trans s3) l3 R3 re⟩
  | false =>
    rw [if_neg Bool.false_ne_true]
    exact F.nx Γc (h2 rfl) Hb2 H2 σ' τ' s02 hl' R2
/-! ### list(range(..)) -/
theorem rgV_pair {K : Fg} {Hb : Hp} {lo hi : Int} : Paired (rInt.rp K Hb) (rgV lo hi) (rg lo hi) := by
  unfold rgV rg
  generalize (List.range (hi - lo).toNat) = l
  induction l with
  | nil => exact .nil
  | cons n l ih => exact .cons rfl ih
theorem en_listR1 {n : Int} (hm : X.mg "list" = none) (hm2 : X.mg "range" = none) (ha : EvX X a Γ rInt n Γ1) (h : RgOk 0 n) (hc : X.calm = true := by rfl) (hg : Gl X "list" := by rfl) (hg2 : Gl X "range" := by rfl)
    (hs2 : starEach [a] X.env = (false, eval a X.env) :: starEach [] X.env := by rfl) (hs : starEach [(.Call (.Name "range" p) [a] [] pos)] X.env = (false, eval (.Call (.Name "range" p) [a] [] pos) X.env) :: starEach [] X.env := by rfl) :
    EvN X (.Call (.Name "list" p1) [.Call (.Name "range" p) [a] [] pos] [] pos') Γ (Res.lst rInt (rg 0 n)) Γ1 := by
  intro B Hb H σ τ Q hl R q
  refine we_of (pe_listRg hc hg hm (prg_1 hg2 hm2 pe_we hs2) hs) (ha B Hb H σ τ _ hl R fun v Hb1 H1 s1 R1 rv => ⟨n, rv, h, fun l hn => ?_⟩)
  exact q l Hb1 _ s1 (R1.pushOwn hn rfl ⟨_, upd_same, rgV_pair⟩)
theorem en_listR2 {m n : Int} (hm : X.mg "list" = none) (hm2 : X.mg "range" = none) (ha : EvX X a Γ rInt m Γ1) (hb : EvX X b Γ1 rInt n Γ2) (h : RgOk m n) (hc : X.calm = true := by rfl) (hg : Gl X "list" := by rfl) (hg2 : Gl X "range" := by rfl)
    (hs2 : starEach [a, b] X.env = (false, eval a X.env) :: starEach [b] X.env := by rfl) (hs3 : starEach [b] X.env = (false, eval b X.env) :: starEach [] X.env := by rfl) (hp : (backTo pos (starEach [b] X.env)).any (·.1) = false := by rfl)
    (hs : starEach [(.Call (.Name "range" p) [a, b] [] pos)] X.env = (false, eval (.Call (.Name "range" p) [a, b] [] pos) X.env) :: starEach [] X.env := by rfl) :
    EvN X (.Call (.Name "list" p1) [.Call (.Name "range" p) [a, b] [] pos] [] pos') Γ (Res.lst rInt (rg m n)) Γ2 := by
  intro B Hb H σ τ Q hl R q
  refine we_of (pe_listRg hc hg hm (prg_2 hg2 hm2 pe_we pe_we hs2 hs3 hp) hs) (ha B Hb H σ τ _ hl R fun v Hb1 H1 s1 R1 rv => hb B Hb1 H1 σ τ _ hl R1 fun u Hb2 H2 s2 R2 ru => ⟨m, n, rv, ru, h, fun l hn => ?_⟩)
  exact q l Hb2 _ (s1.trans s2) (R2.pushOwn hn rfl ⟨_, upd_same, rgV_pair⟩)
end
end VS

set_option maxHeartbeats 2000000
set_option autoImplicit false
/-! VS9: list comprehensions. -/
namespace VS
open PySem L2
def wipeG (Γ : Gam) : List Nat → Gam
  | [] => Γ
  | v :: vs => (wipeG Γ vs).set v .no
theorem wipeG_length (Γ : Gam) : ∀ vs : List Nat, (wipeG Γ vs).length = Γ.length
  | [] => rfl
  | v :: vs => by unfold wipeG; rw [List.length_set, wipeG_length Γ vs]
theorem wipe_app {σ τ : L2.St} : ∀ {vs : List Nat}, (∀ v, v ∈ vs → v < σ.length) → wipe (σ ++ τ) vs = wipe σ vs ++ τ
  | [], _ => rfl
  | v :: vs, h => by
    show (wipe (σ ++ τ) vs).set v none = (wipe σ vs).set v none ++ τ
    rw [wipe_app fun x m => h x (List.mem_cons_of_mem _ m), List.set_append_left v none (by rw [wipe_length]; exact h v List.mem_cons_self)]
theorem wipeG_app {Γ Δ : Gam} : ∀ {vs : List Nat}, (∀ v, v ∈ vs → v < Γ.length) → wipeG (Γ ++ Δ) vs = wipeG Γ vs ++ Δ
  | [], _ => rfl
  | v :: vs, h => by
    show (wipeG (Γ ++ Δ) vs).set v .no = (wipeG Γ vs).set v .no ++ Δ
    rw [wipeG_app fun x m => h x (List.mem_cons_of_mem _ m), List.set_append_left v _ (by rw [wipeG_length]; exact h v List.mem_cons_self)]
theorem Reps.wipe {K : Fg} {B : Bs} {Γ : Gam} {Hb H : Hp} {σ : L2.St} (R : Reps K B Γ Hb H σ) : ∀ vs : List Nat, Reps K B (wipeG Γ vs) Hb H (wipe σ vs)
  | [] => R
  | v :: vs => (Reps.wipe R vs).set v (s := .no) (x := none) True.intro fun _ _ _ z => nomatch z
/-- the old slots, where what is owned stands as before -/
theorem Reps.back {K : Fg} {B : Bs} {Γ Γ2 : Gam} {Hb H Hb2 H2 : Hp} {σ σ2 : L2.St} (R : Reps K B Γ Hb H σ) (R2 : Reps K B Γ2 Hb2 H2 σ2) (s : Same Hb Hb2) (h : ∀ (n : Nat) (p : Bool) (l : Addr) (r : Res), Γ[n]? = some (.own p l r) → Γ2[n]? = some (.own p l r)) : Reps K B Γ Hb2 H2 σ := by
  refine R2.re R.len (fun n sl e => ?_) id (fun n p l r e => h n p l r e) fun i j p l r p' l' r' _ _ z => z
  have h0 := R.ok n sl e
  cases sl with
  | val i a => obtain ⟨v, h1, h2⟩ := h0; exact ⟨v, h1, i.mono s h2⟩
  | own p l r => exact ⟨h0.1, (R2.ok n _ (h n p l r e)).2⟩
  | rf l => exact h0
  | no => exact True.intro
/-- a comprehension's target -/
def TgW (X : Cx) (tg : Expr) (vs : List Nat) (Γ : Gam) {α : Type} (i : Rp α) (x : α) (Γ1 : Gam) : Prop :=
  ∀ (B : Bs) (Hb H : Hp) (σ τ : L2.St) (v : V) (Q : L2.St → Hp → Prop), σ.length = X.N.length → Reps X.K B Γ Hb H (wipe σ vs ++ τ) → i.rp X.K Hb v x →
    (∀ σ', L2.wipe σ' vs = L2.wipe σ vs → σ'.length = X.N.length → Reps X.K B Γ1 Hb H (σ' ++ τ) → Q σ' H) → wg X tg v (L2.wipe σ vs) H Q
def EvTs (X : Cx) (ifs : List Expr) (Γ : Gam) (b : Bool) (Γ' : Gam) : Prop :=
  ∀ (B : Bs) (Hb H : Hp) (σ τ : L2.St) (Q : Bool → Hp → Prop), σ.length = X.N.length → Reps X.K B Γ Hb H (σ ++ τ) →
    (∀ Hb2 H2, Same Hb Hb2 → Reps X.K B Γ' Hb2 H2 (σ ++ τ) → Q b H2) → wts X ifs σ H Q
/-- the contexts of a comprehension's block -/
abbrev bk (X : Cx) (scope : Scope) (s : Shared) (H : Hp) (C : Addr) (cl : List (Str × Addr)) (fp : List Addr) : Cx := X.blk s H scope (compEnvC scope cl C X.env) fp
section
variable {X : Cx} {W : WX} {tg iter a b c e elt : Expr} {es ifs : List Expr} {Γ Γ1 Γ2 : Gam} {pos pos' spos p p1 p2 : Pos} {α β γ : Type} {i : Rp α} {j : Rp β} {k : Rp γ} {x : α} {y : β} {z : γ} {P : Out → Prop} {G : Gam → Prop} {m m2 m3 : Str} {scope : Scope} {t : Bool}
theorem ets_nil : EvTs X [] Γ true Γ := fun B Hb H σ τ Q hl R q => wts_of pts_nil (q Hb H (Same.refl _) R)
theorem ets_one (h : EvT X c Γ t Γ1) : EvTs X [c] Γ t Γ1 := fun B Hb H σ τ Q hl R q => wts_of (pts_one pt_wt) (h B Hb H σ τ Q hl R q)
theorem tw_name (n : Nat) (hN : X.N.Nodup) (hi : X.N[n]? = some m := by rfl) (hx : Loc X.env.scope m := by first | exact Or.inl rfl | exact Or.inr rfl) (hf : X.fn m = true ∨ X.env.scope.names.lookup m = some .local := by first | exact .inl rfl | exact .inr rfl) : TgW X (.Name m pos) [n] Γ i x (Γ.set n (.val i x)) := by
  intro B Hb H σ τ v Q hl R rv q
  have hn : n < σ.length := by rw [hl]; exact (List.getElem?_eq_some_iff.mp hi).1
  have hn' : n < (L2.wipe σ [n]).length := by rw [wipe_length]; exact hn
  refine wg_of (pg_name hN hi hx hf) (q _ ?_ (by rw [List.length_set, wipe_length]; exact hl) (set_app hn' (R.set n (s := .val i x) (x := some v) ⟨v, rfl, rv⟩ fun _ _ _ z => nomatch z)))
  show ((σ.set n none).set n (some v)).set n none = σ.set n none
  rw [List.set_set, List.set_set]
theorem tw_pair (n n2 : Nat) {kk : Nat} {q : α × β} (hN : X.N.Nodup) (hc : X.calm = true := by rfl) (hi : X.N[n]? = some m := by rfl) (hi2 : X.N[n2]? = some m2 := by rfl) (hx : Loc X.env.scope m := by first | exact Or.inl rfl | exact Or.inr rfl) (hx2 : Loc X.env.scope m2 := by first | exact Or.inl rfl | exact Or.inr rfl)
    (hf : X.fn m = true ∨ X.env.scope.names.lookup m = some .local := by first | exact .inl rfl | exact .inr rfl) (hf2 : X.fn m2 = true ∨ X.env.scope.names.lookup m2 = some .local := by first | exact .inl rfl | exact .inr rfl) (ne : n ≠ n2 := by decide)
    (pg : ∀ {t1 t2 : TG}, PG X (.Name m p1) t1 → PG X (.Name m2 p2) t2 → PG X (.Tuple [.Name m p1, .Name m2 p2] kk pos) (gTup X.K 2 (gCons t1 (gCons t2 gNil))) := by intro t1 t2 h1 h2; exact pg_tup rfl (pgs_cons h1 (pgs_cons h2 pgs_nil))) :
    TgW X (.Tuple [.Name m p1, .Name m2 p2] kk pos) [n, n2] Γ (rPair (r := i) (s := j)) q ((Γ.set n (.val i q.1)).set n2 (.val j q.2)) := by
  intro B Hb H σ τ v Q hl R rv qq
  have hn : n < (L2.wipe σ [n, n2]).length := by rw [wipe_length, hl]; exact (List.getElem?_eq_some_iff.mp hi).1
  have hn2 : n2 < (L2.wipe σ [n, n2]).length := by rw [wipe_length, hl]; exact (List.getElem?_eq_some_iff.mp hi2).1
  obtain ⟨l, v1, v2, rfl, h1, r1, r2⟩ := rv
  refine wg_of (pg (pg_name hN hi hx hf) (pg_name hN hi2 hx2 hf2)) ⟨l, [v1, v2], rfl, .of (R.sub _ _ h1), rfl, v1, [v2], rfl, v2, [], rfl, rfl, ?_⟩
  refine qq _ ?_ (by rw [List.length_set, List.length_set, wipe_length]; exact hl) ?_
  · show ((((((σ.set n2 none).set n none).set n (some v1)).set n2 (some v2)).set n2 none).set n none) = (σ.set n2 none).set n none
    rw [List.set_set, List.set_set]
    rw [List.set_comm _ _ (Ne.symm ne), List.set_set, List.set_comm _ _ ne, List.set_set]
  · have R1 := set_app hn (R.set n (s := .val i q.1) (x := some v1) ⟨v1, rfl, r1⟩ fun _ _ _ z => nomatch z)
    exact set_app (by rw [List.length_set]; exact hn2) (R1.set n2 (s := .val j q.2) (x := some v2) ⟨v2, rfl, r2⟩ fun _ _ _ z => nomatch z)
def gB (X : Cx) (scope : Scope) (tg : Expr) : TG := fun v σ H Q => ∀ s H' C cl fp, wg (bk X scope s H' C cl fp) tg v σ H Q
def tB (X : Cx) (scope : Scope) (ifs : List Expr) : TT := fun σ H Q => ∀ s H' C cl fp, wts (bk X scope s H' C cl fp) ifs σ H Q
def eB (X : Cx) (scope : Scope) (elt : Expr) : TE := fun σ H Q => ∀ s H' C cl fp, we (bk X scope s H' C cl fp) elt σ H Q
theorem pg_gB : ∀ (s : Shared) (H : Hp) (C : Addr) (cl : List (Str × Addr)) (fp : List Addr), PG (X.blk s H scope (compEnvC scope cl C X.env) fp) tg (gB X scope tg) := fun s H' C cl fp => ⟨fun pins s' σ H v u Q I r h => h s H' C cl fp pins s' u I r⟩
theorem pts_tB : ∀ (s : Shared) (H : Hp) (C : Addr) (cl : List (Str × Addr)) (fp : List Addr), PTs (X.blk s H scope (compEnvC scope cl C X.env) fp) ifs (tB X scope ifs) := fun s H' C cl fp => ⟨fun pins s' σ H Q I h => h s H' C cl fp pins s' I⟩
theorem pe_eB : ∀ (s : Shared) (H : Hp) (C : Addr) (cl : List (Str × Addr)) (fp : List Addr), PE (X.blk s H scope (compEnvC scope cl C X.env) fp) elt (eB X scope elt) := fun s H' C cl fp => ⟨fun pins s' σ H Q I h => h s H' C cl fp pins s' I⟩
/-- the list that is being made, in the last slot -/
abbrev acc (D : Addr) (j : Rp β) (ys : List β) : Gam := [.own false D (Res.lst j ys D)]
/-- a comprehension's parts -/
structure LcOk (X : Cx) (scope : Scope) (tg elt : Expr) (ifs : List Expr) (own : List (Str × Nat)) (Γ1 : Gam) (i : Rp α) (j : Rp β) (xs : List α) (f : α → Option β) (Γt : α → Gam) : Prop where
  ho : ∀ (x : α) (n : Nat) (p : Bool) (l : Addr) (r : Res), x ∈ xs → Γ1[n]? = some (.own p l r) → (Γt x)[n]? = some (.own p l r)
  hl : ∀ x, x ∈ xs → (Γt x).length = Γ1.length
  ht : ∀ (s : Shared) (H : Hp) (C : Addr) (cl : List (Str × Addr)) (fp : List Addr) (D : Addr) (ys : List β) (x : α), x ∈ xs → TgW (bk X scope s H C cl fp) tg (own.map (·.2)) (wipeG Γ1 (own.map (·.2)) ++ acc D j ys) i x (Γt x ++ acc D j ys)
  hi : ∀ (s : Shared) (H : Hp) (C : Addr) (cl : List (Str × Addr)) (fp : List Addr) (D : Addr) (ys : List β) (x : α), x ∈ xs → EvTs (bk X scope s H C cl fp) ifs (Γt x ++ acc D j ys) (f x).isSome (Γt x ++ acc D j ys)
  he : ∀ (s : Shared) (H : Hp) (C : Addr) (cl : List (Str × Addr)) (fp : List Addr) (D : Addr) (ys : List β) (x : α) (y : β), x ∈ xs → f x = some y → EvX (bk X scope s H C cl fp) elt (Γt x ++ acc D j ys) j y (Γt x ++ acc D j ys)
theorem lc_term {own : List (Str × Nat)} {xs : List α} {f : α → Option β} {Γt : α → Gam} (h : EvI X tg iter Γ i xs Γ1 G) (ok : BlkOk X.N X.env.scope scope own) (L : LcOk X scope tg elt ifs own Γ1 i j xs f Γt) (hG : ∀ D ys, G (Γ1 ++ acc D j ys)) (hz : xs.length ≤ 100000)
    {B : Bs} {Hb H : Hp} {σ τ : L2.St} {Q : VK} (hl : σ.length = X.N.length) (R : Reps X.K B Γ Hb H (σ ++ τ)) (q : ∀ l Hb2 H2, Same Hb Hb2 → Reps X.K B (Γ1 ++ [.own false l (Res.lst j (xs.filterMap f) l)]) Hb2 H2 (σ ++ τ ++ [some (.ref l)]) → Q (.ref l) H2) :
    tLc (wI X tg iter) (gB X scope tg) (tB X scope ifs) (eB X scope elt) (own.map (·.2)) σ H Q := by
  refine h B Hb H σ τ _ hl R fun J Hb1 H1 s1 R1 sq D hD => ?_
  have hvs : ∀ v, v ∈ own.map (·.2) → v < σ.length := fun v m => by
    obtain ⟨p, hp, rfl⟩ := List.mem_map.mp m
    rw [hl]; exact (List.getElem?_eq_some_iff.mp (ok.ix p hp)).1
  have hG1 : σ.length ≤ Γ1.length := by have := R1.len; rw [List.length_append] at this; omega
  have R2 : Reps X.K B (Γ1 ++ acc D j []) Hb1 (upd H1 D (.lst [])) (σ ++ τ ++ [some (V.ref D)]) := R1.pushOwn hD rfl ⟨_, upd_same, .nil⟩
  refine ⟨fun n m H' => m = xs.length - n ∧ n ≤ xs.length ∧ ∃ Hb', Same Hb1 Hb' ∧ Reps X.K B (Γ1 ++ acc D j ((xs.take n).filterMap f)) Hb' H' (σ ++ τ ++ [some (V.ref D)]), ⟨_, rfl, Nat.zero_le _, Hb1, Same.refl _, R2⟩, ?_⟩
  rintro n m H' ⟨rfl, hn, Hb', sb, R'⟩
  obtain ⟨q1, q2⟩ := sq _ Hb' H' _ n sb R' (hG _ _)
  by_cases hlt : n < xs.length
  · have hx : xs[n]? = some xs[n] := List.getElem?_eq_getElem hlt
    have hmem : xs[n] ∈ xs := List.getElem_mem hlt
    obtain ⟨go, yl⟩ := q1 _ hx
    have et : (xs.take (n + 1)).filterMap f = (xs.take n).filterMap f ++ (f xs[n]).toList := by
      rw [List.take_succ, hx, List.filterMap_append]
      show _ ++ List.filterMap f [xs[n]] = _
      cases ef : f xs[n] <;> simp [List.filterMap_cons, ef]
    refine .inr ⟨go, fun H2 => ∃ Hb', Same Hb1 Hb' ∧ Reps X.K B (Γ1 ++ acc D j ((xs.take (n + 1)).filterMap f)) Hb' H2 (σ ++ τ ++ [some (V.ref D)]), fun H2 h2 => ⟨xs.length - (n + 1), by omega, rfl, hlt, h2⟩, fun v H2 y => ?_⟩
    obtain ⟨Hb2, g, rv⟩ := yl v H2 y
    have R3 := R'.gw g
    have R4 := R3.wipe (own.map (·.2))
    rw [wipeG_app fun v m => Nat.lt_of_lt_of_le (hvs v m) hG1, List.append_assoc, wipe_app hvs] at R4
    intro s5 H5 C5 cl5 fp5
    refine L.ht s5 H5 C5 cl5 fp5 D _ _ hmem B Hb2 H2 σ (τ ++ [some (V.ref D)]) v _ hl R4 rv fun σ2 ew hl2 R5 => ⟨?_, fun s6 H6 C6 cl6 fp6 => ?_⟩
    · rw [ew]
    · refine L.hi s6 H6 C6 cl6 fp6 D _ _ hmem B Hb2 H2 σ2 (τ ++ [some (V.ref D)]) _ hl2 R5 fun Hb3 H3 s3 R6 => ?_
      have own1 : ∀ (n' : Nat) (p : Bool) (l : Addr) (r : Res), (Γ1 ++ acc D j ((xs.take n).filterMap f))[n']? = some (.own p l r) → (Γt xs[n] ++ acc D j ((xs.take n).filterMap f))[n']? = some (.own p l r) := fun n' p l r e => by
        rcases get_app e with ⟨e, h1⟩ | ⟨h1, h2⟩
        · rw [List.getElem?_append_left (by rw [L.hl _ hmem]; exact h1)]
          exact L.ho _ n' p l r hmem e
        · rw [h1, ← L.hl _ hmem, List.getElem?_append_right (Nat.le_refl _), Nat.sub_self, h2]; rfl
      have R7 := R3.back R6 s3 own1
      cases ef : f xs[n] with
      | none =>
        rw [if_neg (by simp)]
        refine ⟨Hb3, (sb.trans g.b).trans s3, ?_⟩
        rw [et, ef]
        simpa using R7
      | some y0 =>
        rw [if_pos (by simp)]
        intro s7 H7 C7 cl7 fp7
        refine L.he s7 H7 C7 cl7 fp7 D _ _ y0 hmem ef B Hb3 H3 σ2 (τ ++ [some (V.ref D)]) _ hl2 R6 fun w Hb4 H4 s4 R8 rw' => ?_
        have R9 := R3.back R8 (s3.trans s4) own1
        have eD : (Γ1 ++ acc D j ((xs.take n).filterMap f))[Γ1.length]? = some (.own false D (Res.lst j ((xs.take n).filterMap f) D)) := by simp
        obtain ⟨_, us, hu, pu⟩ := R9.ok _ _ eD
        refine ⟨us, hu, ?_, Hb4, ((sb.trans g.b).trans s3).trans s4, ?_⟩
        · rw [paired_len pu]
          refine sz_lt (Nat.lt_of_le_of_lt (List.length_filterMap_le _ _) ?_)
          rw [List.length_take]; omega
        · have R10 := reps_lst R9 eD (ys := (xs.take n).filterMap f ++ [y0]) (paired_app pu (.cons rw' .nil))
          have e3 : (Γ1 ++ acc D j ((xs.take n).filterMap f)).set Γ1.length (.own false D (Res.lst j ((xs.take n).filterMap f ++ [y0]) D)) = Γ1 ++ acc D j ((xs.take n).filterMap f ++ [y0]) := by simp
          rw [e3] at R10
          rw [et, ef]
          exact R10
  · have e : n = xs.length := by omega
    subst e
    rw [List.take_length] at R'
    exact .inl ⟨q2 (Nat.le_refl _), q D Hb' H' (s1.trans sb) R'⟩
/-- [elt for tg in iter if ..] -/
theorem en_lc {own : List (Str × Nat)} {xs : List α} {f : α → Option β} {Γt : α → Gam} (h : EvI X tg iter Γ i xs Γ1 G) (hN : X.N.Nodup) (L : LcOk X scope tg elt ifs own Γ1 i j xs f Γt) (hG : ∀ D ys, G (Γ1 ++ acc D j ys) := by exact fun _ _ => True.intro) (hz : xs.length ≤ 100000)
    (ok : BlkOk X.N X.env.scope scope own := by exact blkOk_by (by first | rfl | kernel_rfl)) (hc : X.calm = true := by rfl) (hs : ∀ x, foldedSetIterable iter X.env x = pure x := by intro _; rfl) : EvN X (.ListComp elt [⟨tg, iter, ifs, 0⟩] scope pos) Γ (Res.lst j (xs.filterMap f)) Γ1 := by
  intro B Hb H σ τ Q hl R q
  exact we_of (pe_lc hc hN pi_wI ok pg_gB pts_tB pe_eB hs) (lc_term h ok L hG hz hl R q)
/-- name = [elt for tg in iter if ..] on one line -/
theorem s_asgLc (n : Nat) {own : List (Str × Nat)} {xs : List α} {f : α → Option β} {Γt : α → Gam} (h : EvI X tg iter Γ i xs Γ1 G) (hN : X.N.Nodup) (L : LcOk X scope tg elt ifs own Γ1 i j xs f Γt) (hp : ∀ l, P (.nx (Γ1.set n (.own false l (Res.lst j (xs.filterMap f) l))))) (hG : ∀ D ys, G (Γ1 ++ acc D j ys) := by exact fun _ _ => True.intro) (hz : xs.length ≤ 100000)
    (hy : X.N[n]? = some m := by rfl) (hyl : X.env.scope.names.lookup m = some .local := by rfl) (hsw : swapsWith (.ListComp elt [⟨tg, iter, ifs, 0⟩] scope pos) (some (.Name m p)) spos.line X.env = pure true := by rfl)
    (ok : BlkOk X.N X.env.scope scope own := by exact blkOk_by (by first | rfl | kernel_rfl)) (hc : X.calm = true := by rfl) (hs : ∀ x, foldedSetIterable iter X.env x = pure x := by intro _; rfl) : S1 X W (.Assign [.Name m p] (.ListComp elt [⟨tg, iter, ifs, 0⟩] scope pos) spos) Γ P := by
  intro B Hb H σ τ D hl R F
  have hn : n < σ.length := by rw [hl]; exact (List.getElem?_eq_some_iff.mp hy).1
  refine w1_of (ps_setLc hc hN hy hyl hsw pi_wI ok pg_gB pts_tB pe_eB hs) ?_
  refine lc_term h ok L hG hz hl R fun l Hb1 H1 s1 R1 => ?_
  exact F.nx _ (hp l) Hb1 H1 _ τ s1 (by rw [List.length_set]; exact hl) (set_app hn (R1.setOwn n))
/-- one name is walked with -/
theorem lc_name (n : Nat) {m : Str} {pos : Pos} {xs : List α} {f : α → Option β} (hN : X.N.Nodup) (hi : ∀ (s : Shared) (H : Hp) (C : Addr) (cl : List (Str × Addr)) (fp : List Addr) (D : Addr) (ys : List β) (x : α), x ∈ xs → EvTs (bk X scope s H C cl fp) ifs (Γ1.set n (.val i x) ++ acc D j ys) (f x).isSome (Γ1.set n (.val i x) ++ acc D j ys))
    (he : ∀ (s : Shared) (H : Hp) (C : Addr) (cl : List (Str × Addr)) (fp : List Addr) (D : Addr) (ys : List β) (x : α) (y : β), x ∈ xs → f x = some y → EvX (bk X scope s H C cl fp) elt (Γ1.set n (.val i x) ++ acc D j ys) j y (Γ1.set n (.val i x) ++ acc D j ys))
    (hno : ∀ p l r, Γ1[n]? ≠ some (.own p l r) := by intro _ _ _ e; cases e) (hm : X.N[n]? = some m := by rfl) (hlt : n < Γ1.length := by exact Nat.le_of_ble_eq_true rfl) (hx : scope.names.lookup m = some .local := by rfl) : LcOk X scope (.Name m pos) elt ifs [(m, n)] Γ1 i j xs f (fun x => Γ1.set n (.val i x)) := by
  refine ⟨fun x k p l r _ e => ?_, fun x _ => List.length_set, fun s H C cl fp D ys x _ => ?_, hi, he⟩
  · have : n ≠ k := fun z => hno p l r (by rw [z]; exact e)
    rw [List.getElem?_set_ne this]
    exact e
  · have T := tw_name (X := bk X scope s H C cl fp) (Γ := wipeG Γ1 [n] ++ acc D j ys) (i := i) (x := x) (pos := pos) n hN hm (.inl (lookup_relabel_local hx)) (.inr (lookup_relabel_local hx))
    have e : (wipeG Γ1 [n] ++ acc D j ys).set n (.val i x) = Γ1.set n (.val i x) ++ acc D j ys := by
      show (Γ1.set n .no ++ acc D j ys).set n (.val i x) = _
      rw [List.set_append_left n _ (by rw [List.length_set]; exact hlt), List.set_set]
    rw [e] at T
    exact T
end
end VS

set_option maxHeartbeats 2000000
set_option autoImplicit false
/-! VS10: own special methods: len, list, iter. -/
namespace VS
open PySem L2
/-- a special method of the class at C -/
structure DefD (P : Program) (w : World) (K : Fg) (mg : Str → Option Value) (base : Heap) (C : Addr) (m : Str) (n : Nat) (ps : List Str) (S : Cl → Prop) : Prop where
  ex : ∃ f fd, PySem.W.findIn K (.ref C) m = some (some (.ref f)) ∧ PySem.W.isFn K (.ref f) = true ∧ Binds K fd ps [] ∧ FnOk P w K mg base (L2.CX P w) n f fd ps (spG K S)
section
variable {X : Cx} {pins : List (Addr × Obj)} {σ : L2.St} {H : Hp} {s : Shared}
theorem run_at {n : Nat} {f : Addr} {fd : FuncData} {ps : List Str} {sp : Sp} {A1 : Around} {E' : Value → Shared → Prop} {Q : VK} {us : List Value} {vs : List V} (sb : Sub X n A1) (F : FnOk X.prog X.w X.K X.mg X.base (L2.CX X.prog X.w) n f fd ps sp) (hb : Binds X.K fd ps []) (I : Inv X pins σ H s) (r : Vals vs us)
    (h : sp vs H Q E0) : wpAny (model X.prog X.w) A1 (call (.ref f) us) (EP X pins σ Q) E' s := by
  have e0 : Env0 X.prog X.w X.K X.mg X.base A1 X.stack s H := by
    have e := I.env0
    exact ⟨by rw [sb.fr]; exact e.frames, e.mod, e.bs, e.bsz, e.funs, e.frf, e.hok, e.bare⟩
  have hl : us.length = ps.length := by rw [← r.length]; exact F.len _ _ _ _ h
  have b := hb s us I.kIn (by rw [List.append_nil]; exact hl)
  rw [List.append_nil] at b
  refine wpAny_call (codeAny_mono (F.run A1 X.stack s H ⟨us, []⟩ us vs Q E0 sb.room e0 b r h) fun r s' hq => ?_)
  cases r with
  | error e =>
    obtain ⟨_, _, _, _, _, _, _, _, _, _, _, _, z⟩ := (show L2.CX X.prog X.w X.stack H s E0 e s' from hq)
    exact z.elim
  | ok fl =>
    cases fl with
    | ret u => exact I.after hq
    | next => exact False.elim hq
    | brk => exact False.elim hq
    | cont => exact False.elim hq
/-- an int of a length -/
def lenQ (Q : VK) : VK := fun v H2 => ∃ n : Int, v = .int n ∧ 0 ≤ n ∧ n < 1000000 ∧ Q v H2
theorem len_at {n : Nat} {C f a dx : Addr} {fs : List (Str × V)} {fd : FuncData} {ps : List Str} {sp : Sp} {A1 : Around} {E' : Value → Shared → Prop} {Q : VK} (sb : Sub X (n + 1) A1) (h1 : PySem.W.findIn X.K (.ref C) "__len__" = some (some (.ref f))) (h2 : PySem.W.isFn X.K (.ref f) = true)
    (F : FnOk X.prog X.w X.K X.mg X.base (L2.CX X.prog X.w) n f fd ps sp) (hb : Binds X.K fd ps []) (I : Inv X pins σ H s) (ha : H a = some (.ins C dx fs)) (h : sp [.ref a] H (lenQ Q) E0) : wpAny (model X.prog X.w) A1 (call (.builtin "len") [.ref a]) (EP X pins σ Q) E' s := by
  obtain ⟨mA, J, _⟩ := ins_get I.hok ha
  obtain ⟨od, J, _⟩ := J.look
  obtain ⟨m, hF⟩ := I.fr
  refine PySem.W.len_K hF I.ok.mod.kin J h1 h2 (wpAny_mono (run_at (E' := E') (vs := [.ref a]) (us := [.ref a]) (sb.in1) F hb I (.cons rfl .nil) h) (fun u s' hq => ?_) fun _ _ z => z)
  obtain ⟨v, H', I', rv, k, rfl, b1, b2, q⟩ := hq
  obtain ⟨t, rfl⟩ := rv
  exact ⟨⟨b1, by omega⟩, .int k, H', I'.tok _, ⟨_, rfl⟩, q⟩
def rLenO (C : Addr) (sp : Sp) : List V → Hp → VK → Prop := fun xs H Q => ∃ a dx fs, xs = [.ref a] ∧ H a = some (.ins C dx fs) ∧ sp [.ref a] H (lenQ Q) E0
theorem call_lenO {n : Nat} {C f : Addr} {fd : FuncData} {ps : List Str} {sp : Sp} (hr : Room (n + 1) X.A) (h1 : PySem.W.findIn X.K (.ref C) "__len__" = some (some (.ref f))) (h2 : PySem.W.isFn X.K (.ref f) = true) (F : FnOk X.prog X.w X.K X.mg X.base (L2.CX X.prog X.w) n f fd ps sp) (hb : Binds X.K fd ps []) :
    CallR X (.builtin "len") (rLenO C sp) := by
  intro pins s σ H xs us Q I rv h
  obtain ⟨a, dx, fs, rfl, ha, h⟩ := h
  obtain ⟨u, rfl, ru⟩ := rv.one
  cases ru
  exact len_at ⟨hr, rfl⟩ h1 h2 F hb I ha h
/-! ### a tuple's iterator as a thing -/
def ItT (t it : Addr) (i : Nat) : HO := .ext fun h => h.IsTupleIter it t i
def ItZ (it : Addr) : HO := .ext fun h => ∃ o, h.get? it = some o
theorem itT_ok {P : Program} {w : World} {H : Hp} {h : Heap} {t it : Addr} {i : Nat} (e : h.IsTupleIter it t i) : ObjOk P w H h it (ItT t it i) := ⟨e, by obtain ⟨o, e, _⟩ := e; exact ⟨o, e⟩, fun h1 h2 q k => q.at k⟩
theorem itZ_ok {P : Program} {w : World} {H : Hp} {h : Heap} {it : Addr} (e : ∃ o, h.get? it = some o) : ObjOk P w H h it (ItZ it) := ⟨e, e, fun h1 h2 ⟨o, q⟩ k => ⟨o, k o q⟩⟩
theorem itT_get {t it : Addr} {i : Nat} (I : Inv X pins σ H s) (e : H it = some (ItT t it i)) : s.heap.IsTupleIter it t i := (I.hok it _ e).1
theorem tuple_end {prog : Program} {w : World} {A : Around} {E : Value → Shared → Prop} {it t : Addr} {i : Nat} {items : Array Value} {Q : Option Value → Shared → Prop} (hh : A.handled = none) (hit : s.heap.IsTupleIter it t i) (ht : s.heap.IsTuple t items) (hx : items[i]? = none)
    (hQ : ∀ h', Heap.ExtBut it s.heap h' → (∃ o, h'.get? it = some o) → Q none { s with heap := h' }) : wpAny (model prog w) A (pyNext (.ref it)) Q E s := by
  (obtain ⟨o, ho, hc, hd⟩ := id hit); (obtain ⟨ol, hol, _, nl, hdl⟩ := ht); (unfold pyNext)
  (refine wpAny_bind (wpAny_attempt (wpAny_callSpecial?_slot (name := Str.ofString "__next__") hit.typeIs F.slot_tuple_iterator_next (wpAny_call_entry F.slot_tuple_iterator_next hit.typeIs F.entry_tuple_iterator_next ?_ (F.args_tuple_iterator_next_1 _))))); (show wpAny _ _ (field (.ref it) 0 >>= _) _ _ s); (refine wpAny_bind (wpAny_field ho hd (x := .ref t) rfl ?_))
  (show wpAny _ _ (if (Value.ref t == Value.none) = true then _ else _) _ _ s); (rw [if_neg (show ¬ ((Value.ref t == Value.none) = true) from Bool.false_ne_true)]); (show wpAny _ _ (field (.ref it) 1 >>= _) _ _ s)
  (refine wpAny_bind (wpAny_field ho hd (x := .int i 0) rfl ?_)); (show wpAny _ _ (seqItems? (.ref t) >>= _) _ _ s); (refine wpAny_bind (wpAny_seqItems hol hdl ?_))
  (simp only [Int.toNat_natCast, hx]); (refine wpAny_bind (wpAny_rule (wpAny_bind (wpAny_setField ho hd (by simp) ?_)))); (show wpAny _ _ (newExc (.type "StopIteration") [] >>= _) _ _ _)
  (refine wpAny_bind ?_); (simp only [newExc, newTuple]); (refine wpAny_bind (wpAny_newObj_type ?_ (by size_fits)))
  (refine wpAny_bind (m := firstArgMember _ _) (wpAny_of_eq (a := Value.none) (by first | rfl | (simp only [firstArgMember]; rfl)) ?_)); (refine wpAny_newObj_type ?_ (by size_fits)); (simp only [raiseNew])
  (refine wpAny_bind (wpAny_handled ?_)); (first | rw [show A.in1.handled = none from hh] | rw [hh]); (refine wpAny_bind (wpAny_pure (wpAny_throw ?_)))
  (refine wpAny_bind (wpAny_isInstance (T := "StopIteration") (b := true) ⟨_, Heap.get?_push_size _ rfl, rfl⟩ isSubtype_stop ?_)); (refine wpAny_pure (hQ _ (((Heap.SameBut.update ..).extBut.push _).push _) ⟨_, Heap.get?_push_of_some _ (Heap.get?_push_of_some _ (Heap.get?_update_self _ ho (Obj.isFreed_of_fields (Obj.data_mapFields hd _))))⟩))
/-- the walk into the list at q -/
theorem loop_T {Rs : Result → Shared → Prop} {A1 : Around} {t it q : Addr} {ws : List V} (hh : A1.handled = none) (hz : ws.length < 100000) : ∀ (n k : Nat) (s : Shared) (H : Hp), n + k = ws.length → Inv X pins σ H s → H it = some (ItT t it k) → H q = some (.lst (ws.take k)) → H t = some (.tup ws) →
    (∀ s' H', (∀ b, b ≠ it → b ≠ q → H' b = H b) → H' it = some (ItZ it) → H' q = some (.lst ws) → Inv X pins σ H' s' → Rs (.ok (.ret .none)) s') → codeAny (model X.prog X.w) A1 (.builtin "list.extend.loop" ⟨[.ref q, .ref it, .none], []⟩) Rs s := by
  intro n
  induction n with
  | zero =>
    intro k s H hn I hi hq ht hd
    have hk : k = ws.length := by omega
    subst hk
    rw [List.take_length] at hq
    refine codeAny_builtin PySem.F.entry_extend_loop ?_
    rw [Around.under_plainId PySem.F.plain_extend_loop _]
    show wpAny _ A1.in1 (pyNext (.ref it) >>= _) _ _ s
    obtain ⟨its, rv, p, hz'⟩ := I.tuple (.of ht)
    have hl := rv.length
    have mu : Mut (H it) := by rw [hi]; exact True.intro
    have nq : q ≠ it := fun e => by rw [e, hi] at hq; cases hq
    refine wpAny_bind (tuple_end (A := A1.in1) hh (itT_get I hi) (show s.heap.IsTuple t its.toArray from p) (by simp; omega) fun h' eb eo => wpAny_pure ?_)
    exact hd _ (upd H it (ItZ it)) (fun b h1 h2 => upd_ne h1) upd_same ((upd_ne nq).trans hq) (I.write (x := it) (e := it) (o := ItZ it) (h' := h') (t' := s.toks) mu (.inl rfl) (fun b o nb z => eb b o nb z) eo (itZ_ok eo))
  | succ n ih =>
    intro k s H hn I hi hq ht hd
    have hk : k < ws.length := by omega
    have hx : ws[k]? = some ws[k] := List.getElem?_eq_getElem hk
    refine codeAny_builtin PySem.F.entry_extend_loop ?_
    rw [Around.under_plainId PySem.F.plain_extend_loop _]
    show wpAny _ A1.in1 (pyNext (.ref it) >>= _) _ _ s
    obtain ⟨its, rv, p, hz'⟩ := I.tuple (.of ht)
    obtain ⟨u, hu, ru⟩ := rv.get hx
    have mu : Mut (H it) := by rw [hi]; exact True.intro
    have nq : q ≠ it := fun e => by rw [e, hi] at hq; cases hq
    have nt : t ≠ it := fun e => by rw [e, hi] at ht; cases ht
    have ntq : t ≠ q := fun e => by rw [e, hq] at ht; cases ht
    refine wpAny_bind (wpAny_pyNext_tuple_item (itT_get I hi) (show s.heap.IsTuple t its.toArray from p) (x := u) (by simpa using hu) fun h' st' sb => ?_)
    have I' : Inv X pins σ (upd H it (ItT t it (k + 1))) { s with heap := h' } := I.write (x := it) (e := it) (t' := s.toks) mu (.inl rfl) (fun b o nb z => (sb.2 b nb).trans z) (by obtain ⟨o, e, _⟩ := st'; exact ⟨o, e⟩) (itT_ok st')
    have hq' : upd H it (ItT t it (k + 1)) q = some (.lst (ws.take k)) := (upd_ne nq).trans hq
    show wpAny _ A1.in1 (updateSeq q (·.push u) >>= _) _ _ _
    obtain ⟨z, its2, k2, r2, hl2, e2⟩ := I'.lstM hq'
    have hlt : (ws.take k).length < 100000 := by rw [List.length_take]; omega
    have hlt2 : (ws.take k).length < sizeLine := sz_lt hlt
    have hl3 := r2.length
    refine wpAny_bind (wpAny_updateSeq e2 rfl (wpAny_pure ⟨plainId_quiet PySem.F.plain_extend_loop _, ?_⟩) (by rw [List.size_toArray]; omega) (by show (its2.toArray.push u).size ≤ sizeLine + 1; rw [Array.size_push, List.size_toArray]; omega))
    have I2 := I'.lset (f := (·.push u)) (its' := its2 ++ [u]) (t' := s.toks) hq' e2 (by simp) (r2.append (.cons ru .nil)) (by rw [List.length_append, List.length_singleton]; omega)
    refine ih (k + 1) _ _ (by omega) I2 ?_ ?_ ?_ fun s' H' h1 h2 h3 I3 => hd s' H' (fun b n1 n2 => ?_) h2 h3 I3
    · rw [upd_ne (Ne.symm nq), upd_same]
    · rw [upd_same, List.take_succ, hx]; rfl
    · rw [upd_ne ntq, upd_ne nt]; exact ht
    · rw [h1 b n1 n2, upd_ne n2, upd_ne n1]
theorem hint_own {n : Nat} {C f a dx : Addr} {fs : List (Str × V)} {fd : FuncData} {ps : List Str} {sp : Sp} {A1 : Around} {E' : Value → Shared → Prop} {Q : Bool → Shared → Prop} {R : Hp → Prop} (sb : Sub X (n + 1) A1) (h1 : PySem.W.findIn X.K (.ref C) "__len__" = some (some (.ref f))) (h2 : PySem.W.isFn X.K (.ref f) = true)
    (F : FnOk X.prog X.w X.K X.mg X.base (L2.CX X.prog X.w) n f fd ps sp) (hb : Binds X.K fd ps []) (I : Inv X pins σ H s) (ha : H a = some (.ins C dx fs)) (h : sp [.ref a] H (lenQ fun v H' => (∃ n : Int, v = .int n ∧ 0 ≤ n ∧ n < 1000000) ∧ R H') E0) (q : ∀ b s' H', Inv X pins σ H' s' → R H' → Q b s') : wpAny (model X.prog X.w) A1 (Builtin.List.listLengthHint (.ref a)) Q E' s := by
  obtain ⟨mA, J, _⟩ := ins_get I.hok ha
  obtain ⟨od, J, _⟩ := J.look
  unfold Builtin.List.listLengthHint
  refine wpAny_bind (wpAny_bind (J.type.here ((PySem.W.looks_findIn I.kIn h1).here ?_)))
  dsimp only
  refine PySem.W.KFB.if_not rfl ?_
  rw [if_pos (show (some (Value.ref f)).isSome = true from rfl)]
  refine wpAny_bind (wpAny_rule (wpAny_bind (wpAny_attempt (wpAny_mono (len_at (E' := fun _ _ => False) sb h1 h2 F hb I ha h) (fun u s' hq => ?_) fun _ _ z => z.elim))))
  obtain ⟨v, H', I', rv, ⟨k, rfl, b1, b2⟩, hR⟩ := hq
  obtain ⟨t, rfl⟩ := rv
  dsimp only
  refine wpAny_bind (wpAny_of_eq (a := some k) (by first | rfl | kernel_rfl) ?_)
  dsimp only
  have hb : Builtin.List.listTooLong k.toNat = false := by
    unfold Builtin.List.listTooLong
    have : (1000000 : Nat) ≤ sizeLine := by rw [sizeLine_eq]; decide
    exact decide_eq_false (by omega)
  rw [if_neg (by rw [hb]; exact Bool.false_ne_true)]
  exact wpAny_pure (q _ _ _ I' hR)
/-- list(o), o's __iter__ gives a tuple's iterator -/
def rListO (C : Addr) (spI spL : Sp) : List V → Hp → VK → Prop := fun xs H Q => ∃ a dx fs, xs = [.ref a] ∧ H a = some (.ins C dx fs) ∧ ∀ q, H q = none → spI [.ref a] (upd H q (.lst [])) (fun v H1 => ∃ it t ws, v = .ref it ∧ H1 it = some (ItT t it 0) ∧ H1 t = some (.tup ws) ∧ ws.length < 100000 ∧
  H1 q = some (.lst []) ∧ H1 a = some (.ins C dx fs) ∧ spL [.ref a] H1 (lenQ fun v H2 => (∃ n : Int, v = .int n ∧ 0 ≤ n ∧ n < 1000000) ∧ H2 it = some (ItT t it 0) ∧ H2 t = some (.tup ws) ∧ H2 q = some (.lst []) ∧
    ∀ H3, (∀ b, b ≠ it → b ≠ q → H3 b = H2 b) → H3 it = some (ItZ it) → H3 q = some (.lst ws) → Q (.ref q) H3) E0) E0
theorem call_listO {n : Nat} {C fi fl : Addr} {fdI fdL : FuncData} {psI psL : List Str} {spI spL : Sp} (hc : X.calm = true) (hr : Room (n + 3) X.A) (h1 : PySem.W.findIn X.K (.ref C) "__iter__" = some (some (.ref fi))) (h2 : PySem.W.isFn X.K (.ref fi) = true) (FI : FnOk X.prog X.w X.K X.mg X.base (L2.CX X.prog X.w) n fi fdI psI spI) (bI : Binds X.K fdI psI [])
    (h3 : PySem.W.findIn X.K (.ref C) "__len__" = some (some (.ref fl))) (h4 : PySem.W.isFn X.K (.ref fl) = true) (FL : FnOk X.prog X.w X.K X.mg X.base (L2.CX X.prog X.w) n fl fdL psL spL) (bL : Binds X.K fdL psL []) : CallR X (.type "list") (rListO C spI spL) := by
  intro pins s σ H xs us Q I rv h
  obtain ⟨a, dx, fs, rfl, ha, hq⟩ := h
  obtain ⟨u, rfl, ru⟩ := rv.one
  cases ru
  have sb1 : Sub X (n + 1) X.A.in1.in1 := (Sub.in1 (Sub.in1 (⟨hr, rfl⟩ : Sub X (n + 3) X.A)))
  refine callType_codes (Q₁ := fun obj s₁ => obj = .ref s.heap.objs.size ∧ s₁ = { s with heap := s.heap.push { cls := .type "list", data := .seq #[] } }) PySem.F.called_list (PySem.F.typeCall_list_1 _) PySem.F.entry_list_init (code_list_new _ ⟨rfl, rfl⟩) fun obj s₁ h₁ => ?_; obtain ⟨rfl, rfl⟩ := h₁
  have hS : (s.heap.push { cls := .type "list", data := .seq #[] }).get? s.heap.objs.size = some { cls := .type "list", data := .seq #[] } := Heap.get?_push_size _ rfl; refine ⟨⟨_, hS, rfl⟩, PySem.F.args_list_init_2 _ _, ?_⟩
  have fr : H s.heap.objs.size = none := I.hok.fresh (Nat.le_refl _); have hsp := hq _ fr
  have I1 : Inv X pins σ (upd H s.heap.objs.size (.lst [])) { s with heap := s.heap.push { cls := .type "list", data := .seq #[] } } := I.lnew (its := []) (t' := s.toks) .nil (Nat.zero_le _); show wpAny _ _ (do let old ← Builtin.List.listItems (.ref s.heap.objs.size); Builtin.List.listUpdate (.ref s.heap.objs.size) (fun _ => #[]); letGo old.toList.reverse; Builtin.List.listExtendWith (.ref s.heap.objs.size) (.ref a) .none) _ _ _
  refine wpAny_bind ?_; unfold Builtin.List.listItems
  refine wpAny_bind (wpAny_seqItems hS rfl (wpAny_pure ?_)); show wpAny _ _ (updateSeq s.heap.objs.size (fun _ => #[]) >>= fun _ => letGo (#[] : Array Value).toList.reverse >>= fun _ => Builtin.List.listExtendWith (.ref s.heap.objs.size) (.ref a) .none) _ _ _
  refine wpAny_bind (wpAny_updateSeq hS rfl ?_); have I2 := I1.lset (f := fun _ => #[]) (its := []) (its' := []) (ys := []) (t' := s.toks) upd_same hS rfl .nil (Nat.zero_le _)
  rw [upd_upd] at I2; refine wpAny_bind (wpAny_letGo ?_)
  have ha2 : upd H s.heap.objs.size (.lst []) a = some (.ins C dx fs) := by rw [upd_ne (ne_of_none ha fr)]; exact ha
  generalize s.heap.objs.size = q at *
  -- extend
  have hne : q ≠ a := ne_of upd_same ha2 (fun z => nomatch z)
  obtain ⟨mA, J, _⟩ := ins_get I2.hok ha2
  obtain ⟨od, J, _⟩ := J.look
  obtain ⟨m0, hF⟩ := I2.fr
  unfold Builtin.List.listExtendWith
  refine wpAny_bind (J.type.here ?_)
  have g1 : Builtin.List.listSameRef (.ref q) (.ref a) = false := by simp [Builtin.List.listSameRef, hne]
  have g2 : (Value.ref C == Value.type "list") = false := rfl
  have g3 : (Value.ref C == Value.type "tuple") = false := rfl
  simp only [g1, g2, g3, Bool.or_false, Bool.false_eq_true, if_false]
  refine wpAny_bind (PySem.W.owit_iter hF I2.ok.mod.kin J h1 h2 (wpAny_mono (run_at (E' := fun _ _ => False) (vs := [.ref a]) (us := [.ref a]) (sb1.mono (Nat.le_succ n)) FI bI I2 (.cons rfl .nil) hsp) (fun u s' hq' => ?_) fun _ _ z => z.elim))
  obtain ⟨v, H1, I3, rv3, it, t, ws, rfl, e1, e2, e3, e4, e5, hL⟩ := hq'
  cases rv3
  have tI := itT_get I3 e1
  unfold PySem.W.OwitIt
  obtain ⟨oi, hoi, hci, _⟩ := id tI
  refine wpAny_bind (wpAny_typeOf_ref hoi ?_)
  rw [hci]
  refine wpAny_of_eq (a := some (.builtin "tuple_iterator.__next__")) (F.slot_tuple_iterator_next.lookup) ?_
  dsimp only
  refine wpAny_bind (wpAny_holding (hint_own (R := fun H2 => H2 it = some (ItT t it 0) ∧ H2 t = some (.tup ws) ∧ H2 q = some (.lst []) ∧ ∀ H3, (∀ b, b ≠ it → b ≠ q → H3 b = H2 b) → H3 it = some (ItZ it) → H3 q = some (.lst ws) → Q (.ref q) H3) sb1 h3 h4 FL bL I3 e5 hL fun b s4 H2 I4 ⟨f1, f2, f3, f4⟩ => ?_))
  have fin : ∀ (s5 : Shared), Inv X pins σ H2 s5 → codeAny (model X.prog X.w) X.A.in1 (.builtin "list.extend.loop" ⟨[.ref q, .ref it, .none], []⟩) (wants (fun r s₂ => r = .none ∧ EP X pins σ Q (.ref q) s₂) X.xe) s5 := fun s5 I5 =>
    loop_T (A1 := X.A.in1) (I5.ok.hd hc) e3 ws.length 0 s5 H2 (by omega) I5 f1 f3 f2 fun s6 H6 k1 k2 k3 I6 => ⟨rfl, .ref q, H6, I6, rfl, f4 H6 k1 k2 k3⟩
  obtain ⟨z, its, k, r3, hl3, e3'⟩ := I4.lstM f3
  cases r3
  refine wpAny_ite_split (fun _ => ?_) (fun _ => wpAny_pure ⟨plainId_quiet PySem.F.plain_extend_loop _, fin s4 I4⟩)
  refine wpAny_bind (wpAny_rule ?_)
  refine wpAny_bind ?_
  show wpAny _ _ (updateSeq q (·.push .none) >>= fun _ => updateSeq q (·.pop)) _ _ _
  refine wpAny_bind (wpAny_updateSeq e3' rfl ?_)
  have I5 := I4.lset (f := (·.push Value.none)) (its' := [Value.none]) (ys := [.non]) (t' := s4.toks) f3 e3' (by simp) (.cons rfl .nil) (by rw [List.length_singleton, sizeLine_eq]; decide)
  obtain ⟨z4, its4, k4, r4, hl4, e4'⟩ := I5.lstM upd_same
  obtain ⟨u4, rfl, ru4⟩ := r4.one
  refine wpAny_updateSeq e4' rfl ?_ (by show 1 ≤ sizeLine; rw [sizeLine_eq]; decide) (by show 0 ≤ sizeLine + 1; exact Nat.zero_le _)
  refine wpAny_pure ⟨plainId_quiet PySem.F.plain_extend_loop _, fin _ ?_⟩
  have I6 := I5.lset (f := (·.pop)) (its := [u4]) (its' := []) (ys := []) (t' := s4.toks) upd_same e4' (by rfl) .nil (Nat.zero_le _)
  rw [upd_upd] at I6
  have hH : upd H2 q (.lst []) = H2 := by
    funext b
    by_cases hb : b = q
    · rw [hb, upd_same, f3]
    · rw [upd_ne hb]
  rw [hH] at I6
  exact I6
end
end VS

set_option maxHeartbeats 2000000
set_option autoImplicit false
/-! VS11: own special methods and isinstance, over slots. -/
namespace VS
open PySem L2
/-- a new tuple's iterator -/
def Res.itr {α : Type} (i : Rp α) (xs : List α) (it : Addr) : Res := ⟨[it], fun K Hb H => ∃ t ws, H it = some (ItT t it 0) ∧ Hb t = some (.tup ws) ∧ Paired (i.rp K Hb) ws xs,
  fun e k ⟨t, ws, h1, h2, h3⟩ => ⟨t, ws, by rw [k _ (List.mem_singleton.mpr rfl)]; exact h1, e _ _ h2, paired_imp (fun _ _ h => i.mono e h) h3⟩⟩
def Res.any (it : Addr) : Res := ⟨[it], fun _ _ _ => True, fun _ _ _ => True.intro⟩
section
variable {X : Cx} {W : WX} {a b c e : Expr} {es : List Expr} {Γ Γ1 Γ2 : Gam} {pos pos' p p1 p2 p3 : Pos} {α β γ : Type} {i : Rp α} {j : Rp β} {k : Rp γ} {x : α} {y : β} {P : Out → Prop} {name f m : Str} {C : Addr} {flds : α → List (Str × Ag)} {n n2 : Nat} {ps ps2 : List Str} {S S2 : Cl → Prop}
/-- len(o) -/
theorem ev_lenO {z : Int} (d : DefD X.prog X.w X.K X.mg X.base C "__len__" n ps S) (kl : Kls X.K X.mg name C) (hr : Room (n + 1) X.A) (hm : X.mg "len" = none) (h : EvX X a Γ (rObj name flds) x Γ1) (hc : S ⟨[.val (rObj name flds) x], detV rInt z 1⟩) (h0 : 0 ≤ z) (h1 : z < 1000000)
    (hg : Gl X "len" := by rfl) (hs : starEach [a] X.env = (false, eval a X.env) :: starEach [] X.env := by rfl) : EvX X (.Call (.Name "len" p) [a] [] p2) Γ rInt z Γ1 := by
  intro B Hb H σ τ Q hl R q
  obtain ⟨f, fd, e1, e2, e3, e4⟩ := d.ex
  refine we_of (pe_callB (call_lenO hr e1 e2 e4 e3) hg hm (by decide +kernel) (pa_cons pe_we pa_nil hs) (he := hs)) (h B Hb H σ τ _ hl R fun v Hb1 H1 s1 R1 rv => ?_)
  obtain ⟨p, C', dx, vs, rfl, hcl, hp, hfs⟩ := id rv
  have ec := kl.ns.eq hcl
  subst ec
  exact ⟨p, dx, vs, rfl, R1.sub _ _ hp, sp_val (gs := [.v (rObj name flds) x]) R1 True.intro (.cons rv .nil) hc fun w Hb3 H3 g R3 rw' => ⟨z, rw', h0, h1, q w Hb3 H3 (s1.trans g.b) R3 rw'⟩⟩
/-- iter(xs), xs a tuple -/
theorem call_iterT : CallR X (.builtin "iter") (fun xs H Q => ∃ t ws, xs = [.ref t] ∧ H t = some (.tup ws) ∧ ∀ it, H it = none → Q (.ref it) (upd H it (ItT t it 0))) := by
  intro pins s σ H xs us Q I r h
  obtain ⟨t, zs, rfl, hq, q⟩ := h
  obtain rfl := Vals.ref1 r
  obtain ⟨its, rv, pl, hz⟩ := I.tuple (.of hq)
  refine Calls.call_function_entry (by decide +kernel) (by decide +kernel) PySem.W.kdk_entry_iter (PySem.W.kdk_args_iter _) ?_
  unfold Builtin.«iter»
  refine wpAny_bind (m := someArgs "iter" 1 2 _) (wpAny_of_eq (a := [Value.ref t]) (by first | rfl | kernel_rfl!) ?_)
  show wpAny _ _ (pyIter (.ref t) >>= _) _ _ _
  refine wpAny_bind (wpAny_pyIter_tuple pl ?_)
  refine wpAny_pure ⟨_, rfl, ?_⟩
  exact ⟨.ref s.heap.objs.size, _, I.laid (t' := s.toks) (fun b u e => Heap.get?_push_of_some _ e) (Nat.le_refl _) (itT_ok ⟨_, Heap.get?_push_size _ rfl, rfl, rfl⟩), rfl, q _ (I.hok.fresh (Nat.le_refl _))⟩
theorem en_iter {xs : List α} (hm : X.mg "iter" = none) (h : EvX X a Γ (rTup (r := i)) ⟨xs⟩ Γ1) (hg : Gl X "iter" := by rfl) (hs : starEach [a] X.env = (false, eval a X.env) :: starEach [] X.env := by rfl) : EvN X (.Call (.Name "iter" p) [a] [] p2) Γ (Res.itr i xs) Γ1 := by
  intro B Hb H σ τ Q hl R q
  refine we_of (pe_callB call_iterT hg hm (by decide +kernel) (pa_cons pe_we pa_nil hs) (he := hs)) (h B Hb H σ τ _ hl R fun v Hb1 H1 s1 R1 rv => ?_)
  obtain ⟨t, ws, rfl, h1, h2⟩ := rv
  exact ⟨t, ws, rfl, R1.sub _ _ h1, fun it hn => q it Hb1 _ s1 (R1.pushOwn hn rfl ⟨t, ws, upd_same, h1, h2⟩)⟩
/-- list(o) -/
theorem en_listO {xs : List β} {z : Int} (dI : DefD X.prog X.w X.K X.mg X.base C "__iter__" n ps S) (dL : DefD X.prog X.w X.K X.mg X.base C "__len__" n2 ps2 S2) (kl : Kls X.K X.mg name C) (hr : Room (max n n2 + 3) X.A) (hm : X.mg "list" = none) (h : EvX X a Γ (rObj name flds) x Γ1)
    (hcI : S ⟨[.val (rObj name flds) x], detN (Res.itr j xs) 1⟩) (hcL : S2 ⟨[.val (rObj name flds) x], detV rInt z 1⟩) (h0 : 0 ≤ z) (h1 : z < 1000000) (hz : xs.length < 100000)
    (hc : X.calm = true := by rfl) (hg : Gl X "list" := by rfl) (hs : starEach [a] X.env = (false, eval a X.env) :: starEach [] X.env := by rfl) : EvN X (.Call (.Name "list" p) [a] [] p2) Γ (Res.lst j xs) Γ1 := by
  intro B Hb H σ τ Q hl R q
  obtain ⟨f, fd, e1, e2, e3, e4⟩ := dI.ex
  obtain ⟨f', fd', g1, g2, g3, g4⟩ := dL.ex
  refine we_of (pe_callTy (call_listO hc hr e1 e2 (e4.mono (Nat.le_max_left n n2)) e3 g1 g2 (g4.mono (Nat.le_max_right n n2)) g3) hg hm (by decide +kernel) (pa_cons pe_we pa_nil hs) (he := hs)) (h B Hb H σ τ _ hl R fun v Hb1 H1 s1 R1 rv => ?_)
  obtain ⟨p, C', dx, vs, rfl, hcl, hp, hfs⟩ := id rv
  have ec := kl.ns.eq hcl
  subst ec
  refine ⟨p, dx, vs, rfl, R1.sub _ _ hp, fun l hln => ?_⟩
  have Rq : Reps X.K B (Γ1 ++ [.own false l (Res.lst j [] l)]) Hb1 (upd H1 l (.lst [])) (σ ++ τ ++ [some (.ref l)]) := R1.pushOwn hln rfl ⟨[], upd_same, .nil⟩
  refine sp_new (gs := [.v (rObj name flds) x]) Rq True.intro (.cons rv .nil) hcI fun it Hb2 H2 s2 R2 => ?_
  have x1 : (Γ1 ++ [Slot.own false l (Res.lst j [] l)] ++ [Slot.own false it (Res.itr j xs it)])[Γ1.length + 1]? = some (.own false it (Res.itr j xs it)) := by simp
  have x0 : (Γ1 ++ [Slot.own false l (Res.lst j [] l)] ++ [Slot.own false it (Res.itr j xs it)])[Γ1.length]? = some (.own false l (Res.lst j [] l)) := by simp
  obtain ⟨_, t, ws, a1, a2, a3⟩ := R2.ok _ _ x1
  obtain ⟨_, vs0, b1, b2⟩ := R2.ok _ _ x0
  cases b2
  refine ⟨it, t, ws, rfl, a1, R2.sub _ _ a2, by rw [paired_len a3]; exact hz, b1, R2.sub _ _ (s2 _ _ hp), ?_⟩
  refine sp_val (gs := [.v (rObj name flds) x]) R2 True.intro (.cons ((rObj name flds).mono s2 rv) .nil) hcL fun w Hb3 H3 g R3 rw' => ⟨z, rw', h0, h1, ⟨z, rw', h0, h1⟩, g.h _ _ a1, g.h _ _ (R2.sub _ _ a2), g.h _ _ b1, fun H4 k1 k2 k3 => ?_⟩
  have nq : l ≠ it := fun e => by rw [e, a1] at b1; cases b1
  have R4 := R3.write (r' := Res.any it) (H' := upd H3 it (ItZ it)) x1 (fun a h1 _ => upd_ne (fun z => h1 (List.mem_singleton.mpr z))) (fun a m => .inl m) (fun a m => by
    have m' : a ∈ [it] := m.elim id id
    rw [List.mem_singleton.mp m', upd_same]; exact fun z => nomatch z) True.intro
  have e5 : (Γ1 ++ [Slot.own false l (Res.lst j [] l)] ++ [Slot.own false it (Res.itr j xs it)]).set (Γ1.length + 1) (.own false it (Res.any it)) = (Γ1 ++ [Slot.own false l (Res.lst j [] l)]) ++ [.own false it (Res.any it)] := by simp
  rw [e5] at R4
  have R5 := R4.pop
  have x2 : (Γ1 ++ [Slot.own false l (Res.lst j [] l)])[Γ1.length]? = some (.own false l (Res.lst j [] l)) := by simp
  have R6 := R5.write (r' := Res.lst j xs l) (H' := H4) x2 (fun a h1 _ => by
    have ha : a ≠ l := fun z => h1 (List.mem_singleton.mpr z)
    by_cases hi : a = it
    · rw [hi, upd_same, k2]
    · rw [upd_ne hi, k1 a hi ha]) (fun a m => .inl m) (fun a m => by
    have m' : a ∈ [l] := m.elim id id
    rw [List.mem_singleton.mp m', k3]; exact fun z => nomatch z) ⟨ws, k3, paired_imp (fun _ _ z => j.mono g.b z) a3⟩
  have e6 : (Γ1 ++ [Slot.own false l (Res.lst j [] l)]).set Γ1.length (.own false l (Res.lst j xs l)) = Γ1 ++ [.own false l (Res.lst j xs l)] := by simp
  rw [e6] at R6
  exact q l Hb3 H4 ((s1.trans s2).trans g.b) R6

/-! ### isinstance -/
/-- data that is of the type t -/
def Typ (K : Fg) {α : Type} (i : Rp α) (x : α) (t : Value) : Prop := ∀ (Hb H : Hp) (v : V), Same Hb H → i.rp K Hb v x → TyX K H v t
theorem ty_int {K : Fg} {n : Int} : Typ K rInt n (.type "int") := fun Hb H v s h => by
  obtain rfl : v = .int n := h
  exact .base (.int n)
theorem ty_bool {K : Fg} {n : Bool} : Typ K rBool n (.type "bool") := fun Hb H v s h => by
  obtain rfl : v = .bl n := h
  exact .base (.bl n)
theorem ty_str {K : Fg} {n : Str} : Typ K rStr n (.type "str") := fun Hb H v s h => by
  obtain rfl : v = .str n := h
  exact .base (.str n)
theorem ty_list {K : Fg} {xs : List α} : Typ K (rList (r := i)) xs (.type "list") := fun Hb H v s ⟨l, vs, h1, h2, h3⟩ => by
  subst h1
  exact .base (.lst (s _ _ h2))
theorem ty_tup {K : Fg} {xs : Tup α} : Typ K (rTup (r := i)) xs (.type "tuple") := fun Hb H v s ⟨l, vs, h1, h2, h3⟩ => by
  subst h1
  exact .base (.tup (s _ _ h2))
theorem ty_pair {K : Fg} {q : α × β} : Typ K (rPair (r := i) (s := j)) q (.type "tuple") := fun Hb H v s ⟨l, v1, v2, h1, h2, h3⟩ => by
  subst h1
  exact .base (.tup (s _ _ h2))
theorem ty_t3 {K : Fg} {q : T3 α β γ} : Typ K (rT3 (r := i) (s := j) (t := k)) q (.type "tuple") := fun Hb H v s ⟨l, v1, v2, v3, h1, h2, h3⟩ => by
  subst h1
  exact .base (.tup (s _ _ h2))
/-- an expression that names a class -/
def NamC (X : Cx) (e : Expr) (u : Value) : Prop := ∃ c, PE X e (tC c) ∧ ClsV c u
theorem nc_ty {T : String} {x : Str} (hm : X.mg x = none) (hv : bootBuiltins x = some (.type T) := by decide +kernel) (hg : Gl X x := by rfl) (hn : x ≠ "__name__" := by decide) (hd : (x == ("__debug__" : Str)) = false := by decide) : NamC X (.Name x pos) (.type T) := ⟨.ty T, pe_bltn hg hm hv rfl hn hd, .ty T⟩
theorem nc_own {x : Str} {C : Addr} (hm : X.mg x = some (.ref C)) (hg : Gl X x := by rfl) (hd : (x == ("__debug__" : Str)) = false := by decide) : NamC X (.Name x pos) (.ref C) := ⟨.ref C, pe_glob hg hm rfl hd, .own C⟩
theorem ev_isi {t u : Value} {r : Bool} (hm : X.mg "isinstance" = none) (ha : EvX X a Γ i x Γ1) (ty : Typ X.K i x t) (hu : NamC X b u) (hk : PySem.W.kitOne X.K t u = some r) (hg : Gl X "isinstance" := by rfl)
    (hs : starEach [a, b] X.env = (false, eval a X.env) :: starEach [b] X.env := by rfl) (hs2 : starEach [b] X.env = (false, eval b X.env) :: starEach [] X.env := by rfl) (hpl : (backTo p2 (starEach [b] X.env)).any (·.1) = false := by rfl) : EvX X (.Call (.Name "isinstance" p) [a, b] [] p2) Γ rBool r Γ1 := by
  intro B Hb H σ τ Q hl R q
  obtain ⟨c, hc, hcv⟩ := hu
  refine we_of (pe_callB call_isi hg hm (by decide +kernel) (pa_cons pe_we (pa_cons hc pa_nil hs2) hs) (he := hs) (hpl := hpl)) (ha B Hb H σ τ _ hl R fun v Hb1 H1 s1 R1 rv => ?_)
  exact ⟨v, c, t, u, r, rfl, hcv, ty Hb1 H1 v R1.sub rv, hk, q _ Hb1 H1 s1 R1 rfl⟩
/-- isinstance(xs, T), xs owned in slot n -/
theorem ev_isiO (n : Nat) {bb : Bool} {l : Addr} {xs : List α} {u : Value} {r : Bool} (hm : X.mg "isinstance" = none) (hs0 : Γ[n]? = some (.own bb l (Res.lst i xs l)) := by rfl) (hu : NamC X b u) (hk : PySem.W.kitOne X.K (.type "list") u = some r) (hN : X.N[n]? = some m := by rfl)
    (hv : Vis X.env.scope m := by first | exact Or.inl rfl | exact Or.inr (Or.inl rfl) | exact Or.inr (Or.inr rfl)) (hd : (m == ("__debug__" : Str)) = false := by decide) (hcd : (m == ("__classdict__" : Str)) = false := by decide) (hg : Gl X "isinstance" := by rfl)
    (hs : starEach [.Name m p1, b] X.env = (false, eval (.Name m p1) X.env) :: starEach [b] X.env := by rfl) (hs2 : starEach [b] X.env = (false, eval b X.env) :: starEach [] X.env := by rfl) (hpl : (backTo p2 (starEach [b] X.env)).any (·.1) = false := by rfl) : EvX X (.Call (.Name "isinstance" p) [.Name m p1, b] [] p2) Γ rBool r Γ := by
  intro B Hb H σ τ Q hl R q
  obtain ⟨c, hc, hcv⟩ := hu
  have hn : n < σ.length := by rw [hl]; exact (List.getElem?_eq_some_iff.mp hN).1
  obtain ⟨e1, vs, h1, h2⟩ := R.at hn hs0
  refine we_of (pe_callB call_isi hg hm (by decide +kernel) (pa_cons (pe_var hN hv hd hcd) (pa_cons hc pa_nil hs2) hs) (he := hs) (hpl := hpl)) ?_
  exact ⟨_, join_some e1, .ref l, c, .type "list", u, r, rfl, hcv, .base (.lst h1), hk, q _ Hb H (Same.refl _) R rfl⟩
/-- isinstance(e, T) in an except suite that names e -/
theorem ev_isiE (n : Nat) {D0 A0 : Addr} {oe : Obj} {pn : List (Addr × Obj)} {u : Value} {r : Bool} (C0 : ExcC X.K D0) (hz : Zc (.ref D0) none oe) (hf : ∃ vs, oe.data = .fields vs) (hm : X.mg "isinstance" = none) (hs0 : Γ[n]? = some (.rf A0) := by rfl) (hu : NamC (X.suite A0 ((A0, oe) :: pn)) b u) (hk : PySem.W.kitOne X.K (.ref D0) u = some r) (hN : X.N[n]? = some m := by rfl)
    (hv : Vis X.env.scope m := by first | exact Or.inl rfl | exact Or.inr (Or.inl rfl) | exact Or.inr (Or.inr rfl)) (hd : (m == ("__debug__" : Str)) = false := by decide) (hcd : (m == ("__classdict__" : Str)) = false := by decide) (hg : Gl X "isinstance" := by rfl)
    (hs : starEach [.Name m p1, b] X.env = (false, eval (.Name m p1) X.env) :: starEach [b] X.env := by rfl) (hs2 : starEach [b] X.env = (false, eval b X.env) :: starEach [] X.env := by rfl) (hpl : (backTo p2 (starEach [b] X.env)).any (·.1) = false := by rfl) : EvX (X.suite A0 ((A0, oe) :: pn)) (.Call (.Name "isinstance" p) [.Name m p1, b] [] p2) Γ rBool r Γ := by
  intro B Hb H σ τ Q hl R q
  obtain ⟨c, hc, hcv⟩ := hu
  have hn : n < σ.length := by rw [hl]; exact (List.getElem?_eq_some_iff.mp hN).1
  have e1 := R.at hn hs0
  refine we_of (pe_callB (X := X.suite A0 ((A0, oe) :: pn)) (call_isE C0 hz hf) hg hm (by decide +kernel) (pa_cons (pe_var hN hv hd hcd) (pa_cons hc pa_nil hs2) hs) (he := hs) (hpl := hpl)) ?_
  exact ⟨_, join_some e1, c, u, r, rfl, fun w rw' => hcv.eq rw', hk, q _ Hb H (Same.refl _) R rfl⟩
end
end VS

set_option maxHeartbeats 2000000
set_option autoImplicit false
/-! VS12: data of any shape; is. -/
namespace VS
open PySem L2
inductive Dat where
  | non
  | bl (b : Bool)
  | int (n : Int)
  | str (s : Str)
  | lst (xs : List Dat)
  | tup (xs : List Dat)
mutual
def drp (K : Fg) (H : Hp) : Dat → V → Prop
  | .non, v => v = .non
  | .bl b, v => v = .bl b
  | .int n, v => v = .int n
  | .str s, v => v = .str s
  | .lst xs, v => ∃ a vs, v = .ref a ∧ H a = some (.lst vs) ∧ drps K H xs vs
  | .tup xs, v => ∃ a vs, v = .ref a ∧ H a = some (.tup vs) ∧ drps K H xs vs
def drps (K : Fg) (H : Hp) : List Dat → List V → Prop
  | [], vs => vs = []
  | d :: ds, vs => ∃ v r, vs = v :: r ∧ drp K H d v ∧ drps K H ds r
end
mutual
theorem drp_mono {K : Fg} {H H' : Hp} (e : Same H H') : ∀ (d : Dat) (v : V), drp K H d v → drp K H' d v
  | .non, v, h => by unfold drp at h ⊢; exact h
  | .bl b, v, h => by unfold drp at h ⊢; exact h
  | .int n, v, h => by unfold drp at h ⊢; exact h
  | .str s, v, h => by unfold drp at h ⊢; exact h
  | .lst xs, v, h => by
    unfold drp at h ⊢
    obtain ⟨a, vs, h1, h2, h3⟩ := h
    exact ⟨a, vs, h1, e _ _ h2, drps_mono e xs vs h3⟩
  | .tup xs, v, h => by
    unfold drp at h ⊢
    obtain ⟨a, vs, h1, h2, h3⟩ := h
    exact ⟨a, vs, h1, e _ _ h2, drps_mono e xs vs h3⟩
theorem drps_mono {K : Fg} {H H' : Hp} (e : Same H H') : ∀ (ds : List Dat) (vs : List V), drps K H ds vs → drps K H' ds vs
  | [], vs, h => by unfold drps at h ⊢; exact h
  | d :: ds, vs, h => by
    unfold drps at h ⊢
    obtain ⟨v, r, h1, h2, h3⟩ := h
    exact ⟨v, r, h1, drp_mono e d v h2, drps_mono e ds r h3⟩
end
instance rDat : Rp Dat := ⟨fun K H v d => drp K H d v, fun e h => drp_mono e _ _ h⟩
theorem drps_pair {K : Fg} {H : Hp} : ∀ {ds : List Dat} {vs : List V}, drps K H ds vs → Paired (rDat.rp K H) vs ds
  | [], vs, h => by unfold drps at h; subst h; exact .nil
  | d :: ds, vs, h => by
    unfold drps at h
    obtain ⟨v, r, rfl, h2, h3⟩ := h
    exact .cons h2 (drps_pair h3)
theorem pair_drps {K : Fg} {H : Hp} : ∀ {vs : List V} {ds : List Dat}, Paired (rDat.rp K H) vs ds → drps K H ds vs
  | _, _, .nil => by unfold drps; rfl
  | _, _, .cons h t => by unfold drps; exact ⟨_, _, rfl, h, pair_drps t⟩
mutual
def dep : Dat → Nat
  | .lst xs => deps xs + 1
  | .tup xs => deps xs + 1
  | _ => 0
def deps : List Dat → Nat
  | [] => 0
  | d :: ds => max (dep d) (deps ds)
end
theorem dep_mem : ∀ {ds : List Dat} {d : Dat}, d ∈ ds → dep d ≤ deps ds
  | d' :: ds, d, h => by
    unfold deps
    rcases List.mem_cons.mp h with e | h
    · rw [e]; exact Nat.le_max_left _ _
    · exact Nat.le_trans (dep_mem h) (Nat.le_max_right _ _)
mutual
def big : Dat → Nat
  | .lst xs => max xs.length (bigs xs)
  | .tup xs => max xs.length (bigs xs)
  | _ => 0
def bigs : List Dat → Nat
  | [] => 0
  | d :: ds => max (big d) (bigs ds)
end
theorem big_mem : ∀ {ds : List Dat} {d : Dat}, d ∈ ds → big d ≤ bigs ds
  | d' :: ds, d, h => by
    unfold bigs
    rcases List.mem_cons.mp h with e | h
    · rw [e]; exact Nat.le_max_left _ _
    · exact Nat.le_trans (big_mem h) (Nat.le_max_right _ _)
def tyD : Dat → Value
  | .non => .type "NoneType"
  | .bl _ => .type "bool"
  | .int _ => .type "int"
  | .str _ => .type "str"
  | .lst _ => .type "list"
  | .tup _ => .type "tuple"
theorem ty_dat {K : Fg} (d : Dat) : Typ K rDat d (tyD d) := fun Hb H v s h => by
  have h : drp K Hb d v := h
  cases d <;> unfold drp at h
  · subst h; exact .base .non
  · subst h; exact .base (.bl _)
  · subst h; exact .base (.int _)
  · subst h; exact .base (.str _)
  · obtain ⟨a, vs, rfl, h2, _⟩ := h; exact .base (.lst (s _ _ h2))
  · obtain ⟨a, vs, rfl, h2, _⟩ := h; exact .base (.tup (s _ _ h2))
def isT (d : Dat) (T : String) : Bool := match d, T with
  | .non, "NoneType" => true
  | .bl _, "bool" => true
  | .bl _, "int" => true
  | .int _, "int" => true
  | .str _, "str" => true
  | .lst _, "list" => true
  | .tup _, "tuple" => true
  | _, _ => false
section
variable {K : Fg}
theorem kd_int (d : Dat) : PySem.W.kitOne K (tyD d) (.type "int") = some (isT d "int") := by cases d <;> first | exact (kit_ty (r := true) (by decide +kernel)) | exact (kit_ty (r := false) (by decide +kernel))
theorem kd_bool (d : Dat) : PySem.W.kitOne K (tyD d) (.type "bool") = some (isT d "bool") := by cases d <;> first | exact (kit_ty (r := true) (by decide +kernel)) | exact (kit_ty (r := false) (by decide +kernel))
theorem kd_str (d : Dat) : PySem.W.kitOne K (tyD d) (.type "str") = some (isT d "str") := by cases d <;> first | exact (kit_ty (r := true) (by decide +kernel)) | exact (kit_ty (r := false) (by decide +kernel))
theorem kd_list (d : Dat) : PySem.W.kitOne K (tyD d) (.type "list") = some (isT d "list") := by cases d <;> first | exact (kit_ty (r := true) (by decide +kernel)) | exact (kit_ty (r := false) (by decide +kernel))
theorem kd_tuple (d : Dat) : PySem.W.kitOne K (tyD d) (.type "tuple") = some (isT d "tuple") := by cases d <;> first | exact (kit_ty (r := true) (by decide +kernel)) | exact (kit_ty (r := false) (by decide +kernel))
end
section
variable {X : Cx} {a b c e : Expr} {Γ Γ1 Γ2 : Gam} {pos pos' : Pos} {α β γ : Type} {i : Rp α} {j : Rp β} {k : Rp γ} {x : α} {y : β}
/-- the same values, read otherwise -/
theorem ev_cv (h : EvX X e Γ i x Γ1) (hc : ∀ K H v, i.rp K H v x → j.rp K H v y) : EvX X e Γ j y Γ1 := fun B Hb H σ τ Q hl R q => h B Hb H σ τ Q hl R fun v Hb2 H2 s R2 rv => q v Hb2 H2 s R2 (hc _ _ _ rv)
/-- how data is read as Dat -/
structure DvI (i : Rp α) (f : α → Dat) : Prop where
  h : ∀ K H v x, i.rp K H v x → drp K H (f x) v
theorem dv_int : DvI rInt Dat.int := ⟨fun K H v x h => by unfold drp; exact h⟩
theorem dv_bool : DvI rBool Dat.bl := ⟨fun K H v x h => by unfold drp; exact h⟩
theorem dv_str : DvI rStr Dat.str := ⟨fun K H v x h => by unfold drp; exact h⟩
theorem dv_none : DvI rNone (fun _ => Dat.non) := ⟨fun K H v x h => by unfold drp; exact h⟩
theorem dv_dat : DvI rDat (fun d => d) := ⟨fun K H v x h => h⟩
theorem paired_map {F : V → α → Prop} {G : V → Dat → Prop} {f : α → Dat} (h : ∀ v x, F v x → G v (f x)) : ∀ {vs : List V} {xs : List α}, Paired F vs xs → Paired G vs (xs.map f)
  | _, _, .nil => .nil
  | _, _, .cons a t => .cons (h _ _ a) (paired_map h t)
theorem dv_list {f : α → Dat} (h : DvI i f) : DvI (rList (r := i)) (fun xs => .lst (xs.map f)) := ⟨fun K H v xs ⟨l, vs, h1, h2, h3⟩ => by
  unfold drp
  exact ⟨l, vs, h1, h2, pair_drps (paired_map (fun v x q => h.h K H v x q) h3)⟩⟩
theorem dv_tup {f : α → Dat} (h : DvI i f) : DvI (rTup (r := i)) (fun xs => .tup (xs.l.map f)) := ⟨fun K H v xs ⟨l, vs, h1, h2, h3⟩ => by
  unfold drp
  exact ⟨l, vs, h1, h2, pair_drps (paired_map (fun v x q => h.h K H v x q) h3)⟩⟩
theorem dv_pair {f : α → Dat} {g : β → Dat} (h : DvI i f) (h' : DvI j g) : DvI (rPair (r := i) (s := j)) (fun q => .tup [f q.1, g q.2]) := ⟨fun K H v q ⟨l, v1, v2, h1, h2, h3, h4⟩ => by
  unfold drp
  refine ⟨l, _, h1, h2, ?_⟩
  exact pair_drps (.cons (h.h _ _ _ _ h3) (.cons (h'.h _ _ _ _ h4) .nil))⟩
theorem dv_t3 {f : α → Dat} {g : β → Dat} {g2 : γ → Dat} (h : DvI i f) (h' : DvI j g) (h2' : DvI k g2) : DvI (rT3 (r := i) (s := j) (t := k)) (fun q => .tup [f q.a, g q.b, g2 q.c]) := ⟨fun K H v q ⟨l, v1, v2, v3, h1, h2, h3, h4, h5⟩ => by
  unfold drp
  refine ⟨l, _, h1, h2, ?_⟩
  exact pair_drps (.cons (h.h _ _ _ _ h3) (.cons (h'.h _ _ _ _ h4) (.cons (h2'.h _ _ _ _ h5) .nil)))⟩
theorem ev_dat {f : α → Dat} (h : EvX X e Γ i x Γ1) (d : DvI i f) : EvX X e Γ rDat (f x) Γ1 := ev_cv h fun K H v q => d.h K H v x q
theorem ev_unL {xs : List Dat} (h : EvX X e Γ rDat (.lst xs) Γ1) : EvX X e Γ (rList (r := rDat)) xs Γ1 := ev_cv h fun K H v q => by
  have q : drp K H (.lst xs) v := q
  unfold drp at q
  obtain ⟨a, vs, h1, h2, h3⟩ := q
  exact ⟨a, vs, h1, h2, drps_pair h3⟩
theorem ev_unT {xs : List Dat} (h : EvX X e Γ rDat (.tup xs) Γ1) : EvX X e Γ (rTup (r := rDat)) ⟨xs⟩ Γ1 := ev_cv h fun K H v q => by
  have q : drp K H (.tup xs) v := q
  unfold drp at q
  obtain ⟨a, vs, h1, h2, h3⟩ := q
  exact ⟨a, vs, h1, h2, drps_pair h3⟩
theorem ev_unI {n : Int} (h : EvX X e Γ rDat (.int n) Γ1) : EvX X e Γ rInt n Γ1 := ev_cv h fun K H v q => by
  have q : drp K H (.int n) v := q
  unfold drp at q
  exact q
theorem ev_unB {n : Bool} (h : EvX X e Γ rDat (.bl n) Γ1) : EvX X e Γ rBool n Γ1 := ev_cv h fun K H v q => by
  have q : drp K H (.bl n) v := q
  unfold drp at q
  exact q
theorem ev_unS {n : Str} (h : EvX X e Γ rDat (.str n) Γ1) : EvX X e Γ rStr n Γ1 := ev_cv h fun K H v q => by
  have q : drp K H (.str n) v := q
  unfold drp at q
  exact q
/-! is None, is True -/
theorem ev_isNone {r : Bool} {m : Nat} (h : EvX X a Γ i x Γ1) (hr : ∀ K H v, i.rp K H v x → decide (v = .non) = r) : EvX X (.Compare a [.Is] [.Constant .none m pos'] pos) Γ rBool r Γ1 := by
  intro B Hb H σ τ Q hl R q
  refine we_of (pe_cmp (pc_isN pe_we)) (h B Hb H σ τ _ hl R fun v Hb1 H1 s1 R1 rv => q _ Hb1 H1 s1 R1 ?_)
  exact congrArg V.bl (hr _ _ _ rv)
theorem ev_isnotNone {r : Bool} {m : Nat} (h : EvX X a Γ i x Γ1) (hr : ∀ K H v, i.rp K H v x → decide (v ≠ .non) = r) (hm : behindInMarks .IsNot (.Constant .none m pos') = false := by first | exact nomark _ | rfl) : EvX X (.Compare a [.IsNot] [.Constant .none m pos'] pos) Γ rBool r Γ1 := by
  intro B Hb H σ τ Q hl R q
  refine we_of (pe_cmpR op_notN pe_we pe_non hm) (h B Hb H σ τ _ hl R fun v Hb1 H1 s1 R1 rv => ⟨rfl, q _ Hb1 H1 s1 R1 ?_⟩)
  have := hr _ _ _ rv
  show V.bl _ = V.bl _
  rw [← this]
  simp
theorem op_isBlX : OpR X (compareOp .Is) (fun x y H Q => ∃ b : Bool, y = .bl b ∧ Q (.bl (decide (x = .bl b))) H) := by
  intro pins s σ H x y v u Q I rx ry h
  obtain ⟨b, rfl, q⟩ := h
  cases (show u = Value.bool b from ry)
  have fin : ∀ r : Bool, decide (x = .bl b) = r → EP X pins σ Q (.bool r) s := fun r e => ⟨.bl r, H, I, rfl, by rw [← e]; exact q⟩
  cases x with
  | bl b' =>
    cases (show v = Value.bool b' from rx)
    by_cases e : b' = b
    · subst e
      exact wpAny_is_self rfl (fin true (by simp))
    · exact wpAny_is_other rfl (fun z => e (Value.bool.inj z)) (fin false (by simp [e]))
  | non => cases (show v = Value.none from rx); exact wpAny_is_other rfl (fun z => nomatch z) (fin false (by simp))
  | int n => obtain ⟨t, rfl⟩ := (show ∃ t, v = Value.int n t from rx); exact wpAny_is_other rfl (fun z => nomatch z) (fin false (by simp))
  | str n => obtain ⟨t, rfl⟩ := (show ∃ t, v = Value.str n t from rx); exact wpAny_is_other rfl (fun z => nomatch z) (fin false (by simp))
  | byt n => obtain ⟨t, rfl⟩ := (show ∃ t, v = Value.bytes n t from rx); exact wpAny_is_other rfl (fun z => nomatch z) (fin false (by simp))
  | flt n => obtain ⟨t, rfl⟩ := (show ∃ t, v = Value.float n t from rx); exact wpAny_is_other rfl (fun z => nomatch z) (fin false (by simp))
  | ref n => cases (show v = Value.ref n from rx); exact wpAny_is_other rfl (fun z => nomatch z) (fin false (by simp))
  | ty n => cases (show v = Value.type n from rx); exact wpAny_is_other rfl (fun z => nomatch z) (fin false (by simp))
theorem ev_isBl {r t : Bool} {m : Nat} (h : EvX X a Γ i x Γ1) (hr : ∀ K H v, i.rp K H v x → decide (v = .bl t) = r) (hm : behindInMarks .Is (.Constant (.bool t) m pos') = false := by first | exact nomark _ | rfl) : EvX X (.Compare a [.Is] [.Constant (.bool t) m pos'] pos) Γ rBool r Γ1 := by
  intro B Hb H σ τ Q hl R q
  refine we_of (pe_cmpR op_isBlX pe_we pe_bl hm) (h B Hb H σ τ _ hl R fun v Hb1 H1 s1 R1 rv => ⟨t, rfl, q _ Hb1 H1 s1 R1 ?_⟩)
  exact congrArg V.bl (hr _ _ _ rv)
theorem et_isNone {r : Bool} {m : Nat} (h : EvX X a Γ i x Γ1) (hr : ∀ K H v, i.rp K H v x → decide (v = .non) = r) (hm : behindInMarks .Is (.Constant .none m pos') = false := by first | exact nomark _ | rfl) : EvT X (.Compare a [.Is] [.Constant .none m pos'] pos) Γ r Γ1 := by
  intro B Hb H σ τ Q hl R q
  refine wt_of (pt_cmpR op_isN pe_we pe_non hm) (h B Hb H σ τ _ hl R fun v Hb1 H1 s1 R1 rv => ⟨rfl, r, ?_, q Hb1 H1 s1 R1⟩)
  exact congrArg V.bl (hr _ _ _ rv)
theorem et_isnotNone {r : Bool} {m : Nat} (h : EvX X a Γ i x Γ1) (hr : ∀ K H v, i.rp K H v x → (!decide (v = .non)) = r) (hm : behindInMarks .IsNot (.Constant .none m pos') = false := by first | exact nomark _ | rfl) : EvT X (.Compare a [.IsNot] [.Constant .none m pos'] pos) Γ r Γ1 := by
  intro B Hb H σ τ Q hl R q
  refine wt_of (pt_cmpR op_notN pe_we pe_non hm) (h B Hb H σ τ _ hl R fun v Hb1 H1 s1 R1 rv => ⟨rfl, r, ?_, q Hb1 H1 s1 R1⟩)
  exact congrArg V.bl (hr _ _ _ rv)
theorem et_isBl {r t : Bool} {m : Nat} (h : EvX X a Γ i x Γ1) (hr : ∀ K H v, i.rp K H v x → decide (v = .bl t) = r) (hm : behindInMarks .Is (.Constant (.bool t) m pos') = false := by first | exact nomark _ | rfl) : EvT X (.Compare a [.Is] [.Constant (.bool t) m pos'] pos) Γ r Γ1 := by
  intro B Hb H σ τ Q hl R q
  refine wt_of (pt_cmpR op_isBlX pe_we pe_bl hm) (h B Hb H σ τ _ hl R fun v Hb1 H1 s1 R1 rv => ⟨t, rfl, r, ?_, q Hb1 H1 s1 R1⟩)
  exact congrArg V.bl (hr _ _ _ rv)
def dNone : Dat → Bool
  | .non => true
  | _ => false
def dBl (t : Bool) : Dat → Bool
  | .bl b => decide (b = t)
  | _ => false
theorem dat_none (d : Dat) : ∀ K H v, rDat.rp K H v d → decide (v = .non) = dNone d := fun K H v h => by
  have h : drp K H d v := h
  cases d <;> unfold drp at h <;> first
    | (subst h; rfl)
    | (obtain ⟨_, _, rfl, _⟩ := h; rfl)
theorem dat_bl (t : Bool) (d : Dat) : ∀ K H v, rDat.rp K H v d → decide (v = .bl t) = dBl t d := fun K H v h => by
  have h : drp K H d v := h
  cases d <;> unfold drp at h <;> first
    | (subst h; simp [dBl])
    | (obtain ⟨_, _, rfl, _⟩ := h; rfl)
/-- xs[..], the place by a word -/
theorem eq_ixL {xs : List α} {R : Int → Gam → Prop} (hl' : EvX X a Γ (rList (r := i)) xs Γ1) (hi : EvQ X b Γ1 rInt R) (h : ∀ n Γ2, R n Γ2 → 0 ≤ n ∧ n < xs.length) (hs : PlainIx b := by exact fun _ _ => rfl) : EvQ X (.Subscript a b pos) Γ i (fun z Γ2 => ∃ n, R n Γ2 ∧ xs[n.toNat]? = some z) := by
  intro B Hb H σ τ Q hl R0 q
  refine we_of (pe_ix ix_list pe_we pe_we hs) (hl' B Hb H σ τ _ hl R0 fun v Hb1 H1 s1 R1 rv => hi B Hb1 H1 σ τ _ hl R1 fun n Γ2 u Hb2 H2 r s2 R2 ru => ?_)
  obtain ⟨p, vs, rfl, h1, h2⟩ := rv
  obtain ⟨b0, b1⟩ := h n Γ2 r
  have hx : xs[n.toNat]? = some xs[n.toNat] := List.getElem?_eq_getElem (by omega)
  obtain ⟨w, hw, rw'⟩ := paired_get h2 hx
  have e : n = ((n.toNat : Nat) : Int) := (Int.toNat_of_nonneg b0).symm
  exact ⟨p, vs, n, w, rfl, ru, SqL.of (R2.sub _ _ (s2 _ _ h1)), by rw [e]; exact atI_nat hw, q _ Γ2 w Hb2 H2 ⟨n, r, hx⟩ (s1.trans s2) R2 (i.mono s2 rw')⟩
end
end VS

set_option maxHeartbeats 2000000
set_option autoImplicit false
/-! VS13: == of data of any shape; an own object's type; owned lists let go. -/
namespace VS
open PySem L2
mutual
def toPy : Dat → PyData
  | .non => .none
  | .bl b => .bool b
  | .int n => .int n
  | .str s => .str s
  | .lst xs => .list (toPys xs)
  | .tup xs => .tuple (toPys xs)
def toPys : List Dat → List PyData
  | [] => []
  | d :: ds => toPy d :: toPys ds
end
mutual
theorem drp_dp {K : Fg} {Hb H : Hp} (s : Same Hb H) : ∀ (d : Dat) (v : V), drp K Hb d v → Dp K H v (toPy d)
  | .non, v, h => by unfold drp at h; subst h; unfold toPy; exact .non
  | .bl b, v, h => by unfold drp at h; subst h; unfold toPy; exact .bl b
  | .int n, v, h => by unfold drp at h; subst h; unfold toPy; exact .int n
  | .str t, v, h => by unfold drp at h; subst h; unfold toPy; exact .str t
  | .lst xs, v, h => by
    unfold drp at h; obtain ⟨a, vs, rfl, h2, h3⟩ := h; unfold toPy
    exact .lst (.of (s _ _ h2)) (drps_dp s xs vs h3)
  | .tup xs, v, h => by
    unfold drp at h; obtain ⟨a, vs, rfl, h2, h3⟩ := h; unfold toPy
    exact .tup (.of (s _ _ h2)) (drps_dp s xs vs h3)
theorem drps_dp {K : Fg} {Hb H : Hp} (s : Same Hb H) : ∀ (ds : List Dat) (vs : List V), drps K Hb ds vs → DpAll K H vs (toPys ds)
  | [], vs, h => by unfold drps at h; subst h; unfold toPys; exact .nil
  | d :: ds, vs, h => by
    unfold drps at h; obtain ⟨v, r, rfl, h2, h3⟩ := h; unfold toPys
    exact .cons (drp_dp s d v h2) (drps_dp s ds r h3)
end
def pyEq (d e : Dat) : Bool := PyData.eqv (toPy d) (toPy e)
section
variable {X : Cx} {W : WX} {d e : Dat}
theorem ov_eqD (hu : X.A.units + 64 < cLine) (h1 : SeqAt.shaped (toPy d) = true) (h2 : SeqAt.shaped (toPy e) = true) : OpV X (compareOp .Eq) rDat d rDat e rBool (pyEq d e) :=
  ⟨_, op_eqD hu, fun Hb H v u Q s rv ru q => ⟨toPy d, toPy e, drp_dp s d v rv, drp_dp s e u ru, h1, h2, q _ Hb H (Gw.refl s) rfl⟩⟩
theorem ov_neD (hu : X.A.units + 64 < cLine) (h1 : SeqAt.shaped (toPy d) = true) (h2 : SeqAt.shaped (toPy e) = true) : OpV X (compareOp .NotEq) rDat d rDat e rBool (!pyEq d e) :=
  ⟨_, op_neD hu, fun Hb H v u Q s rv ru q => ⟨toPy d, toPy e, drp_dp s d v rv, drp_dp s e u ru, h1, h2, q _ Hb H (Gw.refl s) rfl⟩⟩
theorem units_of {n : Nat} {A : Around} (h : Room n A) : A.units + 64 < cLine := by have := h.un; omega
end
/-- what isinstance asks of an own class's objects -/
structure InsK (K : Fg) (C : Addr) : Prop where
  ha : PySem.W.findIn K (.ref C) "__class__" = some (some (.builtin "object.__class__"))
  hn : PySem.W.specialIn K (.builtin "object.__class__") "__get__" = some (some (.builtin "getset_descriptor.__get__"))
  ht : PySem.W.takesIn K (.builtin "object.__class__") = some true
  hm : PySem.W.mroIn K C (.type "object") = some true
theorem ty_obj {K : Fg} {mg : Str → Option Value} {α : Type} {name : Str} {flds : α → List (Str × Ag)} {x : α} {C : Addr} (kl : Kls K mg name C) (ik : InsK K C) : Typ K (rObj name flds) x (.ref C) := fun Hb H v s ⟨p, C', dx, vs, h1, h2, h3, h4⟩ => by
  subst h1
  have e := kl.ns.eq h2
  subst e
  exact .base (.ins (s _ _ h3) kl.cl ik.ha ik.hn ik.ht ik.hm)
theorem kit_self {K : Fg} {t : Value} : PySem.W.kitOne K t t = some true := by
  unfold PySem.W.kitOne
  rw [if_pos (beq_self_eq_true t)]
section
variable {X : Cx} {W : WX} {sts : List Stmt} {Γ : Gam} {P : Out → Prop} {α : Type} {i : Rp α}
/-- an owned list of the def's own, from here on data -/
theorem sg_freeze (n : Nat) {l : Addr} {xs : List α} (h : SG X W sts (Γ.set n (.val (rList (r := i)) xs)) P) (e : Γ[n]? = some (.own false l (Res.lst i xs l)) := by rfl) : SG X W sts Γ P := fun B Hb H σ τ D hl R F => by
  obtain ⟨Hb', s, R', _⟩ := R.freeze e
  exact h B Hb' H σ τ D hl R' (F.later s)
end
/-! a < b < c < d as a test -/
def tChain3 (r r' r2 : R2) (ta tb tc td : TE) : TT := fun σ H Q => ta σ H fun x H1 => tb σ H1 fun y H2 => r x y H2 fun z H3 => ∃ k, z = .bl k ∧
  (if k = true then tc σ H3 fun w' H4 => r' y w' H4 fun z2 H5 => ∃ k2, z2 = .bl k2 ∧ (if k2 = true then td σ H5 fun w2 H6 => r2 w' w2 H6 fun z3 H7 => ∃ k3, z3 = .bl k3 ∧ Q k3 H7 else Q false H5) else Q false H3)
section
variable {X : Cx} {a b c d : Expr} {ta tb tc td : TE} {pos : Pos} {α β γ δ : Type} {i : Rp α} {j : Rp β} {k : Rp γ} {l : Rp δ} {x : α} {y : β} {z : γ} {u : δ} {Γ : Gam}
theorem pt_chain3 {op op' op2 : CmpOp} {r r' r2 : R2} (ho : OpR X (compareOp op) r) (ho' : OpR X (compareOp op') r') (ho2 : OpR X (compareOp op2) r2) (ha : PE X a ta) (hb : PE X b tb) (hc : PE X c tc) (hd : PE X d td)
    (hm : lastMarks [op, op', op2] [b, c, d] = false := by with_unfolding_all rfl) : PT X (.Compare a [op, op', op2] [b, c, d] pos) (tChain3 r r' r2 ta tb tc td) := by
  refine ⟨fun pins s σ H Q I h => ?_⟩
  refine PyProof.Rows.isTrue_chain (thn (ha.run pins s σ H _ I h) fun v s1 ⟨x, H1, I1, r1, q1⟩ => PyProof.Rows.test_link (thn (hb.run pins s1 σ H1 _ I1 q1) fun u s2 ⟨y, H2, I2, r2, q2⟩ =>
    thn (ho pins s2 σ H2 x y v u _ I2 r1 r2 q2) fun d s3 ⟨z, H3, I3, r3, k, e, q3⟩ => ?_)) hm
  subst e
  cases r3
  refine wpAny_truthy_bool ?_
  cases k with
  | false => exact PyProof.Rows.ite_ff ⟨H3, I3, q3⟩
  | true =>
    refine PyProof.Rows.ite_tt (PyProof.Rows.test_link (thn (hc.run pins s3 σ H3 _ I3 q3) fun w' s4 ⟨z', H4, I4, r4, q4⟩ => thn (ho' pins s4 σ H4 y z' u w' _ I4 r2 r4 q4) fun d' s5 ⟨z2, H5, I5, r5, k2, e2, q5⟩ => ?_))
    subst e2
    cases r5
    refine wpAny_truthy_bool ?_
    cases k2 with
    | false => exact PyProof.Rows.ite_ff ⟨H5, I5, q5⟩
    | true =>
      refine PyProof.Rows.ite_tt (PyProof.Rows.test_last (thn (hd.run pins s5 σ H5 _ I5 q5) fun w2 s6 ⟨z6, H6, I6, r6, q6⟩ => thn (ho2 pins s6 σ H6 z' z6 w' w2 _ I6 r4 r6 q6) fun d7 s7 ⟨z7, H7, I7, r7, k3, e3, q7⟩ => ?_))
      subst e3
      cases r7
      exact wpAny_truthy_bool ⟨H7, I7, q7⟩
theorem et_chain3 {op op' op2 : CmpOp} {t1 t2 t3 : Bool} (h1 : OpV X (compareOp op) i x j y rBool t1) (h2 : OpV X (compareOp op') j y k z rBool t2) (h3 : OpV X (compareOp op2) k z l u rBool t3) (ha : EvX X a Γ i x Γ) (hb : EvX X b Γ j y Γ) (hc : EvX X c Γ k z Γ) (hd : EvX X d Γ l u Γ)
    (hm : lastMarks [op, op', op2] [b, c, d] = false := by rfl) : EvT X (.Compare a [op, op', op2] [b, c, d] pos) Γ (t1 && t2 && t3) Γ := by
  intro B Hb H σ τ Q hl R q
  obtain ⟨r, ho, hr⟩ := h1
  obtain ⟨r', ho', hr'⟩ := h2
  obtain ⟨r2, ho2, hr2⟩ := h3
  refine wt_of (pt_chain3 ho ho' ho2 pe_we pe_we pe_we pe_we hm) (ha B Hb H σ τ _ hl R fun v Hb1 H1 s1 R1 rv => hb B Hb1 H1 σ τ _ hl R1 fun u' Hb2 H2 s2 R2 ru => ?_)
  refine hr Hb2 H2 v u' _ R2.sub (i.mono s2 rv) ru fun w Hb3 H3 g rw => ⟨t1, rw, ?_⟩
  cases t1 with
  | false => rw [if_neg Bool.false_ne_true]; exact q Hb3 H3 ((s1.trans s2).trans g.b) (R2.gw g)
  | true =>
    rw [if_pos rfl]
    refine hc B Hb3 H3 σ τ _ hl (R2.gw g) fun w' Hb4 H4 s4 R4 rw' => ?_
    refine hr' Hb4 H4 u' w' _ R4.sub (j.mono (g.b.trans s4) ru) rw' fun w2 Hb5 H5 g5 r5 => ⟨t2, r5, ?_⟩
    have s15 := ((((s1.trans s2).trans g.b).trans s4).trans g5.b)
    cases t2 with
    | false => rw [if_neg Bool.false_ne_true]; exact q Hb5 H5 s15 (R4.gw g5)
    | true =>
      rw [if_pos rfl]
      refine hd B Hb5 H5 σ τ _ hl (R4.gw g5) fun w3 Hb6 H6 s6 R6 r6 => ?_
      exact hr2 Hb6 H6 w' w3 _ R6.sub (k.mono (g5.b.trans s6) rw') r6 fun w4 Hb7 H7 g7 r7 => ⟨t3, r7, q Hb7 H7 ((s15.trans s6).trans g7.b) (R6.gw g7)⟩
end
theorem EvW.is {X : Cx} {e : Expr} {Γ Γ1 : Gam} {t t' : Bool} (h : EvW X e Γ t Γ1) (q : t = t') : EvW X e Γ t' Γ1 := by rw [← q]; exact h
theorem kit_ref {K : Fg} {t : Value} {C : Addr} {b : Bool} (hd : PySem.W.hasDictIn K C = true) (ty : PySem.W.typeIn K (.ref C) = some (.type "type")) (s : PySem.W.subIn K t (.ref C) = some b) (self : PySem.W.subIn K t t = some true) : PySem.W.kitOne K t (.ref C) = some b := by
  obtain ⟨cd, hc, _⟩ := PySem.W.any_some hd
  unfold PySem.W.kitOne
  cases q : (t == Value.ref C) with
  | true =>
    have e : t = .ref C := beq_iff_eq.mp q
    rw [if_pos rfl]
    rw [e] at s self
    rw [self] at s
    exact s
  | false =>
    rw [if_neg Bool.false_ne_true]
    show (if ((PySem.W.clsIn K C).isSome && PySem.W.typeIn K (.ref C) == some (.type "type")) = true then PySem.W.subIn K t (.ref C) else none) = some b
    rw [hc, ty]
    rw [if_pos (show ((some cd).isSome && some (Value.type "type") == some (Value.type "type")) = true by simp), s]
theorem kit_typ {K : Fg} {C : Addr} {T : String} {b : Bool} (s : PySem.W.subIn K (.ref C) (.type T) = some b) (m : PySem.W.kitMeta T = true := by decide +kernel) : PySem.W.kitOne K (.ref C) (.type T) = some b := by
  unfold PySem.W.kitOne
  rw [if_neg (show ¬ ((Value.ref C == Value.type T) = true) from Bool.false_ne_true)]
  show (if PySem.W.kitMeta T = true then PySem.W.subIn K (.ref C) (.type T) else none) = some b
  rw [if_pos m, s]
end VS

set_option maxHeartbeats 2000000
set_option autoImplicit false
namespace Law
open PySem L2 VS
def top (i : Nat) : Stmt := PySem.Challenge.pw_lampcrossings_k04_beats_windows.main.body.getD i (.Pass ⟨0, 0, 0, 0⟩)
abbrev s_wall : Stmt := top 0
abbrev N_wall : List Str := ["k"]
abbrev s_BadRow_init : Stmt := inClass (top 5) 0
abbrev N_BadRow_init : List Str := ["self", "place"]
abbrev s_is_length : Stmt := top 9
abbrev N_is_length : List Str := ["length"]
abbrev s_check_length : Stmt := top 10
abbrev N_check_length : List Str := ["length"]
abbrev s_check_same : Stmt := top 11
abbrev N_check_same : List Str := ["one", "other"]
abbrev s_turned_bits : Stmt := top 12
abbrev N_turned_bits : List Str := ["bits", "shift", "length", "every_bit"]
abbrev s_from_bits : Stmt := top 13
abbrev N_from_bits : List Str := ["length", "bits", "beat"]
abbrev s_Beats_init : Stmt := inClass (top 14) 0
abbrev N_Beats_init : List Str := ["self", "length", "members", "bits", "number", "beat"]
abbrev s_Beats_every : Stmt := inClass (top 14) 1
abbrev N_Beats_every : List Str := ["length"]
abbrev s_Beats_none : Stmt := inClass (top 14) 2
abbrev N_Beats_none : List Str := ["length"]
abbrev s_Beats_window : Stmt := inClass (top 14) 3
abbrev N_Beats_window : List Str := ["length", "low", "high", "last"]
abbrev s_Beats_len : Stmt := inClass (top 14) 4
abbrev N_Beats_len : List Str := ["self"]
abbrev s_Beats_iter : Stmt := inClass (top 14) 5
abbrev N_Beats_iter : List Str := ["self"]
abbrev s_Beats_contains : Stmt := inClass (top 14) 6
abbrev N_Beats_contains : List Str := ["self", "number"]
abbrev s_Beats_bool : Stmt := inClass (top 14) 7
abbrev N_Beats_bool : List Str := ["self"]
abbrev s_Beats_eq : Stmt := inClass (top 14) 8
abbrev N_Beats_eq : List Str := ["self", "other"]
abbrev s_Beats_within : Stmt := inClass (top 14) 9
abbrev N_Beats_within : List Str := ["self", "other"]
abbrev s_Beats_or : Stmt := inClass (top 14) 10
abbrev N_Beats_or : List Str := ["self", "other"]
abbrev s_Beats_and : Stmt := inClass (top 14) 11
abbrev N_Beats_and : List Str := ["self", "other"]
abbrev s_Beats_xor : Stmt := inClass (top 14) 12
abbrev N_Beats_xor : List Str := ["self", "other"]
abbrev s_Beats_invert : Stmt := inClass (top 14) 13
abbrev N_Beats_invert : List Str := ["self", "beat"]
abbrev s_Beats_add : Stmt := inClass (top 14) 14
abbrev N_Beats_add : List Str := ["self", "other", "bits", "beat"]
abbrev s_Beats_neg : Stmt := inClass (top 14) 15
abbrev N_Beats_neg : List Str := ["self", "beat"]
abbrev s_Beats_sub : Stmt := inClass (top 14) 16
abbrev N_Beats_sub : List Str := ["self", "other"]
abbrev s_Beats_rshift : Stmt := inClass (top 14) 17
abbrev N_Beats_rshift : List Str := ["self", "shift", "beat"]
abbrev s_Beats_lshift : Stmt := inClass (top 14) 18
abbrev N_Beats_lshift : List Str := ["self", "shift", "beat"]
abbrev s_Beats_mul : Stmt := inClass (top 14) 19
abbrev N_Beats_mul : List Str := ["self", "copies", "total", "_"]
abbrev s_Beats_rmul : Stmt := inClass (top 14) 20
abbrev N_Beats_rmul : List Str := ["self", "copies"]
abbrev s_Beats_mod : Stmt := inClass (top 14) 21
abbrev N_Beats_mod : List Str := ["self", "divisor"]
abbrev s_Beats_unfolded : Stmt := inClass (top 14) 22
abbrev N_Beats_unfolded : List Str := ["self", "copies"]
abbrev s_Beats_runs : Stmt := inClass (top 14) 23
abbrev N_Beats_runs : List Str := ["self"]
abbrev s_Beats_step : Stmt := inClass (top 14) 24
abbrev N_Beats_step : List Str := ["self"]
abbrev s_law_cell : Stmt := top 16
abbrev N_law_cell : List Str := ["script", "k"]
abbrev s_law_hand : Stmt := top 17
abbrev N_law_hand : List Str := ["script", "k", "cell"]
abbrev s_law_take : Stmt := top 18
abbrev N_law_take : List Str := ["hand", "many", "digit", "mixed"]
abbrev s_law_is_int : Stmt := top 19
abbrev N_law_is_int : List Str := ["got"]
abbrev s_law_same : Stmt := top 20
abbrev N_law_same : List Str := ["got", "due", "k"]
abbrev s_law_low : Stmt := top 21
abbrev N_law_low : List Str := ["hand", "length", "low"]
abbrev s_law_high : Stmt := top 22
abbrev N_law_high : List Str := ["hand", "length", "low", "way", "high"]
abbrev s_law_wrong : Stmt := top 23
abbrev N_law_wrong : List Str := ["hand", "way"]
abbrev s_law_has : Stmt := top 24
abbrev N_law_has : List Str := ["beats", "length", "due"]
abbrev s_law_made : Stmt := top 25
abbrev N_law_made : List Str := ["kind", "length", "low", "high"]
abbrev s_law_refused : Stmt := top 26
abbrev N_law_refused : List Str := ["kind", "length", "low", "high", "kinds", "e", "caught"]
abbrev s_law : Stmt := top 27
abbrev N_law : List Str := ["script", "hand", "length", "ends", "low", "high", "due", "window", "every", "none", "wider", "more", "wrong", "middle", "kind", "t"]
theorem sc_is_length : FnScope N_is_length ["length"] (defScope s_is_length) := ⟨rfl, rfl, rfl, by decide +kernel, rfl, by decide +kernel, by decide +kernel⟩
theorem sc_check_length : FnScope N_check_length ["length"] (defScope s_check_length) := ⟨rfl, rfl, rfl, by decide +kernel, rfl, by decide +kernel, by decide +kernel⟩
theorem sc_check_same : FnScope N_check_same ["one", "other"] (defScope s_check_same) := ⟨rfl, rfl, rfl, by decide +kernel, rfl, by decide +kernel, by decide +kernel⟩
theorem sc_Beats_init : FnScope N_Beats_init ["self", "length", "members"] (defScope s_Beats_init) := ⟨rfl, rfl, rfl, by decide +kernel, rfl, by decide +kernel, by decide +kernel⟩
theorem sc_Beats_every : FnScope N_Beats_every ["length"] (defScope s_Beats_every) := ⟨rfl, rfl, rfl, by decide +kernel, rfl, by decide +kernel, by decide +kernel⟩
theorem sc_Beats_none : FnScope N_Beats_none ["length"] (defScope s_Beats_none) := ⟨rfl, rfl, rfl, by decide +kernel, rfl, by decide +kernel, by decide +kernel⟩
theorem sc_Beats_window : FnScope N_Beats_window ["length", "low", "high"] (defScope s_Beats_window) := ⟨rfl, rfl, rfl, by decide +kernel, rfl, by decide +kernel, by decide +kernel⟩
theorem sc_Beats_len : FnScope N_Beats_len ["self"] (defScope s_Beats_len) := ⟨rfl, rfl, rfl, by decide +kernel, rfl, by decide +kernel, by decide +kernel⟩
theorem sc_Beats_iter : FnScope N_Beats_iter ["self"] (defScope s_Beats_iter) := ⟨rfl, rfl, rfl, by decide +kernel, rfl, by decide +kernel, by decide +kernel⟩
theorem sc_Beats_within : FnScope N_Beats_within ["self", "other"] (defScope s_Beats_within) := ⟨rfl, rfl, rfl, by decide +kernel, rfl, by decide +kernel, by decide +kernel⟩
theorem sc_law_cell : FnScope N_law_cell ["script", "k"] (defScope s_law_cell) := ⟨rfl, rfl, rfl, by decide +kernel, rfl, by decide +kernel, by decide +kernel⟩
theorem sc_law_hand : FnScope N_law_hand ["script", "k"] (defScope s_law_hand) := ⟨rfl, rfl, rfl, by decide +kernel, rfl, by decide +kernel, by decide +kernel⟩
theorem sc_law_take : FnScope N_law_take ["hand", "many"] (defScope s_law_take) := ⟨rfl, rfl, rfl, by decide +kernel, rfl, by decide +kernel, by decide +kernel⟩
theorem sc_law_is_int : FnScope N_law_is_int ["got"] (defScope s_law_is_int) := ⟨rfl, rfl, rfl, by decide +kernel, rfl, by decide +kernel, by decide +kernel⟩
theorem sc_law_same : FnScope N_law_same ["got", "due"] (defScope s_law_same) := ⟨rfl, rfl, rfl, by decide +kernel, rfl, by decide +kernel, by decide +kernel⟩
theorem sc_law_low : FnScope N_law_low ["hand", "length"] (defScope s_law_low) := ⟨rfl, rfl, rfl, by decide +kernel, rfl, by decide +kernel, by decide +kernel⟩
theorem sc_law_high : FnScope N_law_high ["hand", "length", "low"] (defScope s_law_high) := ⟨rfl, rfl, rfl, by decide +kernel, rfl, by decide +kernel, by decide +kernel⟩
theorem sc_law_wrong : FnScope N_law_wrong ["hand"] (defScope s_law_wrong) := ⟨rfl, rfl, rfl, by decide +kernel, rfl, by decide +kernel, by decide +kernel⟩
theorem sc_law_has : FnScope N_law_has ["beats", "length", "due"] (defScope s_law_has) := ⟨rfl, rfl, rfl, by decide +kernel, rfl, by decide +kernel, by decide +kernel⟩
theorem sc_law_made : FnScope N_law_made ["kind", "length", "low", "high"] (defScope s_law_made) := ⟨rfl, rfl, rfl, by decide +kernel, rfl, by decide +kernel, by decide +kernel⟩
theorem sc_law_refused : FnScope N_law_refused ["kind", "length", "low", "high"] (defScope s_law_refused) := ⟨rfl, rfl, rfl, by decide +kernel, rfl, by decide +kernel, by decide +kernel⟩
theorem sc_law : FnScope N_law ["script"] (defScope s_law) := ⟨rfl, rfl, rfl, by decide +kernel, rfl, by decide +kernel, by decide +kernel⟩
structure Blt (mg : Str → Option Value) : Prop where
  ValueError_ : mg "ValueError" = none
  abs_ : mg "abs" = none
  bool_ : mg "bool" = none
  int_ : mg "int" = none
  isinstance_ : mg "isinstance" = none
  iter_ : mg "iter" = none
  len_ : mg "len" = none
  list_ : mg "list" = none
  max_ : mg "max" = none
  min_ : mg "min" = none
  range_ : mg "range" = none
  staticmethod_ : mg "staticmethod" = none
  str_ : mg "str" = none
  super_ : mg "super" = none
  tuple_ : mg "tuple" = none

end Law

set_option maxHeartbeats 2000000
set_option autoImplicit false
namespace Law
open PySem L2 VS
section
variable {P : Program} {w : World} {K : Fg} {mg : Str → Option Value} {base : Heap} {f : Addr} {fd : FuncData}
/-! _law_cell -/
def cellV (xs : List Int) (k : Int) : Int := match xs[k.toNat]? with
  | some n => if n < 0 then -n else n
  | none => 0
theorem cellV_nn (xs : List Int) (k : Int) : 0 ≤ cellV xs k := by
  unfold cellV
  split
  · split <;> omega
  · omega
def S_cell : Cl → Prop := fun c => ∃ (xs : List Int) (k : Int), 0 ≤ k ∧ c = ⟨[.val rScr ⟨xs⟩, .val rInt k], detV rInt (cellV xs k) 2⟩
theorem ok_cell (F : Fun K "_law_cell" "_law_cell" s_law_cell f fd) (T : Blt mg) : FnOk P w K mg base (L2.CX P w) 1 f fd ["script", "k"] (spG K S_cell) := by
  refine fn_ok F sc_law_cell (by rintro c ⟨xs, k, h, rfl⟩; rfl) fun cdv A outer s H E c W hr hc tk po fl => ?_
  obtain ⟨xs, k, h0, rfl⟩ := hc
  refine sg_cons (s_if (et_cmp (ev_var 1) (ev_lenS T.len_ (ev_var 0)) ov_lt) (fun h => ?_) fun h => sg_nil ?_)
  · have h := of_decide_eq_true h
    have hk : k.toNat < xs.length := by omega
    refine sg_one (s_ret (ev_abs T.abs_ (ev_ixS (ev_var 0) (ev_var 1) h0 (List.getElem?_eq_getElem hk))) (end_v ?_))
    unfold cellV
    rw [List.getElem?_eq_getElem hk]
  · have h := of_decide_eq_false h
    have hk : xs.length ≤ k.toNat := by omega
    refine sg_one (s_ret ev_int (end_v ?_))
    unfold cellV
    rw [List.getElem?_eq_none hk]
/-! _law_hand -/
/-- a hand that has been asked at most t times -/
def HOk (t : Int) (h : List Int) : Prop := ∃ a b c d, h = [a, b, c, d] ∧ 0 ≤ a ∧ (b = 0 ∨ b = 1) ∧ 0 ≤ c ∧ c ≤ t ∧ 0 ≤ d ∧ d ≤ 3000000000
theorem HOk.mono {t u : Int} {h : List Int} (o : HOk t h) (k : t ≤ u) : HOk u h := by
  obtain ⟨a, b, c, d, e, h1, h2, h3, h4, h5⟩ := o
  exact ⟨a, b, c, d, e, h1, h2, h3, by omega, h5⟩
def handV (xs : List Int) (k : Int) : List Int := [cellV xs k, if decide (10 ^ (18 : Int).toNat ≤ cellV xs k) = true then 1 else 0, 0, cellV xs k % 2147483629 + 7 * k]
theorem handV_ok {xs : List Int} {k : Int} (h0 : 0 ≤ k) (h1 : k ≤ 1000000) : HOk 0 (handV xs k) := by
  refine ⟨_, _, _, _, rfl, cellV_nn _ _, ?_, Int.le_refl _, Int.le_refl _, ?_, ?_⟩
  · split <;> simp
  · have := Int.emod_nonneg (cellV xs k) (b := 2147483629) (by decide); omega
  · have := Int.emod_lt_of_pos (cellV xs k) (b := 2147483629) (by decide); omega
theorem mulW (a b : Nat) {i j : Int} (ha : i.natAbs < 2 ^ a) (hb : j.natAbs < 2 ^ b) (h0 : 0 < a := by decide) (h1 : 0 < b := by decide) (h : a + b ≤ 1000000 := by decide) : CMulW i j := wide_mul ha hb h0 h1 h
def S_hand : Cl → Prop := fun c => ∃ (xs : List Int) (k : Int), 0 ≤ k ∧ k ≤ 1000000 ∧ c = ⟨[.val rScr ⟨xs⟩, .val rInt k], detN (Res.lst rInt (handV xs k)) 2⟩
theorem ok_hand (F : Fun K "_law_hand" "_law_hand" s_law_hand f fd) (T : Blt mg) (d_cell : Def P w K mg base "_law_cell" 1 ["script", "k"] S_cell) : FnOk P w K mg base (L2.CX P w) 2 f fd ["script", "k"] (spG K S_hand) := by
  refine fn_ok F sc_law_hand (by rintro c ⟨xs, k, h, _, rfl⟩; rfl) fun cdv A outer s H E c W hr hc tk po fl => ?_
  obtain ⟨xs, k, h0, h1, rfl⟩ := hc
  refine sg_cons (s_asg 2 (ev_call d_cell hr (ea_v (ev_var 0) (ea_v (ev_var 1) (ea_nil ⟨rfl, True.intro, xs, k, h0, rfl⟩)))) ?_ sc_law_hand.nd)
  refine sg_one (s_retN (en_lst (els_cons (ev_var 2) (els_cons (ev_intB T.int_ (ev_cmp (ev_var 2) (ev_op ev_int ev_int (ov_pow ⟨by decide, by decide, by decide⟩)) ov_ge))
    (els_cons ev_int (els_cons (ev_op (ev_op (ev_intI T.int_ (ev_var 2)) ev_int (ov_mod (by decide))) (ev_op ev_int (ev_var 1) (ov_mul (mulW 3 40 (by decide) (by omega)))) ov_add) els_nil))))) fun l => end_n 3 (by decide) rfl)
/-! _law_take -/
def S_take : Cl → Prop := fun c => ∃ (l : Addr) (h : List Int) (many t : Int), HOk t h ∧ t ≤ 1000000000 ∧ 0 < many ∧ many.natAbs < 2 ^ 100 ∧
  c = ⟨[.own true l (Res.lst rInt h l), .val rInt many], relV rInt 0 l (fun x r => ∃ h', r = Res.lst rInt h' l ∧ HOk (t + 1) h' ∧ 0 ≤ x ∧ x < many) 2⟩
theorem ok_take (F : Fun K "_law_take" "_law_take" s_law_take f fd) (T : Blt mg) : FnOk P w K mg base (L2.CX P w) 1 f fd ["hand", "many"] (spG K S_take) := by
  refine fn_ok F sc_law_take (by rintro c ⟨l, h, many, t, _, _, _, _, rfl⟩; rfl) fun cdv A outer s H E c W hr hc tk po fl => ?_
  obtain ⟨l, h, many, t, ⟨a, b, c, d, rfl, ha, hb, hc0, hct, hd, hd2⟩, ht, hm, hm2, rfl⟩ := hc
  refine sg_cons (s_if (et_w (ew_and (et_cmp (ev_ixL (el_var 0) ev_int (by decide) rfl) ev_int ov_eqI) (fun _ => ew_and1 (et_cmp (ev_ixL (el_var 0) ev_int (by decide) rfl) ev_int ov_gt)))) (fun q => ?_) fun q => sg_nil ?_)
  · refine sg_cons (s_asg 2 (ev_op (ev_intI T.int_ (ev_ixL (el_var 0) ev_int (by decide) rfl)) (ev_var 1) (ov_mod hm)) ?_ sc_law_take.nd)
    refine sg_cons (s_setL 0 (ev_op (ev_ixL (el_var 0) ev_int (by decide) rfl) (ev_var 1) (ov_div (wide_div hm hm2 (by decide) (by decide)))) ev_int (by rfl) (by decide) (by show (0 : Int) < 4; decide) ?_)
    refine sg_one (s_ret (ev_var 2) (end_rel ?_))
    exact ⟨_, rfl, ⟨a / many, b, c, d, rfl, Int.ediv_nonneg ha (Int.le_of_lt hm), hb, hc0, by omega, hd, hd2⟩, Int.emod_nonneg _ (by omega), Int.emod_lt_of_pos _ hm⟩
  · refine sg_cons (s_setL 0 (ev_op (ev_ixL (el_var 0) ev_int (by decide) rfl) ev_int ov_add) ev_int (by rfl) (by decide) (by show (2 : Int) < 4; decide) ?_)
    refine sg_cons (s_asg 3 (ev_op (ev_intI T.int_ (ev_op (ev_op (ev_op (ev_ixL (el_var 0) ev_int (by decide) rfl) ev_int (ov_mul (mulW 40 40 (by omega) (by decide)))) (ev_op (ev_ixL (el_var 0) ev_int (by decide) rfl) ev_int (ov_mul (mulW 40 40 (by omega) (by decide)))) ov_add) ev_int ov_add)) ev_int (ov_mod (by decide))) ?_ sc_law_take.nd)
    generalize e1 : (d * 48271 + (c + 1) * 69621 + 12289) % 2147483647 = m1
    have b1 : 0 ≤ m1 ∧ m1 < 2147483647 := ⟨by rw [← e1]; exact Int.emod_nonneg _ (by decide), by rw [← e1]; exact Int.emod_lt_of_pos _ (by decide)⟩
    refine sg_cons (s_asg 3 (ev_op (ev_intI T.int_ (ev_op (ev_op (ev_op (ev_var 3) (ev_var 3) (ov_mul (mulW 40 40 (by omega) (by omega)))) (ev_op (ev_ixL (el_var 0) ev_int (by decide) rfl) ev_int (ov_mul (mulW 40 40 (by omega) (by decide)))) ov_add) ev_int ov_add)) ev_int (ov_mod (by decide))) ?_ sc_law_take.nd)
    generalize e2 : (m1 * m1 + (c + 1) * 3571 + 40692) % 2147483399 = m2
    have b2 : 0 ≤ m2 ∧ m2 < 2147483399 := ⟨by rw [← e2]; exact Int.emod_nonneg _ (by decide), by rw [← e2]; exact Int.emod_lt_of_pos _ (by decide)⟩
    refine sg_cons (s_asg 3 (ev_op (ev_intI T.int_ (ev_op (ev_op (ev_var 3) (ev_var 3) (ov_mul (mulW 40 40 (by omega) (by omega)))) (ev_op (ev_var 3) ev_int (ov_div (wide_div (b := 40) (by decide) (by decide) (by decide) (by decide)))) ov_add)) ev_int (ov_mod (by decide))) ?_ sc_law_take.nd)
    refine sg_one (s_ret (ev_op (ev_intI T.int_ (ev_op (ev_var 3) ev_int (ov_div (wide_div (b := 40) (by decide) (by decide) (by decide) (by decide))))) (ev_var 1) (ov_mod hm)) (end_rel ?_))
    exact ⟨_, rfl, ⟨a, b, c + 1, d, rfl, ha, hb, by omega, by omega, hd, hd2⟩, Int.emod_nonneg _ (by omega), Int.emod_lt_of_pos _ hm⟩
end
end Law

set_option maxHeartbeats 2000000
set_option autoImplicit false
namespace Law
open PySem L2 VS
theorem bor_nat (a b : Nat) : Builtin.bitOr (a : Int) (b : Int) = ((a ||| b : Nat) : Int) := by
  rw [bitOr_nn (Int.natCast_nonneg a) (Int.natCast_nonneg b), Int.toNat_natCast, Int.toNat_natCast]
theorem band_nat (a b : Nat) : Builtin.bitAnd (a : Int) (b : Int) = ((a &&& b : Nat) : Int) := by
  first | rfl | (unfold Builtin.bitAnd; rfl)
/-- a set of beats -/
structure Bt where
  n : Int
  m : Nat
def bmem (b : Bt) : List Int := (rg 0 b.n).filterMap fun x => if b.m.testBit x.toNat then some x else none
def fldsB (b : Bt) : List (Str × Ag) := [("length", .v rInt b.n), ("_bits", .v rInt (b.m : Int)), ("_beats", .v (rTup (r := rInt)) ⟨bmem b⟩)]
abbrev rB : Rp Bt := rObj "Beats" fldsB
abbrev badE : Er := ⟨"BadBeats", []⟩
def okN (n : Int) : Bool := decide (1 ≤ n) && decide (n ≤ 60)
theorem okN_iff {n : Int} : okN n = true ↔ 1 ≤ n ∧ n ≤ 60 := by unfold okN; simp
def S_isl : Cl → Prop := fun c => ∃ n : Int, c = ⟨[.val rInt n], detV rBool (okN n) 1⟩
def S_chk : Cl → Prop := fun c => ∃ n : Int, (okN n = true ∧ c = ⟨[.val rInt n], detV rNone () 1⟩) ∨ (okN n = false ∧ c = ⟨[.val rInt n], detE badE 1⟩)
section
variable {P : Program} {w : World} {K : Fg} {mg : Str → Option Value} {base : Heap} {f : Addr} {fd : FuncData} {CE CB : Addr}
theorem ok_isl (F : Fun K "is_length" "is_length" s_is_length f fd) {t : Tok} (g60 : mg "MOST_BEATS" = some (.int 60 t)) : FnOk P w K mg base (L2.CX P w) 1 f fd ["length"] (spG K S_isl) := by
  refine fn_ok F sc_is_length (by rintro c ⟨n, rfl⟩; rfl) fun cdv A outer s H E c W hr hc tk po fl => ?_
  obtain ⟨n, rfl⟩ := hc
  exact sg_one (s_ret (ev_chain ov_le (fun _ => ov_le) ⟨_, op_le⟩ ev_int (ev_var 0) (fun _ => ev_globI g60)) (end_v rfl))
theorem ok_chk (F : Fun K "check_length" "check_length" s_check_length f fd) (d_isl : Def P w K mg base "is_length" 1 ["length"] S_isl) (kE : ExcK K mg "BadBeats" CE) : FnOk P w K mg base (L2.CX P w) 2 f fd ["length"] (spG K S_chk) := by
  refine fn_ok F sc_check_length (by rintro c ⟨n, ⟨_, rfl⟩ | ⟨_, rfl⟩⟩ <;> rfl) fun cdv A outer s H E c W hr hc tk po fl => ?_
  obtain ⟨n, ⟨h, rfl⟩ | ⟨h, rfl⟩⟩ := hc
  · refine sg_one (s_if (et_not (et_val (ev_call d_isl hr (ea_v (ev_var 0) (ea_nil ⟨rfl, True.intro, n, rfl⟩))))) (fun q => ?_) fun q => sg_nil ?_)
    · rw [h] at q; cases q
    · exact ⟨_, ⟨rfl, rfl⟩, post_nos _, in_nos⟩
  · refine sg_one (s_if (et_not (et_val (ev_call d_isl hr (ea_v (ev_var 0) (ea_nil ⟨rfl, True.intro, n, rfl⟩))))) (fun q => sg_one (s_raise kE tk (end_e rfl))) fun q => ?_)
    rw [h] at q; cases q
/-- the mask of members -/
def maskOf (n : Int) (ms : List Int) : Nat := ms.foldl (fun b x => b ||| 2 ^ (x % n).toNat) 0
theorem maskOf_take {n : Int} {ms : List Int} {k : Nat} {x : Int} (h : ms[k]? = some x) : maskOf n (ms.take (k + 1)) = maskOf n (ms.take k) ||| 2 ^ (x % n).toNat := by
  unfold maskOf
  rw [List.take_succ, h, List.foldl_append]
  rfl
theorem bit_test (m : Nat) (x : Int) : Builtin.bitAnd ((m : Int) / 2 ^ x.toNat) 1 = if m.testBit x.toNat then 1 else 0 := by
  have e1 : ((m : Int) / 2 ^ x.toNat) = ((m / 2 ^ x.toNat : Nat) : Int) := by rw [Int.natCast_ediv, Int.natCast_pow]; rfl
  have e2 : (1 : Int) = ((1 : Nat) : Int) := rfl
  rw [e1, e2, band_nat, Nat.and_one_is_mod, Nat.testBit_eq_decide_div_mod_eq]
  rcases Nat.mod_two_eq_zero_or_one (m / 2 ^ x.toNat) with h | h <;> rw [h] <;> rfl
structure NaB (K : Fg) (C : Addr) : Prop where
  len : NoAttr K C "length"
  bits : NoAttr K C "_bits"
  beats : NoAttr K C "_beats"
def S_init : Cl → Prop := fun c => ∃ (l : Addr) (n : Int) (ms : List Int), ms.length ≤ 100000 ∧ ((okN n = true ∧ c = ⟨[.own true l (Res.obj "Beats" [] l), .val rInt n, .val (rList (r := rInt)) ms], initR "Beats" l (fldsB ⟨n, maskOf n ms⟩) 3⟩) ∨
  (okN n = false ∧ c = ⟨[.own true l (Res.obj "Beats" [] l), .val rInt n, .val (rList (r := rInt)) ms], detE badE 3⟩))
theorem ok_init (F : Fun K "__init__" "Beats.__init__" s_Beats_init f fd) (T : Blt mg) (d_chk : Def P w K mg base "check_length" 2 ["length"] S_chk) (kB : Kls K mg "Beats" CB) (na : NaB K CB) : FnOk P w K mg base (L2.CX P w) 3 f fd ["self", "length", "members"] (spG K S_init) := by
  refine fn_ok F sc_Beats_init (by rintro c ⟨l, n, ms, _, ⟨_, rfl⟩ | ⟨_, rfl⟩⟩ <;> rfl) fun cdv A outer s H E c W hr hc tk po fl => ?_
  obtain ⟨l, n, ms, hz, ⟨h, rfl⟩ | ⟨h, rfl⟩⟩ := hc
  · obtain ⟨h1, h2⟩ := okN_iff.mp h
    refine sg_cons (s_expr (ev_call d_chk hr (ea_v (ev_var 1) (ea_nil ⟨rfl, True.intro, n, .inl ⟨h, rfl⟩⟩))) ?_)
    refine sg_cons (s_asg 3 ev_int ?_ sc_Beats_init.nd)
    refine sg_cons (s_for (ei_list (ev_var 2)) po (fun k Γ => ∃ s, Γ = [.own true l (Res.obj "Beats" [] l), .val rInt n, .val (rList (r := rInt)) ms, .val rInt ((maskOf n (ms.take k) : Nat) : Int), s, .no]) ⟨.no, rfl⟩ (fun _ _ _ => True.intro) (fun k x Γk hx hI => ?_) (fun Γ' hI => ?_))
    · obtain ⟨s, rfl⟩ := hI
      have b1 : 0 ≤ x % n := Int.emod_nonneg _ (by omega)
      have b2 : x % n < n := Int.emod_lt_of_pos _ (by omega)
      refine ⟨_, tg_name 4 sc_Beats_init.nd, ?_⟩
      refine sg_one (s_asg 3 (ev_is (ev_op (ev_var 3) (ev_op ev_int (ev_op (ev_var 4) (ev_var 1) (ov_mod (by omega))) (ov_shl ⟨b1, by omega, by decide⟩)) ov_or) (x' := ((maskOf n (ms.take (k + 1)) : Nat) : Int)) ?_) ⟨_, rfl⟩ sc_Beats_init.nd)
      rw [maskOf_take hx, ← bor_nat]
      congr 1
      rw [Int.one_mul, Int.natCast_pow]; rfl
    · obtain ⟨s, rfl⟩ := hI
      rw [List.take_length]
      generalize hM : maskOf n ms = M
      refine sg_cons (s_fldO 0 (ev_var 1) kB na.len ?_)
      refine sg_cons (s_fldO 0 (ev_var 3) kB na.bits ?_)
      refine sg_one (s_fldO 0 (ev_tuple T.tuple_ (el_val (ev_new (en_lc (own := [("beat", 5)]) (j := rInt) (f := fun x => if M.testBit x.toNat then some x else none) (ei_range1 T.range_ (ev_var 1) (by omega) (by omega)) sc_Beats_init.nd (lc_name 5 sc_Beats_init.nd (fun s H C cl fp D ys x hx => ?_) (fun s H C cl fp D ys x y hx hf => ?_)) (hz := ?_))))) kB na.beats ?_)
      · refine ets_one (et_is (et_int (ev_op (ev_op (ev_var 3) (ev_var 5) (ov_shr (rg_mem.mp hx).1)) ev_int ov_and)) ?_)
        rw [bit_test]
        split <;> rfl
      · refine ev_is (ev_var 5) ?_
        split at hf
        · exact Option.some.inj hf
        · cases hf
      · rw [rg_len]; omega
      · subst hM
        exact end_nx (end_rel rfl)
  · refine sg_cons (s_exprE (ee_call d_chk tk hr (ea_v (ev_var 1) (ea_nil ⟨rfl, True.intro, n, .inr ⟨h, rfl⟩⟩))) ?_)
    exact end_e rfl
/-! the set of the beats from low to high -/
def S_every : Cl → Prop := fun c => ∃ n : Int, (okN n = true ∧ c = ⟨[.val rInt n], detV rB ⟨n, maskOf n (rg 0 n)⟩ 1⟩) ∨ (okN n = false ∧ c = ⟨[.val rInt n], detE badE 1⟩)
def S_none : Cl → Prop := fun c => ∃ n : Int, (okN n = true ∧ c = ⟨[.val rInt n], detV rB ⟨n, 0⟩ 1⟩) ∨ (okN n = false ∧ c = ⟨[.val rInt n], detE badE 1⟩)
def winV (n low high : Int) : List Int := rg low ((if low + n - 1 < high then low + n - 1 else high) + 1)
def wide (x : Int) : Prop := -100000000000 ≤ x ∧ x ≤ 100000000000
def S_window : Cl → Prop := fun c => ∃ n low high : Int, wide low ∧ wide high ∧ ((okN n = true ∧ c = ⟨[.val rInt n, .val rInt low, .val rInt high], detV rB ⟨n, maskOf n (winV n low high)⟩ 3⟩) ∨ (okN n = false ∧ c = ⟨[.val rInt n, .val rInt low, .val rInt high], detE badE 3⟩))
theorem ok_every (F : Fun K "every" "Beats.every" s_Beats_every f fd) (T : Blt mg) (d_chk : Def P w K mg base "check_length" 2 ["length"] S_chk) (d_init : DefI P w K mg base "Beats" CB 3 ["self", "length", "members"] S_init) (kB : Kls K mg "Beats" CB) : FnOk P w K mg base (L2.CX P w) 5 f fd ["length"] (spG K S_every) := by
  refine fn_ok F sc_Beats_every (by rintro c ⟨n, ⟨_, rfl⟩ | ⟨_, rfl⟩⟩ <;> rfl) fun cdv A outer s H E c W hr hc tk po fl => ?_
  obtain ⟨n, ⟨h, rfl⟩ | ⟨h, rfl⟩⟩ := hc
  · obtain ⟨h1, h2⟩ := okN_iff.mp h
    refine sg_cons (s_expr (ev_call d_chk (hr.mono (by decide)) (ea_v (ev_var 0) (ea_nil ⟨rfl, True.intro, n, .inl ⟨h, rfl⟩⟩))) ?_)
    refine sg_one (s_ret (ev_newO (x := (⟨n, maskOf n (rg 0 n)⟩ : Bt)) (en_make d_init kB hr (ea_v (ev_var 0) (ea_v (ev_new (en_listR1 T.list_ T.range_ (ev_var 0) ⟨by omega, by omega, by omega, by omega, by omega⟩)) (ea_nil ⟨rfl, True.intro, fun l => ⟨l, n, rg 0 n, ?_, .inl ⟨h, rfl⟩⟩⟩))))) (end_v rfl))
    rw [rg_len]; omega
  · exact sg_cons (s_exprE (ee_call d_chk tk (hr.mono (by decide)) (ea_v (ev_var 0) (ea_nil ⟨rfl, True.intro, n, .inr ⟨h, rfl⟩⟩))) (end_e rfl))
theorem ok_none (F : Fun K "none" "Beats.none" s_Beats_none f fd) (d_init : DefI P w K mg base "Beats" CB 3 ["self", "length", "members"] S_init) (kB : Kls K mg "Beats" CB) : FnOk P w K mg base (L2.CX P w) 5 f fd ["length"] (spG K S_none) := by
  refine fn_ok F sc_Beats_none (by rintro c ⟨n, ⟨_, rfl⟩ | ⟨_, rfl⟩⟩ <;> rfl) fun cdv A outer s H E c W hr hc tk po fl => ?_
  obtain ⟨n, ⟨h, rfl⟩ | ⟨h, rfl⟩⟩ := hc
  · exact sg_one (s_ret (ev_newO (x := (⟨n, maskOf n []⟩ : Bt)) (en_make d_init kB hr (ea_v (ev_var 0) (ea_v (ev_new (i := rInt) (en_lst els_nil)) (ea_nil ⟨rfl, True.intro, fun l => ⟨l, n, [], Nat.zero_le _, .inl ⟨h, rfl⟩⟩⟩))))) (end_v rfl))
  · exact sg_one (s_retX (ee_make d_init kB tk fl hr (ea_v (ev_var 0) (ea_v (ev_new (i := rInt) (en_lst els_nil)) (ea_nil ⟨rfl, True.intro, fun l => ⟨l, n, [], Nat.zero_le _, .inr ⟨h, rfl⟩⟩⟩)))) (end_e rfl))
theorem ok_window (F : Fun K "window" "Beats.window" s_Beats_window f fd) (T : Blt mg) (d_chk : Def P w K mg base "check_length" 2 ["length"] S_chk) (d_init : DefI P w K mg base "Beats" CB 3 ["self", "length", "members"] S_init) (kB : Kls K mg "Beats" CB) : FnOk P w K mg base (L2.CX P w) 5 f fd ["length", "low", "high"] (spG K S_window) := by
  refine fn_ok F sc_Beats_window (by rintro c ⟨n, low, high, _, _, ⟨_, rfl⟩ | ⟨_, rfl⟩⟩ <;> rfl) fun cdv A outer s H E c W hr hc tk po fl => ?_
  obtain ⟨n, low, high, ⟨w1, w2⟩, ⟨w3, w4⟩, ⟨h, rfl⟩ | ⟨h, rfl⟩⟩ := hc
  · obtain ⟨h1, h2⟩ := okN_iff.mp h
    refine sg_cons (s_expr (ev_call d_chk (hr.mono (by decide)) (ea_v (ev_var 0) (ea_nil ⟨rfl, True.intro, n, .inl ⟨h, rfl⟩⟩))) ?_)
    refine sg_cons (s_asg 3 (ev_min T.min_ (ev_var 2) (ev_op (ev_op (ev_var 1) (ev_var 0) ov_add) ev_int ov_sub)) ?_ sc_Beats_window.nd)
    have hlast : ∀ z, (if low + n - 1 < high then low + n - 1 else high) = z → z ≤ low + n - 1 ∧ -100000000000 ≤ z ∧ z ≤ 100000000000 := by
      intro z e; split at e <;> omega
    obtain ⟨l1, l2, l3⟩ := hlast _ rfl
    refine sg_one (s_ret (ev_newO (x := (⟨n, maskOf n (winV n low high)⟩ : Bt)) (en_make d_init kB hr (ea_v (ev_var 0) (ea_v (ev_new (en_listR2 T.list_ T.range_ (ev_var 1) (ev_op (ev_var 3) ev_int ov_add) ⟨by omega, by omega, by omega, by omega, by omega⟩)) (ea_nil ⟨rfl, True.intro, fun l => ⟨l, n, winV n low high, ?_, .inl ⟨h, rfl⟩⟩⟩))))) (end_v rfl))
    unfold winV
    rw [rg_len]; omega
  · exact sg_cons (s_exprE (ee_call d_chk tk (hr.mono (by decide)) (ea_v (ev_var 0) (ea_nil ⟨rfl, True.intro, n, .inr ⟨h, rfl⟩⟩))) (end_e rfl))
def S_len : Cl → Prop := fun c => ∃ b : Bt, c = ⟨[.val rB b], detV rInt ((bmem b).length : Int) 1⟩
def S_iter : Cl → Prop := fun c => ∃ b : Bt, c = ⟨[.val rB b], detN (Res.itr rInt (bmem b)) 1⟩
def S_within : Cl → Prop := fun c => ∃ a b : Bt, a.n = b.n ∧ c = ⟨[.val rB a, .val rB b], detV rBool (decide (a.m &&& b.m = a.m)) 2⟩
def S_same0 : Cl → Prop := fun c => ∃ a b : Bt, a.n = b.n ∧ c = ⟨[.val rB a, .val rB b], detV rNone () 2⟩
theorem ok_len (F : Fun K "__len__" "Beats.__len__" s_Beats_len f fd) (T : Blt mg) (kB : Kls K mg "Beats" CB) (na : NaB K CB) : FnOk P w K mg base (L2.CX P w) 1 f fd ["self"] (spG K S_len) := by
  refine fn_ok F sc_Beats_len (by rintro c ⟨b, rfl⟩; rfl) fun cdv A outer s H E c W hr hc tk po fl => ?_
  obtain ⟨b, rfl⟩ := hc
  exact sg_one (s_ret (ev_lenT (i := rInt) (xs := bmem b) T.len_ (ev_fld (ev_var 0) kB na.beats)) (end_v rfl))
theorem ok_iter (F : Fun K "__iter__" "Beats.__iter__" s_Beats_iter f fd) (T : Blt mg) (kB : Kls K mg "Beats" CB) (na : NaB K CB) : FnOk P w K mg base (L2.CX P w) 1 f fd ["self"] (spG K S_iter) := by
  refine fn_ok F sc_Beats_iter (by rintro c ⟨b, rfl⟩; rfl) fun cdv A outer s H E c W hr hc tk po fl => ?_
  obtain ⟨b, rfl⟩ := hc
  exact sg_one (s_retN (en_iter (i := rInt) (xs := bmem b) T.iter_ (ev_fld (ev_var 0) kB na.beats)) fun l => end_n 1 (by decide) rfl)
theorem ok_same0 (F : Fun K "check_same" "check_same" s_check_same f fd) (kB : Kls K mg "Beats" CB) (na : NaB K CB) : FnOk P w K mg base (L2.CX P w) 1 f fd ["one", "other"] (spG K S_same0) := by
  refine fn_ok F sc_check_same (by rintro c ⟨a, b, _, rfl⟩; rfl) fun cdv A outer s H E c W hr hc tk po fl => ?_
  obtain ⟨a, b, h, rfl⟩ := hc
  refine sg_one (s_if (et_cmp (ev_fld (j := rInt) (y := a.n) (ev_var 0) kB na.len) (ev_fld (j := rInt) (y := b.n) (ev_var 1) kB na.len) ov_neI) (fun q => ?_) fun q => sg_nil ?_)
  · simp [h] at q
  · exact ⟨_, ⟨rfl, rfl⟩, post_nos _, in_nos⟩
theorem ok_within (F : Fun K "within" "Beats.within" s_Beats_within f fd) (d_same : Def P w K mg base "check_same" 1 ["one", "other"] S_same0) (kB : Kls K mg "Beats" CB) (na : NaB K CB) : FnOk P w K mg base (L2.CX P w) 2 f fd ["self", "other"] (spG K S_within) := by
  refine fn_ok F sc_Beats_within (by rintro c ⟨a, b, _, rfl⟩; rfl) fun cdv A outer s H E c W hr hc tk po fl => ?_
  obtain ⟨a, b, h, rfl⟩ := hc
  refine sg_cons (s_expr (ev_call d_same hr (ea_v (ev_var 0) (ea_v (ev_var 1) (ea_nil ⟨rfl, True.intro, a, b, h, rfl⟩)))) ?_)
  refine sg_one (s_ret (ev_cmp (ev_op (ev_fld (j := rInt) (y := (a.m : Int)) (ev_var 0) kB na.bits) (ev_fld (j := rInt) (y := (b.m : Int)) (ev_var 1) kB na.bits) ov_and) (ev_fld (j := rInt) (y := (a.m : Int)) (ev_var 0) kB na.bits) ov_eqI) (end_v ?_))
  rw [band_nat]
  exact decide_eq_decide.mpr (by omega)
end
end Law

set_option maxHeartbeats 2000000
set_option autoImplicit false
namespace Law
open PySem L2 VS
section
variable {P : Program} {w : World} {K : Fg} {mg : Str → Option Value} {base : Heap} {f : Addr} {fd : FuncData} {CE CB : Addr}
/-! _law_is_int, _law_same -/
def isI : Dat → Bool
  | .int _ => true
  | _ => false
def S_isint : Cl → Prop := fun c => ∃ d : Dat, c = ⟨[.val rDat d], detV rBool (isI d) 1⟩
theorem ok_isint (F : Fun K "_law_is_int" "_law_is_int" s_law_is_int f fd) (T : Blt mg) : FnOk P w K mg base (L2.CX P w) 1 f fd ["got"] (spG K S_isint) := by
  refine fn_ok F sc_law_is_int (by rintro c ⟨d, rfl⟩; rfl) fun cdv A outer s H E c W hr hc tk po fl => ?_
  obtain ⟨d, rfl⟩ := hc
  refine sg_one (s_ret (ev_and (ev_isi T.isinstance_ (ev_var 0) (ty_dat d) (nc_ty T.int_) (kd_int d)) (fun _ => ev_one (ev_not (ev_isi T.isinstance_ (ev_var 0) (ty_dat d) (nc_ty T.bool_) (kd_bool d))))) (end_v ?_))
  cases d <;> rfl
def S_same (n : Nat) : Cl → Prop := fun c => ∃ d : Dat, dep d ≤ n ∧ big d ≤ 100000 ∧ c = ⟨[.val rDat d, .val rDat d], detV rBool true 2⟩
theorem ok_same1 (F : Fun K "_law_same" "_law_same" s_law_same f fd) (T : Blt mg) (d_isint : Def P w K mg base "_law_is_int" 1 ["got"] S_isint) (n : Nat) (ih : ∀ m, n = m + 1 → Def P w K mg base "_law_same" (m + 2) ["got", "due"] (S_same m)) :
    FnOk P w K mg base (L2.CX P w) (n + 2) f fd ["got", "due"] (spG K (S_same n)) := by
  refine fn_ok F sc_law_same (by rintro c ⟨d, _, _, rfl⟩; rfl) fun cdv A outer s H E c W hr hc tk po fl => ?_
  obtain ⟨d, hd, hb, rfl⟩ := hc
  refine sg_cons (s_if (et_isNone (ev_var 1) (dat_none d)) (fun q => ?_) fun q1 => sg_nil ?_)
  · refine sg_one (s_ret (ev_isNone (ev_var 0) (dat_none d)) (end_v q))
  refine sg_cons (s_if (et_w (ew_or (et_isBl (ev_var 1) (dat_bl true d)) fun _ => ew_or1 (et_isBl (ev_var 1) (dat_bl false d)))) (fun q => ?_) fun q2 => sg_nil ?_)
  · obtain ⟨b, rfl⟩ : ∃ b, d = .bl b := by cases d <;> first | exact ⟨_, rfl⟩ | cases q
    refine sg_one (s_ret (ev_and (ev_isi T.isinstance_ (ev_var 0) (ty_dat _) (nc_ty T.bool_) (kd_bool _)) (fun _ => ev_one (ev_cmp (ev_unB (ev_var 0)) (ev_unB (ev_var 1)) ov_eqB))) (end_v ?_))
    simp [isT]
  refine sg_cons (s_if (et_val (ev_isi T.isinstance_ (ev_var 1) (ty_dat d) (nc_ty T.int_) (kd_int d))) (fun q => ?_) fun q3 => sg_nil ?_)
  · obtain ⟨m, rfl⟩ : ∃ m, d = .int m := by
      cases d with
      | int m => exact ⟨_, rfl⟩
      | bl b => cases b <;> cases q2
      | _ => cases q
    refine sg_one (s_ret (ev_and (ev_call d_isint (hr.mono (by omega)) (ea_v (ev_var 0) (ea_nil ⟨rfl, True.intro, _, rfl⟩))) (fun _ => ev_one (ev_cmp (ev_unI (ev_var 0)) (ev_unI (ev_var 1)) ov_eqI))) (end_v ?_))
    simp [isI]
  refine sg_cons (s_if (et_val (ev_isi T.isinstance_ (ev_var 1) (ty_dat d) (nc_ty T.str_) (kd_str d))) (fun q => ?_) fun q4 => sg_nil ?_)
  · obtain ⟨m, rfl⟩ : ∃ m, d = .str m := by cases d <;> first | exact ⟨_, rfl⟩ | cases q
    refine sg_one (s_ret (ev_and (ev_isi T.isinstance_ (ev_var 0) (ty_dat _) (nc_ty T.str_) (kd_str _)) (fun _ => ev_one (ev_cmp (ev_unS (ev_var 0)) (ev_unS (ev_var 1)) ov_eqStr))) (end_v ?_))
    simp [isT]
  refine sg_cons (s_if (et_w (ew_and (et_val (ev_isi T.isinstance_ (ev_var 1) (ty_dat d) (nc_ty T.tuple_) (kd_tuple d))) fun _ => ew_and1 (et_not (et_val (ev_isi T.isinstance_ (ev_var 0) (ty_dat d) (nc_ty T.tuple_) (kd_tuple d)))))) (fun q => ?_) fun q5 => sg_nil ?_)
  · cases h : isT d "tuple" <;> rw [h] at q <;> cases q
  refine sg_cons (s_if (et_w (ew_and (et_val (ev_isi T.isinstance_ (ev_var 1) (ty_dat d) (nc_ty T.list_) (kd_list d))) fun _ => ew_and1 (et_not (et_val (ev_isi T.isinstance_ (ev_var 0) (ty_dat d) (nc_ty T.list_) (kd_list d)))))) (fun q => ?_) fun q6 => sg_nil ?_)
  · cases h : isT d "list" <;> rw [h] at q <;> cases q
  obtain ⟨xs, e⟩ : ∃ xs, d = .lst xs ∨ d = .tup xs := by
    cases d with
    | lst xs => exact ⟨xs, .inl rfl⟩
    | tup xs => exact ⟨xs, .inr rfl⟩
    | bl b => cases b <;> cases q2
    | non => cases q1
    | int _ => cases q3
    | str _ => cases q4
  have hx0 : xs.length ≤ 100000 ∧ ∃ m, n = m + 1 ∧ (∀ y, y ∈ xs → dep y ≤ m) ∧ ∀ y, y ∈ xs → big y ≤ 100000 := by
    have h1 : deps xs + 1 ≤ n := by rcases e with rfl | rfl <;> (unfold dep at hd; exact hd)
    have h2 : max xs.length (bigs xs) ≤ 100000 := by rcases e with rfl | rfl <;> (unfold big at hb; exact hb)
    refine ⟨by omega, n - 1, by omega, fun y hy => ?_, fun y hy => ?_⟩
    · have := dep_mem hy; omega
    · have := big_mem hy; omega
  obtain ⟨hx1, m, hm, hx2, hx3⟩ := hx0
  have d_same := ih m hm
  rcases e with rfl | rfl
  · refine sg_cons (s_if (et_cmp (ev_lenL T.len_ (el_val (ev_unL (ev_var 0)))) (ev_lenL T.len_ (el_val (ev_unL (ev_var 1)))) ov_neI) (fun q => ?_) fun q7 => sg_nil ?_)
    · simp at q
    refine sg_cons (s_for (ei_range1 T.range_ (ev_lenL T.len_ (el_val (ev_unL (ev_var 1)))) (by omega) (by omega)) po (fun k Γ => ∃ s, Γ = [.val rDat (.lst xs), .val rDat (.lst xs), s]) ⟨.no, rfl⟩ (fun _ _ _ => True.intro) (fun k x Γk hx hI => ?_) (fun Γ' hI => ?_))
    · obtain ⟨s, rfl⟩ := hI
      obtain ⟨hk, rfl⟩ := rg_get.mp hx
      have hk' : k < xs.length := by omega
      have hxs : xs[((0 : Int) + (k : Nat)).toNat]? = some xs[k] := by rw [show ((0 : Int) + (k : Nat)).toNat = k by omega]; exact List.getElem?_eq_getElem hk'
      have hmem := List.getElem_mem hk'
      refine ⟨_, tg_name 2 sc_law_same.nd, ?_⟩
      refine sg_one (s_if (et_not (et_val (ev_call d_same (hr.mono (by omega)) (ea_v (ev_ixL (el_val (ev_unL (ev_var 0))) (ev_var 2) (by omega) hxs) (ea_v (ev_ixL (el_val (ev_unL (ev_var 1))) (ev_var 2) (by omega) hxs) (ea_nil ⟨rfl, True.intro, xs[k], hx2 _ hmem, hx3 _ hmem, rfl⟩)))))) (fun q => ?_) fun _ => sg_nil ⟨_, rfl⟩)
      cases q
    · obtain ⟨s, rfl⟩ := hI
      exact sg_one (s_ret ev_bl (end_v rfl))
  · refine sg_cons (s_if (et_cmp (ev_lenT T.len_ (ev_unT (ev_var 0))) (ev_lenT T.len_ (ev_unT (ev_var 1))) ov_neI) (fun q => ?_) fun q7 => sg_nil ?_)
    · simp at q
    refine sg_cons (s_for (ei_range1 T.range_ (ev_lenT T.len_ (ev_unT (ev_var 1))) (by omega) (by omega)) po (fun k Γ => ∃ s, Γ = [.val rDat (.tup xs), .val rDat (.tup xs), s]) ⟨.no, rfl⟩ (fun _ _ _ => True.intro) (fun k x Γk hx hI => ?_) (fun Γ' hI => ?_))
    · obtain ⟨s, rfl⟩ := hI
      obtain ⟨hk, rfl⟩ := rg_get.mp hx
      have hk' : k < xs.length := by omega
      have hxs : xs[((0 : Int) + (k : Nat)).toNat]? = some xs[k] := by rw [show ((0 : Int) + (k : Nat)).toNat = k by omega]; exact List.getElem?_eq_getElem hk'
      have hmem := List.getElem_mem hk'
      refine ⟨_, tg_name 2 sc_law_same.nd, ?_⟩
      refine sg_one (s_if (et_not (et_val (ev_call d_same (hr.mono (by omega)) (ea_v (ev_ixT (ev_unT (ev_var 0)) (ev_var 2) (by omega) hxs) (ea_v (ev_ixT (ev_unT (ev_var 1)) (ev_var 2) (by omega) hxs) (ea_nil ⟨rfl, True.intro, xs[k], hx2 _ hmem, hx3 _ hmem, rfl⟩)))))) (fun q => ?_) fun _ => sg_nil ⟨_, rfl⟩)
      cases q
    · obtain ⟨s, rfl⟩ := hI
      exact sg_one (s_ret ev_bl (end_v rfl))
theorem ok_same (F : Fun K "_law_same" "_law_same" s_law_same f fd) (T : Blt mg) (d_isint : Def P w K mg base "_law_is_int" 1 ["got"] S_isint) (mk : ∀ n S, FnOk P w K mg base (L2.CX P w) n f fd ["got", "due"] (spG K S) → Def P w K mg base "_law_same" n ["got", "due"] S) :
    ∀ n, FnOk P w K mg base (L2.CX P w) (n + 2) f fd ["got", "due"] (spG K (S_same n))
  | 0 => ok_same1 F T d_isint 0 fun m e => by omega
  | n + 1 => ok_same1 F T d_isint (n + 1) fun m e => by
    obtain rfl : m = n := by omega
    exact mk _ _ (ok_same F T d_isint mk m)
end
end Law

set_option maxHeartbeats 2000000
set_option autoImplicit false
namespace Law
open PySem L2 VS
section
variable {X : Cx} {e : Expr} {Γ : Gam} {p p1 pos : Pos} {nm : Str}
/-- a draw from the hand in slot b -/
theorem eq_take (b : Nat) {p0 : Bool} {l : Addr} {h : List Int} {t many : Int} (d : Def X.prog X.w X.K X.mg X.base "_law_take" 1 ["hand", "many"] S_take) (hr : Room 1 X.A) (hm : EvX X e Γ rInt many Γ) (ho : HOk t h) (ht : t ≤ 1000000000) (h0 : 0 < many) (h1 : many.natAbs < 2 ^ 100)
    (hs : Γ[b]? = some (.own p0 l (Res.lst rInt h l)) := by rfl) (hN : X.N[b]? = some nm := by rfl) (hv : Vis X.env.scope nm := by first | exact Or.inl rfl | exact Or.inr (Or.inl rfl) | exact Or.inr (Or.inr rfl)) (hd : (nm == ("__debug__" : Str)) = false := by decide) (hcd : (nm == ("__classdict__" : Str)) = false := by decide)
    (hg : Gl X "_law_take" := by rfl) (he : starEach [.Name nm p1, e] X.env = (false, eval (.Name nm p1) X.env) :: starEach [e] X.env := by rfl) (he2 : starEach [e] X.env = (false, eval e X.env) :: starEach [] X.env := by rfl) (hpl : (backTo pos (starEach [e] X.env)).any (·.1) = false := by rfl) :
    EvQ X (.Call (.Name "_law_take" p) [.Name nm p1, e] [] pos) Γ rInt (fun x Γ' => ∃ h', HOk (t + 1) h' ∧ 0 ≤ x ∧ x < many ∧ Γ' = Γ.set b (.own p0 l (Res.lst rInt h' l))) := by
  refine eq_imp (eq_call1 (Rr := fun x r => ∃ h', r = Res.lst rInt h' l ∧ HOk (t + 1) h' ∧ 0 ≤ x ∧ x < many) 0 b d hr (ea_r (er_var b hN hs hv hd hcd) (ea_v hm (ea_nil ⟨rfl, ⟨rfl, True.intro⟩, l, h, many, t, ho, ht, h0, h1, rfl⟩) he2) he) hs rfl hg (by decide) he hpl) fun x Γ' ⟨r', ⟨h', e1, e2, e3, e4⟩, e5⟩ => ⟨h', e2, e3, e4, by rw [e5, e1]⟩
end
section
variable {P : Program} {w : World} {K : Fg} {mg : Str → Option Value} {base : Heap} {f : Addr} {fd : FuncData} {CE CB : Addr}
def S_low : Cl → Prop := fun c => ∃ (l : Addr) (h : List Int) (n t : Int), HOk t h ∧ t ≤ 1000000 ∧ okN n = true ∧
  c = ⟨[.own true l (Res.lst rInt h l), .val rInt n], relV rInt 0 l (fun x r => ∃ h', r = Res.lst rInt h' l ∧ HOk (t + 4) h' ∧ -1000000000 ≤ x ∧ x ≤ 1000000000) 2⟩
theorem ok_low (F : Fun K "_law_low" "_law_low" s_law_low f fd) (d_take : Def P w K mg base "_law_take" 1 ["hand", "many"] S_take) : FnOk P w K mg base (L2.CX P w) 2 f fd ["hand", "length"] (spG K S_low) := by
  refine fn_ok F sc_law_low (by rintro c ⟨l, h, n, t, _, _, _, rfl⟩; rfl) fun cdv A outer s H E c W hr hc tk po fl => ?_
  obtain ⟨l, h, n, t, ho, ht, hn, rfl⟩ := hc
  obtain ⟨n1, n2⟩ := okN_iff.mp hn
  refine sg_cons (s_asgQ 2 (eq_take 0 d_take hr (ev_op (ev_op ev_int (ev_var 1) (ov_mul (mulW 40 40 (by decide) (by omega)))) ev_int ov_add) ho (by omega) (by omega) (by omega)) (fun x Γ1 hq => ?_) sc_law_low.nd)
  obtain ⟨h1, o1, b1, b2, rfl⟩ := hq
  refine sg_cons (S1.imp (P' := fun o => ∃ h2 y, HOk (t + 3) h2 ∧ 0 ≤ y ∧ y ≤ 1000000000 ∧ o = .nx [.own true l (Res.lst rInt h2 l), .val rInt n, .val rInt y]) (s_ifQ (etq_cmpL (eq_take 0 d_take hr ev_int o1 (by omega) (by decide) (by decide)) (fun _ _ _ => ev_int) (fun _ _ _ => ov_eqI)) (fun Γ' hq => ?_) (fun Γ' hq => ?_)) fun o ho => ?_)
  · obtain ⟨y, ⟨h2, o2, c1, c2, rfl⟩, _⟩ := hq
    exact sg_one (s_asgQ 2 (eq_take 0 d_take hr (ev_op (ev_is (ev_op ev_int ev_int (ov_pow ⟨by decide, by decide, by decide⟩)) (x' := 1000000000) (by rfl)) ev_int ov_add) o2 (by omega) (by decide) (by decide)) (fun z Γ3 hq => by obtain ⟨h3, o3, d1, d2, e⟩ := hq; exact ⟨h3, z, o3.mono (by omega), d1, by omega, by rw [e]; rfl⟩) sc_law_low.nd)
  · obtain ⟨y, ⟨h2, o2, c1, c2, rfl⟩, _⟩ := hq
    exact sg_nil ⟨h2, x, o2.mono (by omega), b1, by omega, rfl⟩
  obtain ⟨h2, y, o2, c1, c2, rfl⟩ := ho
  refine sg_cons (S1.imp (P' := fun o => ∃ h3 y, HOk (t + 4) h3 ∧ -1000000000 ≤ y ∧ y ≤ 1000000000 ∧ o = .nx [.own true l (Res.lst rInt h3 l), .val rInt n, .val rInt y]) (s_ifQ (etq_cmpL (eq_take 0 d_take hr ev_int o2 (by omega) (by decide) (by decide)) (fun _ _ _ => ev_int) (fun _ _ _ => ov_eqI)) (fun Γ' hq => ?_) (fun Γ' hq => ?_)) fun o ho => ?_)
  · obtain ⟨z, ⟨h3, o3, d1, d2, rfl⟩, _⟩ := hq
    exact sg_one (s_asg 2 (ev_op ev_int (ev_var 2) ov_sub) ⟨h3, 0 - y, o3.mono (by omega), by omega, by omega, rfl⟩ sc_law_low.nd)
  · obtain ⟨z, ⟨h3, o3, d1, d2, rfl⟩, _⟩ := hq
    exact sg_nil ⟨h3, y, o3.mono (by omega), by omega, by omega, rfl⟩
  obtain ⟨h3, z, o3, d1, d2, rfl⟩ := ho
  exact sg_one (s_ret (ev_var 2) (end_rel ⟨h3, rfl, o3, d1, d2⟩))
def S_high : Cl → Prop := fun c => ∃ (l : Addr) (h : List Int) (n low t : Int), HOk t h ∧ t ≤ 1000000 ∧ okN n = true ∧ -1000000000 ≤ low ∧ low ≤ 1000000000 ∧
  c = ⟨[.own true l (Res.lst rInt h l), .val rInt n, .val rInt low], relV rInt 0 l (fun x r => ∃ h', r = Res.lst rInt h' l ∧ HOk (t + 10) h' ∧ -1000000000 ≤ x ∧ x ≤ 1000000000) 3⟩
theorem ok_high (F : Fun K "_law_high" "_law_high" s_law_high f fd) (T : Blt mg) (d_take : Def P w K mg base "_law_take" 1 ["hand", "many"] S_take) : FnOk P w K mg base (L2.CX P w) 2 f fd ["hand", "length", "low"] (spG K S_high) := by
  refine fn_ok F sc_law_high (by rintro c ⟨l, h, n, low, t, _, _, _, _, _, rfl⟩; rfl) fun cdv A outer s H E c W hr hc tk po fl => ?_
  obtain ⟨l, h, n, low, t, ho, ht, hn, w1, w2, rfl⟩ := hc
  obtain ⟨n1, n2⟩ := okN_iff.mp hn
  refine sg_cons (s_asgQ 3 (eq_take 0 d_take hr ev_int ho (by omega) (by decide) (by decide)) (fun way Γ1 hq => ?_) sc_law_high.nd)
  obtain ⟨h1, o1, a1, a2, rfl⟩ := hq
  refine sg_cons (s_asgQ 4 (eq_opL (f := fun z => z - 3) (eq_opR (f := fun z => low + z) (ev_var 2) (eq_take 0 d_take hr ev_int o1 (by omega) (by decide) (by decide)) (fun _ _ _ => ov_add)) (fun _ _ _ => ev_int) (fun _ _ _ => ov_sub)) (fun high Γ2 hq => ?_) sc_law_high.nd)
  obtain ⟨z1, ⟨z2, ⟨h2, o2, b1, b2, rfl⟩, rfl⟩, rfl⟩ := hq
  -- way < 3
  refine sg_cons (S1.imp (P' := fun o => ∃ h3 y, HOk (t + 3) h3 ∧ wide y ∧ o = .nx [.own true l (Res.lst rInt h3 l), .val rInt n, .val rInt low, .val rInt way, .val rInt y]) (s_if (et_cmp (ev_var 3) ev_int ov_lt) (fun _ => ?_) (fun _ => ?_)) fun o ho => ?_)
  · exact sg_one (s_asgQ 4 (eq_opR (f := fun z => low + n - 2 + z) (ev_op (ev_op (ev_var 2) (ev_var 1) ov_add) ev_int ov_sub) (eq_take 0 d_take hr ev_int o2 (by omega) (by decide) (by decide)) (fun _ _ _ => ov_add)) (fun z Γ3 hq => by obtain ⟨y, ⟨h3, o3, d1, d2, e⟩, e2⟩ := hq; exact ⟨h3, z, o3.mono (by omega), ⟨by omega, by omega⟩, by rw [e]; rfl⟩) sc_law_high.nd)
  · exact sg_nil ⟨h2, _, o2.mono (by omega), ⟨by omega, by omega⟩, rfl⟩
  obtain ⟨h3, y3, o3, ⟨c1, c2⟩, rfl⟩ := ho
  -- way == 3
  refine sg_cons (S1.imp (P' := fun o => ∃ h3 y, HOk (t + 6) h3 ∧ wide y ∧ o = .nx [.own true l (Res.lst rInt h3 l), .val rInt n, .val rInt low, .val rInt way, .val rInt y]) (s_if (et_cmp (ev_var 3) ev_int ov_eqI) (fun _ => ?_) (fun _ => ?_)) fun o ho => ?_)
  · refine sg_cons (s_asgQ 4 (eq_opR (f := fun z => low + z) (ev_var 2) (eq_take 0 d_take hr ev_int o3 (by omega) (by decide) (by decide)) (fun _ _ _ => ov_add)) (fun z Γ3 hq => ?_) sc_law_high.nd)
    obtain ⟨y, ⟨h4, o4, d1, d2, rfl⟩, rfl⟩ := hq
    refine sg_one (s_ifQ (etq_cmpL (eq_take 0 d_take hr ev_int o4 (by omega) (by decide) (by decide)) (fun _ _ _ => ev_int) (fun _ _ _ => ov_eqI)) (fun Γ' hq => ?_) (fun Γ' hq => ?_))
    · obtain ⟨q, ⟨h5, o5, _, _, rfl⟩, _⟩ := hq
      exact sg_one (s_asgQ 4 (eq_opR (f := fun z => low + 5001 + z) (ev_op (ev_var 2) ev_int ov_add) (eq_take 0 d_take hr ev_int o5 (by omega) (by decide) (by decide)) (fun _ _ _ => ov_add)) (fun z Γ3 hq => by obtain ⟨y, ⟨h6, o6, g1, g2, e⟩, e2⟩ := hq; exact ⟨h6, z, o6.mono (by omega), ⟨by omega, by omega⟩, by rw [e]; rfl⟩) sc_law_high.nd)
    · obtain ⟨q, ⟨h5, o5, _, _, rfl⟩, _⟩ := hq
      exact sg_nil ⟨h5, _, o5.mono (by omega), ⟨by omega, by omega⟩, rfl⟩
  · exact sg_nil ⟨h3, y3, o3.mono (by omega), ⟨c1, c2⟩, rfl⟩
  obtain ⟨h4, y4, o4, ⟨e1, e2⟩, rfl⟩ := ho
  -- way == 4
  refine sg_cons (S1.imp (P' := fun o => ∃ h3 y, HOk (t + 7) h3 ∧ wide y ∧ o = .nx [.own true l (Res.lst rInt h3 l), .val rInt n, .val rInt low, .val rInt way, .val rInt y]) (s_if (et_cmp (ev_var 3) ev_int ov_eqI) (fun _ => ?_) (fun _ => ?_)) fun o ho => ?_)
  · exact sg_one (s_asgQ 4 (eq_opR (f := fun z => low - 1 - z) (ev_op (ev_var 2) ev_int ov_sub) (eq_take 0 d_take hr (ev_op (ev_op (ev_var 2) (ev_is (ev_op ev_int ev_int (ov_pow ⟨by decide, by decide, by decide⟩)) (x' := 1000000000) (by rfl)) ov_add) ev_int ov_add) o4 (by omega) (by omega) (by omega)) (fun _ _ _ => ov_sub)) (fun z Γ3 hq => by obtain ⟨y, ⟨h3, o3, d1, d2, e⟩, e2⟩ := hq; exact ⟨h3, z, o3.mono (by omega), ⟨by omega, by omega⟩, by rw [e]; rfl⟩) sc_law_high.nd)
  · exact sg_nil ⟨h4, y4, o4.mono (by omega), ⟨e1, e2⟩, rfl⟩
  obtain ⟨h5, y5, o5, ⟨g1, g2⟩, rfl⟩ := ho
  refine sg_one (s_ret (ev_max T.max_ (ev_op ev_int (ev_is (ev_op ev_int ev_int (ov_pow ⟨by decide, by decide, by decide⟩)) (x' := 1000000000) (by rfl)) ov_sub) (ev_min T.min_ (ev_is (ev_op ev_int ev_int (ov_pow ⟨by decide, by decide, by decide⟩)) (x' := 1000000000) (by rfl)) (ev_var 4))) (end_rel ⟨h5, rfl, o5.mono (by omega), ?_, ?_⟩))
  · split <;> (try split) <;> omega
  · split <;> (try split) <;> omega
def S_wrong : Cl → Prop := fun c => ∃ (l : Addr) (h : List Int) (t : Int), HOk t h ∧ t ≤ 1000000 ∧
  c = ⟨[.own true l (Res.lst rInt h l)], relV rInt 0 l (fun x r => ∃ h', r = Res.lst rInt h' l ∧ okN x = false ∧ wide x) 1⟩
theorem ok_wrong (F : Fun K "_law_wrong" "_law_wrong" s_law_wrong f fd) (d_take : Def P w K mg base "_law_take" 1 ["hand", "many"] S_take) : FnOk P w K mg base (L2.CX P w) 2 f fd ["hand"] (spG K S_wrong) := by
  refine fn_ok F sc_law_wrong (by rintro c ⟨l, h, t, _, _, rfl⟩; rfl) fun cdv A outer s H E c W hr hc tk po fl => ?_
  obtain ⟨l, h, t, ho, ht, rfl⟩ := hc
  have nok : ∀ x : Int, x ≤ 0 ∨ 61 ≤ x → okN x = false := fun x h => by
    cases q : okN x with
    | false => rfl
    | true => have := okN_iff.mp q; omega
  refine sg_cons (s_asgQ 1 (eq_take 0 d_take hr ev_int ho (by omega) (by decide) (by decide)) (fun way Γ1 hq => ?_) sc_law_wrong.nd)
  obtain ⟨h1, o1, a1, a2, rfl⟩ := hq
  refine sg_cons (s_if (et_cmp (ev_var 1) ev_int ov_eqI) (fun _ => ?_) (fun _ => sg_nil ?_))
  · exact sg_one (s_retQ (eq_opR (f := fun z => 0 - z) ev_int (eq_take 0 d_take hr (ev_op (ev_is (ev_op ev_int ev_int (ov_pow ⟨by decide, by decide, by decide⟩)) (x' := 1000000000) (by rfl)) ev_int ov_add) o1 (by omega) (by decide) (by decide)) (fun _ _ _ => ov_sub)) (fun z Γ3 hq => by
      obtain ⟨y, ⟨h3, o3, d1, d2, e⟩, e2⟩ := hq
      subst e
      exact end_rel ⟨h3, rfl, nok _ (by omega), by omega, by omega⟩))
  refine sg_cons (s_if (et_cmp (ev_var 1) ev_int ov_eqI) (fun _ => ?_) (fun _ => sg_nil ?_))
  · exact sg_one (s_retQ (eq_opR (f := fun z => 61 + z) ev_int (eq_take 0 d_take hr ev_int o1 (by omega) (by decide) (by decide)) (fun _ _ _ => ov_add)) (fun z Γ3 hq => by
      obtain ⟨y, ⟨h3, o3, d1, d2, e⟩, e2⟩ := hq
      subst e
      exact end_rel ⟨h3, rfl, nok _ (by omega), by omega, by omega⟩))
  · refine sg_one (s_retQ (eq_ixL (xs := [0, 61, -1, 62]) (ev_new (en_lst (els_cons ev_int (els_cons ev_int (els_cons (ev_neg ev_int) (els_cons ev_int els_nil)))))) (eq_take 0 d_take hr ev_int o1 (by omega) (by decide) (by decide)) (fun y Γ3 hq => by obtain ⟨h3, o3, d1, d2, e⟩ := hq; exact ⟨d1, d2⟩)) (fun z Γ3 hq => ?_))
    obtain ⟨y, ⟨h3, o3, d1, d2, rfl⟩, hz⟩ := hq
    have hy : y = 0 ∨ y = 1 ∨ y = 2 ∨ y = 3 := by omega
    refine end_rel ⟨h3, rfl, ?_⟩
    rcases hy with rfl | rfl | rfl | rfl <;> (cases hz; exact ⟨nok _ (by omega), by omega, by omega⟩)
end
end Law

set_option maxHeartbeats 2000000
set_option autoImplicit false
namespace Law
open PySem L2 VS
section
variable {P : Program} {w : World} {K : Fg} {mg : Str → Option Value} {base : Heap} {f : Addr} {fd : FuncData} {CE CB CL CN CR : Addr}
def S_has : Cl → Prop := fun c => ∃ b : Bt, b.n ≤ 100 ∧ c = ⟨[.val rB b, .val rInt b.n, .val (rList (r := rInt)) (bmem b)], detV rBool true 3⟩
theorem bmem_len {b : Bt} : (bmem b).length ≤ b.n.toNat := by
  unfold bmem
  refine Nat.le_trans (List.length_filterMap_le _ _) ?_
  rw [rg_len]; omega
theorem dep_ints : ∀ xs : List Int, deps (xs.map Dat.int) = 0
  | [] => rfl
  | x :: xs => by
    show max (dep (.int x)) (deps (xs.map Dat.int)) = 0
    rw [dep_ints xs]
    rfl
theorem big_ints : ∀ xs : List Int, bigs (xs.map Dat.int) = 0
  | [] => rfl
  | x :: xs => by
    show max (big (.int x)) (bigs (xs.map Dat.int)) = 0
    rw [big_ints xs]
    rfl
theorem ok_has (F : Fun K "_law_has" "_law_has" s_law_has f fd) (T : Blt mg) (d_len : DefD P w K mg base CB "__len__" 1 ["self"] S_len) (d_iter : DefD P w K mg base CB "__iter__" 1 ["self"] S_iter) (d_same : Def P w K mg base "_law_same" 4 ["got", "due"] (S_same 2)) (kB : Kls K mg "Beats" CB) (iB : InsK K CB) (na : NaB K CB) : FnOk P w K mg base (L2.CX P w) 5 f fd ["beats", "length", "due"] (spG K S_has) := by
  refine fn_ok F sc_law_has (by rintro c ⟨b, _, rfl⟩; rfl) fun cdv A outer s H E c W hr hc tk po fl => ?_
  obtain ⟨b, hb, rfl⟩ := hc
  have hl := bmem_len (b := b)
  refine sg_cons (s_if (et_not (et_val (ev_isi T.isinstance_ (ev_var 0) (ty_obj kB iB) (nc_own kB.mg) kit_self))) (fun q => by cases q) fun _ => sg_nil ?_)
  refine sg_one (s_ret (ev_call d_same hr (ea_v (ev_dat (f := fun xs => .lst (xs.map fun d => d)) (ev_new (i := rDat) (en_lst (els_cons (ev_dat (ev_fld (j := rInt) (y := b.n) (ev_var 0) kB na.len) dv_int) (els_cons (ev_dat (ev_lenO d_len kB (hr.mono (by decide)) T.len_ (ev_var 0) ⟨b, rfl⟩ (by omega) (by omega)) dv_int) (els_cons (ev_dat (ev_new (i := rInt) (en_listO d_iter d_len kB (hr.mono (by decide)) T.list_ (ev_var 0) ⟨b, rfl⟩ ⟨b, rfl⟩ (by omega) (by omega) (by omega))) (dv_list dv_int)) els_nil))))) (dv_list dv_dat))
    (ea_v (ev_dat (f := fun xs => .lst (xs.map fun d => d)) (ev_new (i := rDat) (en_lst (els_cons (ev_dat (ev_var 1) dv_int) (els_cons (ev_dat (ev_lenL T.len_ (el_val (ev_var 2))) dv_int) (els_cons (ev_dat (ev_var 2) (dv_list dv_int)) els_nil))))) (dv_list dv_dat)) (ea_nil ⟨rfl, True.intro, .lst [.int b.n, .int (bmem b).length, .lst ((bmem b).map Dat.int)], ?_, ?_, rfl⟩)))) (end_v rfl))
  · show max 0 (max 0 (max (deps ((bmem b).map Dat.int) + 1) 0)) + 1 ≤ 2
    rw [dep_ints]; decide
  · show max 3 (max 0 (max 0 (max (max ((bmem b).map Dat.int).length (bigs ((bmem b).map Dat.int))) 0))) ≤ 100000
    rw [big_ints, List.length_map]; omega
def madeV (kind : Str) (n low high : Int) : Bt := if kind = "window" then ⟨n, maskOf n (winV n low high)⟩ else if kind = "every" then ⟨n, maskOf n (rg 0 n)⟩ else ⟨n, 0⟩
def S_made : Cl → Prop := fun c => ∃ (kind : Str) (n low high : Int), wide low ∧ wide high ∧ ((okN n = true ∧ c = ⟨[.val rStr kind, .val rInt n, .val rInt low, .val rInt high], detV rB (madeV kind n low high) 4⟩) ∨ (okN n = false ∧ c = ⟨[.val rStr kind, .val rInt n, .val rInt low, .val rInt high], detE badE 4⟩))
theorem ok_made (F : Fun K "_law_made" "_law_made" s_law_made f fd) (d_window : DefS P w K mg base CB "window" 5 ["length", "low", "high"] S_window) (d_every : DefS P w K mg base CB "every" 5 ["length"] S_every) (d_none : DefS P w K mg base CB "none" 5 ["length"] S_none) (kB : Kls K mg "Beats" CB) : FnOk P w K mg base (L2.CX P w) 6 f fd ["kind", "length", "low", "high"] (spG K S_made) := by
  refine fn_ok F sc_law_made (by rintro c ⟨k, n, low, high, _, _, ⟨_, rfl⟩ | ⟨_, rfl⟩⟩ <;> rfl) fun cdv A outer s H E c W hr hc tk po fl => ?_
  obtain ⟨kind, n, low, high, w1, w2, ⟨h, rfl⟩ | ⟨h, rfl⟩⟩ := hc
  · refine sg_cons (s_if (et_cmp (ev_var 0) ev_str ov_eqStr) (fun q => ?_) fun q1 => sg_nil ?_)
    · have q := of_decide_eq_true q
      exact sg_one (s_ret (ev_stat d_window kB hr (ea_v (ev_var 1) (ea_v (ev_var 2) (ea_v (ev_var 3) (ea_nil ⟨rfl, True.intro, n, low, high, w1, w2, .inl ⟨h, rfl⟩⟩))))) (end_v (by unfold madeV; rw [if_pos q])))
    have q1 := of_decide_eq_false q1
    refine sg_cons (s_if (et_cmp (ev_var 0) ev_str ov_eqStr) (fun q => ?_) fun q2 => sg_nil ?_)
    · have q := of_decide_eq_true q
      exact sg_one (s_ret (ev_stat d_every kB hr (ea_v (ev_var 1) (ea_nil ⟨rfl, True.intro, n, .inl ⟨h, rfl⟩⟩))) (end_v (by unfold madeV; rw [if_neg q1, if_pos q])))
    have q2 := of_decide_eq_false q2
    exact sg_one (s_ret (ev_stat d_none kB hr (ea_v (ev_var 1) (ea_nil ⟨rfl, True.intro, n, .inl ⟨h, rfl⟩⟩))) (end_v (by unfold madeV; rw [if_neg q1, if_neg q2])))
  · refine sg_cons (s_if (et_cmp (ev_var 0) ev_str ov_eqStr) (fun q => ?_) fun q1 => sg_nil ?_)
    · exact sg_one (s_retX (ee_stat d_window kB tk fl hr (ea_v (ev_var 1) (ea_v (ev_var 2) (ea_v (ev_var 3) (ea_nil ⟨rfl, True.intro, n, low, high, w1, w2, .inr ⟨h, rfl⟩⟩))))) (end_e rfl))
    refine sg_cons (s_if (et_cmp (ev_var 0) ev_str ov_eqStr) (fun q => ?_) fun q2 => sg_nil ?_)
    · exact sg_one (s_retX (ee_stat d_every kB tk fl hr (ea_v (ev_var 1) (ea_nil ⟨rfl, True.intro, n, .inr ⟨h, rfl⟩⟩))) (end_e rfl))
    exact sg_one (s_retX (ee_stat d_none kB tk fl hr (ea_v (ev_var 1) (ea_nil ⟨rfl, True.intro, n, .inr ⟨h, rfl⟩⟩))) (end_e rfl))
/-- the classes of exceptions -/
structure ErrK (K : Fg) (mg : Str → Option Value) (CE CL CN CR : Addr) : Prop where
  kE : ExcK K mg "BadBeats" CE
  xE : ExcC K CE
  mL : mg "LightsError" = some (.ref CL)
  mN : mg "NotTiered" = some (.ref CN)
  mR : mg "BadRow" = some (.ref CR)
  eE : PySem.W.exmOne K (.ref CE) (.ref CE) = some true
  eL : PySem.W.exmOne K (.ref CE) (.ref CL) = some true
  iL : PySem.W.kitOne K (.ref CE) (.ref CL) = some true
  iV : PySem.W.kitOne K (.ref CE) (.type "ValueError") = some true
  iN : PySem.W.kitOne K (.ref CE) (.ref CN) = some false
  iR : PySem.W.kitOne K (.ref CE) (.ref CR) = some false
def S_refused : Cl → Prop := fun c => ∃ (kind : Str) (n low high : Int), wide low ∧ wide high ∧ okN n = false ∧ c = ⟨[.val rStr kind, .val rInt n, .val rInt low, .val rInt high], detV rBool true 4⟩
theorem ok_refused (F : Fun K "_law_refused" "_law_refused" s_law_refused f fd) (T : Blt mg) (d_made : Def P w K mg base "_law_made" 6 ["kind", "length", "low", "high"] S_made) (e : ErrK K mg CE CL CN CR) : FnOk P w K mg base (L2.CX P w) 7 f fd ["kind", "length", "low", "high"] (spG K S_refused) := by
  refine fn_ok F sc_law_refused (by rintro c ⟨k, n, low, high, _, _, _, rfl⟩; rfl) fun cdv A outer s H E c W hr hc tk po fl => ?_
  obtain ⟨kind, n, low, high, w1, w2, h, rfl⟩ := hc
  refine sg_cons (s_asg 4 (ev_new (i := rBool) (en_lst els_nil)) ?_ sc_law_refused.nd)
  refine sg_cons (s_tryAs 5 tk sc_law_refused.nd ⟨rfl, by decide, .inl e.kE.mg⟩ fun W' pn xe tk' po' => ?_)
  refine sg_one (s_exprE (ee_call d_made tk' hr (ea_v (ev_var 0) (ea_v (ev_var 1) (ea_v (ev_var 2) (ea_v (ev_var 3) (ea_nil ⟨rfl, True.intro, kind, n, low, high, w1, w2, .inr ⟨h, rfl⟩⟩)))))) ?_)
  refine ⟨true, CE, e.kE.ns, e.eE, fun _ a oe C d pn hC hd hz hv => ?_, fun q => nomatch q⟩
  obtain rfl := ClsAt.eq e.kE.ns hC
  obtain rfl := hd rfl
  refine sg_one (s_asg 4 (ev_new (i := rBool) (en_lst (els_cons (ev_isiE 5 e.xE hz hv T.isinstance_ rfl (nc_own e.mL) e.iL) (els_cons (ev_isiE 5 e.xE hz hv T.isinstance_ rfl (nc_ty T.ValueError_) e.iV) (els_cons (ev_isiE 5 e.xE hz hv T.isinstance_ rfl (nc_own e.mN) e.iN) (els_cons (ev_isiE 5 e.xE hz hv T.isinstance_ rfl (nc_own e.mR) e.iR) els_nil)))))) ?_ sc_law_refused.nd)
  refine sg_cons (s_if (et_cmp (ev_dat (ev_var 4) (dv_list dv_bool)) (ev_dat (ev_new (i := rBool) (en_lst (els_cons ev_bl (els_cons ev_bl (els_cons ev_bl (els_cons ev_bl els_nil)))))) (dv_list dv_bool)) (ov_neD (units_of hr) rfl rfl)) (fun q => ?_) fun q => sg_nil ?_)
  · cases q
  refine sg_cons (s_asg 6 ev_bl ?_ sc_law_refused.nd)
  refine sg_cons (s_tryOnly tk ⟨rfl, by decide, .inl e.mL⟩ fun W' pn xe tk' po' => ?_)
  refine sg_one (s_exprE (ee_call d_made tk' hr (ea_v (ev_var 0) (ea_v (ev_var 1) (ea_v (ev_var 2) (ea_v (ev_var 3) (ea_nil ⟨rfl, True.intro, kind, n, low, high, w1, w2, .inr ⟨h, rfl⟩⟩)))))) ?_)
  refine ⟨true, CE, e.kE.ns, e.eL, fun _ a oe C d pn hC hd hz hv => ?_, fun q => nomatch q⟩
  refine sg_one (s_asg 6 ev_bl ?_ sc_law_refused.nd)
  exact sg_one (s_ret (ev_var 6) (end_v rfl))
end
end Law

set_option maxHeartbeats 2000000
set_option autoImplicit false
namespace Law
open PySem L2 VS
theorem fold_test (g : Int → Nat) (t : Nat) : ∀ (ms : List Int) (b : Nat), (ms.foldl (fun b x => b ||| 2 ^ g x) b).testBit t = (b.testBit t || ms.any fun x => decide (g x = t))
  | [], b => by simp
  | x :: ms, b => by
    rw [List.foldl_cons, fold_test g t ms, Nat.testBit_or, Nat.testBit_two_pow, List.any_cons, Bool.or_assoc]
theorem mask_test {n : Int} {ms : List Int} {t : Nat} : (maskOf n ms).testBit t = ms.any fun x => decide ((x % n).toNat = t) := by
  unfold maskOf
  rw [fold_test (fun x => (x % n).toNat)]
  simp
theorem win_test {n low high : Int} (hn : 1 ≤ n) {t : Int} (h0 : 0 ≤ t) (h1 : t < n) : (maskOf n (winV n low high)).testBit t.toNat = decide (low + (t - low) % n ≤ high) := by
  rw [mask_test, Bool.eq_iff_iff, List.any_eq_true, decide_eq_true_iff]
  have b1 : 0 ≤ (t - low) % n := Int.emod_nonneg _ (by omega)
  have b2 : (t - low) % n < n := Int.emod_lt_of_pos _ (by omega)
  constructor
  · rintro ⟨x, hx, e⟩
    unfold winV at hx
    obtain ⟨x1, x2⟩ := rg_mem.mp hx
    have e := of_decide_eq_true e
    have c1 : 0 ≤ x % n := Int.emod_nonneg _ (by omega)
    have e2 : x % n = t := by omega
    have x3 : x ≤ low + n - 1 ∧ x ≤ high := by split at x2 <;> omega
    have e3 : (t - low) % n = x - low := by
      rw [← e2, Int.emod_sub_emod]
      exact Int.emod_eq_of_lt (by omega) (by omega)
    omega
  · intro h
    refine ⟨low + (t - low) % n, ?_, ?_⟩
    · unfold winV
      rw [rg_mem]
      split <;> omega
    · refine decide_eq_true ?_
      have e : (low + (t - low) % n) % n = t := by
        rw [Int.add_emod_emod]
        rw [show low + (t - low) = t by omega]
        exact Int.emod_eq_of_lt h0 h1
      rw [e]
theorem filterMap_congr2 {α β : Type} {f g : α → Option β} : ∀ {l : List α}, (∀ x, x ∈ l → f x = g x) → l.filterMap f = l.filterMap g
  | [], _ => rfl
  | x :: l, h => by
    rw [List.filterMap_cons, List.filterMap_cons, h x List.mem_cons_self, filterMap_congr2 fun y m => h y (List.mem_cons_of_mem _ m)]
/-- the beats from low to high, as the law counts them -/
def dueV (n low high : Int) : List Int := (rg 0 n).filterMap fun t => if decide (low + (t - low) % n ≤ high) = true then some t else none
theorem due_win {n low high : Int} (hn : 1 ≤ n) : dueV n low high = bmem ⟨n, maskOf n (winV n low high)⟩ := by
  unfold dueV bmem
  refine filterMap_congr2 fun t ht => ?_
  obtain ⟨h0, h1⟩ := rg_mem.mp ht
  show _ = if (maskOf n (winV n low high)).testBit t.toNat = true then some t else none
  rw [win_test hn h0 h1]
def moreV (n low high : Int) : List Int := (rg 0 n).filterMap fun t => if decide (low - 1 + (t - low + 1) % n ≤ high + 1) = true then some t else none
theorem more_win {n low high : Int} (hn : 1 ≤ n) : moreV n low high = bmem ⟨n, maskOf n (winV n (low - 1) (high + 1))⟩ := by
  rw [← due_win hn]
  unfold moreV dueV
  refine filterMap_congr2 fun t ht => ?_
  rw [show t - (low - 1) = t - low + 1 by omega]
theorem bmem_every {n : Int} (hn : 1 ≤ n) : rg 0 n = bmem ⟨n, maskOf n (rg 0 n)⟩ := by
  have h : ∀ t, t ∈ rg 0 n → (if (maskOf n (rg 0 n)).testBit t.toNat = true then some t else none) = some t := fun t ht => by
    obtain ⟨h0, h1⟩ := rg_mem.mp ht
    rw [if_pos]
    rw [mask_test, List.any_eq_true]
    exact ⟨t, ht, decide_eq_true (by rw [Int.emod_eq_of_lt h0 h1])⟩
  unfold bmem
  rw [filterMap_congr2 h, List.filterMap_some]
theorem bmem_zero {n : Int} : ([] : List Int) = bmem ⟨n, 0⟩ := by
  unfold bmem
  symm
  rw [List.filterMap_eq_nil_iff]
  intro a _
  rw [if_neg]
  simp
theorem winV_nil {n m : Int} (hn : 1 ≤ n) : winV n m (m - 1) = [] := by
  unfold winV
  apply List.eq_nil_of_length_eq_zero
  rw [rg_len]
  split <;> omega
theorem made_nil {kind : Str} {n m : Int} (hn : 1 ≤ n) (hk : kind ≠ "every") : ([] : List Int) = bmem (madeV kind n m (m - 1)) := by
  unfold madeV
  rw [if_neg hk]
  split
  · rw [winV_nil hn]; exact bmem_zero
  · exact bmem_zero
theorem made_n {kind : Str} {n l h : Int} : (madeV kind n l h).n = n := by
  unfold madeV
  split
  · rfl
  · split <;> rfl
theorem mask_lt {n : Int} {ms : List Int} {t : Nat} (hn : 1 ≤ n) (h : (maskOf n ms).testBit t = true) : (t : Int) < n := by
  rw [mask_test, List.any_eq_true] at h
  obtain ⟨x, _, e⟩ := h
  have e := of_decide_eq_true e
  have := Int.emod_lt_of_pos x (show 0 < n by omega)
  have := Int.emod_nonneg x (show n ≠ 0 by omega)
  omega
theorem win_within {n low high : Int} (hn : 1 ≤ n) : maskOf n (winV n low high) &&& maskOf n (winV n (low - 1) (high + 1)) = maskOf n (winV n low high) := by
  apply Nat.eq_of_testBit_eq
  intro t
  rw [Nat.testBit_and]
  cases h : (maskOf n (winV n low high)).testBit t with
  | false => rfl
  | true =>
    have h1 := mask_lt hn h
    have e := win_test (low := low) (high := high) hn (t := (t : Int)) (Int.natCast_nonneg t) h1
    have e2 := win_test (low := low - 1) (high := high + 1) hn (t := (t : Int)) (Int.natCast_nonneg t) h1
    rw [Int.toNat_natCast] at e e2
    rw [e2]
    rw [e] at h
    have h := of_decide_eq_true h
    rw [Bool.true_and]
    refine decide_eq_true ?_
    have : ((t : Int) - (low - 1)) % n ≤ ((t : Int) - low) % n + 1 := by
      rw [show (t : Int) - (low - 1) = ((t : Int) - low) + 1 by omega]
      have b1 : 0 ≤ ((t : Int) - low) % n := Int.emod_nonneg _ (by omega)
      have b2 := Int.emod_lt_of_pos ((t : Int) - low) (show 0 < n by omega)
      rw [Int.add_emod]
      by_cases hn1 : n = 1
      · subst hn1; omega
      · rw [show (1 : Int) % n = 1 from Int.emod_eq_of_lt (by omega) (by omega)]
        by_cases hl : ((t : Int) - low) % n + 1 < n
        · rw [Int.emod_eq_of_lt (by omega) hl]
          exact Int.le_refl _
        · have : ((t : Int) - low) % n + 1 = n := by omega
          rw [this, Int.emod_self]
          omega
    omega
end Law

set_option maxHeartbeats 4000000
set_option autoImplicit false
namespace Law
open PySem L2 VS
section
variable {P : Program} {w : World} {K : Fg} {mg : Str → Option Value} {base : Heap} {f : Addr} {fd : FuncData} {CE CB CL CN CR : Addr}
def S_law : Cl → Prop := fun c => ∃ xs : List Int, c = ⟨[.val rScr ⟨xs⟩], detV rBool true 1⟩
structure Defs (P : Program) (w : World) (K : Fg) (mg : Str → Option Value) (base : Heap) (CB : Addr) : Prop where
  hand : Def P w K mg base "_law_hand" 2 ["script", "k"] S_hand
  take : Def P w K mg base "_law_take" 1 ["hand", "many"] S_take
  low : Def P w K mg base "_law_low" 2 ["hand", "length"] S_low
  high : Def P w K mg base "_law_high" 2 ["hand", "length", "low"] S_high
  wrong : Def P w K mg base "_law_wrong" 2 ["hand"] S_wrong
  same : Def P w K mg base "_law_same" 4 ["got", "due"] (S_same 2)
  has : Def P w K mg base "_law_has" 5 ["beats", "length", "due"] S_has
  made : Def P w K mg base "_law_made" 6 ["kind", "length", "low", "high"] S_made
  refused : Def P w K mg base "_law_refused" 7 ["kind", "length", "low", "high"] S_refused
  window : DefS P w K mg base CB "window" 5 ["length", "low", "high"] S_window
  every : DefS P w K mg base CB "every" 5 ["length"] S_every
  none : DefS P w K mg base CB "none" 5 ["length"] S_none
  within : DefM P w K mg base CB "within" 2 ["self", "other"] S_within
theorem ok_law (F : Fun K "law" "law" s_law f fd) (T : Blt mg) (D : Defs P w K mg base CB) (kB : Kls K mg "Beats" CB) : FnOk P w K mg base (L2.CX P w) 8 f fd ["script"] (spG K S_law) := by
  refine fn_ok F sc_law (by rintro c ⟨xs, rfl⟩; rfl) fun cdv A outer s H E c W hr hc tk po fl => ?_
  obtain ⟨xs, rfl⟩ := hc
  have nd := sc_law.nd
  refine sg_cons (s_asgN 1 (en_call D.hand (hr.mono (by decide)) (ea_v (ev_var 0) (ea_v ev_int (ea_nil ⟨rfl, True.intro, xs, 0, by decide, by decide, rfl⟩)))) (fun l1 => ?_) nd)
  refine sg_cons (s_asgQ 2 (eq_opR (f := fun z => 1 + z) ev_int (eq_take 1 D.take (hr.mono (by decide)) ev_int (handV_ok (k := 0) (by decide) (by decide)) (by decide) (by decide) (by decide)) (fun _ _ _ => ov_add)) (fun n0 Γ1 hq => ?_) nd)
  obtain ⟨y, ⟨h1, o1, a1, a2, rfl⟩, rfl⟩ := hq
  refine sg_cons (S1.imp (P' := fun o => ∃ h n, HOk 3 h ∧ okN n = true ∧ o = .nx [.val rScr ⟨xs⟩, .own false l1 (Res.lst rInt h l1), .val rInt n, .no, .no, .no, .no, .no, .no, .no, .no, .no, .no, .no, .no, .no]) (s_ifQ (etq_cmpL (eq_take 1 D.take (hr.mono (by decide)) ev_int o1 (by decide) (by decide) (by decide)) (fun _ _ _ => ev_int) (fun _ _ _ => ov_eqI)) (fun Γ' hq => ?_) (fun Γ' hq => ?_)) fun o ho => ?_)
  · obtain ⟨z, ⟨h2, o2, b1, b2, rfl⟩, _⟩ := hq
    exact sg_one (s_asgQ 2 (eq_opR (f := fun z => 1 + z) ev_int (eq_take 1 D.take (hr.mono (by decide)) ev_int o2 (by decide) (by decide) (by decide)) (fun _ _ _ => ov_add)) (fun z Γ3 hq => by
      obtain ⟨y, ⟨h3, o3, d1, d2, e⟩, e2⟩ := hq
      exact ⟨h3, z, o3, okN_iff.mpr (by omega), by rw [e]; rfl⟩) nd)
  · obtain ⟨z, ⟨h2, o2, b1, b2, rfl⟩, _⟩ := hq
    exact sg_nil ⟨h2, _, o2.mono (by decide), okN_iff.mpr (by omega), rfl⟩
  obtain ⟨h2, n, o2, hn, rfl⟩ := ho
  obtain ⟨n1, n2⟩ := okN_iff.mp hn
  refine sg_cons (s_asgN 3 (en_call D.hand (hr.mono (by decide)) (ea_v (ev_var 0) (ea_v ev_int (ea_nil ⟨rfl, True.intro, xs, 1, by decide, by decide, rfl⟩)))) (fun l3 => ?_) nd)
  refine sg_cons (s_asgQ 4 (eq_call1 0 3 D.low (hr.mono (by decide)) (ea_r (er_var 3) (ea_v (ev_var 2) (ea_nil ⟨rfl, ⟨rfl, True.intro⟩, l3, _, n, 0, handV_ok (k := 1) (by decide) (by decide), by decide, hn, rfl⟩)))) (fun low Γ1 hq => ?_) nd)
  obtain ⟨r', ⟨h4, rfl, o4, w1, w2⟩, rfl⟩ := hq
  refine sg_cons (s_asgQ 5 (eq_call1 0 3 D.high (hr.mono (by decide)) (ea_r (er_var 3) (ea_v (ev_var 2) (ea_v (ev_var 4) (ea_nil ⟨rfl, ⟨rfl, True.intro⟩, l3, _, n, low, _, o4, by decide, hn, w1, w2, rfl⟩))))) (fun high Γ1 hq => ?_) nd)
  obtain ⟨r', ⟨h5, rfl, o5, w3, w4⟩, rfl⟩ := hq
  have wl : wide low := ⟨by omega, by omega⟩
  have wh : wide high := ⟨by omega, by omega⟩
  refine sg_cons (s_asgLc 6 (own := [("t", 15)]) (j := rInt) (f := fun t => if decide (low + (t - low) % n ≤ high) = true then some t else none) (ei_range1 T.range_ (ev_var 2) (by omega) (by omega)) nd (lc_name 15 nd (fun s H C cl fp D ys x hx => ?_) (fun s H C cl fp D ys x y hx hf => ?_)) (fun l6 => ?_) (hz := ?_))
  · refine ets_one (et_is (et_cmp (ev_op (ev_var 4) (ev_op (ev_intI T.int_ (ev_op (ev_var 15) (ev_var 4) ov_sub)) (ev_var 2) (ov_mod (by omega))) ov_add) (ev_var 5) ov_le) ?_)
    split
    · rename_i q; rw [q]; rfl
    · rename_i q; exact Bool.eq_false_iff.mpr q
  · refine ev_is (ev_var 15) ?_
    split at hf
    · exact Option.some.inj hf
    · cases hf
  · refine sg_freeze 6 ?_
    show SG _ _ _ [.val rScr ⟨xs⟩, .own false l1 (Res.lst rInt h2 l1), .val rInt n, .own false l3 (Res.lst rInt h5 l3), .val rInt low, .val rInt high, .val (rList (r := rInt)) (dueV n low high), .no, .no, .no, .no, .no, .no, .no, .no, .no] _
    rw [due_win n1]
    generalize hb1 : (⟨n, maskOf n (winV n low high)⟩ : Bt) = b1
    have eb1 : b1.n = n := by rw [← hb1]
    refine sg_cons (s_asg 7 (ev_is (ev_stat D.window kB (hr.mono (by decide)) (ea_v (ev_var 2) (ea_v (ev_var 4) (ea_v (ev_var 5) (ea_nil ⟨rfl, True.intro, n, low, high, wl, wh, .inl ⟨hn, rfl⟩⟩))))) hb1) ?_ nd)
    refine sg_cons (s_if (et_not (et_val (ev_call D.has (hr.mono (by decide)) (ea_v (ev_var 7) (ea_v (ev_is (ev_var 2) eb1.symm) (ea_v (ev_var 6) (ea_nil ⟨rfl, True.intro, b1, by omega, rfl⟩))))))) (fun q => by cases q) fun _ => sg_nil ?_)
    generalize hb2 : (⟨n, maskOf n (rg 0 n)⟩ : Bt) = b2
    have eb2 : b2.n = n := by rw [← hb2]
    have em2 : rg 0 n = bmem b2 := by rw [← hb2]; exact bmem_every n1
    refine sg_cons (s_asg 8 (ev_is (ev_stat D.every kB (hr.mono (by decide)) (ea_v (ev_var 2) (ea_nil ⟨rfl, True.intro, n, .inl ⟨hn, rfl⟩⟩))) hb2) ?_ nd)
    refine sg_cons (s_asg 9 (ev_stat D.none kB (hr.mono (by decide)) (ea_v (ev_var 2) (ea_nil ⟨rfl, True.intro, n, .inl ⟨hn, rfl⟩⟩))) ?_ nd)
    have rok : RgOk 0 n := ⟨by omega, by omega, by omega, by omega, by omega⟩
    refine sg_cons (s_if (et_w (ew_or (et_not (et_val (ev_call D.has (hr.mono (by decide)) (ea_v (ev_var 8) (ea_v (ev_is (ev_var 2) eb2.symm) (ea_v (ev_is (ev_new (en_listR1 T.list_ T.range_ (ev_var 2) rok)) em2) (ea_nil ⟨rfl, True.intro, b2, by omega, rfl⟩))))))) fun _ => ew_or1 (et_not (et_val (ev_call D.has (hr.mono (by decide)) (ea_v (ev_var 9) (ea_v (ev_var 2) (ea_v (ev_is (ev_new (i := rInt) (en_lst els_nil)) (bmem_zero (n := n))) (ea_nil ⟨rfl, True.intro, ⟨n, 0⟩, (by show n ≤ 100; omega), rfl⟩))))))))) (fun q => by cases q) fun _ => sg_nil ?_)
    refine sg_cons (S1.imp (P' := fun o => ∃ s10 s11, o = .nx [.val rScr ⟨xs⟩, .own false l1 (Res.lst rInt h2 l1), .val rInt n, .own false l3 (Res.lst rInt h5 l3), .val rInt low, .val rInt high, .val (rList (r := rInt)) (bmem b1), .val rB b1, .val rB b2, .val rB ⟨n, 0⟩, s10, s11, .no, .no, .no, .no]) (s_if (et_chain3 ov_lt ov_le ov_lt (ev_op ev_int (ev_is (ev_op ev_int ev_int (ov_pow ⟨by decide, by decide, by decide⟩)) (x' := 1000000000) (by rfl)) ov_sub) (ev_var 4) (ev_var 5) (ev_is (ev_op ev_int ev_int (ov_pow ⟨by decide, by decide, by decide⟩)) (x' := 1000000000) (by rfl))) (fun _ => ?_) (fun _ => sg_nil ⟨_, _, rfl⟩)) fun o ho => ?_)
    · generalize hb3 : (⟨n, maskOf n (winV n (low - 1) (high + 1))⟩ : Bt) = b3
      have eb3 : b3.n = n := by rw [← hb3]
      refine sg_cons (s_asg 10 (ev_is (ev_stat D.window kB (hr.mono (by decide)) (ea_v (ev_var 2) (ea_v (ev_op (ev_var 4) ev_int ov_sub) (ea_v (ev_op (ev_var 5) ev_int ov_add) (ea_nil ⟨rfl, True.intro, n, low - 1, high + 1, ⟨by omega, by omega⟩, ⟨by omega, by omega⟩, .inl ⟨hn, rfl⟩⟩))))) hb3) ?_ nd)
      refine sg_cons (s_asgLc 11 (own := [("t", 15)]) (j := rInt) (f := fun t => if decide (low - 1 + (t - low + 1) % n ≤ high + 1) = true then some t else none) (ei_range1 T.range_ (ev_var 2) (by omega) (by omega)) nd (lc_name 15 nd (fun s H C cl fp D ys x hx => ?_) (fun s H C cl fp D ys x y hx hf => ?_)) (fun l11 => ?_) (hz := ?_))
      · refine ets_one (et_is (et_cmp (ev_op (ev_op (ev_var 4) ev_int ov_sub) (ev_op (ev_intI T.int_ (ev_op (ev_op (ev_var 15) (ev_var 4) ov_sub) ev_int ov_add)) (ev_var 2) (ov_mod (by omega))) ov_add) (ev_op (ev_var 5) ev_int ov_add) ov_le) ?_)
        split
        · rename_i q; rw [q]; rfl
        · rename_i q; exact Bool.eq_false_iff.mpr q
      · refine ev_is (ev_var 15) ?_
        split at hf
        · exact Option.some.inj hf
        · cases hf
      · refine sg_freeze 11 ?_
        show SG _ _ _ [.val rScr ⟨xs⟩, .own false l1 (Res.lst rInt h2 l1), .val rInt n, .own false l3 (Res.lst rInt h5 l3), .val rInt low, .val rInt high, .val (rList (r := rInt)) (bmem b1), .val rB b1, .val rB b2, .val rB ⟨n, 0⟩, .val rB b3, .val (rList (r := rInt)) (moreV n low high), .no, .no, .no, .no] _
        have em3 : moreV n low high = bmem b3 := by rw [← hb3]; exact more_win n1
        rw [em3]
        refine sg_one (s_if (et_w (ew_or (et_not (et_val (ev_call D.has (hr.mono (by decide)) (ea_v (ev_var 10) (ea_v (ev_is (ev_var 2) eb3.symm) (ea_v (ev_var 11) (ea_nil ⟨rfl, True.intro, b3, by omega, rfl⟩))))))) fun _ => ew_or1 (et_not (et_val (ev_call D.same (hr.mono (by decide)) (ea_v (ev_dat (ev_is (ev_meth D.within kB (hr.mono (by decide)) (ev_var 7) rfl (ea_v (ev_var 10) (ea_nil ⟨rfl, True.intro, b1, b3, by omega, rfl⟩))) (x' := true) ?_) dv_bool) (ea_v (ev_dat ev_bl dv_bool) (ea_nil ⟨rfl, True.intro, .bl true, by decide, by decide, rfl⟩)))))))) (fun q => by cases q) fun _ => sg_nil ⟨_, _, rfl⟩)
        rw [← hb1, ← hb3]
        exact decide_eq_true (win_within n1)
      · rw [rg_len]; omega
    obtain ⟨s10, s11, rfl⟩ := ho
    refine sg_cons (s_asgQ 12 (eq_call1g 0 (Rr := fun l x r => ∃ h', r = Res.lst rInt h' l ∧ okN x = false ∧ wide x) D.wrong (hr.mono (by decide)) (ea_n (en_call D.hand (hr.mono (by decide)) (ea_v (ev_var 0) (ea_v ev_int (ea_nil ⟨rfl, True.intro, xs, 2, by decide, by decide, rfl⟩)))) fun l => ea_nil ⟨l, rfl, ⟨rfl, True.intro⟩, l, _, 0, handV_ok (k := 2) (by decide) (by decide), by decide, rfl⟩)) (fun wrong Γ1 hq => ?_) nd)
    obtain ⟨⟨_, r', h', _, wok, ww⟩, rfl⟩ := hq
    refine sg_cons (s_asg 13 (ev_op (ev_var 4) ev_int (ov_div (wide_div (b := 40) (by decide) (by decide) (by decide) (by decide)))) ?_ nd)
    generalize hmid : low / 2 = mid
    have wm : wide mid := ⟨by omega, by omega⟩
    have wm1 : wide (mid - 1) := ⟨by omega, by omega⟩
    refine sg_cons (s_for (ei_list (ev_new (i := rStr) (en_lst (els_cons ev_str (els_cons ev_str (els_cons ev_str els_nil)))))) po (fun k Γ => ∃ s14, Γ = [.val rScr ⟨xs⟩, .own false l1 (Res.lst rInt h2 l1), .val rInt n, .own false l3 (Res.lst rInt h5 l3), .val rInt low, .val rInt high, .val (rList (r := rInt)) (bmem b1), .val rB b1, .val rB b2, .val rB ⟨n, 0⟩, s10, s11, .val rInt wrong, .val rInt mid, s14, .no]) ⟨.no, rfl⟩ (fun _ _ _ => True.intro) (fun k x Γk hx hI => ?_) (fun Γ' hI => ?_))
    · obtain ⟨s14, rfl⟩ := hI
      refine ⟨_, tg_name 14 nd, ?_⟩
      refine sg_cons (s_if (et_w (ew_or (et_not (et_val (ev_call D.refused hr (ea_v (ev_var 14) (ea_v (ev_var 12) (ea_v (ev_var 4) (ea_v (ev_var 5) (ea_nil ⟨rfl, True.intro, x, wrong, low, high, wl, wh, wok, rfl⟩)))))))) fun _ => ew_or1 (et_not (et_val (ev_call D.refused hr (ea_v (ev_var 14) (ea_v (ev_var 12) (ea_v (ev_var 13) (ea_v (ev_op (ev_var 13) ev_int ov_sub) (ea_nil ⟨rfl, True.intro, x, wrong, mid, mid - 1, wm, wm1, wok, rfl⟩)))))))))) (fun q => by cases q) fun _ => sg_nil ?_)
      refine sg_one (s_if (t := false) (et_w (EvW.is (ew_and (et_cmp (ev_var 14) ev_str ov_neStr) fun q => ew_and1 (et_not (et_val (ev_call D.has (hr.mono (by decide)) (ea_v (ev_call D.made (hr.mono (by decide)) (ea_v (ev_var 14) (ea_v (ev_var 2) (ea_v (ev_var 13) (ea_v (ev_op (ev_var 13) ev_int ov_sub) (ea_nil ⟨rfl, True.intro, x, n, mid, mid - 1, wm, wm1, .inl ⟨hn, rfl⟩⟩)))))) (ea_v (ev_is (ev_var 2) made_n.symm) (ea_v (ev_is (ev_new (i := rInt) (en_lst els_nil)) (made_nil n1 (by simpa using q))) (ea_nil ⟨rfl, True.intro, madeV x n mid (mid - 1), by rw [made_n]; omega, rfl⟩)))))))) (by simp))) (fun q => by cases q) fun _ => sg_nil ⟨_, rfl⟩)
    · obtain ⟨s14, rfl⟩ := hI
      refine sg_one (s_ret (ev_and (ev_call D.has (hr.mono (by decide)) (ea_v (ev_var 7) (ea_v (ev_is (ev_var 2) eb1.symm) (ea_v (ev_var 6) (ea_nil ⟨rfl, True.intro, b1, by omega, rfl⟩))))) fun _ => ev_and (ev_call D.has (hr.mono (by decide)) (ea_v (ev_var 8) (ea_v (ev_is (ev_var 2) eb2.symm) (ea_v (ev_is (ev_new (en_listR1 T.list_ T.range_ (ev_var 2) rok)) em2) (ea_nil ⟨rfl, True.intro, b2, by omega, rfl⟩))))) fun _ => ev_one (ev_call D.has (hr.mono (by decide)) (ea_v (ev_var 9) (ea_v (ev_var 2) (ea_v (ev_is (ev_new (i := rInt) (en_lst els_nil)) (bmem_zero (n := n))) (ea_nil ⟨rfl, True.intro, ⟨n, 0⟩, (by show n ≤ 100; omega), rfl⟩)))))) (end_v rfl))
  · rw [rg_len]; omega
end
end Law

set_option maxHeartbeats 4000000
set_option autoImplicit false
namespace Law
open PySem L2 VS
theorem only_base {K : Fg} {H : Hp} {xs : List Int} {a : Addr} (h : SqL K H a (xs.map V.int)) : rScr.rp K H (.ref a) ⟨xs⟩ := ⟨a, rfl, h⟩
/-- the law's own call -/
theorem law_sp {K : Fg} {H : Hp} {a : Addr} {ns : List Int} (hS : SqL K H a (ns.map V.int)) : spG K S_law [.ref a] H (fun v _ => v = .bl true) fun _ _ _ => False := by
  refine ⟨_, ⟨ns, rfl⟩, H, rfl, ⟨rfl, Same.refl _, Same.refl _, fun a o e _ => e, fun a e => e, fun a _ n => n, fun j s e => ?_, fun j q l r a e ha => ?_, fun j j' q l r q' l' r' a e e' ha ha' => ?_⟩, fun out qs ⟨ho, hq⟩ hpo => ?_⟩
  · match j, e with
    | 0, e => cases e; exact ⟨_, rfl, only_base hS⟩
  · match j, e with
    | 0, e => cases e
  · match j, e with
    | 0, e => cases e
  · subst ho
    refine ⟨fun β k b e v H2 H3 R rv => ?_, (fun r e => nomatch e), fun er e => nomatch e⟩
    cases e
    exact rv
theorem no_cx {P : Program} {w : World} {l : List Env} {H : Hp} {s : Shared} {e : Value} {s' : Shared} (z : L2.CX P w l H s (fun _ _ _ => False) e s') : False := by
  obtain ⟨_, _, _, _, _, _, _, _, _, _, _, _, z⟩ := z
  exact z
theorem all_mk {P : Program} {w : World} {K : Fg} {h : Heap} {mg : Str → Option Value} {fa CB CE CL CN CR f1 f2 f3 f4 f5 f6 f7 f8 f9 f10 f11 f12 f13 f14 f15 f16 f17 f18 f19 f20 f21 f22 : Addr} (X : K.In h) (G : h.Ns mainGlobals mg) (hfa : mg "law" = some (.ref fa))
    {od1 an1 : Option Addr} {sl1 : Array (Option Value)} {oc1 kV1 dc1 pm1 cd1 ct1 : Value} {od2 an2 : Option Addr} {sl2 : Array (Option Value)} {oc2 kV2 dc2 pm2 cd2 ct2 : Value} {p2 : Addr} {r2 : List Value} {od3 an3 : Option Addr} {sl3 : Array (Option Value)} {oc3 kV3 dc3 pm3 cd3 ct3 : Value} {p3 : Addr} {r3 : List Value} {od4 an4 : Option Addr} {sl4 : Array (Option Value)} {oc4 kV4 dc4 pm4 cd4 ct4 : Value} {p4 : Addr} {r4 : List Value} {od5 an5 : Option Addr} {sl5 : Array (Option Value)} {oc5 kV5 dc5 pm5 cd5 ct5 : Value} {od6 an6 : Option Addr} {sl6 : Array (Option Value)} {oc6 kV6 dc6 pm6 cd6 ct6 : Value} {od7 an7 : Option Addr} {sl7 : Array (Option Value)} {oc7 kV7 dc7 pm7 cd7 ct7 : Value} {od8 an8 : Option Addr} {sl8 : Array (Option Value)} {oc8 kV8 dc8 pm8 cd8 ct8 : Value} {od9 an9 : Option Addr} {sl9 : Array (Option Value)} {oc9 kV9 dc9 pm9 cd9 ct9 : Value} {od10 an10 : Option Addr} {sl10 : Array (Option Value)} {oc10 kV10 dc10 pm10 cd10 ct10 : Value} {od11 an11 : Option Addr} {sl11 : Array (Option Value)} {oc11 kV11 dc11 pm11 cd11 ct11 : Value} {od12 an12 : Option Addr} {sl12 : Array (Option Value)} {oc12 kV12 dc12 pm12 cd12 ct12 : Value} {od13 an13 : Option Addr} {sl13 : Array (Option Value)} {oc13 kV13 dc13 pm13 cd13 ct13 : Value} {od14 an14 : Option Addr} {sl14 : Array (Option Value)} {oc14 kV14 dc14 pm14 cd14 ct14 : Value} {od15 an15 : Option Addr} {sl15 : Array (Option Value)} {oc15 kV15 dc15 pm15 cd15 ct15 : Value} {od16 an16 : Option Addr} {sl16 : Array (Option Value)} {oc16 kV16 dc16 pm16 cd16 ct16 : Value} {od17 an17 : Option Addr} {sl17 : Array (Option Value)} {oc17 kV17 dc17 pm17 cd17 ct17 : Value} {od18 an18 : Option Addr} {sl18 : Array (Option Value)} {oc18 kV18 dc18 pm18 cd18 ct18 : Value} {od19 an19 : Option Addr} {sl19 : Array (Option Value)} {oc19 kV19 dc19 pm19 cd19 ct19 : Value} {od20 an20 : Option Addr} {sl20 : Array (Option Value)} {oc20 kV20 dc20 pm20 cd20 ct20 : Value} {od21 an21 : Option Addr} {sl21 : Array (Option Value)} {oc21 kV21 dc21 pm21 cd21 ct21 : Value} {od22 an22 : Option Addr} {sl22 : Array (Option Value)} {oc22 kV22 dc22 pm22 cd22 ct22 : Value} {tMOST_BEATS : Tok}
    (aCB : PySem.W.nsIn K mainGlobals "Beats" = some (some (.ref CB)))
    (pgCB : PySem.W.plainGet K CB Str.empty = true)
    (hdCB : PySem.W.hasDictIn K CB = true)
    (poCB : PySem.W.plainOver K CB = true)
    (saCB : PySem.W.findIn K (.ref CB) "__setattr__" = some (some (.builtin "object.__setattr__")))
    (nCBlength : PySem.W.findIn K (.ref CB) "length" = some none)
    (nCBbits : PySem.W.findIn K (.ref CB) "_bits" = some none)
    (nCBbeats : PySem.W.findIn K (.ref CB) "_beats" = some none)
    (haCB : PySem.W.findIn K (.ref CB) "__class__" = some (some (.builtin "object.__class__")))
    (hmCB : PySem.W.mroIn K CB (.type "object") = some true)
    (mkCB : PySem.W.makesIn K CB = true)
    (kcCB : PySem.W.keepIn K (.ref CB) = true)
    (rdCB : PySem.W.readsIn K CB (.type "type") = true)
    (sgCB : PySem.W.specialIn K (.ref CB) "__getattribute__" = some (some (.builtin "type.__getattribute__")))
    (hn0 : PySem.W.specialIn K (.builtin "object.__class__") "__get__" = some (some (.builtin "getset_descriptor.__get__")))
    (ht0 : PySem.W.takesIn K (.builtin "object.__class__") = some true)
    (aCE : PySem.W.nsIn K mainGlobals "BadBeats" = some (some (.ref CE)))
    (aCL : PySem.W.nsIn K mainGlobals "LightsError" = some (some (.ref CL)))
    (aCN : PySem.W.nsIn K mainGlobals "NotTiered" = some (some (.ref CN)))
    (aCR : PySem.W.nsIn K mainGlobals "BadRow" = some (some (.ref CR)))
    (a1 : PySem.W.findIn K (.ref CB) "__init__" = some (some (.ref f1)))
    (i1 : PySem.W.isFn K (.ref f1) = true)
    (l1 : K.lookup f1 = some ⟨oc1, od1, .func (PySem.W.fnOf "__init__" "Beats.__init__" (defArgs s_Beats_init) (defBody s_Beats_init) (defScope s_Beats_init) .none kV1 dc1 pm1 an1 cd1 ct1), sl1⟩)
    (c1 : PySem.W.codeIn K cd1 "Beats.__init__" = true)
    (k1 : PySem.W.keepIn K (.ref f1) = true)
    (s2 : PySem.W.findCls K (.ref CB) (.type "type") "every" = some (.get (.builtin "staticmethod.__get__") (.ref p2) .none (.ref CB)))
    (t2 : PySem.W.recIn K p2 "staticmethod" = some (.ref f2 :: r2))
    (l2 : K.lookup f2 = some ⟨oc2, od2, .func (PySem.W.fnOf "every" "Beats.every" (defArgs s_Beats_every) (defBody s_Beats_every) (defScope s_Beats_every) .none kV2 dc2 pm2 an2 cd2 ct2), sl2⟩)
    (c2 : PySem.W.codeIn K cd2 "Beats.every" = true)
    (k2 : PySem.W.keepIn K (.ref f2) = true)
    (s3 : PySem.W.findCls K (.ref CB) (.type "type") "none" = some (.get (.builtin "staticmethod.__get__") (.ref p3) .none (.ref CB)))
    (t3 : PySem.W.recIn K p3 "staticmethod" = some (.ref f3 :: r3))
    (l3 : K.lookup f3 = some ⟨oc3, od3, .func (PySem.W.fnOf "none" "Beats.none" (defArgs s_Beats_none) (defBody s_Beats_none) (defScope s_Beats_none) .none kV3 dc3 pm3 an3 cd3 ct3), sl3⟩)
    (c3 : PySem.W.codeIn K cd3 "Beats.none" = true)
    (k3 : PySem.W.keepIn K (.ref f3) = true)
    (s4 : PySem.W.findCls K (.ref CB) (.type "type") "window" = some (.get (.builtin "staticmethod.__get__") (.ref p4) .none (.ref CB)))
    (t4 : PySem.W.recIn K p4 "staticmethod" = some (.ref f4 :: r4))
    (l4 : K.lookup f4 = some ⟨oc4, od4, .func (PySem.W.fnOf "window" "Beats.window" (defArgs s_Beats_window) (defBody s_Beats_window) (defScope s_Beats_window) .none kV4 dc4 pm4 an4 cd4 ct4), sl4⟩)
    (c4 : PySem.W.codeIn K cd4 "Beats.window" = true)
    (k4 : PySem.W.keepIn K (.ref f4) = true)
    (a5 : PySem.W.findIn K (.ref CB) "__len__" = some (some (.ref f5)))
    (i5 : PySem.W.isFn K (.ref f5) = true)
    (l5 : K.lookup f5 = some ⟨oc5, od5, .func (PySem.W.fnOf "__len__" "Beats.__len__" (defArgs s_Beats_len) (defBody s_Beats_len) (defScope s_Beats_len) .none kV5 dc5 pm5 an5 cd5 ct5), sl5⟩)
    (c5 : PySem.W.codeIn K cd5 "Beats.__len__" = true)
    (k5 : PySem.W.keepIn K (.ref f5) = true)
    (a6 : PySem.W.findIn K (.ref CB) "__iter__" = some (some (.ref f6)))
    (i6 : PySem.W.isFn K (.ref f6) = true)
    (l6 : K.lookup f6 = some ⟨oc6, od6, .func (PySem.W.fnOf "__iter__" "Beats.__iter__" (defArgs s_Beats_iter) (defBody s_Beats_iter) (defScope s_Beats_iter) .none kV6 dc6 pm6 an6 cd6 ct6), sl6⟩)
    (c6 : PySem.W.codeIn K cd6 "Beats.__iter__" = true)
    (k6 : PySem.W.keepIn K (.ref f6) = true)
    (a7 : PySem.W.findIn K (.ref CB) "within" = some (some (.ref f7)))
    (i7 : PySem.W.isFn K (.ref f7) = true)
    (l7 : K.lookup f7 = some ⟨oc7, od7, .func (PySem.W.fnOf "within" "Beats.within" (defArgs s_Beats_within) (defBody s_Beats_within) (defScope s_Beats_within) .none kV7 dc7 pm7 an7 cd7 ct7), sl7⟩)
    (c7 : PySem.W.codeIn K cd7 "Beats.within" = true)
    (k7 : PySem.W.keepIn K (.ref f7) = true)
    (a8 : PySem.W.nsIn K mainGlobals "is_length" = some (some (.ref f8)))
    (l8 : K.lookup f8 = some ⟨oc8, od8, .func (PySem.W.fnOf "is_length" "is_length" (defArgs s_is_length) (defBody s_is_length) (defScope s_is_length) .none kV8 dc8 pm8 an8 cd8 ct8), sl8⟩)
    (c8 : PySem.W.codeIn K cd8 "is_length" = true)
    (k8 : PySem.W.keepIn K (.ref f8) = true)
    (a9 : PySem.W.nsIn K mainGlobals "check_length" = some (some (.ref f9)))
    (l9 : K.lookup f9 = some ⟨oc9, od9, .func (PySem.W.fnOf "check_length" "check_length" (defArgs s_check_length) (defBody s_check_length) (defScope s_check_length) .none kV9 dc9 pm9 an9 cd9 ct9), sl9⟩)
    (c9 : PySem.W.codeIn K cd9 "check_length" = true)
    (k9 : PySem.W.keepIn K (.ref f9) = true)
    (a10 : PySem.W.nsIn K mainGlobals "check_same" = some (some (.ref f10)))
    (l10 : K.lookup f10 = some ⟨oc10, od10, .func (PySem.W.fnOf "check_same" "check_same" (defArgs s_check_same) (defBody s_check_same) (defScope s_check_same) .none kV10 dc10 pm10 an10 cd10 ct10), sl10⟩)
    (c10 : PySem.W.codeIn K cd10 "check_same" = true)
    (k10 : PySem.W.keepIn K (.ref f10) = true)
    (a11 : PySem.W.nsIn K mainGlobals "_law_cell" = some (some (.ref f11)))
    (l11 : K.lookup f11 = some ⟨oc11, od11, .func (PySem.W.fnOf "_law_cell" "_law_cell" (defArgs s_law_cell) (defBody s_law_cell) (defScope s_law_cell) .none kV11 dc11 pm11 an11 cd11 ct11), sl11⟩)
    (c11 : PySem.W.codeIn K cd11 "_law_cell" = true)
    (k11 : PySem.W.keepIn K (.ref f11) = true)
    (a12 : PySem.W.nsIn K mainGlobals "_law_hand" = some (some (.ref f12)))
    (l12 : K.lookup f12 = some ⟨oc12, od12, .func (PySem.W.fnOf "_law_hand" "_law_hand" (defArgs s_law_hand) (defBody s_law_hand) (defScope s_law_hand) .none kV12 dc12 pm12 an12 cd12 ct12), sl12⟩)
    (c12 : PySem.W.codeIn K cd12 "_law_hand" = true)
    (k12 : PySem.W.keepIn K (.ref f12) = true)
    (a13 : PySem.W.nsIn K mainGlobals "_law_take" = some (some (.ref f13)))
    (l13 : K.lookup f13 = some ⟨oc13, od13, .func (PySem.W.fnOf "_law_take" "_law_take" (defArgs s_law_take) (defBody s_law_take) (defScope s_law_take) .none kV13 dc13 pm13 an13 cd13 ct13), sl13⟩)
    (c13 : PySem.W.codeIn K cd13 "_law_take" = true)
    (k13 : PySem.W.keepIn K (.ref f13) = true)
    (a14 : PySem.W.nsIn K mainGlobals "_law_is_int" = some (some (.ref f14)))
    (l14 : K.lookup f14 = some ⟨oc14, od14, .func (PySem.W.fnOf "_law_is_int" "_law_is_int" (defArgs s_law_is_int) (defBody s_law_is_int) (defScope s_law_is_int) .none kV14 dc14 pm14 an14 cd14 ct14), sl14⟩)
    (c14 : PySem.W.codeIn K cd14 "_law_is_int" = true)
    (k14 : PySem.W.keepIn K (.ref f14) = true)
    (a15 : PySem.W.nsIn K mainGlobals "_law_same" = some (some (.ref f15)))
    (l15 : K.lookup f15 = some ⟨oc15, od15, .func (PySem.W.fnOf "_law_same" "_law_same" (defArgs s_law_same) (defBody s_law_same) (defScope s_law_same) .none kV15 dc15 pm15 an15 cd15 ct15), sl15⟩)
    (c15 : PySem.W.codeIn K cd15 "_law_same" = true)
    (k15 : PySem.W.keepIn K (.ref f15) = true)
    (a16 : PySem.W.nsIn K mainGlobals "_law_low" = some (some (.ref f16)))
    (l16 : K.lookup f16 = some ⟨oc16, od16, .func (PySem.W.fnOf "_law_low" "_law_low" (defArgs s_law_low) (defBody s_law_low) (defScope s_law_low) .none kV16 dc16 pm16 an16 cd16 ct16), sl16⟩)
    (c16 : PySem.W.codeIn K cd16 "_law_low" = true)
    (k16 : PySem.W.keepIn K (.ref f16) = true)
    (a17 : PySem.W.nsIn K mainGlobals "_law_high" = some (some (.ref f17)))
    (l17 : K.lookup f17 = some ⟨oc17, od17, .func (PySem.W.fnOf "_law_high" "_law_high" (defArgs s_law_high) (defBody s_law_high) (defScope s_law_high) .none kV17 dc17 pm17 an17 cd17 ct17), sl17⟩)
    (c17 : PySem.W.codeIn K cd17 "_law_high" = true)
    (k17 : PySem.W.keepIn K (.ref f17) = true)
    (a18 : PySem.W.nsIn K mainGlobals "_law_wrong" = some (some (.ref f18)))
    (l18 : K.lookup f18 = some ⟨oc18, od18, .func (PySem.W.fnOf "_law_wrong" "_law_wrong" (defArgs s_law_wrong) (defBody s_law_wrong) (defScope s_law_wrong) .none kV18 dc18 pm18 an18 cd18 ct18), sl18⟩)
    (c18 : PySem.W.codeIn K cd18 "_law_wrong" = true)
    (k18 : PySem.W.keepIn K (.ref f18) = true)
    (a19 : PySem.W.nsIn K mainGlobals "_law_has" = some (some (.ref f19)))
    (l19 : K.lookup f19 = some ⟨oc19, od19, .func (PySem.W.fnOf "_law_has" "_law_has" (defArgs s_law_has) (defBody s_law_has) (defScope s_law_has) .none kV19 dc19 pm19 an19 cd19 ct19), sl19⟩)
    (c19 : PySem.W.codeIn K cd19 "_law_has" = true)
    (k19 : PySem.W.keepIn K (.ref f19) = true)
    (a20 : PySem.W.nsIn K mainGlobals "_law_made" = some (some (.ref f20)))
    (l20 : K.lookup f20 = some ⟨oc20, od20, .func (PySem.W.fnOf "_law_made" "_law_made" (defArgs s_law_made) (defBody s_law_made) (defScope s_law_made) .none kV20 dc20 pm20 an20 cd20 ct20), sl20⟩)
    (c20 : PySem.W.codeIn K cd20 "_law_made" = true)
    (k20 : PySem.W.keepIn K (.ref f20) = true)
    (a21 : PySem.W.nsIn K mainGlobals "_law_refused" = some (some (.ref f21)))
    (l21 : K.lookup f21 = some ⟨oc21, od21, .func (PySem.W.fnOf "_law_refused" "_law_refused" (defArgs s_law_refused) (defBody s_law_refused) (defScope s_law_refused) .none kV21 dc21 pm21 an21 cd21 ct21), sl21⟩)
    (c21 : PySem.W.codeIn K cd21 "_law_refused" = true)
    (k21 : PySem.W.keepIn K (.ref f21) = true)
    (a22 : PySem.W.nsIn K mainGlobals "law" = some (some (.ref f22)))
    (l22 : K.lookup f22 = some ⟨oc22, od22, .func (PySem.W.fnOf "law" "law" (defArgs s_law) (defBody s_law) (defScope s_law) .none kV22 dc22 pm22 an22 cd22 ct22), sl22⟩)
    (c22 : PySem.W.codeIn K cd22 "law" = true)
    (k22 : PySem.W.keepIn K (.ref f22) = true)
    (gMOST_BEATS : PySem.W.nsIn K mainGlobals "MOST_BEATS" = some (some (.int 60 tMOST_BEATS)))
    (zValueError : PySem.W.nsIn K mainGlobals "ValueError" = some none)
    (zabs : PySem.W.nsIn K mainGlobals "abs" = some none)
    (zbool : PySem.W.nsIn K mainGlobals "bool" = some none)
    (zint : PySem.W.nsIn K mainGlobals "int" = some none)
    (zisinstance : PySem.W.nsIn K mainGlobals "isinstance" = some none)
    (ziter : PySem.W.nsIn K mainGlobals "iter" = some none)
    (zlen : PySem.W.nsIn K mainGlobals "len" = some none)
    (zlist : PySem.W.nsIn K mainGlobals "list" = some none)
    (zmax : PySem.W.nsIn K mainGlobals "max" = some none)
    (zmin : PySem.W.nsIn K mainGlobals "min" = some none)
    (zrange : PySem.W.nsIn K mainGlobals "range" = some none)
    (zstaticmethod : PySem.W.nsIn K mainGlobals "staticmethod" = some none)
    (zstr : PySem.W.nsIn K mainGlobals "str" = some none)
    (zsuper : PySem.W.nsIn K mainGlobals "super" = some none)
    (ztuple : PySem.W.nsIn K mainGlobals "tuple" = some none)
    (xE : PySem.W.excIn K CE [.type "ValueError", .type "Exception", .type "BaseException", .type "object"] "ValueError.__new__" = true)
    (kE : PySem.W.keepIn K (.ref CE) = true)
    (bE : PySem.W.subIn K (.ref CE) (.type "BaseException") = some true)
    (tE : PySem.W.typeIn K (.ref CE) = some (.type "type"))
    (bL : PySem.W.subIn K (.ref CL) (.type "BaseException") = some true)
    (tL : PySem.W.typeIn K (.ref CL) = some (.type "type"))
    (hdL : PySem.W.hasDictIn K CL = true)
    (hdE : PySem.W.hasDictIn K CE = true)
    (sEE : PySem.W.subIn K (.ref CE) (.ref CE) = some true)
    (sEL : PySem.W.subIn K (.ref CE) (.ref CL) = some true)
    (gaE : PySem.W.findIn K (.ref CE) "__getattribute__" = some (some (.builtin "BaseException.__getattribute__")))
    (gtE : PySem.W.findIn K (.ref CE) "__getattr__" = some none)
    (clE : PySem.W.findIn K (.ref CE) "__class__" = some (some (.builtin "object.__class__")))
    (mE : PySem.W.mroIn K CE (.type "object") = some true)
    (iV : PySem.W.subIn K (.ref CE) (.type "ValueError") = some true)
    (hdN : PySem.W.hasDictIn K CN = true)
    (tNN : PySem.W.typeIn K (.ref CN) = some (.type "type"))
    (sEN : PySem.W.subIn K (.ref CE) (.ref CN) = some false)
    (hdR : PySem.W.hasDictIn K CR = true)
    (tRR : PySem.W.typeIn K (.ref CR) = some (.type "type"))
    (sER : PySem.W.subIn K (.ref CE) (.ref CR) = some false)
    : ∃ fd : FuncData, (∀ (s : Shared) (v : Value), BindsTo s fd ⟨[v], []⟩ [("script", v)]) ∧ ∀ base : Heap, K.In base → base.Ns mainGlobals mg → FnOk P w K mg base (L2.CX P w) 8 fa fd ["script"] (spG K S_law) := by
  have e := hfa.symm.trans (PySem.W.mg_of X G a22)
  cases e
  have klCB : Kls K mg "Beats" CB := ⟨aCB, PySem.W.mg_of X G aCB, ⟨pgCB, hdCB, poCB, saCB⟩⟩
  have F_Beats_init := fun_mk (st := s_Beats_init) l1 c1 k1
  have B_Beats_init := F_Beats_init.binds (ps := ["self", "length", "members"]) fun _ _ _ _ _ _ us hl => match us, hl with | [_, _, _], _ => rfl
  have F_Beats_every := fun_mk (st := s_Beats_every) l2 c2 k2
  have B_Beats_every := F_Beats_every.binds (ps := ["length"]) fun _ _ _ _ _ _ us hl => match us, hl with | [_], _ => rfl
  have F_Beats_none := fun_mk (st := s_Beats_none) l3 c3 k3
  have B_Beats_none := F_Beats_none.binds (ps := ["length"]) fun _ _ _ _ _ _ us hl => match us, hl with | [_], _ => rfl
  have F_Beats_window := fun_mk (st := s_Beats_window) l4 c4 k4
  have B_Beats_window := F_Beats_window.binds (ps := ["length", "low", "high"]) fun _ _ _ _ _ _ us hl => match us, hl with | [_, _, _], _ => rfl
  have F_Beats_len := fun_mk (st := s_Beats_len) l5 c5 k5
  have B_Beats_len := F_Beats_len.binds (ps := ["self"]) fun _ _ _ _ _ _ us hl => match us, hl with | [_], _ => rfl
  have F_Beats_iter := fun_mk (st := s_Beats_iter) l6 c6 k6
  have B_Beats_iter := F_Beats_iter.binds (ps := ["self"]) fun _ _ _ _ _ _ us hl => match us, hl with | [_], _ => rfl
  have F_Beats_within := fun_mk (st := s_Beats_within) l7 c7 k7
  have B_Beats_within := F_Beats_within.binds (ps := ["self", "other"]) fun _ _ _ _ _ _ us hl => match us, hl with | [_, _], _ => rfl
  have F_is_length := fun_mk (st := s_is_length) l8 c8 k8
  have B_is_length := F_is_length.binds (ps := ["length"]) fun _ _ _ _ _ _ us hl => match us, hl with | [_], _ => rfl
  have F_check_length := fun_mk (st := s_check_length) l9 c9 k9
  have B_check_length := F_check_length.binds (ps := ["length"]) fun _ _ _ _ _ _ us hl => match us, hl with | [_], _ => rfl
  have F_check_same := fun_mk (st := s_check_same) l10 c10 k10
  have B_check_same := F_check_same.binds (ps := ["one", "other"]) fun _ _ _ _ _ _ us hl => match us, hl with | [_, _], _ => rfl
  have F_law_cell := fun_mk (st := s_law_cell) l11 c11 k11
  have B_law_cell := F_law_cell.binds (ps := ["script", "k"]) fun _ _ _ _ _ _ us hl => match us, hl with | [_, _], _ => rfl
  have F_law_hand := fun_mk (st := s_law_hand) l12 c12 k12
  have B_law_hand := F_law_hand.binds (ps := ["script", "k"]) fun _ _ _ _ _ _ us hl => match us, hl with | [_, _], _ => rfl
  have F_law_take := fun_mk (st := s_law_take) l13 c13 k13
  have B_law_take := F_law_take.binds (ps := ["hand", "many"]) fun _ _ _ _ _ _ us hl => match us, hl with | [_, _], _ => rfl
  have F_law_is_int := fun_mk (st := s_law_is_int) l14 c14 k14
  have B_law_is_int := F_law_is_int.binds (ps := ["got"]) fun _ _ _ _ _ _ us hl => match us, hl with | [_], _ => rfl
  have F_law_same := fun_mk (st := s_law_same) l15 c15 k15
  have B_law_same := F_law_same.binds (ps := ["got", "due"]) fun _ _ _ _ _ _ us hl => match us, hl with | [_, _], _ => rfl
  have F_law_low := fun_mk (st := s_law_low) l16 c16 k16
  have B_law_low := F_law_low.binds (ps := ["hand", "length"]) fun _ _ _ _ _ _ us hl => match us, hl with | [_, _], _ => rfl
  have F_law_high := fun_mk (st := s_law_high) l17 c17 k17
  have B_law_high := F_law_high.binds (ps := ["hand", "length", "low"]) fun _ _ _ _ _ _ us hl => match us, hl with | [_, _, _], _ => rfl
  have F_law_wrong := fun_mk (st := s_law_wrong) l18 c18 k18
  have B_law_wrong := F_law_wrong.binds (ps := ["hand"]) fun _ _ _ _ _ _ us hl => match us, hl with | [_], _ => rfl
  have F_law_has := fun_mk (st := s_law_has) l19 c19 k19
  have B_law_has := F_law_has.binds (ps := ["beats", "length", "due"]) fun _ _ _ _ _ _ us hl => match us, hl with | [_, _, _], _ => rfl
  have F_law_made := fun_mk (st := s_law_made) l20 c20 k20
  have B_law_made := F_law_made.binds (ps := ["kind", "length", "low", "high"]) fun _ _ _ _ _ _ us hl => match us, hl with | [_, _, _, _], _ => rfl
  have F_law_refused := fun_mk (st := s_law_refused) l21 c21 k21
  have B_law_refused := F_law_refused.binds (ps := ["kind", "length", "low", "high"]) fun _ _ _ _ _ _ us hl => match us, hl with | [_, _, _, _], _ => rfl
  have F_law := fun_mk (st := s_law) l22 c22 k22
  have B_law := F_law.binds (ps := ["script"]) fun _ _ _ _ _ _ us hl => match us, hl with | [_], _ => rfl
  have G_MOST_BEATS := PySem.W.mg_of X G gMOST_BEATS
  have T : Blt mg := ⟨PySem.W.mg_none_of X G zValueError, PySem.W.mg_none_of X G zabs, PySem.W.mg_none_of X G zbool, PySem.W.mg_none_of X G zint, PySem.W.mg_none_of X G zisinstance, PySem.W.mg_none_of X G ziter, PySem.W.mg_none_of X G zlen, PySem.W.mg_none_of X G zlist, PySem.W.mg_none_of X G zmax, PySem.W.mg_none_of X G zmin, PySem.W.mg_none_of X G zrange, PySem.W.mg_none_of X G zstaticmethod, PySem.W.mg_none_of X G zstr, PySem.W.mg_none_of X G zsuper, PySem.W.mg_none_of X G ztuple⟩
  have kE' : ExcK K mg "BadBeats" CE := ⟨aCE, PySem.W.mg_of X G aCE, ⟨_, _, _, _, PySem.F.excBase_ValueError, xE⟩, kE, bE, tE⟩
  have EK : ErrK K mg CE CL CN CR := ⟨kE', ⟨gaE, gtE, bE, hdE, clE, hn0, ht0, mE⟩, PySem.W.mg_of X G aCL, PySem.W.mg_of X G aCN, PySem.W.mg_of X G aCR, PySem.W.exm_ref bE hdE tE sEE, PySem.W.exm_ref bL hdL tL sEL, kit_ref hdL tL sEL sEE, kit_typ iV, kit_ref hdN tNN sEN sEE, kit_ref hdR tRR sER sEE⟩
  have NB : NaB K CB := ⟨nCBlength, nCBbits, nCBbeats⟩
  have IB : InsK K CB := ⟨haCB, hn0, ht0, hmCB⟩
  refine ⟨PySem.W.fnOf "law" "law" (defArgs s_law) (defBody s_law) (defScope s_law) .none kV22 dc22 pm22 an22 cd22 ct22, fun s v => .of_eq rfl, fun base _ _ => ?_⟩
  have d_isl : Def P w K mg base "is_length" 1 ["length"] S_isl := ⟨⟨f8, _, PySem.W.mg_of X G a8, k8, B_is_length, ok_isl F_is_length G_MOST_BEATS⟩⟩
  have d_chk : Def P w K mg base "check_length" 2 ["length"] S_chk := ⟨⟨f9, _, PySem.W.mg_of X G a9, k9, B_check_length, ok_chk F_check_length d_isl kE'⟩⟩
  have d_same0 : Def P w K mg base "check_same" 1 ["one", "other"] S_same0 := ⟨⟨f10, _, PySem.W.mg_of X G a10, k10, B_check_same, ok_same0 F_check_same klCB NB⟩⟩
  have d_init : DefI P w K mg base "Beats" CB 3 ["self", "length", "members"] S_init := ⟨f1, _, ⟨mkCB, a1, i1, kcCB⟩, B_Beats_init, ok_init F_Beats_init T d_chk klCB NB⟩
  have d_every : DefS P w K mg base CB "every" 5 ["length"] S_every := ⟨f2, _, ⟨.type "type", p2, r2, rdCB, sgCB, s2, t2, k2⟩, B_Beats_every, ok_every F_Beats_every T d_chk d_init klCB⟩
  have d_none : DefS P w K mg base CB "none" 5 ["length"] S_none := ⟨f3, _, ⟨.type "type", p3, r3, rdCB, sgCB, s3, t3, k3⟩, B_Beats_none, ok_none F_Beats_none d_init klCB⟩
  have d_window : DefS P w K mg base CB "window" 5 ["length", "low", "high"] S_window := ⟨f4, _, ⟨.type "type", p4, r4, rdCB, sgCB, s4, t4, k4⟩, B_Beats_window, ok_window F_Beats_window T d_chk d_init klCB⟩
  have d_len : DefD P w K mg base CB "__len__" 1 ["self"] S_len := ⟨f5, _, a5, i5, B_Beats_len, ok_len F_Beats_len T klCB NB⟩
  have d_iter : DefD P w K mg base CB "__iter__" 1 ["self"] S_iter := ⟨f6, _, a6, i6, B_Beats_iter, ok_iter F_Beats_iter T klCB NB⟩
  have d_within : DefM P w K mg base CB "within" 2 ["self", "other"] S_within := ⟨f7, _, ⟨a7, i7, k7⟩, B_Beats_within, ok_within F_Beats_within d_same0 klCB NB⟩
  have d_cell : Def P w K mg base "_law_cell" 1 ["script", "k"] S_cell := ⟨⟨f11, _, PySem.W.mg_of X G a11, k11, B_law_cell, ok_cell F_law_cell T⟩⟩
  have d_hand : Def P w K mg base "_law_hand" 2 ["script", "k"] S_hand := ⟨⟨f12, _, PySem.W.mg_of X G a12, k12, B_law_hand, ok_hand F_law_hand T d_cell⟩⟩
  have d_take : Def P w K mg base "_law_take" 1 ["hand", "many"] S_take := ⟨⟨f13, _, PySem.W.mg_of X G a13, k13, B_law_take, ok_take F_law_take T⟩⟩
  have d_isint : Def P w K mg base "_law_is_int" 1 ["got"] S_isint := ⟨⟨f14, _, PySem.W.mg_of X G a14, k14, B_law_is_int, ok_isint F_law_is_int T⟩⟩
  have d_same : Def P w K mg base "_law_same" 4 ["got", "due"] (S_same 2) := ⟨f15, _, PySem.W.mg_of X G a15, k15, B_law_same, ok_same F_law_same T d_isint (fun n S h => ⟨f15, _, PySem.W.mg_of X G a15, k15, B_law_same, h⟩) 2⟩
  have d_low : Def P w K mg base "_law_low" 2 ["hand", "length"] S_low := ⟨⟨f16, _, PySem.W.mg_of X G a16, k16, B_law_low, ok_low F_law_low d_take⟩⟩
  have d_high : Def P w K mg base "_law_high" 2 ["hand", "length", "low"] S_high := ⟨⟨f17, _, PySem.W.mg_of X G a17, k17, B_law_high, ok_high F_law_high T d_take⟩⟩
  have d_wrong : Def P w K mg base "_law_wrong" 2 ["hand"] S_wrong := ⟨⟨f18, _, PySem.W.mg_of X G a18, k18, B_law_wrong, ok_wrong F_law_wrong d_take⟩⟩
  have d_has : Def P w K mg base "_law_has" 5 ["beats", "length", "due"] S_has := ⟨⟨f19, _, PySem.W.mg_of X G a19, k19, B_law_has, ok_has F_law_has T d_len d_iter d_same klCB IB NB⟩⟩
  have d_made : Def P w K mg base "_law_made" 6 ["kind", "length", "low", "high"] S_made := ⟨⟨f20, _, PySem.W.mg_of X G a20, k20, B_law_made, ok_made F_law_made d_window d_every d_none klCB⟩⟩
  have d_refused : Def P w K mg base "_law_refused" 7 ["kind", "length", "low", "high"] S_refused := ⟨⟨f21, _, PySem.W.mg_of X G a21, k21, B_law_refused, ok_refused F_law_refused T d_made EK⟩⟩
  exact ok_law F_law T ⟨d_hand, d_take, d_low, d_high, d_wrong, d_same, d_has, d_made, d_refused, d_window, d_every, d_none, d_within⟩ klCB
theorem walk {l : PySem.W.OpenLaw} {q : Program} {loose : List Str} {XP : (Str → Option Value) → Heap → Prop} {YP : World → Heap → Prop} {d : DefRec} {K : Params → Fg} (hn : l.most = some 63) (hdf : d.params.defaults = []) (hY : ∀ (w : World) (h : Heap), YP w h → (K w.params).In h)
    (F : ∀ (w : World) (mg : Str → Option Value) (fa : Addr) (h : Heap), (K w.params).In h → h.Ns mainGlobals mg → mg d.name = some (.ref fa) → ∃ fd : FuncData, (∀ (s : Shared) (u : Value), BindsTo s fd ⟨[u], []⟩ [("script", u)]) ∧ ∀ base : Heap, (K w.params).In base → base.Ns mainGlobals mg → FnOk l.prog w (K w.params) mg base (L2.CX l.prog w) 8 fa fd ["script"] (spG (K w.params) S_law)) :
    PySem.W.WalkO q loose XP YP l.row.toRowW d [] (fun f vs => PySem.call f vs) :=
  L2.walk_of (n := 63) (k := 8) (x := "script") (CX := fun w => L2.CX l.prog w) (sp := fun w => spG (K w.params) S_law) hn (by decide) hdf ⟨rfl, by decide, by decide⟩ hY F (fun w H a ns hl hO hS => law_sp hS) fun w H s e s' z => no_cx z
end Law

open PySem PySem.W PyProof.Rows
set_option maxRecDepth 100000 in
set_option maxHeartbeats 0 in
theorem PySem.Challenge.cw_lampcrossings_k04_beats_windows_holds : PySem.Challenge.rw_lampcrossings_k04_beats_windows.Holds := by
  w_on; o_law; k_head; (case hw => w_witness2)
  k_fill
  refine Law.walk (l := PySem.Challenge.rw_lampcrossings_k04_beats_windows) rfl rfl (fun w h Y => PySem.W.kIn_of Y) ?F
  case F =>
    intro w mg fa h KX G hmg
    refine' Law.all_mk KX G hmg ?aCB ?pgCB ?hdCB ?poCB ?saCB ?nCBlength ?nCBbits ?nCBbeats ?haCB ?hmCB ?mkCB ?kcCB ?rdCB ?sgCB ?hn0 ?ht0 ?aCE ?aCL ?aCN ?aCR ?a1 ?i1 ?l1 ?c1 ?k1 ?s2 ?t2 ?l2 ?c2 ?k2 ?s3 ?t3 ?l3 ?c3 ?k3 ?s4 ?t4 ?l4 ?c4 ?k4 ?a5 ?i5 ?l5 ?c5 ?k5 ?a6 ?i6 ?l6 ?c6 ?k6 ?a7 ?i7 ?l7 ?c7 ?k7 ?a8 ?l8 ?c8 ?k8 ?a9 ?l9 ?c9 ?k9 ?a10 ?l10 ?c10 ?k10 ?a11 ?l11 ?c11 ?k11 ?a12 ?l12 ?c12 ?k12 ?a13 ?l13 ?c13 ?k13 ?a14 ?l14 ?c14 ?k14 ?a15 ?l15 ?c15 ?k15 ?a16 ?l16 ?c16 ?k16 ?a17 ?l17 ?c17 ?k17 ?a18 ?l18 ?c18 ?k18 ?a19 ?l19 ?c19 ?k19 ?a20 ?l20 ?c20 ?k20 ?a21 ?l21 ?c21 ?k21 ?a22 ?l22 ?c22 ?k22 ?gMOST_BEATS ?zValueError ?zabs ?zbool ?zint ?zisinstance ?ziter ?zlen ?zlist ?zmax ?zmin ?zrange ?zstaticmethod ?zstr ?zsuper ?ztuple ?xE ?kE ?bE ?tE ?bL ?tL ?hdL ?hdE ?sEE ?sEL ?gaE ?gtE ?clE ?mE ?iV ?hdN ?tNN ?sEN ?hdR ?tRR ?sER
    (case aCB => k_is)
    (case pgCB => k_is)
    (case hdCB => k_is)
    (case poCB => k_is)
    (case saCB => k_is)
    (case nCBlength => k_is)
    (case nCBbits => k_is)
    (case nCBbeats => k_is)
    (case haCB => k_is)
    (case hmCB => k_is)
    (case mkCB => k_is)
    (case kcCB => k_is)
    (case rdCB => k_is)
    (case sgCB => k_is)
    (case hn0 => k_is)
    (case ht0 => k_is)
    (case aCE => k_is)
    (case aCL => k_is)
    (case aCN => k_is)
    (case aCR => k_is)
    (case a1 => k_is)
    (case i1 => k_is)
    (case l1 => k_is)
    (case c1 => k_is)
    (case k1 => k_is)
    (case s2 => k_is)
    (case t2 => k_is)
    (case l2 => k_is)
    (case c2 => k_is)
    (case k2 => k_is)
    (case s3 => k_is)
    (case t3 => k_is)
    (case l3 => k_is)
    (case c3 => k_is)
    (case k3 => k_is)
    (case s4 => k_is)
    (case t4 => k_is)
    (case l4 => k_is)
    (case c4 => k_is)
    (case k4 => k_is)
    (case a5 => k_is)
    (case i5 => k_is)
    (case l5 => k_is)
    (case c5 => k_is)
    (case k5 => k_is)
    (case a6 => k_is)
    (case i6 => k_is)
    (case l6 => k_is)
    (case c6 => k_is)
    (case k6 => k_is)
    (case a7 => k_is)
    (case i7 => k_is)
    (case l7 => k_is)
    (case c7 => k_is)
    (case k7 => k_is)
    (case a8 => k_is)
    (case l8 => k_is)
    (case c8 => k_is)
    (case k8 => k_is)
    (case a9 => k_is)
    (case l9 => k_is)
    (case c9 => k_is)
    (case k9 => k_is)
    (case a10 => k_is)
    (case l10 => k_is)
    (case c10 => k_is)
    (case k10 => k_is)
    (case a11 => k_is)
    (case l11 => k_is)
    (case c11 => k_is)
    (case k11 => k_is)
    (case a12 => k_is)
    (case l12 => k_is)
    (case c12 => k_is)
    (case k12 => k_is)
    (case a13 => k_is)
    (case l13 => k_is)
    (case c13 => k_is)
    (case k13 => k_is)
    (case a14 => k_is)
    (case l14 => k_is)
    (case c14 => k_is)
    (case k14 => k_is)
    (case a15 => k_is)
    (case l15 => k_is)
    (case c15 => k_is)
    (case k15 => k_is)
    (case a16 => k_is)
    (case l16 => k_is)
    (case c16 => k_is)
    (case k16 => k_is)
    (case a17 => k_is)
    (case l17 => k_is)
    (case c17 => k_is)
    (case k17 => k_is)
    (case a18 => k_is)
    (case l18 => k_is)
    (case c18 => k_is)
    (case k18 => k_is)
    (case a19 => k_is)
    (case l19 => k_is)
    (case c19 => k_is)
    (case k19 => k_is)
    (case a20 => k_is)
    (case l20 => k_is)
    (case c20 => k_is)
    (case k20 => k_is)
    (case a21 => k_is)
    (case l21 => k_is)
    (case c21 => k_is)
    (case k21 => k_is)
    (case a22 => k_is)
    (case l22 => k_is)
    (case c22 => k_is)
    (case k22 => k_is)
    (case gMOST_BEATS => k_is)
    (case zValueError => k_is)
    (case zabs => k_is)
    (case zbool => k_is)
    (case zint => k_is)
    (case zisinstance => k_is)
    (case ziter => k_is)
    (case zlen => k_is)
    (case zlist => k_is)
    (case zmax => k_is)
    (case zmin => k_is)
    (case zrange => k_is)
    (case zstaticmethod => k_is)
    (case zstr => k_is)
    (case zsuper => k_is)
    (case ztuple => k_is)
    (case xE => k_exc)
    (case kE => k_is)
    (case bE => k_is)
    (case tE => k_is)
    (case bL => k_is)
    (case tL => k_is)
    (case hdL => k_is)
    (case hdE => k_is)
    (case sEE => first | rfl | k_is)
    (case sEL => k_is)
    (case gaE => k_is)
    (case gtE => k_is)
    (case clE => k_is)
    (case mE => k_is)
    (case iV => k_is)
    (case hdN => k_is)
    (case tNN => k_is)
    (case sEN => k_is)
    (case hdR => k_is)
    (case tRR => k_is)
    (case sER => k_is)
#print axioms PySem.Challenge.cw_lampcrossings_k04_beats_windows_holds
