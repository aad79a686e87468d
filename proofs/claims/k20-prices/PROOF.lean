import PyProof.Rows.All
import Wide.All
import OpenK.AllK
import Wide.FinOn
import HandS.ForMost
import HandS.ForExc
import HandS.HeadHook2
import HandS.HeadHook3
import HandS.Head2
import HandS.HeadEnd
import HandS.Flow
import HandS.Steps
import HandS.DictComp
import HandS.SetKeys
import HandS.SortRule
import HandS.SortKw
import HandS.TupSets
import HandS.Strs
import HandS.IsInst
import HandS.Wide
import HandS.WideBits
import HandS.Defaults
import HandS.Style
import KE.KExcSuper
import HandS.HeadHook4
import HandS.New0
import HandS.CallSlots
import PySem.Challenge.RW_foldsunseen_k20_prices
set_option Elab.async false
set_option linter.all false
set_option maxRecDepth 100000
set_option exponentiation.threshold 2000
set_option maxHeartbeats 4000000
/-! THE VALUE LAYER: data by type, an owned store, frames of slots. -/
namespace VL
open PySem PySem.Spec PyProof.Rows L2

abbrev Fg := PySem.W.Frag

/-! ### heaps -/
def Le (G H : Hp) : Prop := ∀ b o, G b = some o → H b = some o
theorem Le.refl (H : Hp) : Le H H := fun _ _ h => h
theorem Le.trans {G H I : Hp} (a : Le G H) (b : Le H I) : Le G I := fun x o h => b x o (a x o h)
theorem Le.free {G H : Hp} (a : Le G H) {b : Addr} (h : H b = none) : G b = none := by
  cases q : G b with
  | none => rfl
  | some o => rw [a b o q] at h; cases h
theorem Le.upd {H : Hp} {p : Addr} {o : HO} (h : H p = none) : Le H (upd H p o) := fun b u e => by
  rw [upd_ne (ne_of_none e h)]; exact e
theorem Le.upd2 {G H : Hp} {p : Addr} {o : HO} (a : Le G H) (h : G p = none) : Le G (L2.upd H p o) := fun b u e => by
  rw [upd_ne (ne_of_none e h)]; exact a b u e
theorem Le.both {G H : Hp} {p : Addr} {o : HO} (a : Le G H) : Le (L2.upd G p o) (L2.upd H p o) := fun b u e => by
  by_cases q : b = p
  · subst q; rw [upd_same] at e ⊢; exact e
  · rw [upd_ne q] at e ⊢; exact a b u e
theorem Le.rd {G H : Hp} {a : Addr} {u : HO} (l : Le G H) (r : Rd G a u) : Rd H a u := by
  rcases r with r | ⟨o, r⟩
  · exact .inl (l _ _ r)
  · exact .inr ⟨o, l _ _ r⟩
theorem Le.sqL {K : Fg} {G H : Hp} {a : Addr} {xs : List V} (l : Le G H) (r : SqL K G a xs) : SqL K H a xs := r.imp l.rd id
theorem Le.sqT {K : Fg} {G H : Hp} {a : Addr} {xs : List V} (l : Le G H) (r : SqT K G a xs) : SqT K H a xs := r.imp l.rd id

/-! ### pairs of lists -/
section
variable {α β : Type} {F G : α → β → Prop}
theorem pr_len : ∀ {l : List α} {m : List β}, Paired F l m → l.length = m.length
  | _, _, .nil => rfl
  | _, _, .cons _ t => congrArg Nat.succ (pr_len t)
theorem pr_mono (h : ∀ a b, F a b → G a b) : ∀ {l : List α} {m : List β}, Paired F l m → Paired G l m
  | _, _, .nil => .nil
  | _, _, .cons r t => .cons (h _ _ r) (pr_mono h t)
theorem pr_get : ∀ {l : List α} {m : List β} {i : Nat} {x : β}, Paired F l m → m[i]? = some x → ∃ v, l[i]? = some v ∧ F v x
  | _, _, _, _, .nil, e => by simp at e
  | _, _, 0, _, .cons r _, e => by simp at e; subst e; exact ⟨_, rfl, r⟩
  | _, _, i + 1, x, .cons _ t, e => by
    obtain ⟨u, h1, h2⟩ := pr_get (i := i) (x := x) t (by simpa using e)
    exact ⟨u, by simpa using h1, h2⟩
theorem pr_getL : ∀ {l : List α} {m : List β} {i : Nat} {v : α}, Paired F l m → l[i]? = some v → ∃ x, m[i]? = some x ∧ F v x
  | _, _, _, _, .nil, e => by simp at e
  | _, _, 0, _, .cons r _, e => by simp at e; subst e; exact ⟨_, rfl, r⟩
  | _, _, i + 1, x, .cons _ t, e => by
    obtain ⟨u, h1, h2⟩ := pr_getL (i := i) (v := x) t (by simpa using e)
    exact ⟨u, by simpa using h1, h2⟩
theorem pr_app : ∀ {l l' : List α} {m m' : List β}, Paired F l m → Paired F l' m' → Paired F (l ++ l') (m ++ m')
  | _, _, _, _, .nil, s => s
  | _, _, _, _, .cons r t, s => .cons r (pr_app t s)
theorem pr_one {a : α} {b : β} (h : F a b) : Paired F [a] [b] := .cons h .nil
theorem pr_take : ∀ {l : List α} {m : List β} (n : Nat), Paired F l m → Paired F (l.take n) (m.take n)
  | _, _, 0, _ => .nil
  | _, _, _ + 1, .nil => .nil
  | _, _, n + 1, .cons r t => .cons r (pr_take n t)
theorem pr_drop : ∀ {l : List α} {m : List β} (n : Nat), Paired F l m → Paired F (l.drop n) (m.drop n)
  | _, _, 0, r => r
  | _, _, _ + 1, .nil => .nil
  | _, _, n + 1, .cons _ t => pr_drop n t
theorem pr_set {x : α} {u : β} (r : F x u) : ∀ {xs : List α} {us : List β} (i : Nat), Paired F xs us → Paired F (xs.set i x) (us.set i u)
  | _, _, _, .nil => .nil
  | _, _, 0, .cons _ t => .cons r t
  | _, _, i + 1, .cons q t => .cons q (pr_set r i t)
theorem pr_rev {l : List α} {m : List β} (h : Paired F l m) : Paired F l.reverse m.reverse := by
  induction h with
  | nil => exact .nil
  | cons r _ ih => rw [List.reverse_cons, List.reverse_cons]; exact pr_app ih (pr_one r)
theorem pr_dropLast {l : List α} {m : List β} (h : Paired F l m) : Paired F l.dropLast m.dropLast := by
  rw [List.dropLast_eq_take, List.dropLast_eq_take, pr_len h]; exact pr_take _ h
theorem pr_of {l : List α} {m : List β} (hl : l.length = m.length) (h : ∀ (i : Nat) (v : α) (x : β), l[i]? = some v → m[i]? = some x → F v x) : Paired F l m := by
  induction l generalizing m with
  | nil => cases m with
    | nil => exact .nil
    | cons _ _ => simp at hl
  | cons a l ih => cases m with
    | nil => simp at hl
    | cons b m =>
      refine .cons (h 0 a b rfl rfl) (ih (by simpa using hl) fun i v x h1 h2 => h (i + 1) v x (by simpa using h1) (by simpa using h2))
theorem pr_map {γ δ : Type} {G : γ → δ → Prop} (f : α → γ) (g : β → δ) (h : ∀ a b, F a b → G (f a) (g b)) : ∀ {l : List α} {m : List β}, Paired F l m → Paired G (l.map f) (m.map g)
  | _, _, .nil => .nil
  | _, _, .cons r t => .cons (h _ _ r) (pr_map f g h t)
end

/-! ### data -/
class Rp (α : Type) where
  rep : Fg → Hp → V → α → Prop
  mono : ∀ {K : Fg} {G G' : Hp} {v : V} {x : α}, Le G G' → rep K G v x → rep K G' v x
abbrev Reps {α : Type} [Rp α] (K : Fg) (G : Hp) : List V → List α → Prop := Paired (Rp.rep K G)
theorem Reps.mono {α : Type} [Rp α] {K : Fg} {G G' : Hp} (l : Le G G') {vs : List V} {xs : List α} (h : Reps K G vs xs) : Reps K G' vs xs := pr_mono (fun _ _ => Rp.mono l) h
instance : Rp Int := ⟨fun _ _ v x => v = .int x, fun _ h => h⟩
instance : Rp Bool := ⟨fun _ _ v x => v = .bl x, fun _ h => h⟩
instance : Rp Str := ⟨fun _ _ v x => v = .str x, fun _ h => h⟩
instance : Rp Unit := ⟨fun _ _ v _ => v = .non, fun _ h => h⟩
instance {α : Type} [Rp α] : Rp (Option α) := ⟨fun K G v o => match o with
  | none => v = .non
  | some x => Rp.rep K G v x, fun {K G G' v o} l h => by
    cases o with
    | none => exact h
    | some x => exact Rp.mono l h⟩
instance {α β : Type} [Rp α] [Rp β] : Rp (Sum α β) := ⟨fun K G v o => match o with
  | .inl x => Rp.rep K G v x
  | .inr x => Rp.rep K G v x, fun {K G G' v o} l h => by
    cases o with
    | inl x => exact Rp.mono l (x := x) h
    | inr x => exact Rp.mono l (x := x) h⟩
/-- a list; a tuple of any length; tuples of two, three, four -/
instance {α : Type} [Rp α] : Rp (List α) := ⟨fun K G v xs => ∃ a vs, v = .ref a ∧ SqL K G a vs ∧ Reps K G vs xs, fun l ⟨a, vs, e, s, r⟩ => ⟨a, vs, e, l.sqL s, Reps.mono l r⟩⟩
structure Tup (α : Type) where
  l : List α
  deriving DecidableEq
instance {α : Type} [Rp α] : Rp (Tup α) := ⟨fun K G v xs => ∃ a vs, v = .ref a ∧ SqT K G a vs ∧ Reps K G vs xs.l, fun l ⟨a, vs, e, s, r⟩ => ⟨a, vs, e, l.sqT s, Reps.mono l r⟩⟩
structure T2 (α β : Type) where
  a : α
  b : β
  deriving DecidableEq
structure T3 (α β γ : Type) where
  a : α
  b : β
  c : γ
  deriving DecidableEq
instance {α β : Type} [Rp α] [Rp β] : Rp (T2 α β) := ⟨fun K G v x => ∃ t v1 v2, v = .ref t ∧ SqT K G t [v1, v2] ∧ Rp.rep K G v1 x.a ∧ Rp.rep K G v2 x.b,
  fun l ⟨t, v1, v2, e, s, r1, r2⟩ => ⟨t, v1, v2, e, l.sqT s, Rp.mono l r1, Rp.mono l r2⟩⟩
instance {α β γ : Type} [Rp α] [Rp β] [Rp γ] : Rp (T3 α β γ) := ⟨fun K G v x => ∃ t v1 v2 v3, v = .ref t ∧ SqT K G t [v1, v2, v3] ∧ Rp.rep K G v1 x.a ∧ Rp.rep K G v2 x.b ∧ Rp.rep K G v3 x.c,
  fun l ⟨t, v1, v2, v3, e, s, r1, r2, r3⟩ => ⟨t, v1, v2, v3, e, l.sqT s, Rp.mono l r1, Rp.mono l r2, Rp.mono l r3⟩⟩
/-- keys of dicts -/
class KeyT (κ : Type) where
  key : κ → Key
  inj : ∀ a b, key a = key b → a = b
instance : KeyT Int := ⟨Sum.inl, fun _ _ h => Sum.inl.inj h⟩
instance : KeyT Str := ⟨Sum.inr, fun _ _ h => Sum.inr.inj h⟩
class KeyR (κ : Type) [KeyT κ] [Rp κ] : Prop where
  to : ∀ (K : Fg) (G : Hp) (v : V) (k : κ), Rp.rep K G v k → v = kV (KeyT.key k)
  of : ∀ (K : Fg) (G : Hp) (k : κ), Rp.rep K G (kV (KeyT.key k)) k
instance : KeyR Int := ⟨fun _ _ _ _ h => h, fun _ _ _ => rfl⟩
instance : KeyR Str := ⟨fun _ _ _ _ h => h, fun _ _ _ => rfl⟩
structure Dct (κ α : Type) where
  l : List (κ × α)
abbrev KvOk {κ α : Type} [KeyT κ] [Rp α] (K : Fg) (G : Hp) : List (Key × V) → List (κ × α) → Prop := Paired fun p q => p.1 = KeyT.key q.1 ∧ Rp.rep K G p.2 q.2
theorem KvOk.mono {κ α : Type} [KeyT κ] [Rp α] {K : Fg} {G G' : Hp} (l : Le G G') {vs : List (Key × V)} {xs : List (κ × α)} (h : KvOk K G vs xs) : KvOk K G' vs xs := pr_mono (fun _ _ q => ⟨q.1, Rp.mono l q.2⟩) h
instance {κ α : Type} [KeyT κ] [Rp α] : Rp (Dct κ α) := ⟨fun K G v d => ∃ a kvs, v = .ref a ∧ Rd G a (.dK kvs) ∧ KvOk K G kvs d.l, fun l ⟨a, vs, e, s, r⟩ => ⟨a, vs, e, l.rd s, KvOk.mono l r⟩⟩

/-! ### slots, containers -/
inductive Slot : Type 1
  | u
  | d {α : Type} [i : Rp α] (x : α)
  | p (k : Nat)
inductive Cont : Type 1
  | gone
  | lst {α : Type} [i : Rp α] (xs : List α)
  | dct {κ α : Type} [j : KeyT κ] [i : Rp α] (kvs : List (κ × α))
  | obj (C : Str) (fs : List (Str × Slot))

/-- a value is what the slot says -/
def VOk (K : Fg) (as : List Addr) (G : Hp) (v : V) : Slot → Prop
  | .u => True
  | @Slot.d α i x => @Rp.rep α i K G v x
  | .p k => ∃ a, as[k]? = some a ∧ v = .ref a
def FOk (K : Fg) (as : List Addr) (G : Hp) (y : Option (Option V)) : Slot → Prop
  | .u => True
  | @Slot.d α i x => ∃ v, y = some (some v) ∧ @Rp.rep α i K G v x
  | .p k => ∃ a, as[k]? = some a ∧ y = some (some (.ref a))
def FldsOk (K : Fg) (as : List Addr) (G : Hp) : List (Str × V) → List (Str × Slot) → Prop
  | [], [] => True
  | (f, v) :: l, (g, s) :: m => f = g ∧ VOk K as G v s ∧ FldsOk K as G l m
  | _, _ => False
def COk (K : Fg) (as : List Addr) (G : Hp) (ob : Option HO) : Cont → Prop
  | .gone => True
  | @Cont.lst α i xs => ∃ vs, ob = some (.lst vs) ∧ @Reps α i K G vs xs
  | @Cont.dct κ α j i kvs => ∃ vs, ob = some (.dK vs) ∧ @KvOk κ α j i K G vs kvs
  | .obj C fs => ∃ dx fvs, ob = some (.ins (He.ga K C) dx fvs) ∧ FldsOk K as G fvs fs

def Pre (as as' : List Addr) : Prop := ∃ more, as' = as ++ more
theorem Pre.refl (as : List Addr) : Pre as as := ⟨[], by simp⟩
theorem Pre.trans {a b c : List Addr} (x : Pre a b) (y : Pre b c) : Pre a c := by
  obtain ⟨m, rfl⟩ := x
  obtain ⟨n, rfl⟩ := y
  exact ⟨m ++ n, by simp⟩
theorem Pre.get {as as' : List Addr} (x : Pre as as') {k : Nat} {a : Addr} (h : as[k]? = some a) : as'[k]? = some a := by
  obtain ⟨m, rfl⟩ := x
  have hk := (List.getElem?_eq_some_iff.mp h).1
  rw [List.getElem?_append_left hk]; exact h

theorem VOk.mono {K : Fg} {as as' : List Addr} {G G' : Hp} {v : V} {s : Slot} (p : Pre as as') (l : Le G G') (h : VOk K as G v s) : VOk K as' G' v s := by
  cases s with
  | u => trivial
  | d x => exact Rp.mono (x := x) l (show Rp.rep K G v x from h)
  | p k => obtain ⟨a, h1, h2⟩ := h; exact ⟨a, p.get h1, h2⟩
theorem FOk.mono {K : Fg} {as as' : List Addr} {G G' : Hp} {y : Option (Option V)} {s : Slot} (p : Pre as as') (l : Le G G') (h : FOk K as G y s) : FOk K as' G' y s := by
  cases s with
  | u => trivial
  | d x => obtain ⟨v, h1, h2⟩ := h; exact ⟨v, h1, Rp.mono l h2⟩
  | p k => obtain ⟨a, h1, h2⟩ := h; exact ⟨a, p.get h1, h2⟩
theorem FOk.of {K : Fg} {as : List Addr} {G : Hp} {v : V} {s : Slot} (h : VOk K as G v s) : FOk K as G (some (some v)) s := by
  cases s with
  | u => trivial
  | d x => exact ⟨v, rfl, h⟩
  | p k => obtain ⟨a, h1, rfl⟩ := h; exact ⟨a, h1, rfl⟩
theorem FldsOk.mono {K : Fg} {as as' : List Addr} {G G' : Hp} (p : Pre as as') (l : Le G G') : ∀ {fvs : List (Str × V)} {fs : List (Str × Slot)}, FldsOk K as G fvs fs → FldsOk K as' G' fvs fs
  | [], [], _ => trivial
  | (_, _) :: _, (_, _) :: _, ⟨e, h, t⟩ => ⟨e, h.mono p l, FldsOk.mono p l t⟩
theorem COk.mono {K : Fg} {as as' : List Addr} {G G' : Hp} {ob : Option HO} {c : Cont} (p : Pre as as') (l : Le G G') (h : COk K as G ob c) : COk K as' G' ob c := by
  cases c with
  | gone => trivial
  | lst xs => obtain ⟨vs, e, r⟩ := h; exact ⟨vs, e, Reps.mono l r⟩
  | dct xs => obtain ⟨vs, e, r⟩ := h; exact ⟨vs, e, KvOk.mono l r⟩
  | obj C fs => obtain ⟨dx, fvs, e, r⟩ := h; exact ⟨dx, fvs, e, r.mono p l⟩

/-! ### the state -/
/-- a def's entry: its heap, the data that its arguments lean on, the addresses of the containers that it was handed -/
structure Cx0 where
  H : Hp
  G : Hp
  M : List Addr
def sget (sds : List Slot) (i : Nat) : Slot := sds.getD i .u
def cget (os : List Cont) (k : Nat) : Cont := os.getD k .gone
def Cont.live : Cont → Prop
  | .gone => False
  | _ => True
structure Abs (K : Fg) (c : Cx0) (as : List Addr) (G : Hp) (σ : L2.St) (H : Hp) (sds : List Slot) (os : List Cont) : Prop where
  sub : Le G H
  g0 : Le c.G G
  old : ∀ b o, c.H b = some o → b ∉ c.M → H b = some o
  new : ∀ b o, G b = some o → c.G b = some o ∨ c.H b = none
  pre : Pre c.M as
  nd : as.Nodup
  asz : as.length = os.length
  asf : ∀ a ∈ as, H a ≠ none ∧ (a ∈ c.M ∨ c.H a = none)
  lv : ∀ (k : Nat) (a : Addr), as[k]? = some a → (cget os k).live → G a = none
  fr : ∀ i, FOk K as G (σ[i]?) (sget sds i)
  st : ∀ (k : Nat) (a : Addr), as[k]? = some a → COk K as G (H a) (cget os k)
  len : σ.length = sds.length

/-! ### small facts of lists -/
theorem sget_set (sds : List Slot) (i j : Nat) (s : Slot) (h : i < sds.length) : sget (sds.set i s) j = if j = i then s else sget sds j := by
  unfold sget
  rw [List.getD_eq_getElem?_getD, List.getD_eq_getElem?_getD, List.getElem?_set]
  by_cases e : i = j
  · subst e; rw [if_pos rfl, if_pos h, if_pos rfl]; rfl
  · rw [if_neg e, if_neg (fun z => e z.symm)]
theorem cget_set (os : List Cont) (i j : Nat) (s : Cont) (h : i < os.length) : cget (os.set i s) j = if j = i then s else cget os j := by
  unfold cget
  rw [List.getD_eq_getElem?_getD, List.getD_eq_getElem?_getD, List.getElem?_set]
  by_cases e : i = j
  · subst e; rw [if_pos rfl, if_pos h, if_pos rfl]; rfl
  · rw [if_neg e, if_neg (fun z => e z.symm)]
theorem cget_app (os : List Cont) (c : Cont) (j : Nat) : cget (os ++ [c]) j = if j = os.length then c else cget os j := by
  unfold cget
  rw [List.getD_eq_getElem?_getD, List.getD_eq_getElem?_getD]
  by_cases e : j = os.length
  · subst e; rw [if_pos rfl, List.getElem?_concat_length]; rfl
  · rw [if_neg e]
    by_cases h : j < os.length
    · rw [List.getElem?_append_left h]
    · rw [List.getElem?_eq_none (by simp; omega), List.getElem?_eq_none (by omega)]
theorem sget_ge {sds : List Slot} {i : Nat} (h : sds.length ≤ i) : sget sds i = .u := by
  unfold sget; rw [List.getD_eq_getElem?_getD, List.getElem?_eq_none h]; rfl
theorem nd_get {as : List Addr} (h : as.Nodup) {i j : Nat} {a : Addr} (hi : as[i]? = some a) (hj : as[j]? = some a) : i = j := nd_ix h hi hj

/-! ### what changes a state -/
section
variable {K : Fg} {c : Cx0} {as : List Addr} {G H : Hp} {σ : L2.St} {sds : List Slot} {os : List Cont}
theorem Abs.notin (A : Abs K c as G σ H sds os) {p : Addr} (h : H p = none) : p ∉ as := fun m => (A.asf p m).1 h
theorem Abs.hfree (A : Abs K c as G σ H sds os) {p : Addr} (h : H p = none) : c.H p = none ∨ p ∈ c.M := by
  by_cases m : p ∈ c.M
  · exact .inr m
  · refine .inl ?_
    cases q : c.H p with
    | none => rfl
    | some o => rw [A.old p o q m] at h; cases h
theorem Abs.hfree' (A : Abs K c as G σ H sds os) {p : Addr} (h : H p = none) : c.H p = none := by
  rcases A.hfree h with q | q
  · exact q
  · obtain ⟨m, e⟩ := A.pre
    exact absurd (show p ∈ as by rw [e]; exact List.mem_append_left _ q) (A.notin h)
/-- the store's heap is untouched by a new address -/
theorem Abs.newD (A : Abs K c as G σ H sds os) {p : Addr} {o : HO} (h : H p = none) : Abs K c as (upd G p o) σ (upd H p o) sds os := by
  have hG : G p = none := A.sub.free h
  have hl : Le G (upd G p o) := Le.upd hG
  refine ⟨A.sub.both, A.g0.trans hl, fun b u e m => ?_, fun b u e => ?_, A.pre, A.nd, A.asz, fun a m => ?_, fun k a e l => ?_, fun i => (A.fr i).mono (Pre.refl _) hl, fun k a e => ?_, A.len⟩
  · rw [upd_ne (ne_of_none (A.old b u e m) h)]; exact A.old b u e m
  · by_cases q : b = p
    · subst q; exact .inr (A.hfree' h)
    · rw [upd_ne q] at e; exact A.new b u e
  · have np : a ≠ p := fun z => A.notin h (z ▸ m)
    rw [upd_ne np]; exact A.asf a m
  · have np : a ≠ p := fun z => A.notin h (z ▸ List.mem_of_getElem? e)
    rw [upd_ne np]; exact A.lv k a e l
  · have np : a ≠ p := fun z => A.notin h (z ▸ List.mem_of_getElem? e)
    rw [upd_ne np]; exact (A.st k a e).mono (Pre.refl _) hl
/-- a new container -/
theorem Abs.newP (A : Abs K c as G σ H sds os) {p : Addr} {o : HO} {ct : Cont} (h : H p = none) (hc : COk K as G (some o) ct) : Abs K c (as ++ [p]) G σ (upd H p o) sds (os ++ [ct]) := by
  have hG : G p = none := A.sub.free h
  have hp : Pre as (as ++ [p]) := ⟨[p], rfl⟩
  have gt : ∀ {k : Nat} {a : Addr}, (as ++ [p])[k]? = some a → (k = as.length ∧ a = p) ∨ (k ≠ as.length ∧ as[k]? = some a) := fun {k a} e => by
    by_cases q : k < as.length
    · rw [List.getElem?_append_left q] at e; exact .inr ⟨by omega, e⟩
    · have hk := (List.getElem?_eq_some_iff.mp e).1
      rw [List.length_append, List.length_singleton] at hk
      have ek : k = as.length := by omega
      subst ek
      rw [List.getElem?_concat_length] at e
      exact .inl ⟨rfl, (Option.some.inj e).symm⟩
  refine ⟨A.sub.upd2 hG, A.g0, fun b u e m => ?_, A.new, A.pre.trans hp, ?_, by simp [A.asz], fun a m => ?_, fun k a e l => ?_, fun i => (A.fr i).mono hp (Le.refl _), fun k a e => ?_, A.len⟩
  · rw [upd_ne (ne_of_none (A.old b u e m) h)]; exact A.old b u e m
  · exact List.nodup_append.mpr ⟨A.nd, by simp, fun a ha b hb => by
      have eb : b = p := by simpa using hb
      subst eb
      exact fun z => A.notin h (z ▸ ha)⟩
  · rcases List.mem_append.mp m with m | m
    · have np : a ≠ p := fun z => A.notin h (z ▸ m)
      rw [upd_ne np]; exact A.asf a m
    · have ea : a = p := by simpa using m
      subst ea
      rw [upd_same]; exact ⟨by simp, .inr (A.hfree' h)⟩
  · rcases gt e with ⟨ek, ea⟩ | ⟨ek, ea⟩
    · rw [ea]; exact hG
    · rw [cget_app, if_neg (by rw [← A.asz]; exact ek)] at l
      exact A.lv k a ea l
  · rcases gt e with ⟨ek, ea⟩ | ⟨ek, ea⟩
    · rw [ea, upd_same, cget_app, if_pos (by rw [← A.asz]; exact ek)]
      exact hc.mono hp (Le.refl _)
    · have np : a ≠ p := fun z => A.notin h (z ▸ List.mem_of_getElem? ea)
      rw [upd_ne np, cget_app, if_neg (by rw [← A.asz]; exact ek)]
      exact (A.st k a ea).mono hp (Le.refl _)
/-- a container is changed in its place -/
theorem Abs.put (A : Abs K c as G σ H sds os) {k : Nat} {a : Addr} {o : HO} {ct : Cont} (ha : as[k]? = some a) (hl : (cget os k).live) (hc : COk K as G (some o) ct) : Abs K c as G σ (upd H a o) sds (os.set k ct) := by
  have hG : G a = none := A.lv k a ha hl
  have hm : a ∈ as := List.mem_of_getElem? ha
  have hk : k < os.length := by rw [← A.asz]; exact (List.getElem?_eq_some_iff.mp ha).1
  refine ⟨A.sub.upd2 hG, A.g0, fun b u e m => ?_, A.new, A.pre, A.nd, by simp [A.asz], fun b m => ?_, fun j b e l => ?_, A.fr, fun j b e => ?_, A.len⟩
  · have nb : b ≠ a := fun z => by
      subst z
      rcases (A.asf b hm).2 with q | q
      · exact m q
      · rw [q] at e; cases e
    rw [upd_ne nb]; exact A.old b u e m
  · by_cases q : b = a
    · subst q; rw [upd_same]; exact ⟨by simp, (A.asf b hm).2⟩
    · rw [upd_ne q]; exact A.asf b m
  · rw [cget_set _ _ _ _ hk] at l
    by_cases q : j = k
    · subst q
      have eb : b = a := Option.some.inj (e.symm.trans ha)
      rw [eb]; exact hG
    · rw [if_neg q] at l; exact A.lv j b e l
  · rw [cget_set _ _ _ _ hk]
    by_cases q : j = k
    · subst q
      have eb : b = a := Option.some.inj (e.symm.trans ha)
      rw [eb, upd_same, if_pos rfl]; exact hc
    · have nb : b ≠ a := fun z => q (nd_get A.nd e (z ▸ ha))
      rw [upd_ne nb, if_neg q]; exact A.st j b e
/-- a container of the def's own is frozen: it is data from now on -/
theorem Abs.frz (A : Abs K c as G σ H sds os) {k : Nat} {a : Addr} {o : HO} (ha : as[k]? = some a) (hk0 : c.M.length ≤ k) (ho : H a = some o) : Abs K c as (upd G a o) σ H sds (os.set k .gone) ∧ Le G (upd G a o) := by
  have hm : a ∈ as := List.mem_of_getElem? ha
  have hk : k < os.length := by rw [← A.asz]; exact (List.getElem?_eq_some_iff.mp ha).1
  have hl : Le G (upd G a o) := fun b u e => by
    by_cases q : b = a
    · subst q; rw [upd_same, ← ho]; exact A.sub b u e
    · rw [upd_ne q]; exact e
  have nM : a ∉ c.M := fun m => by
    obtain ⟨more, e⟩ := A.pre
    obtain ⟨j, hj, ej⟩ := List.mem_iff_getElem.mp m
    have e2 : as[j]? = some a := by rw [e, List.getElem?_append_left hj, List.getElem?_eq_getElem hj, ej]
    have := nd_get A.nd e2 ha
    omega
  have hH : c.H a = none := (A.asf a hm).2.resolve_left nM
  refine ⟨⟨fun b u e => ?_, A.g0.trans hl, A.old, fun b u e => ?_, A.pre, A.nd, by simp [A.asz], A.asf, fun j b e l => ?_, fun i => (A.fr i).mono (Pre.refl _) hl, fun j b e => ?_, A.len⟩, hl⟩
  · by_cases q : b = a
    · subst q; rw [upd_same] at e; rw [ho]; exact e
    · rw [upd_ne q] at e; exact A.sub b u e
  · by_cases q : b = a
    · subst q; exact .inr hH
    · rw [upd_ne q] at e; exact A.new b u e
  · rw [cget_set _ _ _ _ hk] at l
    by_cases q : j = k
    · rw [if_pos q] at l; exact l.elim
    · rw [if_neg q] at l
      have nb : b ≠ a := fun z => q (nd_get A.nd e (z ▸ ha))
      rw [upd_ne nb]; exact A.lv j b e l
  · rw [cget_set _ _ _ _ hk]
    by_cases q : j = k
    · rw [if_pos q]; trivial
    · rw [if_neg q]; exact (A.st j b e).mono (Pre.refl _) hl
/-- a slot is set -/
theorem Abs.set (A : Abs K c as G σ H sds os) {i : Nat} {v : V} {s : Slot} (hi : i < sds.length) (h : VOk K as G v s) : Abs K c as G (σ.set i (some v)) H (sds.set i s) os := by
  refine ⟨A.sub, A.g0, A.old, A.new, A.pre, A.nd, A.asz, A.asf, A.lv, fun j => ?_, A.st, by simp [A.len]⟩
  rw [sget_set _ _ _ _ hi, List.getElem?_set]
  by_cases q : i = j
  · subst q
    rw [if_pos rfl, if_pos rfl, if_pos (by rw [A.len]; exact hi)]
    exact FOk.of h
  · rw [if_neg q, if_neg (fun z => q z.symm)]; exact A.fr j
/-- slots may be forgotten, or read otherwise -/
theorem Abs.slots (A : Abs K c as G σ H sds os) {sds' : List Slot} (hl : sds'.length = sds.length) (h : ∀ i y, FOk K as G y (sget sds i) → FOk K as G y (sget sds' i)) : Abs K c as G σ H sds' os :=
  ⟨A.sub, A.g0, A.old, A.new, A.pre, A.nd, A.asz, A.asf, A.lv, fun j => h j _ (A.fr j), A.st, by rw [hl]; exact A.len⟩
/-- the store's tail is let go -/
theorem Abs.trim (A : Abs K c as G σ H sds os) (n : Nat) (hn : c.M.length ≤ n) (hs : ∀ i k, sget sds i = .p k → k < n) (hc : ∀ j, j < n → ∀ C fs, cget os j = .obj C fs → ∀ q ∈ fs, ∀ k, q.2 = .p k → k < n) :
    Abs K c (as.take n) G σ H sds (os.take n) := by
  have gt : ∀ {k : Nat} {a : Addr}, (as.take n)[k]? = some a → k < n ∧ as[k]? = some a := fun {k a} e => by
    have hk := (List.getElem?_eq_some_iff.mp e).1
    rw [List.length_take] at hk
    rw [List.getElem?_take_of_lt (by omega)] at e
    exact ⟨by omega, e⟩
  have cg : ∀ k, k < n → cget (os.take n) k = cget os k := fun k hk => by
    unfold cget
    rw [List.getD_eq_getElem?_getD, List.getD_eq_getElem?_getD, List.getElem?_take_of_lt hk]
  have keepP : ∀ {k : Nat} {a : Addr}, k < n → as[k]? = some a → (as.take n)[k]? = some a := fun {k a} hk e => by
    rw [List.getElem?_take_of_lt hk]; exact e
  have flds : ∀ {fvs : List (Str × V)} {fs : List (Str × Slot)}, (∀ q ∈ fs, ∀ k, q.2 = .p k → k < n) → FldsOk K as G fvs fs → FldsOk K (as.take n) G fvs fs := by
    intro fvs
    induction fvs with
    | nil => intro fs _ h; cases fs <;> first | exact h | exact h.elim
    | cons p fvs ih =>
      intro fs hq h
      cases fs with
      | nil => exact h.elim
      | cons q fs =>
        obtain ⟨f, v⟩ := p
        obtain ⟨g, s⟩ := q
        obtain ⟨h1, h2, h3⟩ := h
        refine ⟨h1, ?_, ih (fun q hm => hq q (List.mem_cons_of_mem _ hm)) h3⟩
        cases s with
        | u => trivial
        | d x => exact h2
        | p k =>
          obtain ⟨a, e1, e2⟩ := h2
          exact ⟨a, keepP (hq _ (List.mem_cons_self ..) k rfl) e1, e2⟩
  refine ⟨A.sub, A.g0, A.old, A.new, ?_, A.nd.sublist (List.take_sublist _ _), by simp [A.asz], fun a m => A.asf a (List.mem_of_mem_take m), fun k a e l => ?_, fun i => ?_, fun k a e => ?_, A.len⟩
  · obtain ⟨more, e⟩ := A.pre
    refine ⟨more.take (n - c.M.length), ?_⟩
    rw [e, List.take_append, List.take_of_length_le hn]
  · obtain ⟨hk, e'⟩ := gt e
    rw [cg k hk] at l; exact A.lv k a e' l
  · have f := A.fr i
    cases q : sget sds i with
    | u => trivial
    | d x => rw [q] at f; exact f
    | p k =>
      rw [q] at f
      obtain ⟨a, e1, e2⟩ := f
      exact ⟨a, keepP (hs i k q) e1, e2⟩
  · obtain ⟨hk, e'⟩ := gt e
    rw [cg k hk]
    have f := A.st k a e'
    cases q : cget os k with
    | gone => trivial
    | lst xs => rw [q] at f; exact f
    | dct xs => rw [q] at f; exact f
    | obj C fs =>
      rw [q] at f
      obtain ⟨dx, fvs, e1, e2⟩ := f
      exact ⟨dx, fvs, e1, flds (hc k hk C fs q) e2⟩
/-- no frame at all -/
theorem Abs.bare (A : Abs K c as G σ H sds os) : Abs K c as G [] H [] os :=
  ⟨A.sub, A.g0, A.old, A.new, A.pre, A.nd, A.asz, A.asf, A.lv, fun j => trivial, A.st, rfl⟩
end
end VL

set_option maxHeartbeats 4000000
/-! THE VALUE LAYER 1: operators for all kinds at once; what an expression is worth. -/
namespace VL
open PySem PySem.Spec PyProof.Rows L2

/-! ### operators, whatever the kinds -/
section
variable {X : Cx}
def uAdd (K : Fg) : R2 := fun x y H Q => rI0 (fun i j => .int (i + j)) x y H Q ∨ rCat x y H Q ∨ rCatT K x y H Q
theorem op_uAdd : OpR X (binaryOp .Add) (uAdd X.K) := op_add.or (op_cat.or op_catT)
def uSub : R2 := rI0 fun i j => .int (i - j)
theorem op_uSub : OpR X (binaryOp .Sub) uSub := op_sub
def uMul : R2 := fun x y H Q => rI CMul (fun i j => .int (i * j)) x y H Q ∨ rI CMulW (fun i j => .int (i * j)) x y H Q ∨ rRep x y H Q
theorem op_uMul : OpR X (binaryOp .Mult) uMul := op_mul.or (op_mulW.or op_rep)
def uDiv : R2 := fun x y H Q => rI CDiv (fun i j => .int (i / j)) x y H Q ∨ rI CDivW (fun i j => .int (i / j)) x y H Q
theorem op_uDiv : OpR X (binaryOp .FloorDiv) uDiv := op_fdiv.or op_fdivW
def uMod : R2 := rI (fun _ j => 0 < j) fun i j => .int (i % j)
theorem op_uMod : OpR X (binaryOp .Mod) uMod := op_mod
def uPow : R2 := rI CPow fun i j => .int (i ^ j.toNat)
theorem op_uPow : OpR X (binaryOp .Pow) uPow := op_pow
def uEq (K : Fg) : R2 := fun x y H Q => rEq x y H Q ∨ rEqD K x y H Q
theorem op_uEq (hu : X.A.units + 64 < cLine) : OpR X (compareOp .Eq) (uEq X.K) := op_eq.or (op_eqD hu)
def uNe (K : Fg) : R2 := fun x y H Q => rNe x y H Q ∨ rNeD K x y H Q
theorem op_uNe (hu : X.A.units + 64 < cLine) : OpR X (compareOp .NotEq) (uNe X.K) := op_ne.or (op_neD hu)
def uLt : R2 := rI0 fun i j => .bl (decide (i < j))
def uLe : R2 := rI0 fun i j => .bl (decide (i ≤ j))
def uGt : R2 := rI0 fun i j => .bl (decide (j < i))
def uGe : R2 := rI0 fun i j => .bl (decide (j ≤ i))
theorem op_uLt : OpR X (compareOp .Lt) uLt := op_lt
theorem op_uLe : OpR X (compareOp .LtE) uLe := op_le
theorem op_uGt : OpR X (compareOp .Gt) uGt := op_gt
theorem op_uGe : OpR X (compareOp .GtE) uGe := op_ge
def uIs : R2 := fun x y H Q => y = .non ∧ Q (.bl (decide (x = .non))) H
def uIsN : R2 := fun x y H Q => y = .non ∧ Q (.bl (!decide (x = .non))) H
theorem op_uIs : OpR X (compareOp .Is) uIs := op_isN
theorem op_uIsN : OpR X (compareOp .IsNot) uIsN := op_notN
/-- a comparison's rule -/
theorem pc_of {op : CmpOp} {r : R2} {a b : Expr} {ta tb : TE} (ho : OpR X (compareOp op) r) (ha : PE X a ta) (hb : PE X b tb) : PC X op a b (tOp r ta tb) :=
  ⟨fun pins s σ H Q I h => binT ha hb I h fun v u s2 x y H2 I2 rx ry q => ho pins s2 σ H2 x y v u Q I2 rx ry q⟩
theorem pc_or {op : CmpOp} {a b : Expr} {t t' : TE} (h : PC X op a b t) (h' : PC X op a b t') : PC X op a b (fun σ H Q => t σ H Q ∨ t' σ H Q) :=
  ⟨fun pins s σ H Q I q => q.elim (h.run pins s σ H Q I) (h'.run pins s σ H Q I)⟩
theorem pe_or {e : Expr} {t t' : TE} (h : PE X e t) (h' : PE X e t') : PE X e (fun σ H Q => t σ H Q ∨ t' σ H Q) :=
  ⟨fun pins s σ H Q I q => q.elim (h.run pins s σ H Q I) (h'.run pins s σ H Q I)⟩
def uIn (K : Fg) (ta tb : TE) : TE := fun σ H Q => tOp (rIn K false) ta tb σ H Q ∨ tDIn ta tb σ H Q
def uNotIn (K : Fg) (ta tb : TE) : TE := fun σ H Q => tOp (rIn K true) ta tb σ H Q ∨ tDNotIn ta tb σ H Q
theorem pc_uIn {a b : Expr} {ta tb : TE} (hu : X.A.units + 1 < cLine) (ha : PE X a ta) (hb : PE X b tb) : PC X .In a b (uIn X.K ta tb) := pc_or (pc_of op_in_seq ha hb) (pc_din hu ha hb)
theorem pc_uNotIn {a b : Expr} {ta tb : TE} (hu : X.A.units + 1 < cLine) (ha : PE X a ta) (hb : PE X b tb) : PC X .NotIn a b (uNotIn X.K ta tb) := pc_or (pc_of op_notIn_seq ha hb) (pc_dnotin hu ha hb)
/-- a[i] -/
def uIx (K : Fg) (ta tb : TE) : TE := fun σ H Q => tOp (rIx K) ta tb σ H Q ∨ tDGet ta tb σ H Q
theorem pe_uIx {a b : Expr} {ta tb : TE} {pos : Pos} (hu : X.A.units + 1 < cLine) (ha : PE X a ta) (hb : PE X b tb) (hs : PlainIx b) : PE X (.Subscript a b pos) (uIx X.K ta tb) := pe_or (pe_ix ix_seq ha hb hs) (pe_dget hu ha hb hs)
theorem sl_uSl : SlR X (fun x lo hi H Q => rSlL X.K x lo hi H Q ∨ rSlT X.K x lo hi H Q) := sl_list.or sl_tup
def uSl (K : Fg) : V → Option Int → Option Int → Hp → VK → Prop := fun x lo hi H Q => rSlL K x lo hi H Q ∨ rSlT K x lo hi H Q
/-- truth of any value -/
def uTru (K : Fg) (ta : TE) : TT := fun σ H Q => ta σ H fun x H' => ∃ k, TruV K x H' k ∧ Q k H'
end

/-! ### judgements -/
section
variable (K : Fg) (c : Cx0)
def ER (te : TE) (s : List Slot) (o : List Cont) (s' : List Slot) (o' : List Cont) (r : Slot) : Prop :=
  ∀ as G σ H, Abs K c as G σ H s o → ∀ Q : VK, (∀ v as' G' H', Pre as as' → Le G G' → Abs K c as' G' σ H' s' o' → VOk K as' G' v r → Q v H') → te σ H Q
def ET (tt : TT) (s : List Slot) (o : List Cont) (s' : List Slot) (o' : List Cont) (b : Bool) : Prop :=
  ∀ as G σ H, Abs K c as G σ H s o → ∀ Q : Bool → Hp → Prop, (∀ as' G' H', Pre as as' → Le G G' → Abs K c as' G' σ H' s' o' → Q b H') → tt σ H Q
inductive VsOk (as : List Addr) (G : Hp) : List V → List Slot → Prop
  | nil : VsOk as G [] []
  | cons {v : V} {r : Slot} {vs : List V} {rs : List Slot} (h : VOk K as G v r) (t : VsOk as G vs rs) : VsOk as G (v :: vs) (r :: rs)
def EA (ta : TA) (s : List Slot) (o : List Cont) (s' : List Slot) (o' : List Cont) (rs : List Slot) : Prop :=
  ∀ as G σ H, Abs K c as G σ H s o → ∀ Q : List V → Hp → Prop, (∀ vs as' G' H', Pre as as' → Le G G' → Abs K c as' G' σ H' s' o' → VsOk K as' G' vs rs → Q vs H') → ta σ H Q
/-- an optional part of a slice -/
def EO (to : TO) (s : List Slot) (o : List Cont) (s' : List Slot) (o' : List Cont) (i : Option Int) : Prop :=
  ∀ as G σ H, Abs K c as G σ H s o → ∀ Q : Option Int → Hp → Prop, (∀ as' G' H', Pre as as' → Le G G' → Abs K c as' G' σ H' s' o' → Q i H') → to σ H Q
/-- a two-place operation on values; a call on values -/
def OV (rr : R2) (s : List Slot) (o : List Cont) (r1 r2 : Slot) (s' : List Slot) (o' : List Cont) (r : Slot) : Prop :=
  ∀ as G σ H x y, Abs K c as G σ H s o → VOk K as G x r1 → VOk K as G y r2 → ∀ Q : VK, (∀ v as' G' H', Pre as as' → Le G G' → Abs K c as' G' σ H' s' o' → VOk K as' G' v r → Q v H') → rr x y H Q
def CV (rc : List V → Hp → VK → Prop) (s : List Slot) (o : List Cont) (rs : List Slot) (s' : List Slot) (o' : List Cont) (r : Slot) : Prop :=
  ∀ as G σ H xs, Abs K c as G σ H s o → VsOk K as G xs rs → ∀ Q : VK, (∀ v as' G' H', Pre as as' → Le G G' → Abs K c as' G' σ H' s' o' → VOk K as' G' v r → Q v H') → rc xs H Q
end

section
variable {K : Fg} {c : Cx0} {s s1 s2 s3 s' : List Slot} {o o1 o2 o3 o' : List Cont} {r r1 r2 : Slot} {rs : List Slot} {ta tb te : TE} {rr : R2} {tt tu : TT}

/-! ### names, constants -/
theorem er_d {α : Type} [Rp α] {x : α} {i : Nat} (h : sget s i = .d x) : ER K c (tVar i) s o s o (.d x) := fun as G σ H A Q q => by
  have f := A.fr i
  rw [h] at f
  obtain ⟨v, e, hv⟩ := f
  exact ⟨v, e, q v as G H (Pre.refl _) (Le.refl _) A hv⟩
theorem er_p {i k : Nat} (h : sget s i = .p k) : ER K c (tVar i) s o s o (.p k) := fun as G σ H A Q q => by
  have f := A.fr i
  rw [h] at f
  obtain ⟨a, e, hv⟩ := f
  exact ⟨_, hv, q _ as G H (Pre.refl _) (Le.refl _) A ⟨a, e, rfl⟩⟩
theorem er_v {v : V} (h : ∀ as G, VOk K as G v r) : ER K c (tC v) s o s o r := fun as G σ H A Q q => q v as G H (Pre.refl _) (Le.refl _) A (h as G)
theorem er_int {i : Int} : ER K c (tC (.int i)) s o s o (.d i) := er_v fun _ _ => rfl
theorem er_bl {b : Bool} : ER K c (tC (.bl b)) s o s o (.d b) := er_v fun _ _ => rfl
theorem er_str {x : Str} : ER K c (tC (.str x)) s o s o (.d x) := er_v fun _ _ => rfl
theorem er_non : ER K c (tC .non) s o s o (.d ()) := er_v fun _ _ => rfl
/-! ### operators -/
theorem er_op (ha : ER K c ta s o s1 o1 r1) (hb : ER K c tb s1 o1 s2 o2 r2) (hr : OV K c rr s2 o2 r1 r2 s3 o3 r) : ER K c (tOp rr ta tb) s o s3 o3 r := fun as G σ H A Q q =>
  ha as G σ H A _ fun x as1 G1 H1 p1 l1 A1 h1 => hb as1 G1 σ H1 A1 _ fun y as2 G2 H2 p2 l2 A2 h2 =>
    hr as2 G2 σ H2 x y A2 (h1.mono p2 l2) h2 Q fun v as3 G3 H3 p3 l3 A3 h3 => q v as3 G3 H3 ((p1.trans p2).trans p3) ((l1.trans l2).trans l3) A3 h3
theorem ov_of (h : ∀ as G H x y, Le G H → VOk K as G x r1 → VOk K as G y r2 → ∀ Q : VK, (∀ v, VOk K as G v r → Q v H) → rr x y H Q) : OV K c rr s o r1 r2 s o r := fun as G σ H x y A h1 h2 Q q =>
  h as G H x y A.sub h1 h2 Q fun v hv => q v as G H (Pre.refl _) (Le.refl _) A hv
theorem ov_add {i j : Int} : OV K c (uAdd K) s o (.d i) (.d j) s o (.d (i + j)) := ov_of fun as G H x y _ h1 h2 Q q => .inl ⟨i, j, h1, h2, q _ rfl⟩
theorem ov_sub {i j : Int} : OV K c uSub s o (.d i) (.d j) s o (.d (i - j)) := ov_of fun as G H x y _ h1 h2 Q q => ⟨i, j, h1, h2, q _ rfl⟩
theorem ov_mul {i j : Int} (h : CMul i j) : OV K c uMul s o (.d i) (.d j) s o (.d (i * j)) := ov_of fun as G H x y _ h1 h2 Q q => .inl ⟨i, j, h1, h2, h, q _ rfl⟩
theorem ov_mulW {i j : Int} (h : CMulW i j) : OV K c uMul s o (.d i) (.d j) s o (.d (i * j)) := ov_of fun as G H x y _ h1 h2 Q q => .inr (.inl ⟨i, j, h1, h2, h, q _ rfl⟩)
theorem ov_div {i j : Int} (h : CDiv i j) : OV K c uDiv s o (.d i) (.d j) s o (.d (i / j)) := ov_of fun as G H x y _ h1 h2 Q q => .inl ⟨i, j, h1, h2, h, q _ rfl⟩
theorem ov_divW {i j : Int} (h : CDivW i j) : OV K c uDiv s o (.d i) (.d j) s o (.d (i / j)) := ov_of fun as G H x y _ h1 h2 Q q => .inr ⟨i, j, h1, h2, h, q _ rfl⟩
theorem ov_mod {i j : Int} (h : 0 < j) : OV K c uMod s o (.d i) (.d j) s o (.d (i % j)) := ov_of fun as G H x y _ h1 h2 Q q => ⟨i, j, h1, h2, h, q _ rfl⟩
theorem ov_pow {i j : Int} (h : CPow i j) : OV K c uPow s o (.d i) (.d j) s o (.d (i ^ j.toNat)) := ov_of fun as G H x y _ h1 h2 Q q => ⟨i, j, h1, h2, h, q _ rfl⟩
theorem ov_lt {i j : Int} : OV K c uLt s o (.d i) (.d j) s o (.d (decide (i < j))) := ov_of fun as G H x y _ h1 h2 Q q => ⟨i, j, h1, h2, q _ rfl⟩
theorem ov_le {i j : Int} : OV K c uLe s o (.d i) (.d j) s o (.d (decide (i ≤ j))) := ov_of fun as G H x y _ h1 h2 Q q => ⟨i, j, h1, h2, q _ rfl⟩
theorem ov_gt {i j : Int} : OV K c uGt s o (.d i) (.d j) s o (.d (decide (j < i))) := ov_of fun as G H x y _ h1 h2 Q q => ⟨i, j, h1, h2, q _ rfl⟩
theorem ov_ge {i j : Int} : OV K c uGe s o (.d i) (.d j) s o (.d (decide (j ≤ i))) := ov_of fun as G H x y _ h1 h2 Q q => ⟨i, j, h1, h2, q _ rfl⟩
/-- scalars that are told apart as data: what == gives -/
class Scal (α : Type) extends Rp α where
  to : α → V
  ok : ∀ (K : Fg) (G : Hp) (v : V) (x : α), Rp.rep K G v x → v = to x
  inj : ∀ x y : α, to x = to y → x = y
  self : ∀ x y : α, scal (to x) (to y) = true
instance : Scal Int where
  to := V.int
  ok := fun _ _ _ _ h => h
  inj := fun _ _ h => V.int.inj h
  self := fun _ _ => rfl
instance : Scal Bool where
  to := V.bl
  ok := fun _ _ _ _ h => h
  inj := fun _ _ h => V.bl.inj h
  self := fun _ _ => rfl
instance : Scal Str where
  to := V.str
  ok := fun _ _ _ _ h => h
  inj := fun _ _ h => V.str.inj h
  self := fun _ _ => rfl
theorem scal_dec {α : Type} [Scal α] [DecidableEq α] (x y : α) : decide (Scal.to x = Scal.to y) = decide (x = y) := by
  by_cases h : x = y
  · rw [h]; simp
  · rw [decide_eq_false h, decide_eq_false fun z => h (Scal.inj _ _ z)]
theorem ov_eq {α : Type} [Scal α] [DecidableEq α] {x y : α} : OV K c (uEq K) s o (.d x) (.d y) s o (.d (decide (x = y))) := ov_of fun as G H u v _ h1 h2 Q q => by
  rw [Scal.ok K G u x h1, Scal.ok K G v y h2]
  exact .inl ⟨Scal.self x y, q _ (congrArg V.bl (scal_dec x y))⟩
theorem ov_ne {α : Type} [Scal α] [DecidableEq α] {x y : α} : OV K c (uNe K) s o (.d x) (.d y) s o (.d (!decide (x = y))) := ov_of fun as G H u v _ h1 h2 Q q => by
  rw [Scal.ok K G u x h1, Scal.ok K G v y h2]
  exact .inl ⟨Scal.self x y, q _ (congrArg V.bl (congrArg not (scal_dec x y)))⟩
/-- == of a value that may be None with an int: Option Int -/
theorem ov_eqO {x : Option Int} {y : Int} : OV K c (uEq K) s o (.d x) (.d y) s o (.d (decide (x = some y))) := ov_of fun as G H u v _ h1 h2 Q q => by
  cases x with
  | none =>
    have e1 : u = .non := h1
    have e2 : v = .int y := h2
    rw [e1, e2]
    exact .inl ⟨rfl, q _ (by show V.bl _ = V.bl _; simp)⟩
  | some x =>
    have e1 : u = .int x := h1
    have e2 : v = .int y := h2
    rw [e1, e2]
    exact .inl ⟨rfl, q _ (by show V.bl _ = V.bl _; simp)⟩
/-- what is never None -/
class NN (α : Type) [Rp α] : Prop where
  nn : ∀ (K : Fg) (G : Hp) (v : V) (x : α), Rp.rep K G v x → v ≠ .non
instance : NN Int := ⟨fun _ _ v x h z => by rw [show v = .int x from h] at z; cases z⟩
instance : NN Bool := ⟨fun _ _ v x h z => by rw [show v = .bl x from h] at z; cases z⟩
instance : NN Str := ⟨fun _ _ v x h z => by rw [show v = .str x from h] at z; cases z⟩
instance {α : Type} [Rp α] : NN (List α) := ⟨fun _ _ v x ⟨a, vs, e, _⟩ z => by rw [e] at z; cases z⟩
instance {α : Type} [Rp α] : NN (Tup α) := ⟨fun _ _ v x ⟨a, vs, e, _⟩ z => by rw [e] at z; cases z⟩
instance {α β : Type} [Rp α] [Rp β] : NN (T2 α β) := ⟨fun _ _ v x ⟨a, _, _, e, _⟩ z => by rw [e] at z; cases z⟩
instance {α β γ : Type} [Rp α] [Rp β] [Rp γ] : NN (T3 α β γ) := ⟨fun _ _ v x ⟨a, _, _, _, e, _⟩ z => by rw [e] at z; cases z⟩
theorem ov_isO {α : Type} [Rp α] [NN α] {x : Option α} : OV K c uIs s o (.d x) (.d ()) s o (.d (!x.isSome)) := ov_of fun as G H u v _ h1 h2 Q q => by
  refine ⟨h2, q _ ?_⟩
  cases x with
  | none => have e1 : u = .non := h1; show V.bl _ = V.bl _; rw [e1]; rfl
  | some x => show V.bl _ = V.bl _; rw [decide_eq_false (NN.nn K G u x h1)]; rfl
theorem ov_isNO {α : Type} [Rp α] [NN α] {x : Option α} : OV K c uIsN s o (.d x) (.d ()) s o (.d x.isSome) := ov_of fun as G H u v _ h1 h2 Q q => by
  refine ⟨h2, q _ ?_⟩
  cases x with
  | none => have e1 : u = .non := h1; show V.bl _ = V.bl _; rw [e1]; rfl
  | some x => show V.bl _ = V.bl _; rw [decide_eq_false (NN.nn K G u x h1)]; rfl
theorem ov_isU : OV K c uIs s o (.d ()) (.d ()) s o (.d true) := ov_of fun as G H u v _ h1 h2 Q q => ⟨h2, q _ (by have e1 : u = .non := h1; show V.bl _ = V.bl _; rw [e1]; rfl)⟩
theorem ov_isNU : OV K c uIsN s o (.d ()) (.d ()) s o (.d false) := ov_of fun as G H u v _ h1 h2 Q q => ⟨h2, q _ (by have e1 : u = .non := h1; show V.bl _ = V.bl _; rw [e1]; rfl)⟩
theorem ov_isX {α : Type} [Rp α] [NN α] {x : α} : OV K c uIs s o (.d x) (.d ()) s o (.d false) := ov_of fun as G H u v _ h1 h2 Q q => ⟨h2, q _ (by show V.bl _ = V.bl _; rw [decide_eq_false (NN.nn K G u x h1)])⟩
theorem ov_isNX {α : Type} [Rp α] [NN α] {x : α} : OV K c uIsN s o (.d x) (.d ()) s o (.d true) := ov_of fun as G H u v _ h1 h2 Q q => ⟨h2, q _ (by show V.bl _ = V.bl _; rw [decide_eq_false (NN.nn K G u x h1)]; rfl)⟩
theorem er_neg {i : Int} (ha : ER K c ta s o s1 o1 (.d i)) : ER K c (tUn (rU fun i => .int (-i)) ta) s o s1 o1 (.d (-i)) := fun as G σ H A Q q =>
  ha as G σ H A _ fun x as1 G1 H1 p1 l1 A1 h1 => ⟨i, h1, q _ as1 G1 H1 p1 l1 A1 rfl⟩

/-! ### tests -/
theorem et_v {b : Bool} (h : ER K c te s o s1 o1 (.d b)) : ET K c (tB te) s o s1 o1 b := fun as G σ H A Q q => h as G σ H A _ fun v as1 G1 H1 p1 l1 A1 hv => ⟨b, hv, q as1 G1 H1 p1 l1 A1⟩
theorem et_truB {b : Bool} (h : ER K c te s o s1 o1 (.d b)) : ET K c (uTru K te) s o s1 o1 b := fun as G σ H A Q q => h as G σ H A _ fun v as1 G1 H1 p1 l1 A1 hv => ⟨b, by rw [show v = .bl b from hv]; rfl, q as1 G1 H1 p1 l1 A1⟩
theorem et_not {b : Bool} (h : ET K c tt s o s1 o1 b) : ET K c (tNot tt) s o s1 o1 (!b) := fun as G σ H A Q q => h as G σ H A _ fun as1 G1 H1 p1 l1 A1 => q as1 G1 H1 p1 l1 A1
/-- and, or: where the second test changes nothing -/
theorem et_and {b d : Bool} (h : ET K c tt s o s1 o1 b) (h2 : b = true → ET K c tu s1 o1 s1 o1 d) : ET K c (tAnd tt tu) s o s1 o1 (b && d) := fun as G σ H A Q q => h as G σ H A _ fun as1 G1 H1 p1 l1 A1 => by
  cases b with
  | true => rw [if_pos rfl]; exact h2 rfl as1 G1 σ H1 A1 _ fun as2 G2 H2 p2 l2 A2 => q as2 G2 H2 (p1.trans p2) (l1.trans l2) A2
  | false => rw [if_neg Bool.false_ne_true]; exact q as1 G1 H1 p1 l1 A1
theorem et_or {b d : Bool} (h : ET K c tt s o s1 o1 b) (h2 : b = false → ET K c tu s1 o1 s1 o1 d) : ET K c (tOr tt tu) s o s1 o1 (b || d) := fun as G σ H A Q q => h as G σ H A _ fun as1 G1 H1 p1 l1 A1 => by
  cases b with
  | true => rw [if_pos rfl]; exact q as1 G1 H1 p1 l1 A1
  | false => rw [if_neg Bool.false_ne_true]; exact h2 rfl as1 G1 σ H1 A1 _ fun as2 G2 H2 p2 l2 A2 => q as2 G2 H2 (p1.trans p2) (l1.trans l2) A2
theorem et_is {b d : Bool} (h : ET K c tt s o s1 o1 b) (e : b = d) : ET K c tt s o s1 o1 d := e ▸ h
theorem er_is {α : Type} [Rp α] {x y : α} (h : ER K c te s o s1 o1 (.d x)) (e : x = y) : ER K c te s o s1 o1 (.d y) := e ▸ h
theorem er_andV {b d : Bool} (h : ER K c ta s o s1 o1 (.d b)) (h2 : b = true → ER K c tb s1 o1 s1 o1 (.d d)) : ER K c (tAndV ta tb) s o s1 o1 (.d (b && d)) := fun as G σ H A Q q => h as G σ H A _ fun v as1 G1 H1 p1 l1 A1 hv => ⟨b, hv, by
  cases b with
  | true => rw [if_pos rfl]; exact h2 rfl as1 G1 σ H1 A1 _ fun v as2 G2 H2 p2 l2 A2 h3 => q v as2 G2 H2 (p1.trans p2) (l1.trans l2) A2 h3
  | false => rw [if_neg Bool.false_ne_true]; exact q _ as1 G1 H1 p1 l1 A1 rfl⟩
theorem er_orV {b d : Bool} (h : ER K c ta s o s1 o1 (.d b)) (h2 : b = false → ER K c tb s1 o1 s1 o1 (.d d)) : ER K c (tOrV ta tb) s o s1 o1 (.d (b || d)) := fun as G σ H A Q q => h as G σ H A _ fun v as1 G1 H1 p1 l1 A1 hv => ⟨b, hv, by
  cases b with
  | true => rw [if_pos rfl]; exact q _ as1 G1 H1 p1 l1 A1 rfl
  | false => rw [if_neg Bool.false_ne_true]; exact h2 rfl as1 G1 σ H1 A1 _ fun v as2 G2 H2 p2 l2 A2 h3 => q v as2 G2 H2 (p1.trans p2) (l1.trans l2) A2 h3⟩
theorem er_notV {b : Bool} (h : ER K c ta s o s1 o1 (.d b)) : ER K c (tNotV ta) s o s1 o1 (.d (!b)) := fun as G σ H A Q q => h as G σ H A _ fun v as1 G1 H1 p1 l1 A1 hv => ⟨b, hv, q _ as1 G1 H1 p1 l1 A1 rfl⟩
theorem er_if {b : Bool} (h : ET K c tt s o s1 o1 b) (h1 : b = true → ER K c ta s1 o1 s2 o2 r) (h2 : b = false → ER K c tb s1 o1 s2 o2 r) : ER K c (tIf tt ta tb) s o s2 o2 r := fun as G σ H A Q q => h as G σ H A _ fun as1 G1 H1 p1 l1 A1 => by
  cases b with
  | true => rw [if_pos rfl]; exact h1 rfl as1 G1 σ H1 A1 _ fun v as2 G2 H2 p2 l2 A2 h3 => q v as2 G2 H2 (p1.trans p2) (l1.trans l2) A2 h3
  | false => rw [if_neg Bool.false_ne_true]; exact h2 rfl as1 G1 σ H1 A1 _ fun v as2 G2 H2 p2 l2 A2 h3 => q v as2 G2 H2 (p1.trans p2) (l1.trans l2) A2 h3

/-! ### argument lists -/
theorem ea_nil : EA K c tNil s o s o [] := fun as G σ H A Q q => q [] as G H (Pre.refl _) (Le.refl _) A .nil
theorem ea_cons {tr : TA} (h : ER K c te s o s1 o1 r) (hr : EA K c tr s1 o1 s2 o2 rs) : EA K c (tCons te tr) s o s2 o2 (r :: rs) := fun as G σ H A Q q =>
  h as G σ H A _ fun v as1 G1 H1 p1 l1 A1 h1 => hr as1 G1 σ H1 A1 _ fun vs as2 G2 H2 p2 l2 A2 h2 => q _ as2 G2 H2 (p1.trans p2) (l1.trans l2) A2 (.cons (h1.mono p2 l2) h2)
theorem er_cb {ta : TA} {rc : List V → Hp → VK → Prop} (h : EA K c ta s o s1 o1 rs) (hr : CV K c rc s1 o1 rs s2 o2 r) : ER K c (tCB rc ta) s o s2 o2 r := fun as G σ H A Q q =>
  h as G σ H A _ fun vs as1 G1 H1 p1 l1 A1 h1 => hr as1 G1 σ H1 vs A1 h1 Q fun v as2 G2 H2 p2 l2 A2 h2 => q v as2 G2 H2 (p1.trans p2) (l1.trans l2) A2 h2
theorem VsOk.one {as : List Addr} {G : Hp} {xs : List V} {r : Slot} (h : VsOk K as G xs [r]) : ∃ x, xs = [x] ∧ VOk K as G x r := by
  cases h with | cons a b => cases b; exact ⟨_, rfl, a⟩
theorem VsOk.two {as : List Addr} {G : Hp} {xs : List V} {r1 r2 : Slot} (h : VsOk K as G xs [r1, r2]) : ∃ x y, xs = [x, y] ∧ VOk K as G x r1 ∧ VOk K as G y r2 := by
  cases h with | cons a b => obtain ⟨y, rfl, hy⟩ := VsOk.one b; exact ⟨_, y, rfl, a, hy⟩
theorem VsOk.three {as : List Addr} {G : Hp} {xs : List V} {r1 r2 r3 : Slot} (h : VsOk K as G xs [r1, r2, r3]) : ∃ x y z, xs = [x, y, z] ∧ VOk K as G x r1 ∧ VOk K as G y r2 ∧ VOk K as G z r3 := by
  cases h with | cons a b => obtain ⟨y, z, rfl, hy, hz⟩ := VsOk.two b; exact ⟨_, y, z, rfl, a, hy, hz⟩

/-! ### tuples and lists that are made -/
theorem er_t2 {α β : Type} [Rp α] [Rp β] {x : α} {y : β} {ta : TA} (h : EA K c ta s o s1 o1 [.d x, .d y]) : ER K c (tTup ta) s o s1 o1 (.d (T2.mk x y)) := fun as G σ H A Q q =>
  h as G σ H A _ fun vs as1 G1 H1 p1 l1 A1 h1 => by
    obtain ⟨v, w, rfl, hv, hw⟩ := VsOk.two h1
    refine ⟨by show 2 ≤ sizeLine; decide, fun p hp => ?_⟩
    have A2 := A1.newD (o := .tup [v, w]) hp
    have l2 : Le G1 (upd G1 p (.tup [v, w])) := Le.upd (A1.sub.free hp)
    exact q _ as1 _ _ p1 (l1.trans l2) A2 ⟨p, v, w, rfl, SqT.of upd_same, Rp.mono l2 (show Rp.rep K G1 v x from hv), Rp.mono l2 (show Rp.rep K G1 w y from hw)⟩
theorem er_t3 {α β γ : Type} [Rp α] [Rp β] [Rp γ] {x : α} {y : β} {z : γ} {ta : TA} (h : EA K c ta s o s1 o1 [.d x, .d y, .d z]) : ER K c (tTup ta) s o s1 o1 (.d (T3.mk x y z)) := fun as G σ H A Q q =>
  h as G σ H A _ fun vs as1 G1 H1 p1 l1 A1 h1 => by
    obtain ⟨v, w, u, rfl, hv, hw, hu⟩ := VsOk.three h1
    refine ⟨by show 3 ≤ sizeLine; decide, fun p hp => ?_⟩
    have A2 := A1.newD (o := .tup [v, w, u]) hp
    have l2 : Le G1 (upd G1 p (.tup [v, w, u])) := Le.upd (A1.sub.free hp)
    exact q _ as1 _ _ p1 (l1.trans l2) A2 ⟨p, v, w, u, rfl, SqT.of upd_same, Rp.mono l2 (show Rp.rep K G1 v x from hv), Rp.mono l2 (show Rp.rep K G1 w y from hw), Rp.mono l2 (show Rp.rep K G1 u z from hu)⟩
/-- slots of one type -/
def sl {α : Type} [Rp α] (xs : List α) : List Slot := xs.map fun x => .d x
theorem reps_of {α : Type} [Rp α] {as : List Addr} {G : Hp} : ∀ {xs : List α} {vs : List V}, VsOk K as G vs (sl xs) → Reps K G vs xs := by
  intro xs
  induction xs with
  | nil => intro vs h; cases h; exact .nil
  | cons x xs ih => intro vs h; cases h with | cons a b => exact .cons a (ih b)
theorem er_tup {α : Type} [Rp α] {xs : List α} {ta : TA} (h : EA K c ta s o s1 o1 (sl xs)) (hl : xs.length ≤ sizeLine) : ER K c (tTup ta) s o s1 o1 (.d (Tup.mk xs)) := fun as G σ H A Q q =>
  h as G σ H A _ fun vs as1 G1 H1 p1 l1 A1 h1 => by
    have hr := reps_of h1
    refine ⟨by rw [pr_len hr]; exact hl, fun p hp => ?_⟩
    have A2 := A1.newD (o := .tup vs) hp
    have l2 : Le G1 (upd G1 p (.tup vs)) := Le.upd (A1.sub.free hp)
    exact q _ as1 _ _ p1 (l1.trans l2) A2 ⟨p, vs, rfl, SqT.of upd_same, Reps.mono l2 hr⟩
/-- a new list, the def's own -/
theorem er_lst {α : Type} [Rp α] {xs : List α} {ta : TA} (h : EA K c ta s o s1 o1 (sl xs)) (hl : xs.length ≤ sizeLine) : ER K c (tLst ta) s o s1 (o1 ++ [.lst xs]) (.p o1.length) := fun as G σ H A Q q =>
  h as G σ H A _ fun vs as1 G1 H1 p1 l1 A1 h1 => by
    have hr := reps_of h1
    refine ⟨by rw [pr_len hr]; exact hl, fun p hp => ?_⟩
    have A2 := A1.newP (o := .lst vs) (ct := .lst xs) hp ⟨vs, rfl, hr⟩
    exact q _ _ _ _ (p1.trans ⟨[p], rfl⟩) l1 A2 ⟨p, by rw [← A1.asz, List.getElem?_concat_length], rfl⟩
/-- a new list as data -/
theorem er_lstD {α : Type} [Rp α] {xs : List α} {ta : TA} (h : EA K c ta s o s1 o1 (sl xs)) (hl : xs.length ≤ sizeLine) : ER K c (tLst ta) s o s1 o1 (.d xs) := fun as G σ H A Q q =>
  h as G σ H A _ fun vs as1 G1 H1 p1 l1 A1 h1 => by
    have hr := reps_of h1
    refine ⟨by rw [pr_len hr]; exact hl, fun p hp => ?_⟩
    have A2 := A1.newD (o := .lst vs) hp
    have l2 : Le G1 (upd G1 p (.lst vs)) := Le.upd (A1.sub.free hp)
    exact q _ as1 _ _ p1 (l1.trans l2) A2 ⟨p, vs, rfl, SqL.of upd_same, Reps.mono l2 hr⟩

/-! ### lists that are read: data, or one in the store -/
def LView {α : Type} [Rp α] (o : List Cont) (r : Slot) (xs : List α) : Prop := r = .d xs ∨ ∃ k, r = .p k ∧ cget o k = .lst xs
theorem LView.at_ {α : Type} [Rp α] {as : List Addr} {G H : Hp} {σ : L2.St} {xs : List α} {v : V} (L : LView o r xs) (A : Abs K c as G σ H s o) (h : VOk K as G v r) : ∃ p vs, v = .ref p ∧ SqL K H p vs ∧ Reps K G vs xs := by
  rcases L with rfl | ⟨k, rfl, e⟩
  · obtain ⟨p, vs, e, q, hr⟩ := (show Rp.rep K G v xs from h)
    exact ⟨p, vs, e, A.sub.sqL q, hr⟩
  · obtain ⟨a, ha, rfl⟩ := h
    have f := A.st k a ha
    rw [e] at f
    obtain ⟨vs, e1, hr⟩ := f
    exact ⟨a, vs, rfl, SqL.of e1, hr⟩
theorem cv_of {rc : List V → Hp → VK → Prop} (h : ∀ as G σ H xs, Abs K c as G σ H s o → VsOk K as G xs rs → ∀ Q : VK, (∀ v, VOk K as G v r → Q v H) → rc xs H Q) : CV K c rc s o rs s o r := fun as G σ H xs A h1 Q q =>
  h as G σ H xs A h1 Q fun v hv => q v as G H (Pre.refl _) (Le.refl _) A hv
end
end VL

set_option maxHeartbeats 4000000
/-! THE VALUE LAYER 2: promises over values, calls, statements. -/
namespace VL
open PySem PySem.Spec PyProof.Rows L2

/-! ### promises -/
abbrev RT := Slot → List Cont → Prop
abbrev XT := Str → List (Str × Slot) → List Cont → Prop
/-- a promise over values: the arguments' slots, the containers that they point at; what is wanted of the answer and the containers behind; what is wanted of an exception (its class, its fields) -/
abbrev FS := List Slot → List Cont → RT → XT → Prop
def Rc (K : Fg) (c : Cx0) (Q : VK) : RT := fun r os => ∀ w as G σ H sds, Abs K c as G σ H sds os → VOk K as G w r → Q w H
def Xc (K : Fg) (c : Cx0) (E : XK) : XT := fun cls fs os => ∀ as G σ H sds, Abs K c as G σ H sds os →
  (fs = [] → E (.ref (He.ga K cls)) none H) ∧ ∀ dx fvs, G dx = some (.xd fvs) → FldsOk K as G fvs fs → E (.ref (He.ga K cls)) (some dx) H
def spOf (K : Fg) (F : FS) : Sp := fun vs H Q E => ∃ (c : Cx0) (ss : List Slot) (os : List Cont), c.H = H ∧ Abs K c c.M c.G (vs.map some) H ss os ∧ F ss os (Rc K c Q) (Xc K c E)
theorem spOf.len {K : Fg} {F : FS} {n : Nat} (h : ∀ ss os R X, F ss os R X → ss.length = n) (vs : List V) (H : Hp) (Q : VK) (E : XK) (q : spOf K F vs H Q E) : vs.length = n := by
  obtain ⟨c, ss, os, _, A, f⟩ := q
  have e := A.len
  rw [List.length_map] at e
  rw [e, h _ _ _ _ f]

/-! ### a call is over: the caller's state -/
def Cont.flat : Cont → Bool
  | .obj _ fs => fs.all fun q => match q.2 with
    | .p _ => false
    | _ => true
  | _ => true
theorem flds_flat {K : Fg} {as as' : List Addr} {G : Hp} : ∀ {fvs : List (Str × V)} {fs : List (Str × Slot)}, (fs.all fun q => match q.2 with | .p _ => false | _ => true) = true → FldsOk K as G fvs fs → FldsOk K as' G fvs fs
  | [], [], _, _ => trivial
  | (_, _) :: _, (_, s) :: _, e, ⟨h1, h2, h3⟩ => by
    rw [List.all_cons, Bool.and_eq_true] at e
    refine ⟨h1, ?_, flds_flat e.2 h3⟩
    cases s with
    | u => trivial
    | d x => exact h2
    | p k => exact absurd e.1 Bool.false_ne_true
theorem COk.flat {K : Fg} {as as' : List Addr} {G : Hp} {ob : Option HO} {ct : Cont} (e : ct.flat = true) (h : COk K as G ob ct) : COk K as' G ob ct := by
  cases ct with
  | gone => trivial
  | lst xs => exact h
  | dct xs => exact h
  | obj C fs => obtain ⟨dx, fvs, e1, e2⟩ := h; exact ⟨dx, fvs, e1, flds_flat e e2⟩
/-- the caller's store behind a call: the containers at ks are told anew, further ones stand behind -/
def cput (o : List Cont) (ks : List Nat) (os : List Cont) : List Cont := ((List.range o.length).map fun k => match ks.findIdx? (· == k) with
  | some j => cget os j
  | none => cget o k) ++ os.drop ks.length
def rmap (n : Nat) (ks : List Nat) : Slot → Slot
  | .p j => if h : j < ks.length then .p ks[j] else .p (n + (j - ks.length))
  | s => s
theorem cput_len {o : List Cont} {ks : List Nat} {os : List Cont} : (cput o ks os).length = o.length + (os.length - ks.length) := by simp [cput]
theorem cput_lo {o : List Cont} {ks : List Nat} {os : List Cont} {k : Nat} (h : k < o.length) : cget (cput o ks os) k = match ks.findIdx? (· == k) with
  | some j => cget os j
  | none => cget o k := by
  unfold cget cput
  rw [List.getD_eq_getElem?_getD, List.getElem?_append_left (by simpa using h), List.getElem?_map, List.getElem?_range h]
  rfl
theorem cput_hi {o : List Cont} {ks : List Nat} {os : List Cont} {k : Nat} : cget (cput o ks os) (o.length + k) = cget os (ks.length + k) := by
  unfold cget cput
  rw [List.getD_eq_getElem?_getD, List.getD_eq_getElem?_getD, List.getElem?_append_right (by simp), List.getElem?_drop]
  simp
theorem findIdx_some {ks : List Nat} {k j : Nat} (h : ks.findIdx? (· == k) = some j) : ks[j]? = some k := by
  obtain ⟨hj, e, _⟩ := List.findIdx?_eq_some_iff_getElem.mp h
  rw [List.getElem?_eq_getElem hj, beq_iff_eq.mp e]
theorem findIdx_none {ks : List Nat} {k : Nat} (h : ks.findIdx? (· == k) = none) : k ∉ ks := fun m => by
  have := List.findIdx?_eq_none_iff.mp h k m
  simp at this

section
variable {K : Fg} {c : Cx0} {as asF more : List Addr} {G GF H H' : Hp} {σ σF : L2.St} {s sF : List Slot} {o oF : List Cont} {ks : List Nat}
/-- the callee's entry -/
def cx1 (H G : Hp) (M : List Addr) : Cx0 := ⟨H, G, M⟩
theorem Abs.into (A : Abs K c as G σ H s o) {M : List Addr} {ss : List Slot} {os : List Cont} {vs : List V} (hM : M.length = os.length) (hks : ks.length = M.length) (hnd : ks.Nodup)
    (hm : ∀ (j k : Nat), ks[j]? = some k → ∃ a, M[j]? = some a ∧ as[k]? = some a ∧ cget os j = cget o k ∧ (cget o k).flat = true)
    (hv : VsOk K M G vs ss) : Abs K (cx1 H G M) M G (vs.map some) H ss os := by
  have inM : ∀ {j : Nat} {a : Addr}, M[j]? = some a → ∃ k, ks[j]? = some k ∧ as[k]? = some a ∧ cget os j = cget o k ∧ (cget o k).flat = true := fun {j a} e => by
    have hj := (List.getElem?_eq_some_iff.mp e).1
    have hk : j < ks.length := by omega
    obtain ⟨b, e1, e2, e3, e4⟩ := hm j ks[j] (List.getElem?_eq_getElem hk)
    have eb : b = a := Option.some.inj (e1.symm.trans e)
    subst eb
    exact ⟨_, List.getElem?_eq_getElem hk, e2, e3, e4⟩
  refine ⟨A.sub, Le.refl _, fun b u e _ => e, fun b u e => .inl e, Pre.refl _, ?_, hM, fun a m => ?_, fun j a e l => ?_, fun i => ?_, fun j a e => ?_, ?_⟩
  · rw [List.nodup_iff_pairwise_ne, List.pairwise_iff_getElem]
    intro i j hi hj hlt e
    obtain ⟨k1, a1, b1, _⟩ := inM (List.getElem?_eq_getElem hi)
    obtain ⟨k2, a2, b2, _⟩ := inM (List.getElem?_eq_getElem hj)
    rw [e] at b1
    have ek := nd_get A.nd b1 b2
    subst ek
    have := nd_ix hnd a1 a2
    omega
  · obtain ⟨j, hj, e⟩ := List.mem_iff_getElem.mp m
    obtain ⟨k, _, b1, _⟩ := inM (show M[j]? = some a by rw [List.getElem?_eq_getElem hj, e])
    exact ⟨(A.asf a (List.mem_of_getElem? b1)).1, .inl m⟩
  · obtain ⟨k, _, b1, b2, _⟩ := inM e
    rw [b2] at l
    exact A.lv k a b1 l
  · have gen : ∀ {vs : List V} {ss : List Slot}, VsOk K M G vs ss → ∀ i, FOk K M G ((vs.map some)[i]?) (sget ss i) := by
      intro vs ss h
      induction h with
      | nil => intro i; trivial
      | cons h t ih =>
        intro i
        cases i with
        | zero => exact FOk.of h
        | succ i => exact ih i
    exact gen hv i
  · obtain ⟨k, _, b1, b2, b3⟩ := inM e
    rw [b2]
    exact (A.st k a b1).flat b3
  · rw [List.length_map]
    have gl : ∀ {vs : List V} {ss : List Slot}, VsOk K M G vs ss → vs.length = ss.length := by
      intro vs ss h
      induction h with
      | nil => rfl
      | cons h t ih => simp [ih]
    exact gl hv
/-- behind the call -/
theorem Abs.back (A : Abs K c as G σ H s o) {M : List Addr} (B : Abs K (cx1 H G M) asF GF σF H' sF oF) (hks : ks.length = M.length) (hnd : ks.Nodup) (hm : ∀ (j k : Nat), ks[j]? = some k → ∃ a, M[j]? = some a ∧ as[k]? = some a)
    (hfl : ∀ j, (cget oF j).flat = true) : ∃ as', Pre as as' ∧ Abs K c as' GF σ H' s (cput o ks oF) ∧ ∀ w r, VOk K asF GF w r → VOk K as' GF w (rmap o.length ks r) := by
  obtain ⟨more, eM⟩ := B.pre
  have eM' : asF = M ++ more := eM
  have lenM : M.length ≤ oF.length := by rw [← B.asz, eM']; simp
  have inM : ∀ {a : Addr}, a ∈ M → ∃ (j k : Nat), M[j]? = some a ∧ ks[j]? = some k ∧ as[k]? = some a := fun {a} m => by
    obtain ⟨j, hj, e⟩ := List.mem_iff_getElem.mp m
    have hk : j < ks.length := by omega
    obtain ⟨b, e1, e2⟩ := hm j ks[j] (List.getElem?_eq_getElem hk)
    have eb : b = a := Option.some.inj (e1.symm.trans (by rw [List.getElem?_eq_getElem hj, e]))
    subst eb
    exact ⟨j, _, e1, List.getElem?_eq_getElem hk, e2⟩
  have moreH : ∀ {a : Addr}, a ∈ more → H a = none := fun {a} m => by
    have h1 := (B.asf a (by rw [eM']; exact List.mem_append_right _ m)).2
    rcases h1 with h1 | h1
    · have := B.nd
      rw [eM'] at this
      exact absurd rfl ((List.nodup_append.mp this).2.2 a h1 a m)
    · exact h1
  have keep : ∀ {b : Addr} {u : HO}, H b = some u → b ∉ M → H' b = some u := fun {b u} e m => B.old b u e m
  have aLo : ∀ {k : Nat} {a : Addr}, k < as.length → (as ++ more)[k]? = some a → as[k]? = some a := fun {k a} h e => by rw [List.getElem?_append_left h] at e; exact e
  have mAt : ∀ {i : Nat} {a : Addr}, more[i]? = some a → asF[M.length + i]? = some a := fun {i a} e => by rw [eM', List.getElem?_append_right (by omega)]; simpa using e
  have GFn : ∀ {a : Addr}, H a ≠ none → G a = none → GF a = none := fun {a} h1 h2 => by
    cases q : GF a with
    | none => rfl
    | some u =>
      rcases B.new a u q with z | z
      · rw [show (cx1 H G M).G a = G a from rfl, h2] at z; cases z
      · exact absurd z h1
  have jOf : ∀ {k j : Nat} {a : Addr}, ks.findIdx? (· == k) = some j → as[k]? = some a → asF[j]? = some a := fun {k j a} e1 e2 => by
    obtain ⟨b, e3, e4⟩ := hm j k (findIdx_some e1)
    have eb : b = a := Option.some.inj (e4.symm.trans e2)
    subst eb
    rw [eM', List.getElem?_append_left (List.getElem?_eq_some_iff.mp e3).1]; exact e3
  refine ⟨as ++ more, ⟨more, rfl⟩, ⟨B.sub, A.g0.trans B.g0, fun b u e m => ?_, fun b u e => ?_, A.pre.trans ⟨more, rfl⟩, ?_, ?_, fun a m => ?_, fun k a e l => ?_, fun i => (A.fr i).mono ⟨more, rfl⟩ B.g0, fun k a e => ?_, A.len⟩, fun w r h => ?_⟩
  · refine keep (A.old b u e m) fun z => ?_
    obtain ⟨j, k, _, _, ek⟩ := inM z
    rcases (A.asf b (List.mem_of_getElem? ek)).2 with y | y
    · exact m y
    · rw [y] at e; cases e
  · rcases B.new b u e with z | z
    · exact A.new b u z
    · exact .inr (A.hfree' z)
  · refine List.nodup_append.mpr ⟨A.nd, ?_, fun a ha b hb z => ?_⟩
    · have := B.nd
      rw [eM'] at this
      exact (List.nodup_append.mp this).2.1
    · subst z
      exact (A.asf a ha).1 (moreH hb)
  · rw [cput_len, List.length_append, A.asz, hks, ← B.asz, eM', List.length_append]; omega
  · rcases List.mem_append.mp m with m | m
    · refine ⟨?_, (A.asf a m).2⟩
      by_cases z : a ∈ M
      · exact (B.asf a (by rw [eM']; exact List.mem_append_left _ z)).1
      · cases q : H a with
        | none => exact absurd q (A.asf a m).1
        | some u => rw [keep q z]; simp
    · exact ⟨(B.asf a (by rw [eM']; exact List.mem_append_right _ m)).1, .inr (A.hfree' (moreH m))⟩
  · by_cases hk : k < as.length
    · have e' := aLo hk e
      rw [cput_lo (by rw [← A.asz]; exact hk)] at l
      cases q : ks.findIdx? (· == k) with
      | some j => rw [q] at l; exact B.lv j a (jOf q e') l
      | none => rw [q] at l; exact GFn (A.asf a (List.mem_of_getElem? e')).1 (A.lv k a e' l)
    · rw [List.getElem?_append_right (by omega)] at e
      have e2 := mAt e
      obtain ⟨i, rfl⟩ : ∃ i, k = o.length + i := ⟨k - o.length, by have := A.asz; omega⟩
      rw [cput_hi] at l
      rw [show o.length + i - as.length = i by have := A.asz; omega, ← hks] at e2
      exact B.lv _ a e2 l
  · by_cases hk : k < as.length
    · have e' := aLo hk e
      rw [cput_lo (by rw [← A.asz]; exact hk)]
      cases q : ks.findIdx? (· == k) with
      | some j => exact (B.st j a (jOf q e')).flat (hfl j)
      | none =>
        have nM : a ∉ M := fun z => by
          obtain ⟨j, k', _, e2, e3⟩ := inM z
          have := nd_get A.nd e' e3
          subst this
          exact findIdx_none q (List.mem_of_getElem? e2)
        cases q2 : H a with
        | none => exact absurd q2 (A.asf a (List.mem_of_getElem? e')).1
        | some u =>
          rw [keep q2 nM, ← q2]
          exact (A.st k a e').mono ⟨more, rfl⟩ B.g0
    · rw [List.getElem?_append_right (by omega)] at e
      have e2 := mAt e
      obtain ⟨i, rfl⟩ : ∃ i, k = o.length + i := ⟨k - o.length, by have := A.asz; omega⟩
      rw [cput_hi]
      rw [show o.length + i - as.length = i by have := A.asz; omega, ← hks] at e2
      exact (B.st _ a e2).flat (hfl _)
  · cases r with
    | u => trivial
    | d x => exact h
    | p j =>
      obtain ⟨a, e1, e2⟩ := h
      show VOk K (as ++ more) GF w (dite (j < ks.length) (fun h => Slot.p ks[j]) (fun _ => Slot.p (o.length + (j - ks.length))))
      by_cases hj : j < ks.length
      · rw [dif_pos hj]
        obtain ⟨b, e3, e4⟩ := hm j ks[j] (List.getElem?_eq_getElem hj)
        have eb : a = b := by
          rw [eM', List.getElem?_append_left (by omega)] at e1
          exact Option.some.inj (e1.symm.trans e3)
        subst eb
        exact ⟨a, Pre.get ⟨more, rfl⟩ e4, e2⟩
      · rw [dif_neg hj]
        refine ⟨a, ?_, e2⟩
        rw [eM', List.getElem?_append_right (by omega)] at e1
        rw [List.getElem?_append_right (by rw [A.asz]; omega)]
        rw [show o.length + (j - ks.length) - as.length = j - M.length by rw [A.asz]; omega]
        exact e1
theorem cput0 {o os : List Cont} : cput o [] os = o ++ os := by
  unfold cput
  have e : ((List.range o.length).map fun k => match ([] : List Nat).findIdx? (· == k) with
    | some j => cget os j
    | none => cget o k) = o := by
    apply List.ext_getElem?
    intro i
    by_cases h : i < o.length
    · rw [List.getElem?_map, List.getElem?_range h]
      show some (cget o i) = _
      unfold cget
      rw [List.getD_eq_getElem?_getD, List.getElem?_eq_getElem h]; rfl
    · rw [List.getElem?_eq_none (by simpa using h), List.getElem?_eq_none (by omega)]
  rw [e]; rfl
theorem cput1 {o os : List Cont} {k : Nat} {ct : Cont} : cput o [k] (ct :: os) = o.set k ct ++ os := by
  unfold cput
  have e : ((List.range o.length).map fun i => match ([k] : List Nat).findIdx? (· == i) with
    | some j => cget (ct :: os) j
    | none => cget o i) = o.set k ct := by
    apply List.ext_getElem?
    intro i
    by_cases h : i < o.length
    · rw [List.getElem?_map, List.getElem?_range h, List.getElem?_set]
      by_cases q : k = i
      · subst q
        simp [h, cget]
      · have e2 : (k == i) = false := by simpa using q
        simp [e2, q, cget, h]
    · rw [List.getElem?_eq_none (by simpa using h), List.getElem?_eq_none (by simp; omega)]
  rw [e]; rfl
end

/-! ### the call of a def -/
section
variable {K : Fg} {c : Cx0} {s s1 s' : List Slot} {o o1 os : List Cont} {r : Slot} {rs : List Slot} {ta : TA} {F : FS} {E : XK}
/-- all arguments are data -/
theorem er_call (h : EA K c ta s o s1 o1 rs) (hF : ∀ (R : RT) (X : XT), R r os → F rs [] R X) (hd : rs.all (fun q => match q with | .p _ => false | _ => true) = true) (hfl : os.all Cont.flat = true) :
    ER K c (tCall (spOf K F) [] E ta) s o s1 (o1 ++ os) (rmap o1.length [] r) := fun as G σ H A Q q =>
  h as G σ H A _ fun vs as1 G1 H1 p1 l1 A1 h1 => by
    have hv : ∀ {vs : List V} {rs : List Slot}, VsOk K as1 G1 vs rs → rs.all (fun q => match q with | .p _ => false | _ => true) = true → VsOk K [] G1 vs rs := by
      intro vs rs h
      induction h with
      | nil => intro _; exact .nil
      | @cons v r vs rs h t ih =>
        intro e
        rw [List.all_cons, Bool.and_eq_true] at e
        refine .cons ?_ (ih e.2)
        cases r with
        | u => trivial
        | d x => exact h
        | p k => exact absurd e.1 Bool.false_ne_true
    have B := A1.into (ks := []) (M := []) (os := []) (vs := vs) rfl rfl (by simp) (fun j k e => by simp at e) (hv h1 hd)
    rw [List.append_nil]
    refine ⟨cx1 H1 G1 [], rs, [], rfl, B, hF _ _ ?_⟩
    intro w asF GF σF HF sF BF hw
    obtain ⟨as', pp, A2, hr⟩ := A1.back (ks := []) BF rfl (by simp) (fun j k e => by simp at e) (fun j => by
      unfold cget
      rw [List.getD_eq_getElem?_getD]
      cases e : os[j]? with
      | none => rfl
      | some ct => exact List.all_eq_true.mp hfl ct (List.mem_of_getElem? e))
    rw [cput0] at A2
    exact q w as' GF HF (p1.trans pp) (l1.trans BF.g0) A2 (hr w r hw)
/-- slots handed on: the caller's container k is the callee's first -/
def slotK (k : Nat) : Slot → Slot
  | .p 0 => .p k
  | q => q
theorem er_call1 {k : Nat} {ct ct' : Cont} {rs' : List Slot} (h : EA K c ta s o s1 o1 rs') (hF : ∀ (R : RT) (X : XT), R r (ct' :: os) → F rs [ct] R X) (hk : k < o1.length) (hct : cget o1 k = ct) (hl : ct.flat = true) (hfl : (ct' :: os).all Cont.flat = true)
    (hrs : rs' = rs.map (slotK k)) (hp : rs.all (fun q => match q with | .p 0 => true | .p _ => false | _ => true) = true) :
    ER K c (tCall (spOf K F) [] E ta) s o s1 (o1.set k ct' ++ os) (rmap o1.length [k] r) := fun as G σ H A Q q =>
  h as G σ H A _ fun vs as1 G1 H1 p1 l1 A1 h1 => by
    have hka : k < as1.length := by rw [A1.asz]; exact hk
    have hv : ∀ {rs : List Slot} {vs : List V}, VsOk K as1 G1 vs (rs.map (slotK k)) → rs.all (fun q => match q with | .p 0 => true | .p _ => false | _ => true) = true → VsOk K [as1[k]] G1 vs rs := by
      intro rs
      induction rs with
      | nil => intro vs h _; cases h; exact .nil
      | cons r rs ih =>
        intro vs h e
        rw [List.all_cons, Bool.and_eq_true] at e
        cases h with
        | cons h t =>
          refine .cons ?_ (ih t e.2)
          cases r with
          | u => trivial
          | d x => exact h
          | p j =>
            cases j with
            | zero =>
              obtain ⟨a, e1, e2⟩ := (show ∃ a, as1[k]? = some a ∧ _ = V.ref a from h)
              rw [List.getElem?_eq_getElem hka] at e1
              exact ⟨a, by rw [← Option.some.inj e1]; rfl, e2⟩
            | succ j => exact absurd e.1 Bool.false_ne_true
    have one : ∀ (j i : Nat), ([k] : List Nat)[j]? = some i → j = 0 ∧ i = k := fun j i e => by
      cases j with
      | zero => exact ⟨rfl, (Option.some.inj e).symm⟩
      | succ j => simp at e
    have B := A1.into (ks := [k]) (M := [as1[k]]) (os := [ct]) (vs := vs) rfl rfl (by simp) (fun j i e => by
      obtain ⟨rfl, rfl⟩ := one j i e
      exact ⟨as1[i], rfl, List.getElem?_eq_getElem hka, hct.symm, by rw [hct]; exact hl⟩) (hv (hrs ▸ h1) hp)
    rw [List.append_nil]
    refine ⟨cx1 H1 G1 [as1[k]], rs, [ct], rfl, B, hF _ _ ?_⟩
    intro w asF GF σF HF sF BF hw
    obtain ⟨as', pp, A2, hr⟩ := A1.back (ks := [k]) BF rfl (by simp) (fun j i e => by
      obtain ⟨rfl, rfl⟩ := one j i e
      exact ⟨as1[i], rfl, List.getElem?_eq_getElem hka⟩) (fun j => by
      unfold cget
      rw [List.getD_eq_getElem?_getD]
      cases e : (ct' :: os)[j]? with
      | none => rfl
      | some ct => exact List.all_eq_true.mp hfl ct (List.mem_of_getElem? e))
    rw [cput1] at A2
    exact q w as' GF HF (p1.trans pp) (l1.trans BF.g0) A2 (hr w r hw)
end

/-! ### statements -/
section
variable (K : Fg) (c : Cx0)
def Run (t : TS) (D : Ends) (s : List Slot) (o : List Cont) : Prop := ∀ as G σ H, Abs K c as G σ H s o → t D σ H
def Go (P : L2.St → Hp → Prop) (s : List Slot) (o : List Cont) : Prop := ∀ as G σ H, Abs K c as G σ H s o → P σ H
def RetOk (D : Ends) (o : List Cont) (s : List Slot) (r : Slot) : Prop := ∀ v as G σ H, Abs K c as G σ H s o → VOk K as G v r → D.rt v H
end
section
variable {K : Fg} {c : Cx0} {s s1 s2 s' : List Slot} {o o1 o2 o' : List Cont} {r r1 r2 : Slot} {rs : List Slot} {ta tb te : TE} {tt : TT} {t u w : TS} {D : Ends} {i : Nat}
theorem q_asg (h : ER K c te s o s1 o1 r) (hi : i < s1.length) (k : Run K c u D (s1.set i r) o1) : Run K c (tSeq (tAsg te (gName i)) u) D s o := fun as G σ H A =>
  h as G σ H A _ fun v as1 G1 H1 _ _ A1 h1 => k as1 G1 _ H1 (A1.set hi h1)
theorem s_asg (h : ER K c te s o s1 o1 r) (hi : i < s1.length) (k : Go K c D.nx (s1.set i r) o1) : Run K c (tAsg te (gName i)) D s o := fun as G σ H A =>
  h as G σ H A _ fun v as1 G1 H1 _ _ A1 h1 => k as1 G1 _ H1 (A1.set hi h1)
theorem q_drop (h : ER K c te s o s1 o1 r) (k : Run K c u D s1 o1) : Run K c (tSeq (tDrop te) u) D s o := fun as G σ H A => h as G σ H A _ fun v as1 G1 H1 _ _ A1 h1 => k as1 G1 _ H1 A1
theorem s_drop (h : ER K c te s o s1 o1 r) (k : Go K c D.nx s1 o1) : Run K c (tDrop te) D s o := fun as G σ H A => h as G σ H A _ fun v as1 G1 H1 _ _ A1 h1 => k as1 G1 _ H1 A1
theorem q_if {b : Bool} (h : ET K c tt s o s1 o1 b) (h1 : b = true → Run K c t { D with nx := u D } s1 o1) (h2 : b = false → Run K c w { D with nx := u D } s1 o1) : Run K c (tSeq (tIfS tt t w) u) D s o := fun as G σ H A =>
  h as G σ H A _ fun as1 G1 H1 _ _ A1 => by
    cases b with
    | true => rw [if_pos rfl]; exact h1 rfl as1 G1 σ H1 A1
    | false => rw [if_neg Bool.false_ne_true]; exact h2 rfl as1 G1 σ H1 A1
theorem s_if {b : Bool} (h : ET K c tt s o s1 o1 b) (h1 : b = true → Run K c t D s1 o1) (h2 : b = false → Run K c w D s1 o1) : Run K c (tIfS tt t w) D s o := fun as G σ H A =>
  h as G σ H A _ fun as1 G1 H1 _ _ A1 => by
    cases b with
    | true => rw [if_pos rfl]; exact h1 rfl as1 G1 σ H1 A1
    | false => rw [if_neg Bool.false_ne_true]; exact h2 rfl as1 G1 σ H1 A1
theorem q_when {b : Bool} (h : ET K c tt s o s1 o1 b) (h1 : b = true → Run K c t { D with nx := u D } s1 o1) (h2 : b = false → Run K c u D s1 o1) : Run K c (tSeq (tIfS tt t tNext) u) D s o := q_if h h1 fun e as G σ H A => h2 e as G σ H A
theorem s_when {b : Bool} (h : ET K c tt s o s1 o1 b) (h1 : b = true → Run K c t D s1 o1) (h2 : b = false → Go K c D.nx s1 o1) : Run K c (tIfS tt t tNext) D s o := s_if h h1 fun e as G σ H A => h2 e as G σ H A
theorem s_ret (h : ER K c te s o s1 o1 r) (k : RetOk K c D o1 s1 r) : Run K c (tRet te) D s o := fun as G σ H A => h as G σ H A _ fun v as1 G1 H1 _ _ A1 h1 => k v as1 G1 σ H1 A1 h1
theorem s_retN (k : RetOk K c D o s (.d ())) : Run K c tRetN D s o := fun as G σ H A => k .non as G σ H A rfl
theorem s_next (k : Go K c D.nx s o) : Run K c tNext D s o := k
theorem s_break (k : Go K c D.bk s o) : Run K c tBreak D s o := k
theorem s_cont (k : Go K c D.ct s o) : Run K c tCont D s o := k
theorem go_run (k : Run K c u D s o) : Go K c (u D) s o := k
/-- x += e at a name -/
theorem q_augA {x j : Int} (hx : sget s i = .d x) (h : ER K c te s o s1 o1 (.d j)) (hi : i < s1.length) (k : Run K c u D (s1.set i (.d (x + j))) o1) : Run K c (tSeq (tAug i te (ipI fun i j => i + j)) u) D s o := fun as G σ H A => by
  have f := A.fr i
  rw [hx] at f
  obtain ⟨v, e, hv⟩ := f
  exact ⟨v, e, h as G σ H A _ fun y as1 G1 H1 _ _ A1 h1 => ⟨x, j, hv, h1, k as1 G1 _ H1 (A1.set hi (show VOk K as1 G1 (.int (x + j)) (.d (x + j)) from rfl))⟩⟩
theorem s_augA {x j : Int} (hx : sget s i = .d x) (h : ER K c te s o s1 o1 (.d j)) (hi : i < s1.length) (k : Go K c D.nx (s1.set i (.d (x + j))) o1) : Run K c (tAug i te (ipI fun i j => i + j)) D s o := fun as G σ H A => by
  have f := A.fr i
  rw [hx] at f
  obtain ⟨v, e, hv⟩ := f
  exact ⟨v, e, h as G σ H A _ fun y as1 G1 H1 _ _ A1 h1 => ⟨x, j, hv, h1, k as1 G1 _ H1 (A1.set hi (show VOk K as1 G1 (.int (x + j)) (.d (x + j)) from rfl))⟩⟩

/-! ### weaker: slots forgotten, containers let go -/
def SlW : List Slot → List Slot → Prop
  | [], [] => True
  | a :: s, b :: t => (b = .u ∨ a = b) ∧ SlW s t
  | _, _ => False
def OsW : List Cont → List Cont → Prop
  | _, [] => True
  | [], _ :: _ => False
  | a :: o, b :: p => (b = .gone ∨ a = b) ∧ OsW o p
def ptS (n : Nat) : Slot → Bool
  | .p k => decide (k < n)
  | _ => true
def ptC (n : Nat) : Cont → Bool
  | .obj _ fs => fs.all fun q => ptS n q.2
  | _ => true
theorem SlW.refl : ∀ s : List Slot, SlW s s
  | [] => trivial
  | _ :: s => ⟨.inr rfl, SlW.refl s⟩
theorem OsW.refl : ∀ s : List Cont, OsW s s
  | [] => trivial
  | _ :: s => ⟨.inr rfl, OsW.refl s⟩
theorem SlW.len : ∀ {s t : List Slot}, SlW s t → t.length = s.length
  | [], [], _ => rfl
  | _ :: _, _ :: _, ⟨_, h⟩ => congrArg Nat.succ h.len
theorem SlW.get : ∀ {s t : List Slot}, SlW s t → ∀ i, sget t i = .u ∨ sget t i = sget s i
  | [], [], _, _ => .inr rfl
  | _ :: _, _ :: _, ⟨e, _⟩, 0 => e.imp id Eq.symm
  | _ :: _, _ :: _, ⟨_, h⟩, i + 1 => h.get i
theorem OsW.get : ∀ {o p : List Cont}, OsW o p → ∀ k, cget p k = .gone ∨ cget p k = cget o k
  | _, [], _, k => .inl (by unfold cget; rw [List.getD_eq_getElem?_getD]; simp)
  | _ :: _, _ :: _, ⟨e, _⟩, 0 => e.imp id Eq.symm
  | _ :: _, _ :: _, ⟨_, h⟩, i + 1 => h.get i
theorem OsW.le : ∀ {o p : List Cont}, OsW o p → p.length ≤ o.length
  | _, [], _ => Nat.zero_le _
  | _ :: _, _ :: _, ⟨_, h⟩ => Nat.succ_le_succ h.le
theorem flds_pre {K : Fg} {as : List Addr} {n : Nat} {G : Hp} : ∀ {fvs : List (Str × V)} {fs : List (Str × Slot)}, (fs.all fun q => ptS n q.2) = true → FldsOk K as G fvs fs → FldsOk K (as.take n) G fvs fs
  | [], [], _, _ => trivial
  | (_, _) :: _, (_, s) :: _, e, ⟨h1, h2, h3⟩ => by
    rw [List.all_cons, Bool.and_eq_true] at e
    refine ⟨h1, ?_, flds_pre e.2 h3⟩
    cases s with
    | u => trivial
    | d x => exact h2
    | p k =>
      obtain ⟨a, e1, e2⟩ := h2
      exact ⟨a, by rw [List.getElem?_take_of_lt (of_decide_eq_true e.1)]; exact e1, e2⟩
theorem Abs.weak {K : Fg} {c : Cx0} {as : List Addr} {G H : Hp} {σ : L2.St} {s t : List Slot} {o p : List Cont} (A : Abs K c as G σ H s o) (hs : SlW s t) (ho : OsW o p) (hm : c.M.length ≤ p.length)
    (h1 : t.all (ptS p.length) = true) (h2 : p.all (ptC p.length) = true) : Abs K c (as.take p.length) G σ H t p := by
  have gt : ∀ {k : Nat} {a : Addr}, (as.take p.length)[k]? = some a → k < p.length ∧ as[k]? = some a := fun {k a} e => by
    have hk := (List.getElem?_eq_some_iff.mp e).1
    rw [List.length_take] at hk
    rw [List.getElem?_take_of_lt (by omega)] at e
    exact ⟨by omega, e⟩
  have sp : ∀ i k, sget t i = .p k → k < p.length := fun i k e => by
    have hi : i < t.length := by
      by_cases q : i < t.length
      · exact q
      · rw [sget_ge (by omega)] at e; cases e
    have m : sget t i ∈ t := by
      unfold sget; rw [List.getD_eq_getElem?_getD, List.getElem?_eq_getElem hi]; exact List.getElem_mem hi
    have := List.all_eq_true.mp h1 _ m
    rw [e] at this
    exact of_decide_eq_true this
  refine ⟨A.sub, A.g0, A.old, A.new, ?_, A.nd.sublist (List.take_sublist _ _), by rw [List.length_take, A.asz]; have := ho.le; omega, fun a m => A.asf a (List.mem_of_mem_take m), fun k a e l => ?_, fun i => ?_, fun k a e => ?_, ?_⟩
  · obtain ⟨more, e⟩ := A.pre
    refine ⟨more.take (p.length - c.M.length), ?_⟩
    rw [e, List.take_append, List.take_of_length_le hm]
  · obtain ⟨hk, e'⟩ := gt e
    rcases ho.get k with q | q
    · rw [q] at l; exact l.elim
    · rw [q] at l; exact A.lv k a e' l
  · have f := A.fr i
    rcases hs.get i with q | q
    · rw [q]; trivial
    · cases z : sget t i with
      | u => trivial
      | d x => rw [← q, z] at f; exact f
      | p k =>
        rw [← q, z] at f
        obtain ⟨a, e1, e2⟩ := f
        exact ⟨a, by rw [List.getElem?_take_of_lt (sp i k z)]; exact e1, e2⟩
  · obtain ⟨hk, e'⟩ := gt e
    have f := A.st k a e'
    have m : cget p k ∈ p := by
      unfold cget; rw [List.getD_eq_getElem?_getD, List.getElem?_eq_getElem hk]; exact List.getElem_mem hk
    have hc := List.all_eq_true.mp h2 _ m
    rcases ho.get k with q | q
    · rw [q]; trivial
    · rw [← q] at f
      cases z : cget p k with
      | gone => trivial
      | lst xs => rw [z] at f; exact f
      | dct xs => rw [z] at f; exact f
      | obj C fs =>
        rw [z] at f hc
        obtain ⟨dx, fvs, e1, e2⟩ := f
        exact ⟨dx, fvs, e1, flds_pre hc e2⟩
  · rw [A.len, hs.len]

/-! ### what is handed back -/
/-- data, beside the containers that came in -/
theorem ret_d {α : Type} [Rp α] {x : α} {Q : VK} {os : List Cont} (h : Rc K c Q (.d x) os) (ho : OsW o os) (hm : c.M.length ≤ os.length) (h2 : os.all (ptC os.length) = true) (hD : D.rt = Q) : RetOk K c D o s (.d x) := fun v as G σ H A hv => by
  rw [hD]
  have A2 := A.bare.weak (t := []) trivial ho hm rfl h2
  exact h v _ G [] H [] A2 hv
/-- a new container -/
theorem Abs.pick {as : List Addr} {G H : Hp} {σ : L2.St} {os : List Cont} {k : Nat} (A : Abs K c as G σ H s o) (ho : OsW o os) (hm : c.M.length ≤ os.length) (h2 : os.all (ptC os.length) = true) (hk : os.length ≤ k) (hko : k < o.length) (hf : (cget o k).flat = true) :
    ∃ as', Abs K c as' G [] H [] (os ++ [cget o k]) ∧ ∃ a, as[k]? = some a ∧ as'[os.length]? = some a := by
  have B := A.bare.weak (t := []) trivial ho hm rfl h2
  have hka : k < as.length := by rw [A.asz]; exact hko
  have ha : as[k]? = some as[k] := List.getElem?_eq_getElem hka
  have lt : (as.take os.length).length = os.length := B.asz
  have nin : as[k] ∉ as.take os.length := fun m => by
    obtain ⟨j, hj, e⟩ := List.mem_iff_getElem.mp m
    have e2 : as[j]? = some as[k] := by
      have q := List.getElem?_eq_getElem hj
      rw [e, List.getElem?_take_of_lt (by omega)] at q
      exact q
    have := nd_get A.nd e2 ha
    omega
  have nM : as[k] ∉ c.M := fun m => by
    obtain ⟨more, e⟩ := B.pre
    exact nin (by rw [e]; exact List.mem_append_left _ m)
  have gt : ∀ {j : Nat} {a : Addr}, (as.take os.length ++ [as[k]])[j]? = some a → (j = os.length ∧ a = as[k]) ∨ (j ≠ os.length ∧ (as.take os.length)[j]? = some a) := fun {j a} e => by
    by_cases q : j < os.length
    · rw [List.getElem?_append_left (by omega)] at e; exact .inr ⟨by omega, e⟩
    · have hj := (List.getElem?_eq_some_iff.mp e).1
      rw [List.length_append, List.length_singleton] at hj
      have ej : j = (as.take os.length).length := by omega
      subst ej
      rw [List.getElem?_concat_length] at e
      exact .inl ⟨lt, (Option.some.inj e).symm⟩
  refine ⟨as.take os.length ++ [as[k]], ⟨B.sub, B.g0, B.old, B.new, B.pre.trans ⟨_, rfl⟩, ?_, by simp [lt], fun a m => ?_, fun j a e l => ?_, fun j => trivial, fun j a e => ?_, rfl⟩, as[k], ha, ?_⟩
  · exact List.nodup_append.mpr ⟨B.nd, by simp, fun a ha b hb z => nin ((show b = as[k] by simpa using hb) ▸ z ▸ ha)⟩
  · rcases List.mem_append.mp m with m | m
    · exact B.asf a m
    · have ea : a = as[k] := by simpa using m
      subst ea
      exact A.asf _ (List.mem_of_getElem? ha)
  · rcases gt e with ⟨ej, ea⟩ | ⟨ej, ea⟩
    · rw [ej, cget_app, if_pos rfl] at l
      rw [ea]; exact A.lv k _ ha l
    · rw [cget_app, if_neg ej] at l
      exact B.lv j a ea l
  · rcases gt e with ⟨ej, ea⟩ | ⟨ej, ea⟩
    · rw [ej, cget_app, if_pos rfl, ea]
      exact (A.st k _ ha).flat hf
    · rw [cget_app, if_neg ej]
      exact (B.st j a ea).mono ⟨_, rfl⟩ (Le.refl _)
  · rw [List.getElem?_append_right (by omega), lt]; simp
theorem ret_p {Q : VK} {os : List Cont} {k n : Nat} {ct : Cont} (h : Rc K c Q (.p n) (os ++ [ct])) (hn : n = os.length) (ho : OsW o os) (hm : c.M.length ≤ os.length) (h2 : os.all (ptC os.length) = true) (hk : os.length ≤ k) (hko : k < o.length) (hc : cget o k = ct) (hf : ct.flat = true) (hD : D.rt = Q) :
    RetOk K c D o s (.p k) := fun v as G σ H A hv => by
  subst hn
  rw [hD]
  obtain ⟨as', A2, a, e1, e2⟩ := A.pick ho hm h2 hk hko (by rw [hc]; exact hf)
  rw [hc] at A2
  obtain ⟨b, e3, e4⟩ := hv
  have eb : b = a := Option.some.inj (e3.symm.trans e1)
  subst eb
  exact h v as' G [] H [] A2 ⟨b, e2, e4⟩
/-- the entry -/
theorem enter {F : FS} {N : List Str} {vs : List V} {H : Hp} {Q : VK} {E : XK} (h : spOf K F vs H Q E) (k : ∀ (c : Cx0) (ss : List Slot) (os : List Cont), c.M.length = os.length → F ss os (Rc K c Q) (Xc K c E) →
    Run K c t { nx := fun _ H' => Q .non H', rt := Q } (ss ++ List.replicate (N.length - ss.length) .u) os) : t { nx := fun _ H' => Q .non H', rt := Q } (L2.start N vs) H := by
  obtain ⟨c, ss, os, rfl, A, f⟩ := h
  have hl := A.len
  rw [List.length_map] at hl
  refine k c ss os A.asz f c.M c.G (L2.start N vs) c.H ⟨A.sub, A.g0, A.old, A.new, A.pre, A.nd, A.asz, A.asf, A.lv, fun i => ?_, A.st, ?_⟩
  · unfold L2.start
    by_cases hi : i < vs.length
    · rw [List.getElem?_append_left (by simpa using hi)]
      have f := A.fr i
      have e : sget (ss ++ List.replicate (N.length - ss.length) .u) i = sget ss i := by
        unfold sget
        rw [List.getD_eq_getElem?_getD, List.getD_eq_getElem?_getD, List.getElem?_append_left (by omega)]
      rw [e]; exact f
    · have e : sget (ss ++ List.replicate (N.length - ss.length) .u) i = .u := by
        unfold sget
        rw [List.getD_eq_getElem?_getD, List.getElem?_append_right (by omega), List.getElem?_replicate]
        split <;> rfl
      rw [e]; trivial
  · unfold L2.start
    rw [List.length_append, List.length_append, List.length_map, List.length_replicate, List.length_replicate, hl]
theorem s_end {Q : VK} (h : RetOk K c ⟨fun _ H' => Q .non H', Q, fun _ _ => False, fun _ _ => False⟩ o s (.d ())) : Go K c (fun _ H' => Q .non H') s o := fun as G σ H A => h .non as G σ H A rfl
end
end VL

set_option maxHeartbeats 4000000
/-! THE VALUE LAYER 3: what is walked, loops, comprehensions, the containers' operations. -/
namespace VL
open PySem PySem.Spec PyProof.Rows L2

/-! ### typed dicts -/
section
variable {κ α : Type} [DecidableEq κ]
def dget (kvs : List (κ × α)) (k : κ) : Option α := (kvs.find? fun p => decide (p.1 = k)).map (·.2)
def dput (kvs : List (κ × α)) (k : κ) (x : α) : List (κ × α) := if (kvs.any fun p => decide (p.1 = k)) = true then kvs.map (fun p => if p.1 = k then (p.1, x) else p) else kvs ++ [(k, x)]
def ddrop (kvs : List (κ × α)) (k : κ) : List (κ × α) := kvs.filter fun p => decide (p.1 ≠ k)
theorem dget_nil {k : κ} : dget ([] : List (κ × α)) k = none := rfl
theorem dget_cons {p : κ × α} {l : List (κ × α)} {k : κ} : dget (p :: l) k = if p.1 = k then some p.2 else dget l k := by
  unfold dget; rw [List.find?_cons]
  by_cases h : p.1 = k <;> simp [h]
theorem dput_len (kvs : List (κ × α)) (k : κ) (x : α) : (dput kvs k x).length ≤ kvs.length + 1 := by
  unfold dput; split <;> simp
end
section
variable {κ α : Type} [DecidableEq κ] [KeyT κ] [Rp α] {K : Fg} {G : Hp}
theorem key_iff {a b : κ} : KeyT.key a = KeyT.key b ↔ a = b := ⟨KeyT.inj a b, fun h => h ▸ rfl⟩
theorem kv_get {vs : List (Key × V)} {kvs : List (κ × α)} (h : KvOk K G vs kvs) (k : κ) : (dget kvs k = none ∧ valV vs (KeyT.key k) = none) ∨ ∃ v x, dget kvs k = some x ∧ valV vs (KeyT.key k) = some v ∧ Rp.rep K G v x := by
  induction h with
  | nil => exact .inl ⟨rfl, rfl⟩
  | @cons p q l m r t ih =>
    obtain ⟨r1, r2⟩ := r
    rw [dget_cons]
    by_cases e : q.1 = k
    · refine .inr ⟨p.2, q.2, by rw [if_pos e], valV_pos (by rw [r1, e]), r2⟩
    · rw [if_neg e, valV_neg (fun z => e (KeyT.inj _ _ (r1.symm.trans z)))]
      exact ih
theorem kv_some {vs : List (Key × V)} {kvs : List (κ × α)} (h : KvOk K G vs kvs) {k : κ} {x : α} (e : dget kvs k = some x) : ∃ v, valV vs (KeyT.key k) = some v ∧ Rp.rep K G v x := by
  rcases kv_get h k with ⟨e1, _⟩ | ⟨v, y, e1, e2, e3⟩
  · rw [e1] at e; cases e
  · rw [e1] at e; cases e; exact ⟨v, e2, e3⟩
theorem kv_is {vs : List (Key × V)} {kvs : List (κ × α)} (h : KvOk K G vs kvs) (k : κ) : (valV vs (KeyT.key k)).isSome = (dget kvs k).isSome := by
  rcases kv_get h k with ⟨e1, e2⟩ | ⟨v, y, e1, e2, e3⟩ <;> rw [e1, e2] <;> rfl
theorem kv_any {vs : List (Key × V)} {kvs : List (κ × α)} (h : KvOk K G vs kvs) (k : κ) : (vs.any fun p => decide (p.1 = KeyT.key k)) = kvs.any fun p => decide (p.1 = k) := by
  induction h with
  | nil => rfl
  | @cons p q l m r t ih =>
    rw [List.any_cons, List.any_cons, ih, r.1]
    congr 1
    exact decide_eq_decide.mpr key_iff
theorem kv_put {vs : List (Key × V)} {kvs : List (κ × α)} (h : KvOk K G vs kvs) {k : κ} {v : V} {x : α} (r : Rp.rep K G v x) : KvOk K G (putK vs (KeyT.key k) v) (dput kvs k x) := by
  unfold putK dput
  rw [kv_any h k]
  by_cases a : (kvs.any fun p => decide (p.1 = k)) = true
  · rw [if_pos a, if_pos a]
    refine pr_map _ _ (fun p q e => ?_) h
    by_cases z : q.1 = k
    · rw [if_pos z, if_pos (by rw [e.1, z])]; exact ⟨e.1, r⟩
    · rw [if_neg z, if_neg (by rw [e.1]; exact fun y => z (KeyT.inj _ _ y))]; exact e
  · rw [if_neg a, if_neg a]
    exact pr_app h (pr_one ⟨rfl, r⟩)
theorem kv_drop {vs : List (Key × V)} {kvs : List (κ × α)} (h : KvOk K G vs kvs) (k : κ) : KvOk K G (dropK vs (KeyT.key k)) (ddrop kvs k) := by
  unfold dropK ddrop
  induction h with
  | nil => exact .nil
  | @cons p q l m r t ih =>
    rw [List.filter_cons, List.filter_cons]
    by_cases z : q.1 = k
    · have z' : p.1 = KeyT.key k := by rw [r.1, z]
      simp only [z, z', ne_eq, not_true, decide_false, Bool.false_eq_true, if_false]; exact ih
    · have z' : ¬ p.1 = KeyT.key k := by rw [r.1]; exact fun y => z (KeyT.inj _ _ y)
      simp only [z, z', ne_eq, not_false_eq_true, decide_true, if_true]; exact .cons r ih
end

/-! ### a deeper entry: what stood stays where it is -/
def CLe (K : Fg) (c c' : Cx0) : Prop := ∀ as G σ H s o, Abs K c' as G σ H s o → Abs K c as G σ H s o
theorem CLe.refl (K : Fg) (c : Cx0) : CLe K c c := fun _ _ _ _ _ _ A => A
theorem CLe.trans {K : Fg} {a b c : Cx0} (x : CLe K a b) (y : CLe K b c) : CLe K a c := fun _ _ _ _ _ _ A => x _ _ _ _ _ _ (y _ _ _ _ _ _ A)
section
variable {K : Fg} {c c' : Cx0} {as : List Addr} {G H : Hp} {σ : L2.St} {s s1 s2 s' : List Slot} {o o1 o2 o' : List Cont} {r : Slot} {D : Ends} {t u : TS}
theorem Abs.deep (A : Abs K c as G σ H s o) : Abs K ⟨c.H, G, as⟩ as G σ H s o ∧ CLe K c ⟨c.H, G, as⟩ := by
  have inM : ∀ {a : Addr}, a ∈ as → a ∈ c.M ∨ c.H a = none := fun m => (A.asf _ m).2
  refine ⟨⟨A.sub, Le.refl _, fun b u e m => ?_, fun b u e => .inl e, Pre.refl _, A.nd, A.asz, fun a m => ⟨(A.asf a m).1, .inl m⟩, A.lv, A.fr, A.st, A.len⟩, fun as' G' σ' H' s' o' B => ?_⟩
  · refine A.old b u e fun z => m ?_
    obtain ⟨more, e⟩ := A.pre
    rw [e]; exact List.mem_append_left _ z
  · refine ⟨B.sub, A.g0.trans B.g0, fun b u e m => ?_, fun b u e => ?_, A.pre.trans B.pre, B.nd, B.asz, fun a m => ⟨(B.asf a m).1, ?_⟩, B.lv, B.fr, B.st, B.len⟩
    · refine B.old b u e fun z => ?_
      rcases inM z with y | y
      · exact m y
      · rw [y] at e; cases e
    · rcases B.new b u e with z | z
      · exact A.new b u z
      · exact .inr z
    · rcases (B.asf a m).2 with y | y
      · exact inM y
      · exact .inr y
theorem Run.up (h : CLe K c c') (k : Run K c t D s o) : Run K c' t D s o := fun as G σ H A => k as G σ H (h _ _ _ _ _ _ A)
theorem Go.up {P : L2.St → Hp → Prop} (h : CLe K c c') (k : Go K c P s o) : Go K c' P s o := fun as G σ H A => k as G σ H (h _ _ _ _ _ _ A)
theorem RetOk.up (h : CLe K c c') (k : RetOk K c D o s r) : RetOk K c' D o s r := fun v as G σ H A => k v as G σ H (h _ _ _ _ _ _ A)

/-! ### what is walked -/
/-- J yields the things xs, one by one, as long as P holds of the store -/
def Yl {α : Type} [Rp α] (K : Fg) (c : Cx0) (J : It) (xs : List α) (P : List Cont → Prop) : Prop := ∀ (i : Nat) (as : List Addr) (G : Hp) (σ : L2.St) (H : Hp) (s : List Slot) (o : List Cont), Abs K c as G σ H s o → P o →
  (i = xs.length → J.stop i H) ∧ ∀ y, xs[i]? = some y → J.go i H ∧ ∀ x H', J.yld i H x H' → ∃ G', Le G G' ∧ Abs K c as G' σ H' s o ∧ Rp.rep K G' x y
def EI {α : Type} [Rp α] (K : Fg) (c : Cx0) (wi : TI) (s : List Slot) (o : List Cont) (s' : List Slot) (o' : List Cont) (xs : List α) (P : List Cont → Prop) : Prop :=
  ∀ as G σ H, Abs K c as G σ H s o → ∀ R : It → Hp → Prop, (∀ c' J as1 G1 H1, CLe K c c' → c'.M.length = o'.length → Le G G1 → Abs K c' as1 G1 σ H1 s' o' → Yl K c' J xs P → R J H1) → wi σ H R
theorem ei_data {α : Type} [Rp α] {xs : List α} {te : TE} (h : ER K c te s o s1 o1 (.d xs)) : EI K c (iList K te) s o s1 o1 xs (fun _ => True) := fun as G σ H A R q =>
  h as G σ H A _ fun v as1 G1 H1 p1 l1 A1 hv => by
    obtain ⟨a, vs, rfl, hs, hr⟩ := (show Rp.rep K G1 v xs from hv)
    obtain ⟨A2, hc⟩ := A1.deep
    refine ⟨a, rfl, ⟨vs, A1.sub.sqL hs⟩, q _ _ as1 G1 H1 hc A1.asz l1 A2 fun i as2 G2 σ2 H2 s2 o2 B _ => ⟨fun e => ⟨vs, (B.g0.trans B.sub).sqL hs, by rw [pr_len hr]; omega⟩, fun y e => ?_⟩⟩
    obtain ⟨v, hv, rv⟩ := pr_get hr e
    have hs2 := (B.g0.trans B.sub).sqL hs
    exact ⟨⟨vs, v, hs2, hv⟩, fun x H' ⟨e1, e2⟩ => by
      subst e1
      have ex := e2 vs hs2
      rw [hv] at ex
      cases ex
      exact ⟨G2, Le.refl _, B, Rp.mono B.g0 rv⟩⟩
theorem ei_store {α : Type} [Rp α] {xs : List α} {te : TE} {k : Nat} (h : ER K c te s o s1 o1 (.p k)) (hk : cget o1 k = .lst xs) : EI K c (iList K te) s o s1 o1 xs (fun o => cget o k = .lst xs) := fun as G σ H A R q =>
  h as G σ H A _ fun v as1 G1 H1 p1 l1 A1 hv => by
    obtain ⟨a, ha, rfl⟩ := hv
    obtain ⟨A2, hc⟩ := A1.deep
    have f := A1.st k a ha
    rw [hk] at f
    obtain ⟨vs0, e0, _⟩ := f
    refine ⟨a, rfl, ⟨vs0, SqL.of e0⟩, q _ _ as1 G1 H1 hc A1.asz l1 A2 fun i as2 G2 σ2 H2 s2 o2 B hP => ?_⟩
    have ha2 : as2[k]? = some a := B.pre.get ha
    have f := B.st k a ha2
    rw [hP] at f
    obtain ⟨vs, e1, hr⟩ := f
    refine ⟨fun e => ⟨vs, SqL.of e1, by rw [pr_len hr]; omega⟩, fun y e => ?_⟩
    obtain ⟨v, hv, rv⟩ := pr_get hr e
    exact ⟨⟨vs, v, SqL.of e1, hv⟩, fun x H' ⟨e2, e3⟩ => by
      subst e2
      have ex := e3 vs (SqL.of e1)
      rw [hv] at ex
      cases ex
      exact ⟨G2, Le.refl _, B, rv⟩⟩
/-- a range, as rngl -/
def rngl (lo : Int) (n : Nat) : List Int := (List.range n).map fun (i : Nat) => lo + (i : Int)
theorem rngl_get {lo : Int} {n i : Nat} {y : Int} : (rngl lo n)[i]? = some y ↔ i < n ∧ y = lo + (i : Int) := by
  unfold rngl
  by_cases h : i < n
  · rw [List.getElem?_map, List.getElem?_range h]; simp [h, eq_comm]
  · rw [List.getElem?_eq_none (by simp; omega)]; simp [h]
theorem rngl_len {lo : Int} {n : Nat} : (rngl lo n).length = n := by simp [rngl]
theorem yl_range {lo : Int} {n : Nat} : Yl K c (Itr lo n) (rngl lo n) (fun _ => True) := fun i as G σ H s o A _ => ⟨fun e => by rw [rngl_len] at e; exact Nat.le_of_eq e.symm, fun y e => by
  obtain ⟨h1, h2⟩ := rngl_get.mp e
  exact ⟨h1, fun x H' ⟨e1, e2⟩ => by subst e1; exact ⟨G, Le.refl _, A, by rw [e2, ← h2]; rfl⟩⟩⟩
theorem ei_rng1 {ta : TA} {n : Int} (h : EA K c ta s o s1 o1 [.d n]) (hn : -(2 ^ 62) ≤ n ∧ n < 2 ^ 62) : EI K c (iRng1 ta) s o s1 o1 (rngl 0 n.toNat) (fun _ => True) := fun as G σ H A R q =>
  h as G σ H A _ fun vs as1 G1 H1 p1 l1 A1 h1 => by
    obtain ⟨x, rfl, hx⟩ := VsOk.one h1
    obtain ⟨A2, hc⟩ := A1.deep
    exact ⟨n, by rw [show x = .int n from hx], hn.1, hn.2, q _ _ as1 G1 H1 hc A1.asz l1 A2 yl_range⟩
theorem ei_rng2 {ta : TA} {lo hi : Int} (h : EA K c ta s o s1 o1 [.d lo, .d hi]) (hn : -(2 ^ 62) ≤ lo ∧ lo < 2 ^ 62 ∧ -(2 ^ 62) ≤ hi ∧ hi < 2 ^ 62) : EI K c (iRng2 ta) s o s1 o1 (rngl lo (hi - lo).toNat) (fun _ => True) := fun as G σ H A R q =>
  h as G σ H A _ fun vs as1 G1 H1 p1 l1 A1 h1 => by
    obtain ⟨x, y, rfl, hx, hy⟩ := VsOk.two h1
    obtain ⟨A2, hc⟩ := A1.deep
    exact ⟨lo, hi, by rw [show x = .int lo from hx, show y = .int hi from hy], hn, q _ _ as1 G1 H1 hc A1.asz l1 A2 yl_range⟩
/-- a tuple of any length, data -/
theorem ei_tup {α : Type} [Rp α] {xs : List α} {te : TE} (h : ER K c te s o s1 o1 (.d (Tup.mk xs))) : EI K c (iTup K te) s o s1 o1 xs (fun _ => True) := fun as G σ H A R q =>
  h as G σ H A _ fun v as1 G1 H1 p1 l1 A1 hv => by
    obtain ⟨a, vs, rfl, hs, hr⟩ := (show Rp.rep K G1 v (Tup.mk xs) from hv)
    obtain ⟨A2, hc⟩ := A1.deep
    refine ⟨a, rfl, ⟨vs, A1.sub.sqT hs⟩, q _ _ as1 G1 H1 hc A1.asz l1 A2 fun i as2 G2 σ2 H2 s2 o2 B _ => ⟨fun e => ⟨vs, (B.g0.trans B.sub).sqT hs, by rw [pr_len hr]; show xs.length ≤ i; omega⟩, fun y e => ?_⟩⟩
    obtain ⟨v, hv, rv⟩ := pr_get hr e
    have hs2 := (B.g0.trans B.sub).sqT hs
    exact ⟨⟨vs, v, hs2, hv⟩, fun x H' ⟨e1, e2⟩ => by
      subst e1
      have ex := e2 vs hs2
      rw [hv] at ex
      cases ex
      exact ⟨G2, Le.refl _, B, Rp.mono B.g0 rv⟩⟩

/-! ### targets -/
def EG (K : Fg) (tg : TG) (r : Slot) (s s' : List Slot) : Prop := ∀ c as G σ H o v, Abs K c as G σ H s o → VOk K as G v r → ∀ P : L2.St → Hp → Prop, (∀ σ', Abs K c as G σ' H s' o → P σ' H) → tg v σ H P
def EGs (K : Fg) (tg : TGs) (rs : List Slot) (s s' : List Slot) : Prop := ∀ c as G σ H o vs, Abs K c as G σ H s o → VsOk K as G vs rs → ∀ P : L2.St → Hp → Prop, (∀ σ', Abs K c as G σ' H s' o → P σ' H) → tg vs σ H P
theorem eg_name {i : Nat} (hi : i < s.length) : EG K (gName i) r s (s.set i r) := fun c as G σ H o v A hv P k => k _ (A.set hi hv)
theorem egs_nil : EGs K gNil [] s s := fun c as G σ H o vs A hv P k => by cases hv; exact ⟨rfl, k σ A⟩
theorem egs_cons {t : TG} {w : TGs} {rs : List Slot} (h : EG K t r s s1) (h2 : EGs K w rs s1 s2) : EGs K (gCons t w) (r :: rs) s s2 := fun c as G σ H o vs A hv P k => by
  cases hv with
  | cons a b => exact ⟨_, _, rfl, h c as G σ H o _ A a _ fun σ1 A1 => h2 c as G σ1 H o _ A1 b P k⟩
theorem eg_t2 {α β : Type} [Rp α] [Rp β] {x : T2 α β} {w : TGs} (h : EGs K w [.d x.a, .d x.b] s s1) : EG K (gTup K 2 w) (.d x) s s1 := fun c as G σ H o v A hv P k => by
  obtain ⟨t, v1, v2, rfl, hs, r1, r2⟩ := (show Rp.rep K G v x from hv)
  exact ⟨t, [v1, v2], rfl, A.sub.sqT hs, rfl, h c as G σ H o _ A (.cons r1 (.cons r2 .nil)) P k⟩
theorem eg_t3 {α β γ : Type} [Rp α] [Rp β] [Rp γ] {x : T3 α β γ} {w : TGs} (h : EGs K w [.d x.a, .d x.b, .d x.c] s s1) : EG K (gTup K 3 w) (.d x) s s1 := fun c as G σ H o v A hv P k => by
  obtain ⟨t, v1, v2, v3, rfl, hs, r1, r2, r3⟩ := (show Rp.rep K G v x from hv)
  exact ⟨t, [v1, v2, v3], rfl, A.sub.sqT hs, rfl, h c as G σ H o _ A (.cons r1 (.cons r2 (.cons r3 .nil))) P k⟩
/-- x, y = e -/
theorem s_asgG {te : TE} {g : TG} (h : ER K c te s o s1 o1 r) (hg : EG K g r s1 s2) (k : Go K c D.nx s2 o1) : Run K c (tAsg te g) D s o := fun as G σ H A =>
  h as G σ H A _ fun v as1 G1 H1 _ _ A1 h1 => hg c as1 G1 σ H1 o1 v A1 h1 _ fun σ2 A2 => k as1 G1 σ2 H1 A2

/-! ### loops -/
theorem run_seq (h : Run K c t { D with nx := u D } s o) : Run K c (tSeq t u) D s o := h
/-- what holds at a turn: the slots and the store by a datum -/
def At {ω : Type} (K : Fg) (c : Cx0) (I : ω → Prop) (f : ω → List Slot) (g : ω → List Cont) : L2.St → Hp → Prop := fun σ H => ∃ w, I w ∧ ∃ as G, Abs K c as G σ H (f w) (g w)
theorem go_at {ω : Type} {I : ω → Prop} {f : ω → List Slot} {g : ω → List Cont} (w : ω) (h : I w) (hs : SlW s (f w)) (ho : OsW o (g w)) (hm : c.M.length ≤ (g w).length) (h1 : (f w).all (ptS (g w).length) = true) (h2 : (g w).all (ptC (g w).length) = true) : Go K c (At K c I f g) s o := fun as G σ H A =>
  ⟨w, h, _, G, A.weak hs ho hm h1 h2⟩
theorem s_for {α ω : Type} [Rp α] {wi : TI} {tg : TG} {xs : List α} {P : List Cont → Prop} (I : Nat → ω → Prop) (f : ω → List Slot) (g : ω → List Cont) (f' : ω → α → List Slot) (h : EI K c wi s o s1 o1 xs P) (w0 : ω) (h0 : I 0 w0) (e1 : SlW s1 (f w0)) (e2 : o1 = g w0) (h1 : (f w0).all (ptS (g w0).length) = true) (h2 : (g w0).all (ptC (g w0).length) = true)
    (hP : ∀ k w, I k w → P (g w)) (hg : ∀ w x, EG K tg (.d x) (f w) (f' w x))
    (hs : ∀ c', CLe K c c' → c'.M.length = o1.length → ∀ (k : Nat) (w : ω) (x : α), xs[k]? = some x → I k w → Run K c' t { D with nx := At K c' (I (k + 1)) f g, ct := At K c' (I (k + 1)) f g, bk := D.nx } (f' w x) (g w))
    (hd : ∀ w, I xs.length w → Go K c D.nx (f w) (g w)) : Run K c (tFor wi tg t) D s o := fun as G σ H A =>
  h as G σ H A _ fun c' J as1 G1 H1 hc hM l1 A1 Y => by
    have A1' : Abs K c' (as1.take (g w0).length) G1 σ H1 (f w0) (g w0) := A1.weak e1 (e2 ▸ OsW.refl _) (by rw [hM, e2]; exact Nat.le_refl _) h1 h2
    refine ⟨fun i m σ H => m = xs.length - i ∧ i ≤ xs.length ∧ At K c' (I i) f g σ H, ⟨xs.length, by simp, Nat.zero_le _, w0, h0, _, G1, A1'⟩, ?_⟩
    rintro i m σ2 H2 ⟨rfl, hi, w, iw, as2, G2, A2⟩
    obtain ⟨y1, y2⟩ := Y i as2 G2 σ2 H2 (f w) (g w) A2 (hP i w iw)
    by_cases hlt : i < xs.length
    · obtain ⟨go, yl⟩ := y2 xs[i] (List.getElem?_eq_getElem hlt)
      refine .inr ⟨go, At K c' (I (i + 1)) f g, fun σ' H' p' => ⟨xs.length - (i + 1), by omega, rfl, hlt, p'⟩, fun x H' y => ?_⟩
      obtain ⟨G3, l3, A3, rx⟩ := yl x H' y
      exact hg w xs[i] c' as2 G3 σ2 H' (g w) x A3 rx _ fun σ4 A4 => hs c' hc hM i w xs[i] (List.getElem?_eq_getElem hlt) iw as2 G3 σ4 H' A4
    · have e : i = xs.length := by omega
      subst e
      exact .inl ⟨y1 rfl, hd w iw as2 G2 σ2 H2 (hc _ _ _ _ _ _ A2)⟩
theorem s_while {ω : Type} {tt : TT} (I : ω → Prop) (μ : ω → Nat) (b : ω → Bool) (f : ω → List Slot) (g : ω → List Cont) (w0 : ω) (h0 : I w0) (e1 : SlW s (f w0)) (e2 : OsW o (g w0)) (hm : c.M.length ≤ (g w0).length) (h1 : (f w0).all (ptS (g w0).length) = true) (h2 : (g w0).all (ptC (g w0).length) = true)
    (hb : ∀ w, I w → ET K c tt (f w) (g w) (f w) (g w) (b w))
    (hs : ∀ w, I w → b w = true → Run K c t { D with nx := At K c (fun w' => I w' ∧ μ w' < μ w) f g, ct := At K c (fun w' => I w' ∧ μ w' < μ w) f g, bk := D.nx } (f w) (g w))
    (hd : ∀ w, I w → b w = false → Go K c D.nx (f w) (g w)) : Run K c (tWhile tt t) D s o := fun as G σ H A => by
  refine ⟨fun m σ H => ∃ w, m = μ w ∧ I w ∧ ∃ as G, Abs K c as G σ H (f w) (g w), ⟨μ w0, w0, rfl, h0, _, G, A.weak e1 e2 hm h1 h2⟩, ?_⟩
  rintro m σ2 H2 ⟨w, rfl, iw, as2, G2, A2⟩
  refine hb w iw as2 G2 σ2 H2 A2 _ fun as3 G3 H3 _ _ A3 => ?_
  cases e : b w with
  | true =>
    rw [if_pos rfl]
    exact ⟨_, fun σ' H' ⟨w', ⟨i1, i2⟩, as', G', A'⟩ => ⟨μ w', i2, w', rfl, i1, as', G', A'⟩, hs w iw e as3 G3 σ2 H3 A3⟩
  | false => rw [if_neg Bool.false_ne_true]; exact hd w iw e as3 G3 σ2 H3 A3
end
end VL

set_option maxHeartbeats 4000000
/-! THE VALUE LAYER 4: operations of containers, built-ins, comprehensions. -/
namespace VL
open PySem PySem.Spec PyProof.Rows L2
section
variable {K : Fg} {c c' : Cx0} {as : List Addr} {G H : Hp} {σ : L2.St} {s s1 s2 s' : List Slot} {o o1 o2 o' : List Cont} {r r1 r2 : Slot} {rs : List Slot} {D : Ends} {t u : TS} {te ta tb : TE} {i k : Nat}

/-! ### a slot of the store: its list stands there -/
theorem at_list {α : Type} [Rp α] {xs : List α} (A : Abs K c as G σ H s o) {a : Addr} (ha : as[k]? = some a) (hk : cget o k = .lst xs) : ∃ vs, H a = some (.lst vs) ∧ Reps K G vs xs := by
  have f := A.st k a ha; rw [hk] at f; exact f
theorem at_dct {κ α : Type} [KeyT κ] [Rp α] {xs : List (κ × α)} (A : Abs K c as G σ H s o) {a : Addr} (ha : as[k]? = some a) (hk : cget o k = .dct xs) : ∃ vs, H a = some (.dK vs) ∧ KvOk K G vs xs := by
  have f := A.st k a ha; rw [hk] at f; exact f
/-- data of the def's own is frozen where it is used -/
theorem er_frz {α : Type} [Rp α] {xs : List α} (h : ER K c te s o s1 o1 (.p k)) (hk : cget o1 k = .lst xs) (hm : c.M.length ≤ k) : ER K c te s o s1 (o1.set k .gone) (.d xs) := fun as G σ H A Q q =>
  h as G σ H A _ fun v as1 G1 H1 p1 l1 A1 hv => by
    obtain ⟨a, ha, rfl⟩ := hv
    obtain ⟨vs, e, hr⟩ := at_list A1 ha hk
    obtain ⟨A2, l2⟩ := A1.frz ha hm e
    exact q _ as1 _ H1 p1 (l1.trans l2) A2 ⟨a, vs, rfl, SqL.of upd_same, Reps.mono l2 hr⟩
theorem er_frzD {κ α : Type} [KeyT κ] [Rp α] {xs : List (κ × α)} (h : ER K c te s o s1 o1 (.p k)) (hk : cget o1 k = .dct xs) (hm : c.M.length ≤ k) : ER K c te s o s1 (o1.set k .gone) (.d (Dct.mk xs)) := fun as G σ H A Q q =>
  h as G σ H A _ fun v as1 G1 H1 p1 l1 A1 hv => by
    obtain ⟨a, ha, rfl⟩ := hv
    obtain ⟨vs, e, hr⟩ := at_dct A1 ha hk
    obtain ⟨A2, l2⟩ := A1.frz ha hm e
    exact q _ as1 _ H1 p1 (l1.trans l2) A2 ⟨a, vs, rfl, .of upd_same, KvOk.mono l2 hr⟩

/-! ### lists: pop, append, items -/
theorem er_pop {α : Type} [Rp α] {xs : List α} {x : α} (hs : sget s i = .p k) (hk : cget o k = .lst xs) (hx : xs[xs.length - 1]? = some x) : ER K c (tBM0 K "list" rPop (tVar i)) s o s (o.set k (.lst xs.dropLast)) (.d x) := fun as G σ H A Q q =>
  er_p hs as G σ H A _ fun v as1 G1 H1 p1 l1 A1 hv => by
    obtain ⟨a, ha, rfl⟩ := hv
    obtain ⟨vs, e, hr⟩ := at_list A1 ha hk
    obtain ⟨v, hv, rv⟩ := pr_get hr hx
    refine ⟨Or.inl ⟨rfl, vs, SqL.of e⟩, a, vs, v, rfl, rfl, e, by rw [pr_len hr]; exact hv, ?_⟩
    exact q v as1 G1 _ p1 l1 (A1.put ha (by rw [hk]; trivial) ⟨_, rfl, pr_dropLast hr⟩) rv
theorem s_append {α : Type} [Rp α] {xs : List α} {x : α} (hs : sget s i = .p k) (h : ER K c te s o s1 o1 (.d x)) (hk : cget o1 k = .lst xs) (hk0 : ∃ (β : Type) (j : Rp β) (ys : List β), cget o k = @Cont.lst β j ys) (hz : xs.length < sizeLine) (q : Go K c D.nx s1 (o1.set k (.lst (xs ++ [x])))) :
    Run K c (tDrop (tBM K "list" rAppend (tVar i) (tCons te tNil))) D s o := fun as G σ H A => by
    refine er_p hs as G σ H A (fun x H1 => tyV K "list" x H1 ∧ (tCons te tNil) σ H1 fun xs H2 => rAppend x xs H2 fun _ H3 => D.nx σ H3) fun v as1 G1 H1 p1 l1 A1 hv => ?_
    obtain ⟨a, ha, rfl⟩ := hv
    obtain ⟨β, j, ys, hk0⟩ := hk0
    obtain ⟨ws, e0, _⟩ := @at_list K c as1 G1 H1 σ s o k β j ys A1 a ha hk0
    refine ⟨Or.inl ⟨rfl, ws, SqL.of e0⟩, h as1 G1 σ H1 A1 _ fun w as2 G2 H2 p2 l2 A2 hw => ?_⟩
    have ha2 := p2.get ha
    obtain ⟨vs, e, hr⟩ := at_list A2 ha2 hk
    refine ⟨a, vs, w, rfl, rfl, e, by rw [pr_len hr]; exact hz, ?_⟩
    exact q as2 G2 σ _ (A2.put ha2 (by rw [hk]; trivial) ⟨_, rfl, pr_app hr (pr_one hw)⟩)
theorem at_of_reps {α : Type} [Rp α] {vs : List V} {xs : List α} {G : Hp} {j : Int} {x : α} (hr : Reps K G vs xs) (h : atI xs j = some x) : ∃ v, atI vs j = some v ∧ Rp.rep K G v x := by
  unfold atI at h ⊢
  rw [pr_len hr]
  cases e : ixN xs.length j with
  | none => rw [e] at h; cases h
  | some n =>
    rw [e] at h
    exact pr_get hr h
theorem ov_ixL {α : Type} [Rp α] {xs : List α} {j : Int} {x : α} (L : LView o r xs) (h : atI xs j = some x) : OV K c (rIx K) s o r (.d j) s o (.d x) := fun as G σ H u w A h1 h2 Q q => by
  obtain ⟨p, vs, rfl, hs, hr⟩ := L.at_ A h1
  obtain ⟨v, hv, rv⟩ := at_of_reps hr h
  exact .inl ⟨p, vs, j, v, rfl, h2, hs, hv, q v as G H (Pre.refl _) (Le.refl _) A rv⟩
theorem ov_ixT {α : Type} [Rp α] {xs : List α} {j : Int} {x : α} (h : atI xs j = some x) : OV K c (rIx K) s o (.d (Tup.mk xs)) (.d j) s o (.d x) := fun as G σ H u w A h1 h2 Q q => by
  obtain ⟨p, vs, rfl, hs, hr⟩ := (show Rp.rep K G u (Tup.mk xs) from h1)
  obtain ⟨v, hv, rv⟩ := at_of_reps hr h
  exact .inr (.inl ⟨p, vs, j, v, rfl, h2, A.sub.sqT hs, hv, q v as G H (Pre.refl _) (Le.refl _) A rv⟩)
theorem ov_ix20 {α β : Type} [Rp α] [Rp β] {x : T2 α β} : OV K c (rIx K) s o (.d x) (.d (0 : Int)) s o (.d x.a) := fun as G σ H u w A h1 h2 Q q => by
  obtain ⟨p, v1, v2, rfl, hs, r1, r2⟩ := (show Rp.rep K G u x from h1)
  exact .inr (.inl ⟨p, _, 0, v1, rfl, h2, A.sub.sqT hs, rfl, q v1 as G H (Pre.refl _) (Le.refl _) A r1⟩)
theorem ov_ix21 {α β : Type} [Rp α] [Rp β] {x : T2 α β} : OV K c (rIx K) s o (.d x) (.d (1 : Int)) s o (.d x.b) := fun as G σ H u w A h1 h2 Q q => by
  obtain ⟨p, v1, v2, rfl, hs, r1, r2⟩ := (show Rp.rep K G u x from h1)
  exact .inr (.inl ⟨p, _, 1, v2, rfl, h2, A.sub.sqT hs, rfl, q v2 as G H (Pre.refl _) (Le.refl _) A r2⟩)
theorem ov_ix30 {α β γ : Type} [Rp α] [Rp β] [Rp γ] {x : T3 α β γ} : OV K c (rIx K) s o (.d x) (.d (0 : Int)) s o (.d x.a) := fun as G σ H u w A h1 h2 Q q => by
  obtain ⟨p, v1, v2, v3, rfl, hs, r1, r2, r3⟩ := (show Rp.rep K G u x from h1)
  exact .inr (.inl ⟨p, _, 0, v1, rfl, h2, A.sub.sqT hs, rfl, q v1 as G H (Pre.refl _) (Le.refl _) A r1⟩)
theorem ov_ix31 {α β γ : Type} [Rp α] [Rp β] [Rp γ] {x : T3 α β γ} : OV K c (rIx K) s o (.d x) (.d (1 : Int)) s o (.d x.b) := fun as G σ H u w A h1 h2 Q q => by
  obtain ⟨p, v1, v2, v3, rfl, hs, r1, r2, r3⟩ := (show Rp.rep K G u x from h1)
  exact .inr (.inl ⟨p, _, 1, v2, rfl, h2, A.sub.sqT hs, rfl, q v2 as G H (Pre.refl _) (Le.refl _) A r2⟩)
theorem ov_ix32 {α β γ : Type} [Rp α] [Rp β] [Rp γ] {x : T3 α β γ} : OV K c (rIx K) s o (.d x) (.d (2 : Int)) s o (.d x.c) := fun as G σ H u w A h1 h2 Q q => by
  obtain ⟨p, v1, v2, v3, rfl, hs, r1, r2, r3⟩ := (show Rp.rep K G u x from h1)
  exact .inr (.inl ⟨p, _, 2, v3, rfl, h2, A.sub.sqT hs, rfl, q v3 as G H (Pre.refl _) (Le.refl _) A r3⟩)
/-- a[i] of the universal kind -/
theorem er_ix (h1 : ER K c ta s o s1 o1 r1) (h2 : ER K c tb s1 o1 s2 o2 r2) (h : OV K c (rIx K) s2 o2 r1 r2 s2 o2 r) : ER K c (uIx K ta tb) s o s2 o2 r := fun as G σ H A Q q => .inl (er_op h1 h2 h as G σ H A Q q)
/-! dicts that are read -/
def DView {κ α : Type} [KeyT κ] [Rp α] (o : List Cont) (r : Slot) (xs : List (κ × α)) : Prop := r = .d (Dct.mk xs) ∨ ∃ k, r = .p k ∧ cget o k = .dct xs
theorem DView.at_ {κ α : Type} [KeyT κ] [Rp α] {xs : List (κ × α)} {v : V} (L : DView o r xs) (A : Abs K c as G σ H s o) (h : VOk K as G v r) : ∃ p vs, v = .ref p ∧ Rd H p (.dK vs) ∧ KvOk K G vs xs := by
  rcases L with rfl | ⟨k, rfl, e⟩
  · obtain ⟨p, vs, e, q, hr⟩ := (show Rp.rep K G v (Dct.mk xs) from h)
    exact ⟨p, vs, e, A.sub.rd q, hr⟩
  · obtain ⟨a, ha, rfl⟩ := h
    obtain ⟨vs, e1, hr⟩ := at_dct A ha e
    exact ⟨a, vs, rfl, .of e1, hr⟩
theorem er_dget {κ α : Type} [DecidableEq κ] [KeyT κ] [Rp κ] [KeyR κ] [Rp α] {xs : List (κ × α)} {y : κ} {x : α} (h1 : ER K c ta s o s1 o1 r1) (h2 : ER K c tb s1 o1 s2 o2 (.d y)) (L : DView o2 r1 xs) (hx : dget xs y = some x) : ER K c (uIx K ta tb) s o s2 o2 (.d x) := fun as G σ H A Q q => .inr (
  h1 as G σ H A _ fun v as1 G1 H1 p1 l1 A1 hv => h2 as1 G1 σ H1 A1 _ fun w as2 G2 H2 p2 l2 A2 hw => by
    obtain ⟨p, vs, rfl, hd, hr⟩ := L.at_ A2 (hv.mono p2 l2)
    obtain ⟨z, e1, e2⟩ := kv_some hr hx
    exact ⟨p, z, rfl, .inl ⟨vs, KeyT.key y, hd, KeyR.to K G2 w y hw, e1.symm⟩, q z as2 G2 H2 (p1.trans p2) (l1.trans l2) A2 e2⟩)
theorem er_din {κ α : Type} [DecidableEq κ] [KeyT κ] [Rp κ] [KeyR κ] [Rp α] {xs : List (κ × α)} {y : κ} (h1 : ER K c ta s o s1 o1 (.d y)) (h2 : ER K c tb s1 o1 s2 o2 r2) (L : DView o2 r2 xs) : ER K c (uIn K ta tb) s o s2 o2 (.d (dget xs y).isSome) := fun as G σ H A Q q => .inr (
  h1 as G σ H A _ fun v as1 G1 H1 p1 l1 A1 hv => h2 as1 G1 σ H1 A1 _ fun w as2 G2 H2 p2 l2 A2 hw => by
    obtain ⟨p, vs, rfl, hd, hr⟩ := L.at_ A2 hw
    exact ⟨p, _, rfl, .inl ⟨vs, KeyT.key y, hd, KeyR.to K G1 v y hv, rfl⟩, q _ as2 G2 H2 (p1.trans p2) (l1.trans l2) A2 (by show V.bl _ = V.bl _; rw [kv_is hr])⟩)
theorem er_dnotin {κ α : Type} [DecidableEq κ] [KeyT κ] [Rp κ] [KeyR κ] [Rp α] {xs : List (κ × α)} {y : κ} (h1 : ER K c ta s o s1 o1 (.d y)) (h2 : ER K c tb s1 o1 s2 o2 r2) (L : DView o2 r2 xs) : ER K c (uNotIn K ta tb) s o s2 o2 (.d (!(dget xs y).isSome)) := fun as G σ H A Q q => .inr (
  h1 as G σ H A _ fun v as1 G1 H1 p1 l1 A1 hv => h2 as1 G1 σ H1 A1 _ fun w as2 G2 H2 p2 l2 A2 hw => by
    obtain ⟨p, vs, rfl, hd, hr⟩ := L.at_ A2 hw
    exact ⟨p, _, rfl, .inl ⟨vs, KeyT.key y, hd, KeyR.to K G1 v y hv, rfl⟩, q _ as2 G2 H2 (p1.trans p2) (l1.trans l2) A2 (by show V.bl _ = V.bl _; rw [kv_is hr])⟩)
/-- d[k] = v, d in slot i -/
theorem s_dput {κ α : Type} [DecidableEq κ] [KeyT κ] [Rp κ] [KeyR κ] [Rp α] {xs : List (κ × α)} {y : κ} {x : α} (hv : ER K c te s o s1 o1 (.d x)) (hs : sget s1 i = .p k) (hy : ER K c tb s1 o1 s2 o2 (.d y)) (hk : cget o2 k = .dct xs) (hz : xs.length < sizeLine)
    (q : Go K c D.nx s2 (o2.set k (.dct (dput xs y x)))) : Run K c (sDPut (tVar i) tb te) D s o := fun as G σ H A =>
  hv as G σ H A _ fun v as1 G1 H1 p1 l1 A1 hv => er_p hs as1 G1 σ H1 A1 _ fun w as2 G2 H2 p2 l2 A2 hw => hy as2 G2 σ H2 A2 _ fun z as3 G3 H3 p3 l3 A3 hz2 => by
    obtain ⟨a, ha, rfl⟩ := hw
    have ha3 := p3.get ha
    obtain ⟨vs, e, hr⟩ := at_dct A3 ha3 hk
    refine ⟨a, _, rfl, .inl ⟨vs, KeyT.key y, e, KeyR.to K G3 z y hz2, by rw [pr_len hr]; exact hz, rfl⟩, ?_⟩
    exact q as3 G3 σ _ (A3.put ha3 (by rw [hk]; trivial) ⟨_, rfl, kv_put hr (Rp.mono (l2.trans l3) (show Rp.rep K G1 v x from hv))⟩)
/-- del d[k] -/
theorem s_ddel {κ α : Type} [DecidableEq κ] [KeyT κ] [Rp κ] [KeyR κ] [Rp α] {xs : List (κ × α)} {y : κ} (hs : sget s i = .p k) (hy : ER K c tb s o s1 o1 (.d y)) (hk : cget o1 k = .dct xs) (hx : (dget xs y).isSome = true) (q : Go K c D.nx s1 (o1.set k (.dct (ddrop xs y)))) : Run K c (sDDel (tVar i) tb) D s o := fun as G σ H A =>
  er_p hs as G σ H A _ fun w as2 G2 H2 p2 l2 A2 hw => hy as2 G2 σ H2 A2 _ fun z as3 G3 H3 p3 l3 A3 hz2 => by
    obtain ⟨a, ha, rfl⟩ := hw
    have ha3 := p3.get ha
    obtain ⟨vs, e, hr⟩ := at_dct A3 ha3 hk
    refine ⟨a, vs, KeyT.key y, rfl, e, KeyR.to K G3 z y hz2, by rw [kv_is hr]; exact hx, ?_⟩
    exact q as3 G3 σ _ (A3.put ha3 (by rw [hk]; trivial) ⟨_, rfl, kv_drop hr y⟩)
/-- {} -/
theorem er_dnew {κ α : Type} [KeyT κ] [Rp α] : ER K c tDNewK s o s (o ++ [.dct ([] : List (κ × α))]) (.p o.length) := fun as G σ H A Q q p hp =>
  q _ _ _ _ ⟨[p], rfl⟩ (Le.refl _) (A.newP (o := .dK []) (ct := .dct ([] : List (κ × α))) hp ⟨[], rfl, .nil⟩) ⟨p, by rw [← A.asz, List.getElem?_concat_length], rfl⟩

/-! ### in a list or a tuple of flat things -/
class Flat (α : Type) extends Scal α where
  fl : ∀ x : α, flatV (Scal.to x) = true
  eqv : ∀ x y : α, eqV (Scal.to x) (Scal.to y) = true ↔ x = y
instance : Flat Int where
  fl := fun _ => rfl
  eqv := fun x y => by show (x == y) = true ↔ _; simp
instance : Flat Str where
  fl := fun _ => rfl
  eqv := fun x y => by show (x == y) = true ↔ _; simp
theorem flat_all {α : Type} [Flat α] {vs : List V} {xs : List α} (h : Reps K G vs xs) : vs.all flatV = true := by
  induction h with
  | nil => rfl
  | cons r t ih => rw [List.all_cons, ih, Scal.ok K G _ _ r, Flat.fl]; rfl
theorem flat_in {α : Type} [Flat α] [DecidableEq α] {vs : List V} {xs : List α} (h : Reps K G vs xs) (x : α) : inV (Scal.to x) vs = decide (x ∈ xs) := by
  unfold inV
  induction h with
  | nil => rfl
  | @cons a b l m r t ih =>
    rw [List.any_cons, ih, Scal.ok K G _ _ r]
    by_cases e : x = b
    · subst e
      rw [(Flat.eqv x x).mpr rfl]; simp
    · have e1 : eqV (Scal.to b) (Scal.to x) = false := by
        cases q : eqV (Scal.to b) (Scal.to x) with
        | false => rfl
        | true => exact absurd ((Flat.eqv b x).mp q).symm e
      rw [e1]; simp [e]
theorem er_inL {α : Type} [Flat α] [DecidableEq α] {xs : List α} {x : α} (h1 : ER K c ta s o s1 o1 (.d x)) (h2 : ER K c tb s1 o1 s2 o2 r2) (L : LView o2 r2 xs) : ER K c (uIn K ta tb) s o s2 o2 (.d (decide (x ∈ xs))) := fun as G σ H A Q q => .inl (
  h1 as G σ H A _ fun v as1 G1 H1 p1 l1 A1 hv => h2 as1 G1 σ H1 A1 _ fun w as2 G2 H2 p2 l2 A2 hw => by
    obtain ⟨p, vs, rfl, hd, hr⟩ := L.at_ A2 hw
    have ev := Scal.ok K G1 v x hv
    subst ev
    exact ⟨p, vs, rfl, .inl hd, Flat.fl x, flat_all hr, q _ as2 G2 H2 (p1.trans p2) (l1.trans l2) A2 (by show V.bl _ = V.bl _; rw [flat_in hr]; rfl)⟩)
theorem er_notinL {α : Type} [Flat α] [DecidableEq α] {xs : List α} {x : α} (h1 : ER K c ta s o s1 o1 (.d x)) (h2 : ER K c tb s1 o1 s2 o2 r2) (L : LView o2 r2 xs) : ER K c (uNotIn K ta tb) s o s2 o2 (.d (!decide (x ∈ xs))) := fun as G σ H A Q q => .inl (
  h1 as G σ H A _ fun v as1 G1 H1 p1 l1 A1 hv => h2 as1 G1 σ H1 A1 _ fun w as2 G2 H2 p2 l2 A2 hw => by
    obtain ⟨p, vs, rfl, hd, hr⟩ := L.at_ A2 hw
    have ev := Scal.ok K G1 v x hv
    subst ev
    exact ⟨p, vs, rfl, .inl hd, Flat.fl x, flat_all hr, q _ as2 G2 H2 (p1.trans p2) (l1.trans l2) A2 (by show V.bl _ = V.bl _; rw [flat_in hr]; rfl)⟩)
theorem er_inT {α : Type} [Flat α] [DecidableEq α] {xs : List α} {x : α} (h1 : ER K c ta s o s1 o1 (.d x)) (h2 : ER K c tb s1 o1 s2 o2 (.d (Tup.mk xs))) : ER K c (uIn K ta tb) s o s2 o2 (.d (decide (x ∈ xs))) := fun as G σ H A Q q => .inl (
  h1 as G σ H A _ fun v as1 G1 H1 p1 l1 A1 hv => h2 as1 G1 σ H1 A1 _ fun w as2 G2 H2 p2 l2 A2 hw => by
    obtain ⟨p, vs, rfl, hd, hr⟩ := (show Rp.rep K G2 w (Tup.mk xs) from hw)
    have ev := Scal.ok K G1 v x hv
    subst ev
    exact ⟨p, vs, rfl, .inr (A2.sub.sqT hd), Flat.fl x, flat_all hr, q _ as2 G2 H2 (p1.trans p2) (l1.trans l2) A2 (by show V.bl _ = V.bl _; rw [flat_in hr]; rfl)⟩)
theorem er_notinT {α : Type} [Flat α] [DecidableEq α] {xs : List α} {x : α} (h1 : ER K c ta s o s1 o1 (.d x)) (h2 : ER K c tb s1 o1 s2 o2 (.d (Tup.mk xs))) : ER K c (uNotIn K ta tb) s o s2 o2 (.d (!decide (x ∈ xs))) := fun as G σ H A Q q => .inl (
  h1 as G σ H A _ fun v as1 G1 H1 p1 l1 A1 hv => h2 as1 G1 σ H1 A1 _ fun w as2 G2 H2 p2 l2 A2 hw => by
    obtain ⟨p, vs, rfl, hd, hr⟩ := (show Rp.rep K G2 w (Tup.mk xs) from hw)
    have ev := Scal.ok K G1 v x hv
    subst ev
    exact ⟨p, vs, rfl, .inr (A2.sub.sqT hd), Flat.fl x, flat_all hr, q _ as2 G2 H2 (p1.trans p2) (l1.trans l2) A2 (by show V.bl _ = V.bl _; rw [flat_in hr]; rfl)⟩)

/-! ### built-ins -/
abbrev uLen (K : Fg) : List V → Hp → VK → Prop := fun xs H Q => ∃ p ys, xs = [.ref p] ∧ (SqL K H p ys ∨ SqT K H p ys) ∧ Q (.int ys.length) H
theorem cv_lenL {α : Type} [Rp α] {xs : List α} (L : LView o r xs) : CV K c (uLen K) s o [r] s o (.d (xs.length : Int)) := cv_of fun as G σ H vs A h Q q => by
  obtain ⟨v, rfl, hv⟩ := h.one
  obtain ⟨p, ws, rfl, hs, hr⟩ := L.at_ A hv
  exact ⟨p, ws, rfl, .inl hs, q _ (by show V.int _ = V.int _; rw [pr_len hr])⟩
theorem cv_lenT {α : Type} [Rp α] {xs : Tup α} : CV K c (uLen K) s o [.d xs] s o (.d (xs.l.length : Int)) := cv_of fun as G σ H vs A h Q q => by
  obtain ⟨v, rfl, hv⟩ := h.one
  obtain ⟨p, ws, rfl, hs, hr⟩ := (show Rp.rep K G v xs from hv)
  exact ⟨p, ws, rfl, .inr (A.sub.sqT hs), q _ (by show V.int _ = V.int _; rw [pr_len hr])⟩
abbrev uAbs : List V → Hp → VK → Prop := fun xs H Q => ∃ i, xs = [.int i] ∧ Q (.int (if i < 0 then -i else i)) H
theorem cv_abs {j : Int} : CV K c uAbs s o [.d j] s o (.d (if j < 0 then -j else j)) := cv_of fun as G σ H vs A h Q q => by
  obtain ⟨v, rfl, hv⟩ := h.one
  exact ⟨j, by rw [show v = .int j from hv], q _ rfl⟩
abbrev uMin2 : List V → Hp → VK → Prop := fun xs H Q => ∃ i j, xs = [.int i, .int j] ∧ Q (.int (if j < i then j else i)) H
abbrev uMax2 : List V → Hp → VK → Prop := fun xs H Q => ∃ i j, xs = [.int i, .int j] ∧ Q (.int (if j > i then j else i)) H
theorem cv_min2 {x y : Int} : CV K c uMin2 s o [.d x, .d y] s o (.d (min x y)) := cv_of fun as G σ H vs A h Q q => by
  obtain ⟨v, w, rfl, hv, hw⟩ := h.two
  refine ⟨x, y, by rw [show v = .int x from hv, show w = .int y from hw], q _ ?_⟩
  show V.int _ = V.int _
  rw [Int.min_def]; congr 1; split <;> split <;> omega
theorem cv_max2 {x y : Int} : CV K c uMax2 s o [.d x, .d y] s o (.d (max x y)) := cv_of fun as G σ H vs A h Q q => by
  obtain ⟨v, w, rfl, hv, hw⟩ := h.two
  refine ⟨x, y, by rw [show v = .int x from hv, show w = .int y from hw], q _ ?_⟩
  show V.int _ = V.int _
  rw [Int.max_def]; congr 1; split <;> split <;> omega
abbrev uInt : List V → Hp → VK → Prop := fun xs H Q => (∃ i, xs = [.int i] ∧ Q (.int i) H) ∨ ∃ k, xs = [.bl k] ∧ Q (.int (if k then 1 else 0)) H
theorem cv_int {x : Int} : CV K c uInt s o [.d x] s o (.d x) := cv_of fun as G σ H vs A h Q q => by
  obtain ⟨v, rfl, hv⟩ := h.one
  exact .inl ⟨x, by rw [show v = .int x from hv], q _ rfl⟩
theorem cv_intB {b : Bool} : CV K c uInt s o [.d b] s o (.d (if b then (1 : Int) else 0)) := cv_of fun as G σ H vs A h Q q => by
  obtain ⟨v, rfl, hv⟩ := h.one
  exact .inr ⟨b, by rw [show v = .bl b from hv], q _ rfl⟩
/-- list(x) of a list or a tuple: a new one -/
abbrev uList (K : Fg) : List V → Hp → VK → Prop := fun xs H Q => ∃ p ys, xs = [.ref p] ∧ (SqL K H p ys ∨ SqT K H p ys) ∧ ∀ l, H l = none → Q (.ref l) (upd H l (.lst ys))
theorem cv_listL {α : Type} [Rp α] {xs : List α} (L : LView o r xs) : CV K c (uList K) s o [r] s (o ++ [.lst xs]) (.p o.length) := fun as G σ H vs A h Q q => by
  obtain ⟨v, rfl, hv⟩ := h.one
  obtain ⟨p, ws, rfl, hs, hr⟩ := L.at_ A hv
  exact ⟨p, ws, rfl, .inl hs, fun l hl => q _ _ _ _ ⟨[l], rfl⟩ (Le.refl _) (A.newP (o := .lst ws) (ct := .lst xs) hl ⟨ws, rfl, hr⟩) ⟨l, by rw [← A.asz, List.getElem?_concat_length], rfl⟩⟩
theorem cv_listT {α : Type} [Rp α] {xs : Tup α} : CV K c (uList K) s o [.d xs] s (o ++ [.lst xs.l]) (.p o.length) := fun as G σ H vs A h Q q => by
  obtain ⟨v, rfl, hv⟩ := h.one
  obtain ⟨p, ws, rfl, hs, hr⟩ := (show Rp.rep K G v xs from hv)
  exact ⟨p, ws, rfl, .inr (A.sub.sqT hs), fun l hl => q _ _ _ _ ⟨[l], rfl⟩ (Le.refl _) (A.newP (o := .lst ws) (ct := .lst xs.l) hl ⟨ws, rfl, hr⟩) ⟨l, by rw [← A.asz, List.getElem?_concat_length], rfl⟩⟩
abbrev uTuple (K : Fg) : List V → Hp → VK → Prop := fun xs H Q => ∃ p ys, xs = [.ref p] ∧ ((SqL K H p ys ∧ ∀ l, H l = none → Q (.ref l) (upd H l (.tup ys))) ∨ (SqT K H p ys ∧ Q (.ref p) H))
theorem cv_tupleL {α : Type} [Rp α] {xs : List α} (L : LView o r xs) : CV K c (uTuple K) s o [r] s o (.d (Tup.mk xs)) := fun as G σ H vs A h Q q => by
  obtain ⟨v, rfl, hv⟩ := h.one
  obtain ⟨p, ws, rfl, hs, hr⟩ := L.at_ A hv
  refine ⟨p, ws, rfl, .inl ⟨hs, fun l hl => ?_⟩⟩
  have l2 : Le G (upd G l (.tup ws)) := Le.upd (A.sub.free hl)
  exact q _ as _ _ (Pre.refl _) l2 (A.newD (o := .tup ws) hl) ⟨l, ws, rfl, SqT.of upd_same, Reps.mono l2 hr⟩
theorem cv_tupleT {α : Type} [Rp α] {xs : Tup α} : CV K c (uTuple K) s o [.d xs] s o (.d xs) := cv_of fun as G σ H vs A h Q q => by
  obtain ⟨v, rfl, hv⟩ := h.one
  obtain ⟨p, ws, rfl, hs, hr⟩ := (show Rp.rep K G v xs from hv)
  exact ⟨p, ws, rfl, .inr ⟨A.sub.sqT hs, q _ ⟨p, ws, rfl, hs, hr⟩⟩⟩
/-- xs[::-1] -/
theorem er_revL {α : Type} [Rp α] {xs : List α} (h : ER K c te s o s1 o1 r) (L : LView o1 r xs) : ER K c (tRevL K te) s o s1 (o1 ++ [.lst xs.reverse]) (.p o1.length) := fun as G σ H A Q q =>
  h as G σ H A _ fun v as1 G1 H1 p1 l1 A1 hv => by
    obtain ⟨p, ws, rfl, hs, hr⟩ := L.at_ A1 hv
    exact ⟨p, ws, rfl, hs, fun l hl => q _ _ _ _ (p1.trans ⟨[l], rfl⟩) l1 (A1.newP (o := .lst ws.reverse) (ct := .lst xs.reverse) hl ⟨_, rfl, pr_rev hr⟩) ⟨l, by rw [← A1.asz, List.getElem?_concat_length], rfl⟩⟩
/-- slices of a list: a new one -/
theorem eo_none : EO K c tNoPart s o s o none := fun as G σ H A Q q => q as G H (Pre.refl _) (Le.refl _) A
theorem eo_some {j : Int} (h : ER K c te s o s1 o1 (.d j)) : EO K c (tPart te) s o s1 o1 (some j) := fun as G σ H A Q q => h as G σ H A _ fun v as1 G1 H1 p1 l1 A1 hv => ⟨j, hv, q as1 G1 H1 p1 l1 A1⟩
def cutA {α : Type} (xs : List α) (lo hi : Option Int) : List α := (xs.drop (HT.sIx xs.length 0 lo)).take (HT.sIx xs.length xs.length hi - HT.sIx xs.length 0 lo)
theorem cut_reps {α : Type} [Rp α] {vs : List V} {xs : List α} (hr : Reps K G vs xs) (lo hi : Option Int) : Reps K G (cutV vs lo hi) (cutA xs lo hi) := by
  unfold cutV cutA; rw [pr_len hr]; exact pr_take _ (pr_drop _ hr)
theorem er_sl {α : Type} [Rp α] {xs : List α} {tl th : TO} {lo hi : Option Int} {s3 : List Slot} {o3 : List Cont} (h : ER K c te s o s1 o1 r) (h1 : EO K c tl s1 o1 s2 o2 lo) (h2 : EO K c th s2 o2 s3 o3 hi) (L : LView o3 r xs) :
    ER K c (tSl (uSl K) te tl th) s o s3 (o3 ++ [.lst (cutA xs lo hi)]) (.p o3.length) := fun as G σ H A Q q =>
  h as G σ H A _ fun v as1 G1 H1 p1 l1 A1 hv => h1 as1 G1 σ H1 A1 _ fun as2 G2 H2 p2 l2 A2 => h2 as2 G2 σ H2 A2 _ fun as3 G3 H3 p3 l3 A3 => by
    obtain ⟨p, ws, rfl, hs, hr⟩ := L.at_ A3 (hv.mono (p2.trans p3) (l2.trans l3))
    exact .inl ⟨p, ws, rfl, hs, fun l hl => q _ _ _ _ (((p1.trans p2).trans p3).trans ⟨[l], rfl⟩) ((l1.trans l2).trans l3) (A3.newP (o := .lst _) (ct := .lst (cutA xs lo hi)) hl ⟨_, rfl, cut_reps hr lo hi⟩) ⟨l, by rw [← A3.asz, List.getElem?_concat_length], rfl⟩⟩
end
end VL

set_option maxHeartbeats 4000000
/-! THE VALUE LAYER 5: defs that keep their promise over values. -/
namespace VL
open PySem PySem.Spec PyProof.Rows L2

/-- the module's name x stands for a def that keeps the promise F, at most k calls deep -/
structure Good (P : Program) (w : World) (K : Fg) (mg : Str → Option Value) (base : Heap) (x : Str) (k : Nat) (ps : List Str) (F : FS) : Prop where
  ex : ∃ f fd, FnOk P w K mg base (L2.CX P w) k f fd ps (spOf K F) ∧ mg x = some (.ref f) ∧ PySem.W.keepIn K (.ref f) = true ∧ Binds K fd ps []
section
variable {X : Cx} {x : Str} {k k' : Nat} {ps : List Str} {F : FS} {E : XK} {p pos : Pos} {e : Expr} {es : List Expr} {t : TA}
theorem pe_good (g : Good X.prog X.w X.K X.mg X.base x k ps F) (hr : Room k' X.A) (hk : k ≤ k') (hg : Gl X x) (hx : Passes (L2.CX X.prog X.w) X E) (ha : PA X (e :: es) t) (hdb : (x == ("__debug__" : Str)) = false := by decide)
    (he : starEach (e :: es) X.env = (false, eval e X.env) :: starEach es X.env := by rfl) (hpl : (backTo pos (starEach es X.env)).any (·.1) = false := by rfl) : PE X (.Call (.Name x p) (e :: es) [] pos) (tCall (spOf X.K F) [] E t) := by
  obtain ⟨f, fd, h1, h2, h3, h4⟩ := g.ex
  exact pe_call h1 (hr.mono hk) hg h2 h3 h4 .nil hx ha hdb he hpl
theorem pe_good0 (g : Good X.prog X.w X.K X.mg X.base x k ps F) (hr : Room k' X.A) (hk : k ≤ k') (hg : Gl X x) (hx : Passes (L2.CX X.prog X.w) X E) (hdb : (x == ("__debug__" : Str)) = false := by decide) : PE X (.Call (.Name x p) [] [] pos) (tCall (spOf X.K F) [] E tNil) := by
  obtain ⟨f, fd, h1, h2, h3, h4⟩ := g.ex
  exact pe_call0 h1 (hr.mono hk) hg h2 h3 h4 .nil hx hdb
/-- a walk over a list or a tuple -/
def iSeq (K : Fg) (te : TE) : TI := fun σ H R => iList K te σ H R ∨ iTup K te σ H R
theorem pi_seq {tg l : Expr} {te : TE} (h : PE X l te) : PI X tg l (iSeq X.K te) :=
  ⟨fun pins s σ H R I q => q.elim ((pi_list h).run pins s σ H R I) ((pi_tup h).run pins s σ H R I)⟩
/-- d[k] = v of a dict, xs[i] = v of a list -/
def sPut (td ty tv : TE) : TS := fun D σ H => sDPut td ty tv D σ H ∨ tAsg tv (gSub td ty rSetL) D σ H
theorem ps_or {st : Stmt} {t t' : TS} (h : PS X st t) (h' : PS X st t') : PS X st (fun D σ H => t D σ H ∨ t' D σ H) :=
  ⟨fun pins s σ H D I q => q.elim (h.run pins s σ H D I) (h'.run pins s σ H D I)⟩
theorem passE {P : Program} {w : World} {K : Fg} {mg : Str → Option Value} {base : Heap} {N : List Str} {qual : Str} {scope : Scope} {f : Addr} {cd : Value} {A : Around} {outer : List Env} {s : Shared} {H : Hp} {E : XK}
    (hf : (envOfC qual scope s.heap.objs.size f cd).frame = some s.heap.objs.size := by rfl) : Passes (L2.CX P w) (cxOf (L2.CX P w) P w K mg base N qual scope f cd A outer s H E) E :=
  passes_call (W := fun cls d _ H => E cls d H) (takes_of rfl hf rfl rfl) fun _ _ _ _ h => h
end
section
variable {P : Program} {w : World} {K : Fg} {mg : Str → Option Value} {base : Heap}
theorem good_mk {x : Str} {st : Stmt} {N ps : List Str} {k : Nat} {F : FS} {f : Addr} (t : XK → TS) (FD : ∃ fd, FunD K x x (defArgs st) (defBody st) (defScope st) [] [] f fd) (hm : mg x = some (.ref f)) (S : FnScope N ps (defScope st))
    (len : ∀ ss os R X, F ss os R X → ss.length = ps.length)
    (hb : ∀ (kV doc pm : Value) (an : Option Addr) (cdv ct : Value) (us : List Value), us.length = ps.length → bindArgs (PySem.W.fnOf x x (defArgs st) (defBody st) (defScope st) .none kV doc pm an cdv ct) ⟨us, []⟩ = pure (ps.zip us))
    (body : ∀ (cdv : Value) (A : Around) (outer : List Env) (s : Shared) (H : Hp) (E : XK), Room k (A.deeper (envOfC x (defScope st) s.heap.objs.size f cdv)) → PSs (cxOf (L2.CX P w) P w K mg base N x (defScope st) f cdv A outer s H E) (defBody st) (t E))
    (run : ∀ (c : Cx0) (ss : List Slot) (os : List Cont) (Q : VK) (E : XK), c.M.length = os.length → F ss os (Rc K c Q) (Xc K c E) → Run K c (t E) { nx := fun _ H' => Q .non H', rt := Q } (ss ++ List.replicate (N.length - ss.length) .u) os) :
    Good P w K mg base x (k + 1) ps F := by
  obtain ⟨fd, FD⟩ := FD
  refine ⟨f, fd, ?_, hm, FD.kp, FD.bindsN hb⟩
  refine FD.ok S (fun vs H Q E h => spOf.len len vs H Q E h) (fun cdv A outer s H vs Q E hr h => ⟨t E, body cdv A outer s H E hr, ?_⟩)
  exact enter h fun c ss os hM hF => run c ss os Q E hM hF
end
end VL

set_option maxHeartbeats 4000000
/-! THE VALUE LAYER 6: guards, by the head of a reading. -/
namespace VL
open PySem PySem.Spec PyProof.Rows L2
section
variable {K : Fg} {c : Cx0} {s s' : List Slot} {o o' : List Cont} {r r1 r2 : Slot} {rs : List Slot} {ta tb te : TE} {rr : R2} {tt tu : TT} {t u w : TS} {D : Ends} {i : Nat} {b : Bool}
theorem gVar (h : ER K c (tVar i) s o s' o' r) : ER K c (tVar i) s o s' o' r := h
theorem gC {v : V} (h : ER K c (tC v) s o s' o' r) : ER K c (tC v) s o s' o' r := h
theorem gAdd (h : OV K c (uAdd K) s o r1 r2 s' o' r) : OV K c (uAdd K) s o r1 r2 s' o' r := h
theorem gSub (h : OV K c uSub s o r1 r2 s' o' r) : OV K c uSub s o r1 r2 s' o' r := h
theorem gMul (h : OV K c uMul s o r1 r2 s' o' r) : OV K c uMul s o r1 r2 s' o' r := h
theorem gDiv (h : OV K c uDiv s o r1 r2 s' o' r) : OV K c uDiv s o r1 r2 s' o' r := h
theorem gMod (h : OV K c uMod s o r1 r2 s' o' r) : OV K c uMod s o r1 r2 s' o' r := h
theorem gPow (h : OV K c uPow s o r1 r2 s' o' r) : OV K c uPow s o r1 r2 s' o' r := h
theorem gEq (h : OV K c (uEq K) s o r1 r2 s' o' r) : OV K c (uEq K) s o r1 r2 s' o' r := h
theorem gNe (h : OV K c (uNe K) s o r1 r2 s' o' r) : OV K c (uNe K) s o r1 r2 s' o' r := h
theorem gLt (h : OV K c uLt s o r1 r2 s' o' r) : OV K c uLt s o r1 r2 s' o' r := h
theorem gLe (h : OV K c uLe s o r1 r2 s' o' r) : OV K c uLe s o r1 r2 s' o' r := h
theorem gGt (h : OV K c uGt s o r1 r2 s' o' r) : OV K c uGt s o r1 r2 s' o' r := h
theorem gGe (h : OV K c uGe s o r1 r2 s' o' r) : OV K c uGe s o r1 r2 s' o' r := h
theorem gIs (h : OV K c uIs s o r1 r2 s' o' r) : OV K c uIs s o r1 r2 s' o' r := h
theorem gIsN (h : OV K c uIsN s o r1 r2 s' o' r) : OV K c uIsN s o r1 r2 s' o' r := h
theorem gIx (h : OV K c (rIx K) s o r1 r2 s' o' r) : OV K c (rIx K) s o r1 r2 s' o' r := h
theorem gLen (h : CV K c (uLen K) s o rs s' o' r) : CV K c (uLen K) s o rs s' o' r := h
theorem gInt (h : CV K c uInt s o rs s' o' r) : CV K c uInt s o rs s' o' r := h
theorem gAbs (h : CV K c uAbs s o rs s' o' r) : CV K c uAbs s o rs s' o' r := h
theorem gMin (h : CV K c uMin2 s o rs s' o' r) : CV K c uMin2 s o rs s' o' r := h
theorem gMax (h : CV K c uMax2 s o rs s' o' r) : CV K c uMax2 s o rs s' o' r := h
theorem gList (h : CV K c (uList K) s o rs s' o' r) : CV K c (uList K) s o rs s' o' r := h
theorem gTuple (h : CV K c (uTuple K) s o rs s' o' r) : CV K c (uTuple K) s o rs s' o' r := h
theorem gIsi (h : CV K c (rIsi K) s o rs s' o' r) : CV K c (rIsi K) s o rs s' o' r := h
theorem gPop (h : ER K c (tBM0 K "list" rPop (tVar i)) s o s' o' r) : ER K c (tBM0 K "list" rPop (tVar i)) s o s' o' r := h
theorem gIn (h : ER K c (uIn K ta tb) s o s' o' r) : ER K c (uIn K ta tb) s o s' o' r := h
theorem gNotIn (h : ER K c (uNotIn K ta tb) s o s' o' r) : ER K c (uNotIn K ta tb) s o s' o' r := h
theorem gUIx (h : ER K c (uIx K ta tb) s o s' o' r) : ER K c (uIx K ta tb) s o s' o' r := h
theorem gTB (h : ET K c (tB te) s o s' o' b) : ET K c (tB te) s o s' o' b := h
theorem gTru (h : ET K c (uTru K te) s o s' o' b) : ET K c (uTru K te) s o s' o' b := h
theorem last_get {α : Type} [Inhabited α] {xs : List α} (h : xs ≠ []) : xs[xs.length - 1]? = some (xs.getLastD default) := by
  rw [← List.getLast?_eq_getElem?, List.getLast?_eq_some_getLast h, List.getLastD_eq_getLast?, List.getLast?_eq_some_getLast h]; rfl
theorem er_popG {α : Type} [Rp α] [Inhabited α] {xs : List α} {k : Nat} (hs : sget s i = .p k) (hk : cget o k = .lst xs) (hx : xs ≠ []) : ER K c (tBM0 K "list" rPop (tVar i)) s o s (o.set k (.lst xs.dropLast)) (.d (xs.getLastD default)) := er_pop hs hk (last_get hx)
theorem some_getD {α : Type} [Inhabited α] {x : Option α} (h : x.isSome = true) : x = some (x.getD default) := by cases x with | none => cases h | some x => rfl
theorem ov_ixLG {α : Type} [Rp α] [Inhabited α] {xs : List α} {j : Int} (L : LView o r xs) (h : (atI xs j).isSome = true) : OV K c (rIx K) s o r (.d j) s o (.d ((atI xs j).getD default)) := ov_ixL L (some_getD h)
theorem ov_ixTG {α : Type} [Rp α] [Inhabited α] {xs : List α} {j : Int} (h : (atI xs j).isSome = true) : OV K c (rIx K) s o (.d (Tup.mk xs)) (.d j) s o (.d ((atI xs j).getD default)) := ov_ixT (some_getD h)
theorem er_dgetG {κ α : Type} [DecidableEq κ] [KeyT κ] [Rp κ] [KeyR κ] [Rp α] [Inhabited α] {s1 s2 : List Slot} {o1 o2 : List Cont} {xs : List (κ × α)} {y : κ} (h1 : ER K c ta s o s1 o1 r1) (h2 : ER K c tb s1 o1 s2 o2 (.d y)) (L : DView o2 r1 xs) (hx : (dget xs y).isSome = true) : ER K c (uIx K ta tb) s o s2 o2 (.d ((dget xs y).getD default)) := er_dget h1 h2 L (some_getD hx)
instance {α : Type} : Inhabited (Tup α) := ⟨⟨[]⟩⟩
instance {α β : Type} [Inhabited α] [Inhabited β] : Inhabited (T2 α β) := ⟨⟨default, default⟩⟩
instance {α β γ : Type} [Inhabited α] [Inhabited β] [Inhabited γ] : Inhabited (T3 α β γ) := ⟨⟨default, default, default⟩⟩
theorem lv_d {α : Type} [Rp α] {xs : List α} {o : List Cont} : LView o (.d xs) xs := .inl rfl
theorem lv_p {α : Type} [Rp α] {xs : List α} {o : List Cont} {k : Nat} (h : cget o k = .lst xs) : LView o (.p k) xs := .inr ⟨k, rfl, h⟩
theorem dv_d {κ α : Type} [KeyT κ] [Rp α] {xs : List (κ × α)} {o : List Cont} : DView o (.d (Dct.mk xs)) xs := .inl rfl
theorem dv_p {κ α : Type} [KeyT κ] [Rp α] {xs : List (κ × α)} {o : List Cont} {k : Nat} (h : cget o k = .dct xs) : DView o (.p k) xs := .inr ⟨k, rfl, h⟩
end
end VL

set_option maxHeartbeats 4000000
/-! OWN EXCEPTIONS over a chain of own classes that ends at ValueError; their __init__: super().__init__('text'); self.f = a. -/
namespace SX
open PySem PySem.W PySem.Calls PyProof.Rows PySem.HandSPX
/-- the text of such an __init__ -/
structure Shape where
  cls : Str
  m : Str
  f : Str
  a : Str
  qual : Str
  j : Nat
  p0 : Pos
  p1 : Pos
  p2 : Pos
  p3 : Pos
  p4 : Pos
  p5 : Pos
  q1 : Pos
  q2 : Pos
  q3 : Pos
  q4 : Pos
  params : Arguments
  scope : Scope
def Shape.sup (S : Shape) : Expr := .Call (.Attribute (.Call (.Name "super" S.p0) [] [] S.p1) "__init__" S.p2) [.Constant (.str S.m) S.j S.p3] [] S.p4
def Shape.body (S : Shape) : List Stmt := [.Expr S.sup S.p5, .Assign [.Attribute (.Name "self" S.q1) S.f S.q2] (.Name S.a S.q3) S.q4]
abbrev Shape.fd (S : Shape) (kV doc pm cdv ct : Value) (an : Option Addr) (cc : Addr) : FuncData := ksFn "__init__" S.qual S.params S.body S.scope .none kV doc pm an cdv ct cc
abbrev Shape.env (S : Shape) (kV doc pm cdv ct : Value) (an : Option Addr) (cc L fa : Addr) : Env := callEnv (S.fd kV doc pm cdv ct an cc) L fa
structure Ini (S : Shape) : Prop where
  arg : ∃ p, (S.params.posonlyargs ++ S.params.args).head? = some { arg := "self", annotation := none, pos := p }
  bnd : ∀ (kV doc pm cdv ct : Value) (an : Option Addr) (cc : Addr) (u v : Value), bindArgs (S.fd kV doc pm cdv ct an cc) ⟨[u, v], []⟩ = pure [(("self" : Str), u), (S.a, v)]
  eInt : ∀ (kV doc pm cdv ct : Value) (an : Option Addr) (cc L fa : Addr), interactive (S.env kV doc pm cdv ct an cc L fa) = false
  eSw : ∀ (kV doc pm cdv ct : Value) (an : Option Addr) (cc L fa : Addr), swapsWith S.sup none S.p5.line (S.env kV doc pm cdv ct an cc L fa) = pure false
  eSw2 : ∀ (kV doc pm cdv ct : Value) (an : Option Addr) (cc L fa : Addr), swapsWith (.Name S.a S.q3) (some (.Attribute (.Name "self" S.q1) S.f S.q2)) S.q4.line (S.env kV doc pm cdv ct an cc L fa) = pure false
  eCall : ∀ (kV doc pm cdv ct : Value) (an : Option Addr) (cc L fa : Addr), ∃ pl : Sem Bool, eval S.sup (S.env kV doc pm cdv ct an cc L fa) = (do
      let ov ← attributeBase (.Call (.Name "super" S.p0) [] [] S.p1) "__init__" (S.env kV doc pm cdv ct an cc L fa) (eval (.Call (.Name "super" S.p0) [] [] S.p1) (S.env kV doc pm cdv ct an cc L fa))
      standAt S.p2.atName
      let (f, first) ← holding [ov] (getMethod ov "__init__" pl)
      callWith S.p4 f first (backTo S.p4 (starEach [.Constant (.str S.m) S.j S.p3] (S.env kV doc pm cdv ct an cc L fa))) [])
  sSup : S.scope.names.lookup ("super" : Str) = some .globalImplicit
  sCls : S.scope.names.lookup ("__class__" : Str) = some .free
  sSelf : S.scope.names.lookup ("self" : Str) = some .local
  sArg : S.scope.names.lookup S.a = some .local
  ne : S.a ≠ "self"
  dbg : (S.a == ("__debug__" : Str)) = false
  cell : ∀ x ∈ S.scope.names, x.2 ≠ .cell
  kind : S.scope.kind = .function
  co : S.scope.isCoroutine = false
  gen : S.scope.isGenerator = false
/-- what the written part says of the class at C -/
structure Txt (prog : Program) (K : Frag) (C : Addr) (S : Shape) : Prop where
  txt : Ini S
  ini : excInitIn K C He.veBase "ValueError.__new__" = true
  cls : ∃ cd, clsIn K C = some cd ∧ refsVE cd.mro = true ∧ cd.hasDict = true
  sa : findIn K (.ref C) "__setattr__" = some (some (.builtin "object.__setattr__"))
  ga : findIn K (.ref C) "__getattribute__" = some (some (.builtin "BaseException.__getattribute__"))
  gg : findIn K (.ref C) "__getattr__" = some none
  noN : findIn K (.ref C) S.f = some none
  iC : findIn K (.ref C) "__init__" = some (some (.ref (He.ma K C "__init__")))
  tC : typeIn K (.ref (He.ma K C "__init__")) = some (.type "function")
  kC : keepIn K (.ref C) = true
  exC : subIn K (.ref C) (.type "BaseException") = some true
  tyC : typeIn K (.ref C) = some (.type "type")
  hdC : hasDictIn K C = true
  sup : ks_superIn K C C "__init__" = some (some (.builtin "ValueError.__init__"))
  sVE : subIn K (.ref C) (.type "ValueError") = some true
  self : mroIn K C (.ref C) = some true
  opq : nsIn K cStatics "thirdparty.any" = some none
  sg : nsIn K mainGlobals "super" = some none
  main : (prog.main.scope.names.lookup ("super" : Str)).isSome = false
  fn : ∃ (oc kV doc pm ct : Value) (od an : Option Addr) (cda cc : Addr) (osl : Array (Option Value)),
    K.lookup (He.ma K C "__init__") = some ⟨oc, od, .func (S.fd kV doc pm (.ref cda) ct an cc), osl⟩ ∧ codeIn K (.ref cda) S.qual = true ∧
      (∃ ccl cdd vs ccs file tf, K.lookup cda = some ⟨ccl, cdd, .fields vs, ccs⟩ ∧ vs[2]? = some (.str file tf) ∧ ((prog.main.file : Str) == file) = true) ∧
      ∃ cl cld csl, K.lookup cc = some ⟨cl, cld, .cell (some (.ref C)), csl⟩

section
variable {prog : Program} {w : World} {A : Around} {E : Value → Shared → Prop} {R : Result → Shared → Prop} {s : Shared} {K : Frag} {mg mb : Str → Option Value} {C : Addr} {S : Shape}
theorem one_size (v : Value) : [v].length ≤ sizeLine := by
  rw [sizeLine_eq]
  exact (by decide : 1 ≤ 16777216)
/-- ValueError.__init__ bound to the exception, called -/
theorem ve_call {u e t0 : Addr} {rest : List Value} {Q : Value → Shared → Prop} (X : K.In s.heap) (q : excInitIn K C He.veBase "ValueError.__new__" = true) (he : s.heap.get? e = some (excO C t0)) (hu : s.heap.get? u = some (kxs_mw "ValueError.__init__" e)) (hz : rest.length ≤ sizeLine)
    (hq : ∀ h' t1, (∀ b o, b ≠ e → s.heap.get? b = some o → h'.get? b = some o) → h'.get? e = some (excO C t1) → Q .none { s with heap := h' }) : wpAny (model prog w) A (call (.ref u) rest) Q E s := by
  obtain ⟨nm, N', qn, bs, bm, hdct, sn, sub, ab, col, dd, k0, k1, k2, k3, k5, hC, hT⟩ := excInit_of X q
  obtain ⟨hh, g, d, tk, os⟩ := s
  refine wpAny_call (codeAny_of_tree ?_)
  show wpAny _ A.in1 (callAny (.ref u) ⟨rest, []⟩) _ _ _
  simp only [callAny]
  refine wpAny_bind (wpAny_load hu ?_)
  simp only [kxs_mw, show (Value.type "method-wrapper" == Value.type "method" || Value.type "method-wrapper" == Value.type "builtin_function_or_method" || Value.type "method-wrapper" == Value.type "method-wrapper") = true by decide, if_true]
  refine KFB.if_so (by decide) ?_
  refine wpAny_bind (check_bound_init F.excBase_ValueError.toExcCallFacts hC he rfl ?_)
  refine wpAny_bind (wpAny_pure (wpAny_pure ?_))
  refine ⟨plainId_quiet F.excBase_ValueError.init.plain _, codeAny_builtin F.excBase_ValueError.initEntry ?_⟩
  exact exc_init_tree (cls := .ref C) (t0 := t0) (dv := none) (c2 := .none) (c3 := .none) (b4 := .bool false) he hz fun h' k e' _ => hq h' _ k e'

/-- what __init__ leaves of a fresh exception at x -/
structure InitEnd (h h' : Heap) (x C dx t1 : Addr) (f : Str) (v : Value) : Prop where
  keep : ∀ b o, b ≠ x → h.get? b = some o → h'.get? b = some o
  obj : h'.get? x = some { cls := .ref C, dict := some dx, data := .fields #[.ref t1, .none, .none, .none, .bool false, .none] }
  dbig : h.objs.size ≤ dx
  dne : dx ≠ x
  ns : h'.Ns1 dx (fun y => if y = f then some v else none)
theorem sx_init (T : Txt prog K C S) {x t0 : Addr} {v : Value} (X : K.In s.heap) (G : s.heap.Ns mainGlobals mg) (B : s.heap.Ns builtinsNs mb) (hb : mb "super" = some (.type "super")) (hlim : s.heap.NoLimit)
    (hx : s.heap.get? x = some (excO C t0)) (hnx : K.lookup x = none) (hroom : A.depth < recursionLimit)
    (hq : ∀ h' tk dx t1, InitEnd s.heap h' x C dx t1 S.f v → R (.ok (.ret .none)) { s with heap := h', toks := tk }) :
    codeAny (model prog w) A (.call (.ref (He.ma K C "__init__")) ⟨[.ref x, v], []⟩) R s := by
  obtain ⟨oc, kV, doc, pm, ct, od, an, cda, cc, osl, ho, hcd, ⟨ccl, cdd, vs, ccs, file, tf, hco, hvs, hfile⟩, cl, cld, csl, hcell⟩ := T.fn
  obtain ⟨pa, harg⟩ := T.txt.arg
  obtain ⟨cd, hcl, hmro, hhd⟩ := T.cls
  have Ti := T.txt
  obtain ⟨hp, gs, dr, tk0, os⟩ := s
  refine ks_codeAny_call_defAt (fd := S.fd kV doc pm (.ref cda) ct an cc) (body := S.body) (binds := [("self", .ref x), (S.a, v)]) hroom (X _ _ ho) rfl hlim (codeRec_of X hcd) rfl (.of_eq (Ti.bnd ..)) Ti.cell ?_ (fun h₁ hns hk₁ => ?_) Ti.co Ti.gen Ti.kind
  · intro y hy
    rcases List.mem_cons.mp hy with rfl | hy
    · exact Ti.sSelf
    · rcases List.mem_cons.mp hy with rfl | hy
      · exact Ti.sArg
      · cases hy
  have X₁ : K.In h₁ := X.keeps hk₁
  have hx₁ := hk₁ _ _ hx
  have lS : (([("self", .ref x), (S.a, v)] : List (Str × Value)).reverse).lookup ("self" : Str) = some (.ref x) := by
    have e : (("self" : Str) == S.a) = false := beq_eq_false_iff_ne.mpr fun z => Ti.ne z.symm
    show List.lookup ("self" : Str) [(S.a, v), ("self", .ref x)] = _
    simp [List.lookup, e]
  have lA : (([("self", .ref x), (S.a, v)] : List (Str × Value)).reverse).lookup S.a = some v := by
    show List.lookup S.a [(S.a, v), ("self", .ref x)] = _
    simp [List.lookup]
  have I₁ : InstAt h₁ x (excO C t0) C none := ⟨hx₁, rfl, rfl, trivial⟩
  obtain ⟨oD, hD1, hD2⟩ : ∃ oD, h₁.get? C = some oD ∧ oD.data = .cls cd := by
    unfold clsIn at hcl
    split at hcl
    · rename_i c d cd' sl ho
      cases hcl
      exact ⟨_, X₁ _ _ ho, rfl⟩
    · cases hcl
  obtain ⟨pl, heq⟩ := Ti.eCall kV doc pm (.ref cda) ct an cc hp.objs.size (He.ma K C "__init__")
  show _root_.PySem.wpAt _ _ (.func S.body (S.env kV doc pm (.ref cda) ct an cc hp.objs.size (He.ma K C "__init__"))) (execs S.body (S.env kV doc pm (.ref cda) ct an cc hp.objs.size (He.ma K C "__init__"))) _ _ _
  generalize henv : S.env kV doc pm (.ref cda) ct an cc hp.objs.size (He.ma K C "__init__") = env at heq ⊢
  have eI : interactive env = false := by rw [← henv]; exact Ti.eInt ..
  have eS : swapsWith S.sup none S.p5.line env = pure false := by rw [← henv]; exact Ti.eSw ..
  have eS2 : swapsWith (.Name S.a S.q3) (some (.Attribute (.Name "self" S.q1) S.f S.q2)) S.q4.line env = pure false := by rw [← henv]; exact Ti.eSw2 ..
  have eK : env.scope.kind = .function := by rw [← henv]; exact Ti.kind
  have kSup : env.kindOf "super" = some .globalImplicit := by rw [← henv]; exact Ti.sSup
  have kCls : env.kindOf "__class__" = some .free := by rw [← henv]; exact Ti.sCls
  have kSelf : env.kindOf "self" = some .local := by rw [← henv]; exact Ti.sSelf
  have kArg : env.kindOf S.a = some .local := by rw [← henv]; exact Ti.sArg
  have eL : env.locals = hp.objs.size := by rw [← henv]; rfl
  have hns : h₁.Ns env.locals (fun y => (([("self", .ref x), (S.a, v)] : List (Str × Value)).reverse).lookup y) := by rw [eL]; exact hns
  show _root_.PySem.wpAt _ _ _ (execs (.Expr S.sup S.p5 :: _) env) _ _ _
  refine ks_wpAt_execs_cons (ks_wpAt_Expr_any ?_ eI eS)
  refine ks_wpAt_MethodCall (pl := pl) ?_ heq
  refine ks_wpAt_super_base (f := He.ma K C "__init__") (cc := cda) kSup kCls (by decide) (by rw [← henv]; rfl) (X₁ _ _ ho) rfl harg (by rw [← henv]; rfl) (X₁ _ _ hco) rfl hvs hfile T.main ?_
  refine ks_loadName_global eK kSup (loadGlobal_builtin (env := env) (by rw [← henv]; exact G.keeps hk₁) (mg_none_of X G T.sg) (by rw [← henv]; exact B.keeps hk₁) hb ⟨rfl, ?_⟩)
  refine wpAny_loadName_free eK kCls (by rw [← henv]; rfl) ⟨_, X₁ _ _ hcell, rfl⟩ ?_
  refine wpAny_loadName_local eK kSelf hns lS ?_
  refine ks_wpAny_isType_cls hD1 hD2 ⟨rfl, ?_⟩
  refine ks_wpAny_call_super hD1 hD2 hx₁ rfl (fun c e => by cases e) (looks_mroIn X₁ T.self) (fun h₂ e2 k2 => ?_)
  have X₂ : K.In h₂ := X₁.keeps k2
  have I₂ : InstAt h₂ x (excO C t0) C none := ⟨k2 _ _ hx₁, rfl, rfl, trivial⟩
  refine kxs_getMethod kxs_ValueError e2 (looks_opaque X₂ T.opq) (l₀ := cd.mro) ?_ rfl X₂ ?_ (I₂.type.andThen (looks_subIn X₂ T.sVE)) (ks_ne X₂ I₂ hcl) (by decide) ?_
  · exact fun A Q E s k q => wpAny_bind ((looks_clsIn X₂ hcl) A _ E s k (wpAny_pure q))
  · have q := T.sup
    unfold ks_superIn at q
    rw [hcl] at q
    exact q
  have hx₂ : h₂.get? x = some (excO C t0) := I₂.at_
  have k₃ : ∀ b o, h₂.get? b = some o → (h₂.push (kxs_mw "ValueError.__init__" x)).get? b = some o := fun b o e => Heap.get?_push_of_some _ e
  refine kxs_callWith (i := "ValueError.__init__") (x := x) rfl ?_
  refine evalArgs_plain ?_
  show wpAny _ _ (spliced ((false, eval (.Constant (.str S.m) S.j S.p3) env) :: backTo S.p4 (starEach [] env))) _ _ _
  refine Calls.spliced_cons (wpAny_Constant_str ?_)
  refine Calls.spliced_nil ⟨Heap.get?_push_size _ rfl, ?_⟩
  refine ve_call (C := C) (e := x) (t0 := t0) (X₂.keeps k₃) T.ini (k₃ _ _ hx₂) (Heap.get?_push_size _ rfl) (one_size _) (fun h₄ t1 k₄ hx₄ => ?_)
  have xL : env.locals ≠ x := by rw [eL]; exact Nat.ne_of_gt (Heap.lt_size hx)
  have hns₄ := hns.at fun o q => k₄ _ o xL (k₃ _ o (k2 _ o q))
  have kC : ∀ b o, b ≠ x → hp.get? b = some o → h₄.get? b = some o := fun b o ne e => k₄ b o ne (k₃ _ _ (k2 _ _ (hk₁ _ _ e)))
  have X₄ : K.In h₄ := fun b o e => kC b o (fun z => by rw [z, hnx] at e; cases e) (X b o e)
  refine wpAt_of_wpAny ?_
  show wpAny _ _ (execs [.Assign [.Attribute (.Name "self" S.q1) S.f S.q2] (.Name S.a S.q3) S.q4] env) _ _ _
  refine wpAny_execs_cons (plainObj_wpAny_Assign_Attribute ?_ eS2)
  refine wpAny_Name (wpAny_loadName_local eK kArg hns₄ lA ?_) Ti.dbg
  refine wpAny_Name (wpAny_loadName_local eK kSelf hns₄ lS ?_) (by decide)
  refine set_plain X₄ (ox := excO C t1) (od := none) ⟨hx₄, rfl, rfl, trivial⟩ T.sa ?_
  refine exc_osa X₄ hx₄ hcl hmro hhd T.noN (fun h₅ tk₅ dx k₅ dn dne hx₅ hn₅ => ?_)
  refine wpAny_execs_nil (hq h₅ tk₅ dx t1 ⟨fun b o ne e => k₅ b o ne (kC b o ne e), hx₅, ?_, dne, hn₅⟩)
  have z : env.locals < h₄.objs.size := hns₄.lt
  rw [eL] at z
  exact Nat.le_of_lt (Nat.lt_of_lt_of_le z dn)
/-- a made exception -/
structure OwnMade (h h' : Heap) (e C d : Addr) (f : Str) (v : Value) : Prop where
  keep : ∀ b o, h.get? b = some o → h'.get? b = some o
  new : h.objs.size ≤ e
  obj : ∃ oe vs, h'.get? e = some oe ∧ oe.cls = .ref C ∧ oe.dict = some d ∧ oe.data = .fields vs ∧ vs[1]? = some .none
  dbig : h.objs.size ≤ d
  dne : d ≠ e
  ns : h'.Ns1 d (fun y => if y = f then some v else none)
theorem sx_made (T : Txt prog K C S) {v : Value} (X : K.In s.heap) (G : s.heap.Ns mainGlobals mg) (B : s.heap.Ns builtinsNs mb) (hb : mb "super" = some (.type "super")) (hlim : s.heap.NoLimit) (hroom : A.depth + 1 < recursionLimit)
    (hq : ∀ h' tk e d, OwnMade s.heap h' e C d S.f v → R (.ok (.ret (.ref e))) { s with heap := h', toks := tk }) :
    codeAny (model prog w) A (.call (.ref C) ⟨[v], []⟩) R s := by
  obtain ⟨nm, N', q, bs, bm, hdct, sn, sub, ab, col, dd, k0, k1, k2, k3, k5, hC, hT⟩ := excInit_of X T.ini
  obtain ⟨hp, g, dr, tk, os⟩ := s
  have k : ∀ b o, hp.get? b = some o → ((hp.push (kdv_tup [v])).push (excO C hp.objs.size)).get? b = some o := fun b o e => Heap.get?_push_of_some _ (Heap.get?_push_of_some _ e)
  have hget : ((hp.push (kdv_tup [v])).push (excO C hp.objs.size)).get? (hp.objs.size + 1) = some (excO C hp.objs.size) := by heap_get
  have hnx : K.lookup (hp.objs.size + 1) = none := by
    cases e : K.lookup (hp.objs.size + 1) with
    | none => rfl
    | some o =>
      have z : hp.get? (hp.objs.size + 1) = some o := X _ _ e
      exact absurd (Nat.lt_of_succ_lt (Heap.lt_size z)) (Nat.lt_irrefl _)
  refine call_own F.excBase_ValueError hT hC (looks_findIn X T.iC) (fun self => bind_fn X self T.tC) (one_size v) ?_
  refine sx_init (s := ⟨(hp.push (kdv_tup [v])).push (excO C hp.objs.size), g, dr, tk, os⟩) T (X.keeps k) (G.keeps k) (B.keeps k) hb (hlim.keeps k) hget hnx ?_ fun h' tk' dx t1 ⟨k', hx, dn, dne, hns⟩ => ?_
  · show A.depth + 1 < recursionLimit
    exact hroom
  · have old : ∀ b o, hp.get? b = some o → h'.get? b = some o := fun b o e => k' b o (Nat.ne_of_lt (Nat.lt_succ_of_lt (Heap.lt_size e))) (k b o e)
    have z : hp.objs.size + 1 + 1 ≤ dx := by
      first
        | (simpa only [Heap.size_push] using dn)
        | exact dn
        | (have q := dn; rw [Heap.size_push, Heap.size_push] at q; exact q)
    exact ⟨rfl, hq h' tk' (hp.objs.size + 1) dx ⟨old, Nat.le_succ _, ⟨_, _, hx, rfl, rfl, rfl, rfl⟩, Nat.le_trans (Nat.le_trans (Nat.le_succ _) (Nat.le_succ _)) z, dne, hns⟩⟩
end
end SX

namespace L2
open PySem PySem.Spec PyProof.Rows
section
variable {X : Cx} {C : Addr} {S : SX.Shape}
theorem relO_sx {f0 : Str} {v : V} {v' : Value} (r : RelV v v') (f : Str) : RelO (List.lookup f [(f0, v)]) (if f = f0 then some v' else none) := by
  by_cases hw : f = f0
  · subst hw
    rw [if_pos rfl]
    have q : List.lookup f [(f, v)] = some v := by simp [List.lookup]
    rw [q]
    exact r
  · rw [if_neg hw]
    have qw : (f == f0) = false := by simpa using hw
    have q2 : List.lookup f [(f0, v)] = none := by simp [List.lookup, qw]
    rw [q2]
    trivial
/-- C(e) -/
def tMkX (C : Addr) (f : Str) (ta : TA) : St → Hp → XK → Prop := fun σ H Q => ta σ H fun vs H1 => ∃ v, vs = [v] ∧ ∀ d, H1 d = none → Q (.ref C) (some d) (upd H1 d (.xd [(f, v)]))
theorem pmk_sx {x : Str} {a : Expr} {ta : TA} {p pos : Pos} {k : Nat} (T : SX.Txt X.prog X.K C S) (gC : X.mg x = some (.ref C)) (hr : Room k X.A) (ha : PA X [a] ta) (hg : Gl X x) (hdb : (x == ("__debug__" : Str)) = false := by decide)
    (he : starEach (a :: []) X.env = (false, eval a X.env) :: starEach [] X.env := by rfl) (hpl : (backTo pos (starEach [] X.env)).any (·.1) = false := by rfl) :
    PMk X (.Call (.Name x p) [a] [] pos) (tMkX C S.f ta) := by
  intro pins s σ H Q I h
  refine wpAny_Call_Name_kw (ld_glob I hg gC ?_ hdb)
  refine PySem.W.callWith_K (h₀ := X.base) I.ok.mod.kin T.kC (thn (ha.run pos pins s σ H _ I h) fun us s1 hh => ?_) he hpl
  obtain ⟨vs, H1, I1, r1, v, ev, q1⟩ := hh
  subst ev
  refine ⟨I1.kIn, ?_⟩
  cases r1 with
  | cons rv rn =>
    rename_i v' us'
    cases rn
    show wpAny _ _ (call (.ref C) [v']) _ _ _
    have hlim := I1.nolimit
    obtain ⟨mb, hb1, hb2⟩ := I1.mod.blt
    have G1 : s1.heap.Ns mainGlobals X.mg := I1.mod.glob.keeps I1.bk
    have B1 : s1.heap.Ns builtinsNs mb := hb1.keeps I1.bk
    obtain ⟨hp, g, dr, tk, os⟩ := s1
    refine wpAny_call (SX.sx_made T I1.kIn G1 B1 ((hb2 _ (by decide)).trans rfl) hlim (by have := hr.dp; omega) fun h' tk' e d M => ?_)
    show MkP X pins σ Q (.ref e) ⟨h', g, dr, tk', os⟩
    obtain ⟨oe, fv, hoe, hc, hd, hdat, h1⟩ := M.obj
    have hns := M.ns
    obtain ⟨G', g1, g2⟩ := restrict h' fun b => decide (b ≠ e)
    have gk : ∀ b, b ≠ e → G'.get? b = h'.get? b := fun b hb => g1 b (decide_eq_true hb)
    have ge : G'.get? e = none := g2 e (by simp)
    have old : ∀ b o, hp.get? b = some o → G'.get? b = some o := fun b o q => (gk b (Nat.ne_of_lt (Nat.lt_of_lt_of_le (Heap.lt_size q) M.new))).trans (M.keep b o q)
    have ob : ObjOk X.prog X.w (upd H1 d (.xd [(S.f, v)])) G' d (.xd [(S.f, v)]) :=
      ⟨_, hns.at (fun o q => (gk d M.dne).trans q), fun f => relO_sx rv f⟩
    have J : Inv X pins σ (upd H1 d (.xd [(S.f, v)])) ⟨G', g, dr, tk', os⟩ := I1.laid (t' := tk') old M.dbig ob
    refine ⟨e, oe, fv, ⟨G', g, dr, tk', os⟩, _, .ref C, some d, rfl, J, fun b o q => ?_, ge, hoe, ⟨hc, hd⟩, hdat, h1, ?_, rfl, I1.bare, raises_own T.exC T.tyC, q1 d (I1.hok.fresh M.dbig)⟩
    · by_cases hb : b = e
      · have q' : G'.get? b = some o := q
        rw [hb, ge] at q'; cases q'
      · exact (gk b hb).symm.trans q
    · rw [upd_ne (Ne.symm M.dne)]
      exact I1.hok.fresh M.new
/-- raise C(e) -/
def tRaiseX (C : Addr) (f : Str) (W : WX) (ta : TA) : TS := fun _ σ H => tMkX C f ta σ H fun cls d H' => W cls d σ H'
theorem ps_raiseX {x : Str} {a : Expr} {ta : TA} {W : WX} {p pos pos2 : Pos} {k : Nat} (hc : X.calm = true) (T : SX.Txt X.prog X.K C S) (gC : X.mg x = some (.ref C)) (hr : Room k X.A) (tk : Takes X W) (ha : PA X [a] ta) (hg : Gl X x) (hdb : (x == ("__debug__" : Str)) = false := by decide)
    (he : starEach (a :: []) X.env = (false, eval a X.env) :: starEach [] X.env := by rfl) (hpl : (backTo pos (starEach [] X.env)).any (·.1) = false := by rfl) :
    PS X (.Raise (some (.Call (.Name x p) [a] [] pos)) none pos2) (tRaiseX C S.f W ta) := ps_raise hc tk (pmk_sx T gC hr ha hg hdb he hpl)
/-- e.f, e the exception that the suite holds (at a; its class cls, its dict d) -/
def tByX (C : Addr) (f : Str) (a : Addr) (cls : Value) (d : Option Addr) (te : TE) : TE := fun σ H Q => te σ H fun x H1 => x = .ref a ∧ cls = .ref C ∧ ∃ (dd : Addr) (v : V), d = some dd ∧ H1 dd = some (.xd [(f, v)]) ∧ Q v H1
theorem pe_byX {a : Addr} {oe : Obj} {cls : Value} {d : Option Addr} {pn : List (Addr × Obj)} {e : Expr} {te : TE} {pos : Pos} (T : SX.Txt X.prog X.K C S) (hz : Zc cls d oe) (hf : ∃ vs, oe.data = .fields vs) (he : PE (X.suite a ((a, oe) :: pn)) e te)
    (hb : attributeBase e S.f X.env (eval e X.env) = eval e X.env) :
    PE (X.suite a ((a, oe) :: pn)) (.Attribute e S.f pos) (tByX C S.f a cls d te) := by
  refine ⟨fun pins s σ H Q I h => ?_⟩
  refine attr_of hb (thn (he.run pins s σ H _ I h) fun u s1 hh => ?_)
  obtain ⟨x, H1, I1, rx, ex, ec, dd, v, ed, ea, q⟩ := hh
  subst ex
  obtain rfl : u = Value.ref a := rx
  subst ec
  subst ed
  obtain ⟨ha, _⟩ := I1.pin (a, oe) (List.mem_append_left _ List.mem_cons_self)
  obtain ⟨vs, hd⟩ := hf
  have hx : ObjOk X.prog X.w H1 s1.heap dd (.xd [(S.f, v)]) := I1.hok dd _ ea
  obtain ⟨mA, hns, hr⟩ := hx
  obtain ⟨od, ho, hl⟩ := lookIn_ns hns
  have l : List.lookup S.f [(S.f, v)] = some v := by simp [List.lookup]
  obtain ⟨u, hu, ru⟩ := RelO.some_of (v := v) (o := mA S.f) (by rw [← l]; exact hr S.f)
  have J : PySem.W.InstAt s1.heap a oe C (some od) := ⟨ha, hz.1, by unfold PySem.W.notCls; rw [hd] <;> rfl, by rw [hz.2]; exact ho⟩
  exact HandSPX.exc_get I1.kIn J T.ga T.gg T.exC (PySem.W.findObj_own T.hdC T.noN rfl (by rw [hl, hu])) (handed_of ru) ⟨v, H1, I1.tok _, ru, q⟩
end
end L2

set_option maxHeartbeats 4000000
/-! several clauses 'except x as n'; match over texts; a class without __init__ called. -/
namespace L2
open PySem PySem.Spec PyProof.Rows
/-- what the clauses wish of an exception of the body, one after the other; slot i is the name's -/
def wManyAs (K : PySem.W.Frag) (Wout : WX) (D : Ends) : List (Value × Nat × (Addr → Value → Option Addr → TS)) → WX
  | [] => Wout
  | (c, i, ts) :: r => fun cls d σ H => ∃ b, PySem.W.exmOne K cls c = some b ∧ (b = true → ∀ a, H a = none → ts a cls d { nx := fun σ' H' => D.nx (σ'.set i none) H', rt := D.rt, bk := fun σ' H' => D.bk (σ'.set i none) H', ct := fun σ' H' => D.ct (σ'.set i none) H' } (σ.set i (some (.ref a))) H) ∧
    (b = false → wManyAs K Wout D r cls d σ H)
inductive HdsAs (X : Cx) : List ExceptHandler → List (Value × Nat × (Addr → Value → Option Addr → TS)) → Prop
  | nil : HdsAs X [] []
  | cons {x n : Str} {c : Value} {i : Nat} {ts : Addr → Value → Option Addr → TS} {b₀ : Stmt} {suite : List Stmt} {np pos' : Pos} {hds : List ExceptHandler} {l : List (Value × Nat × (Addr → Value → Option Addr → TS))} (hi : X.N[i]? = some n) (hln : X.env.kindOf n = some .local) (hc : Names X x c)
      (hsu : ∀ (a : Addr) (oe : Obj) (cls : Value) (d : Option Addr) (pn : List (Addr × Obj)), Zc cls d oe → (∃ vs, oe.data = .fields vs) → PSs (X.suite a ((a, oe) :: pn)) (b₀ :: suite) (ts a cls d)) (r : HdsAs X hds l) :
      HdsAs X (.ExceptHandler (some (.Name x np)) (some n) (b₀ :: suite) pos' :: hds) ((c, i, ts) :: l)
section
variable {X : Cx} {body : List Stmt} {h₀ : ExceptHandler} {hds : List ExceptHandler} {l : List (Value × Nat × (Addr → Value → Option Addr → TS))} {pos : Pos} {tb : WX → TS} {Wout : WX}
theorem ps_try_manyAs (hs : X.stack = X.env :: X.outer) (hf : X.env.frame = some X.env.locals) (hN : X.N.Nodup) (tk : Takes X Wout)
    (hb : ∀ (W : WX) (pn : List (Addr × Obj)) (xe : Value → Shared → Prop), Takes (X.tr pn xe) W → PassesOwn (model X.prog X.w) X.A X.env xe → PSs (X.tr pn xe) body (tb W))
    (hh : HdsAs X (h₀ :: hds) l) : PS X (.Try body (h₀ :: hds) [] [] pos) (fun D σ H => tb (wManyAs X.K Wout D l) D σ H) := by
  refine ⟨fun pins s σ H D I h => ?_⟩
  have ok := I.ok
  have hfr : X.A.frames = some (X.env :: X.outer) := by rw [ok.frames, hs]
  refine wpAny_Try_except ?_
  refine wpAny_mono ((hb (wManyAs X.K Wout D l) (X.pn ++ pins) (fun e s₁ => wpAny (model X.prog X.w) X.A (noteFrame e X.env) (fun _ s₂ => wpAny (model X.prog X.w) X.A (setFlight e none) (fun _ s₃ =>
    wpAny (model X.prog X.w) X.A (handleBy e X.env (h₀ :: hds)) (SP X pins D) X.xe s₃) X.xe s₂) X.xe s₁) (fun u s' xx => ?_) PassesOwn.looking).run [] s σ H D (I.toTry _) h) (fun f s1 hsp => ?_) (fun e s1 he => he)
  · obtain ⟨a, B, sI, pins', σ', H', cls, d, rfl, J', nb, up, sky, na, os, ag, w⟩ := xx
    have J : Inv X pins σ' H' sI := J'.ofTry ok
    have sky' : Sky B (X.env :: X.outer) a (Zc cls d) X.env.locals s'.heap := by rw [← hs]; exact sky
    show wpAny (model X.prog X.w) X.A (noteFrame (.ref a) X.env) _ _ _
    refine Sky.land Zc.steady hfr hf sky' fun h3 fl3 up3 => ?_
    have J3 : Inv X pins σ' H' { s' with heap := h3 } := J.landed nb fl3.1 (up.trans up3) os ag
    obtain ⟨oe3, vs3, he3, hz3, hd3⟩ := fl3.there
    have notFr : ∀ {h : Heap} {o : Obj} {vs : Array Value}, h.FunFrames B (X.env :: X.outer) → h.get? a = some o → o.data = .fields vs → a ∉ frs (X.env :: X.outer) := fun {h o vs} ff e dd hm => by
      obtain ⟨_, o', e', hnf⟩ := ff.mem hm
      rw [e] at e'; cases e'
      exact hnf _ dd
    have nfr := notFr fl3.2.2.1 he3 hd3
    have nL : a ≠ X.env.locals := fun z => nfr (List.mem_filterMap.mpr ⟨X.env, List.mem_cons_self, by rw [hf, z]⟩)
    have nF : a ∉ X.fs := fun hm => by
      obtain ⟨e, he, q⟩ := List.mem_filterMap.mp hm
      exact nfr (List.mem_filterMap.mpr ⟨e, List.mem_cons_of_mem _ he, q⟩)
    have S3 := J3.suite he3 hd3 na nL nF
    have go : ∀ {hds' : List ExceptHandler} {l' : List (Value × Nat × (Addr → Value → Option Addr → TS))}, HdsAs X hds' l' → wManyAs X.K Wout D l' cls d σ' H' →
        wpAny (model X.prog X.w) X.A (handleBy (.ref a) X.env hds') (SP X pins D) X.xe { s' with heap := h3 } := by
      intro hds' l' hk
      induction hk with
      | nil =>
        intro w
        refine wpAny_handleBy_nil ?_
        obtain ⟨k1, k2, k3, oe, vs, T, oT, ts', he, hz, hd, h1, hr⟩ := id fl3
        unfold PySem.passOn
        refine wpAny_bind (wpAny_field he hd h1 ?_)
        rw [if_neg (show ¬ ((Value.ref T == Value.none) = true) from by simp)]
        have fin : wpAny (model X.prog X.w) X.A (setFlight (.ref a) X.env.frame) (fun _ s4 => wpAny (model X.prog X.w) X.A (throw (.ref a) : Sem Flow) (SP X pins D) X.xe s4) X.xe { s' with heap := h3 } := by
          rw [hf]
          refine HandSPX.setFlight_upZ fl3 fun h4 hh4 up4 => wpAny_throw (tk _ _ ?_)
          exact ⟨a, B, sI, pins, σ', H', cls, d, rfl, J, nb, (up.trans up3).trans up4, .inr (.inr (by rw [hs]; exact hh4)), na, os, ag, w⟩
        first
          | exact wpAny_bind (wpAny_pure (wpAny_bind fin))
          | exact wpAny_bind fin
      | @cons x n c i ts b₀ suite np pos' hds2 l2 hi hln hc hsu r ih =>
        intro w
        obtain ⟨b, hb1, hyes, hno⟩ := w
        have hloc : Loc X.env.scope n := .inl hln
        refine wpAny_handleBy_cons (codeAny_handlers_test ?_) (by intro q; cases q)
        have LT : PySem.W.Looks (model X.prog X.w) h3 (typeOf (.ref a)) cls := fun A Q E s k q => wpAny_typeOf_ref (k _ _ he3) (by rw [hz3.1]; exact q)
        have LM := PySem.W.exm_one (M := model X.prog X.w) (J3.kIn) LT hb1
        have test : ∀ {Q : Value → Shared → Prop} {E : Value → Shared → Prop}, Q c { s' with heap := h3 } → wpAny (model X.prog X.w) (X.A.mark (some (.ref a))) (eval (.Name x np) X.env) Q E { s' with heap := h3 } := fun {Q E} q => by
          obtain ⟨hg, hdbg, hm | ⟨hm, hv, hnn⟩⟩ := hc
          · exact ld_glob (X := X.suite a ((a, oe3) :: (X.pn ++ pins))) S3 hg hm q hdbg
          · exact ld_blt (X := X.suite a ((a, oe3) :: (X.pn ++ pins))) S3 hg hm hv q hnn hdbg
        refine test (LM.here ?_)
        cases b with
        | true =>
          refine codeAny_handlers_suite_as ?_
          refine HandSPX.lands_againZ fl3 fun h4 fl4 up4 => ?_
          have J4 : Inv X pins σ' H' { s' with heap := h4 } := J.landed nb fl4.1 ((up.trans up3).trans up4) os ag
          obtain ⟨oe4, vs4, he4, hz4, hd4⟩ := fl4.there
          have S4 := J4.suite he4 hd4 na nL nF
          refine store_ok (X := X.suite a ((a, oe4) :: (X.pn ++ pins))) (v := .ref a) S4 hN hi hloc rfl (fun s5 S5 => ?_) (.inr hln)
          refine wpAny_mono ((hsu a oe4 cls d (X.pn ++ pins) hz4 ⟨_, hd4⟩).run [] s5 _ H' _ S5 (hyes rfl a na)) (fun f s6 hsp => ?_) (fun _ _ z => False.elim z)
          have end_ : ∀ {σ6 : St} {H6 : Hp} {Q : Shared → Prop}, Inv (X.suite a ((a, oe4) :: (X.pn ++ pins))) [] σ6 H6 s6 → (∀ s7, Inv X pins (σ6.set i none) H6 s7 → Q s7) →
              wpAny (model X.prog X.w) X.A (do bindName X.env n .none; unbindBehindTheSuite X.env n pos') (fun _ s7 => Q s7) X.xe s6 := fun {σ6 H6 Q} S6 hq => gone_ok (S6.unsuite ok) hN hi hln hq
          cases f with
          | next =>
            obtain ⟨σ6, H6, S6, q6⟩ := hsp
            exact end_ S6 fun s7 J7 => ⟨_, _, J7, q6⟩
          | brk =>
            obtain ⟨σ6, H6, S6, q6⟩ := hsp
            exact end_ S6 fun s7 J7 => ⟨_, _, J7, q6⟩
          | cont =>
            obtain ⟨σ6, H6, S6, q6⟩ := hsp
            exact end_ S6 fun s7 J7 => ⟨_, _, J7, q6⟩
          | ret u =>
            obtain ⟨v6, σ6, H6, S6, r6, q6⟩ := hsp
            exact end_ S6 fun s7 J7 => ⟨_, _, _, J7, r6, q6⟩
        | false =>
          show wpAny _ X.A (handleBy (.ref a) X.env hds2) _ _ _
          exact ih (hno rfl)
    exact go hh w
  · cases f with
    | next =>
      obtain ⟨σ', H', J', q⟩ := hsp
      exact wpAny_execs_nil ⟨σ', H', J'.ofTry ok, q⟩
    | brk =>
      obtain ⟨σ', H', J', q⟩ := hsp
      exact ⟨σ', H', J'.ofTry ok, q⟩
    | cont =>
      obtain ⟨σ', H', J', q⟩ := hsp
      exact ⟨σ', H', J'.ofTry ok, q⟩
    | ret u =>
      obtain ⟨v, σ', H', J', r, q⟩ := hsp
      exact ⟨v, σ', H', J'.ofTry ok, r, q⟩
end

/-! ### match over texts -/
structure PM (X : Cx) (cases : List MatchCase) (t : V → TS) : Prop where
  run : ∀ (pins : List (Addr × Obj)) (s : Shared) (σ : St) (H : Hp) (D : Ends) (v : V) (u : Value) (first : Bool), Inv X pins σ H s → RelV v u → t v D σ H → wpAny (model X.prog X.w) X.A (matchCases cases X.env u first) (SP X pins D) X.xe s
def tMatch (te : TE) (t : V → TS) : TS := fun D σ H => te σ H fun v H1 => t v D σ H1
def tCase (k : Str) (t : TS) (r : V → TS) : V → TS := fun v D σ H => ∃ x, v = .str x ∧ if x = k then t D σ H else r v D σ H
section
variable {X : Cx} {body : List Stmt} {cases : List MatchCase} {e : Expr} {te : TE} {t : TS} {r : V → TS} {pos : Pos}
theorem ps_match {tc : V → TS} (he : PE X e te) (h : PM X cases tc) : PS X (.Match e cases pos) (tMatch te tc) := by
  refine ⟨fun pins s σ H D I hw => ?_⟩
  exact wpAny_Match (thn (he.run pins s σ H _ I hw) fun u s1 ⟨v, H1, I1, rv, q⟩ => h.run pins s1 σ H1 D v u true I1 rv q)
theorem pm_any {p : Pos} (h : PSs X body t) : PM X [⟨.MatchAs none none p, none, body⟩] (fun _ => t) := by
  refine ⟨fun pins s σ H D v u first I rv hw => ?_⟩
  refine wpAny_matchCases_cons (wpAny_matchPattern_Capture ?_)
  show wpAny _ _ (assignInOrder [] []) _ _ _
  exact wpAny_pure (h.run pins s σ H D I hw)
theorem pm_nil : PM X [] (fun _ => tNext) := ⟨fun pins s σ H D v u first I rv hw => wpAny_matchCases_nil ⟨σ, H, I, hw⟩⟩
theorem pm_str {k : Str} {j : Nat} {p p2 : Pos} (h : PSs X body t) (hr : PM X cases r) : PM X (⟨.MatchValue (.Constant (.str k) j p) p2, none, body⟩ :: cases) (tCase k t r) := by
  refine ⟨fun pins s σ H D v u first I rv hw => ?_⟩
  obtain ⟨x, rfl, hw⟩ := hw
  refine wpAny_matchCases_cons (wpAny_matchPattern_Value (Calls.Constant_str ?_))
  have I1 := I.tok (s.toks + 1)
  refine thn (op_eq pins _ σ H (.str x) (.str k) u (.str k s.toks) (fun v H' => v = .bl (decide (x = k)) ∧ H' = H) I1 rv ⟨_, rfl⟩ ⟨rfl, by
    by_cases q : x = k
    · subst q; exact ⟨by simp, rfl⟩
    · refine ⟨?_, rfl⟩
      have : ¬ (V.str x = V.str k) := fun z => q (V.str.inj z)
      rw [decide_eq_false this, decide_eq_false q]⟩) fun c s2 ⟨y, H2, I2, ry, ey, eH⟩ => ?_
  subst ey
  subst eH
  obtain rfl : c = Value.bool (decide (x = k)) := ry
  refine wpAny_truthy_bool ?_
  by_cases q : x = k
  · rw [if_pos q] at hw
    rw [decide_eq_true q, if_pos rfl]
    show wpAny _ _ (assignInOrder [] []) _ _ _
    exact wpAny_pure (h.run pins s2 σ _ D I2 hw)
  · rw [if_neg q] at hw
    rw [decide_eq_false q, if_neg Bool.false_ne_true]
    exact hr.run pins s2 σ _ D (.str x) u false I2 rv hw
end
end L2

set_option maxHeartbeats 4000000
namespace L2
open PySem PySem.Spec PyProof.Rows
/-- a class whose __init__ is object's -/
structure Mk0 (K : PySem.W.Frag) (C : Addr) : Prop where
  makes : PySem.W.makesIn K C = true
  init : PySem.W.findIn K (.ref C) "__init__" = some (some (.builtin "object.__init__"))
  top : PySem.W.mroIn K C (.type "object") = some true
  kp : PySem.W.keepIn K (.ref C) = true
/-- C() -/
def tMake0 (C : Addr) : TE := fun σ H Q => ∀ x dx, H x = none → H dx = none → dx ≠ x → Q (.ref x) (upd (upd H dx (.own x)) x (.ins C dx []))
section
variable {X : Cx} {C : Addr} {x : Str} {p pos : Pos}
theorem pe_make_0 (M : Mk0 X.K C) (hg : Gl X x) (hm : X.mg x = some (.ref C)) (hdb : (x == ("__debug__" : Str)) = false := by decide) : PE X (.Call (.Name x p) [] [] pos) (tMake0 C) := by
  refine ⟨fun pins s σ H Q I h => ?_⟩
  refine wpAny_Call_Name_kw (ld_glob I hg hm ?_ hdb)
  refine PySem.W.callWith_K0 I.kIn M.kp ?_
  have hq := h (s.heap.objs.size + 1) s.heap.objs.size (I.hok.fresh (Nat.le_succ _)) (I.hok.fresh (Nat.le_refl _)) (Nat.ne_of_lt (Nat.lt_succ_self _))
  have I2 := Inv.made (C := C) I
  refine wpAny_call (make_map0 I.kIn M.makes M.init (fun self => PySem.W.Looks.of_pure (PySem.W.oi_bind _)) ?_)
  have ho : ((s.heap.push PySem.W.emptyDict).push (PySem.W.instObj C s.heap.objs.size)).get? (s.heap.objs.size + 1) = some (PySem.W.instObj C s.heap.objs.size) := by
    have := Heap.get?_push_size (s.heap.push PySem.W.emptyDict) (o := PySem.W.instObj C s.heap.objs.size) rfl
    rwa [Heap.size_push] at this
  have t1 : PySem.W.Looks (model X.prog X.w) ((s.heap.push PySem.W.emptyDict).push (PySem.W.instObj C s.heap.objs.size)) (typeOf (.ref (s.heap.objs.size + 1))) (.ref C) := NwA.type_at ho rfl
  have t2 : PySem.W.Looks (model X.prog X.w) ((s.heap.push PySem.W.emptyDict).push (PySem.W.instObj C s.heap.objs.size)) (isInstance (.ref (s.heap.objs.size + 1)) (.type "object")) true := t1.andThen (PySem.W.looks_mroIn I2.kIn M.top)
  refine codeAny_call_builtin PySem.W.oi_plain PySem.W.entry_oi (@PySem.W.check_slot (model X.prog X.w) _ _ _ "object.__init__" "object" "__init__" (.ref (s.heap.objs.size + 1)) [] [] _ PySem.W.oi_kind PySem.W.oi_split t2 (NwA.oi_args_any (.ref (s.heap.objs.size + 1)) [] []) ?_)
  rw [PySem.W.oi_run]
  exact wpAny_pure ⟨rfl, ⟨V.ref (s.heap.objs.size + 1), _, I2, rfl, hq⟩⟩
end
end L2

set_option maxHeartbeats 4000000
/-! THE VALUE LAYER 7: exceptions, match, plain instances, a module's constants. -/
namespace VL
open PySem PySem.Spec PyProof.Rows L2

/-! ### expressions that end in an exception -/
section
variable (K : Fg) (c : Cx0)
/-- te never gives a value from here -/
def EZ (te : TE) (s : List Slot) (o : List Cont) : Prop := ∀ as G σ H, Abs K c as G σ H s o → ∀ Q : VK, te σ H Q
/-- what is wanted of an exception of the class cls with the fields fs, at the frame s -/
def XcS (W : WX) (cls : Str) (fs : List (Str × Slot)) (s : List Slot) (o : List Cont) : Prop :=
  ∀ as G σ H, Abs K c as G σ H s o → ∀ dx fvs, G dx = some (.xd fvs) → FldsOk K as G fvs fs → W (.ref (He.ga K cls)) (some dx) σ H
end
section
variable {K : Fg} {c : Cx0} {as : List Addr} {G H : Hp} {σ : L2.St} {s s1 s' : List Slot} {o o1 os : List Cont} {r r1 r2 : Slot} {rs : List Slot} {ta : TA} {te : TE} {F : FS} {E : XK} {D : Ends} {t u : TS} {i : Nat} {cls f : Str} {fs : List (Str × Slot)}
theorem vs_data {vs : List V} {rs : List Slot} (h : VsOk K as G vs rs) (hd : rs.all (fun q => match q with | .p _ => false | _ => true) = true) : VsOk K [] G vs rs := by
  induction h with
  | nil => exact .nil
  | @cons v r vs rs h t ih =>
    rw [List.all_cons, Bool.and_eq_true] at hd
    refine .cons ?_ (ih hd.2)
    cases r with
    | u => trivial
    | d x => exact h
    | p k => exact absurd hd.1 Bool.false_ne_true
theorem call_exc {vs : List V} {Q : VK} (A : Abs K c as G σ H s o) (hv : VsOk K as G vs rs) (hd : rs.all (fun q => match q with | .p _ => false | _ => true) = true) (hF : ∀ (R : RT) (X : XT), X cls fs [] → F rs [] R X) (hne : fs ≠ [])
    (hfl : (fs.all fun q => match q.2 with | .p _ => false | _ => true) = true) (P : ∀ as' G' H', Abs K c as' G' σ H' s o → ∀ dx fvs, G' dx = some (.xd fvs) → FldsOk K as' G' fvs fs → E (.ref (He.ga K cls)) (some dx) H') : spOf K F vs H Q E := by
  have B := A.into (ks := []) (M := []) (os := []) (vs := vs) rfl rfl (by simp) (fun j k e => by simp at e) (vs_data hv hd)
  refine ⟨cx1 H G [], rs, [], rfl, B, hF _ _ ?_⟩
  intro asF GF σF HF sF BF
  obtain ⟨as', pp, A2, hr⟩ := A.back (ks := []) BF rfl (by simp) (fun j k e => by simp at e) (fun j => by simp [cget, Cont.flat])
  rw [cput0, List.append_nil] at A2
  exact ⟨fun e => absurd e hne, fun dx fvs e fk => P as' GF HF A2 dx fvs e (flds_flat hfl fk)⟩
theorem Xc.at {os : List Cont} (hX : Xc K c E cls fs os) (ho : OsW o os) (hm : c.M.length ≤ os.length) (h2 : os.all (ptC os.length) = true) (hfl : (fs.all fun q => match q.2 with | .p _ => false | _ => true) = true) {dx : Addr} {fvs : List (Str × V)} (A : Abs K c as G σ H s o) (e : G dx = some (.xd fvs)) (fk : FldsOk K as G fvs fs) : E (.ref (He.ga K cls)) (some dx) H :=
  (hX _ G [] H [] (A.bare.weak (t := []) trivial ho hm rfl h2)).2 dx fvs e (flds_flat hfl fk)
theorem ez_call {os : List Cont} (h : EA K c ta s o s1 o1 rs) (hd : rs.all (fun q => match q with | .p _ => false | _ => true) = true) (hF : ∀ (R : RT) (X : XT), X cls fs [] → F rs [] R X) (hX : Xc K c E cls fs os) (hne : fs ≠ [])
    (hfl : (fs.all fun q => match q.2 with | .p _ => false | _ => true) = true) (ho : OsW o1 os) (hm : c.M.length ≤ os.length) (h2 : os.all (ptC os.length) = true) : EZ K c (tCall (spOf K F) [] E ta) s o := fun as G σ H A Q =>
  h as G σ H A _ fun vs as1 G1 H1 p1 l1 A1 h1 => by
    rw [List.append_nil]
    exact call_exc A1 h1 hd hF hne hfl fun as' G' H' A' dx fvs e fk => hX.at ho hm h2 hfl A' e fk
theorem ez_callS {W : WX} (h : EA K c ta s o s1 o1 rs) (hd : rs.all (fun q => match q with | .p _ => false | _ => true) = true) (hF : ∀ (R : RT) (X : XT), X cls fs [] → F rs [] R X) (hX : XcS K c W cls fs s1 o1) (hne : fs ≠ [])
    (hfl : (fs.all fun q => match q.2 with | .p _ => false | _ => true) = true) : EZ K c (tCallS (spOf K F) (WE W) ta) s o := fun as G σ H A Q =>
  h as G σ H A _ fun vs as1 G1 H1 p1 l1 A1 h1 => call_exc A1 h1 hd hF hne hfl fun as' G' H' A' dx fvs e fk => hX as' G' σ H' A' dx fvs e fk
/-- a call inside a try that gives a value -/
theorem er_callS {W : WX} (h : EA K c ta s o s1 o1 rs) (hF : ∀ (R : RT) (X : XT), R r os → F rs [] R X) (hd : rs.all (fun q => match q with | .p _ => false | _ => true) = true) (hfl : os.all Cont.flat = true) :
    ER K c (tCallS (spOf K F) (WE W) ta) s o s1 (o1 ++ os) (rmap o1.length [] r) := fun as G σ H A Q q =>
by
    have z := er_call (E := WE W σ) h hF hd hfl as G σ H A Q q
    unfold tCall at z
    simp only [List.append_nil] at z
    exact z
theorem s_dropZ (h : EZ K c te s o) : Run K c (tDrop te) D s o := fun as G σ H A => h as G σ H A _
theorem q_dropZ (h : EZ K c te s o) : Run K c (tSeq (tDrop te) u) D s o := fun as G σ H A => h as G σ H A _
theorem s_asgZ {g : TG} (h : EZ K c te s o) : Run K c (tAsg te g) D s o := fun as G σ H A => h as G σ H A _
theorem q_asgZ {g : TG} (h : EZ K c te s o) : Run K c (tSeq (tAsg te g) u) D s o := fun as G σ H A => h as G σ H A _
theorem s_retZ (h : EZ K c te s o) : Run K c (tRet te) D s o := fun as G σ H A => h as G σ H A _
/-- raise C(e) -/
theorem s_raise {α : Type} [Rp α] {x : α} {os : List Cont} (h : EA K c ta s o s1 o1 [.d x]) (hX : Xc K c E cls [(f, .d x)] os) (ho : OsW o1 os) (hm : c.M.length ≤ os.length) (h2 : os.all (ptC os.length) = true) :
    Run K c (tRaiseX (He.ga K cls) f (fun cls d _ H => E cls d H) ta) D s o := fun as G σ H A =>
  h as G σ H A _ fun vs as1 G1 H1 p1 l1 A1 h1 => by
    obtain ⟨v, rfl, hv⟩ := h1.one
    refine ⟨v, rfl, fun d hd => ?_⟩
    have A2 := A1.newD (o := .xd [(f, v)]) hd
    have l2 : Le G1 (upd G1 d (.xd [(f, v)])) := Le.upd (A1.sub.free hd)
    exact hX.at ho hm h2 rfl A2 upd_same ⟨rfl, Rp.mono l2 (show Rp.rep K G1 v x from hv), trivial⟩
/-! ### try -/
/-- an exception that a suite holds: at a, its dict at dd, its one field -/
structure Exv (f : Str) (α : Type) where
  a : Addr
  dd : Addr
  x : α
instance {f : Str} {α : Type} [Rp α] : Rp (Exv f α) := ⟨fun K G v e => v = .ref e.a ∧ ∃ w, G e.dd = some (.xd [(f, w)]) ∧ Rp.rep K G w e.x, fun l ⟨e, w, h1, h2⟩ => ⟨e, w, l _ _ h1, Rp.mono l h2⟩⟩
theorem Abs.unset (A : Abs K c as G σ H s o) : Abs K c as G (σ.set i none) H (s.set i .u) o := by
  refine ⟨A.sub, A.g0, A.old, A.new, A.pre, A.nd, A.asz, A.asf, A.lv, fun j => ?_, A.st, by simp [A.len]⟩
  by_cases hi : i < s.length
  · rw [sget_set _ _ _ _ hi]
    by_cases q : j = i
    · rw [if_pos q]; trivial
    · rw [if_neg q, List.getElem?_set_ne (fun z => q z.symm)]; exact A.fr j
  · have e1 : s.set i .u = s := List.set_eq_of_length_le (by omega)
    have e2 : σ.set i none = σ := List.set_eq_of_length_le (by rw [A.len]; omega)
    rw [e1, e2]; exact A.fr j
theorem go_unset {P : L2.St → Hp → Prop} (h : Go K c P (s.set i .u) o) : Go K c (fun σ' H' => P (σ'.set i none) H') s o := fun as G σ H A => h as G _ H A.unset
theorem xm_no {Wout : WX} {D : Ends} {cv : Value} {j : Nat} {ts : Addr → Value → Option Addr → TS} {l : List (Value × Nat × (Addr → Value → Option Addr → TS))} (h : PySem.W.exmOne K (.ref (He.ga K cls)) cv = some false) (k : XcS K c (wManyAs K Wout D l) cls fs s o) : XcS K c (wManyAs K Wout D ((cv, j, ts) :: l)) cls fs s o :=
  fun as G σ H A dx fvs e fk => ⟨false, h, fun z => Bool.noConfusion z, fun _ => k as G σ H A dx fvs e fk⟩
theorem xm_yes {Wout : WX} {D : Ends} {cv : Value} {j : Nat} {ts : Addr → Value → Option Addr → TS} {l : List (Value × Nat × (Addr → Value → Option Addr → TS))} {α : Type} [Rp α] {x : α} (h : PySem.W.exmOne K (.ref (He.ga K cls)) cv = some true) (hj : j < s.length)
    (k : ∀ a dd : Addr, Run K c (ts a (.ref (He.ga K cls)) (some dd)) { nx := fun σ' H' => D.nx (σ'.set j none) H', rt := D.rt, bk := fun σ' H' => D.bk (σ'.set j none) H', ct := fun σ' H' => D.ct (σ'.set j none) H' } (s.set j (.d (Exv.mk (f := f) a dd x))) o) :
    XcS K c (wManyAs K Wout D ((cv, j, ts) :: l)) cls [(f, .d x)] s o :=
  fun as G σ H A dx fvs e fk => ⟨true, h, fun _ a na => by
    obtain ⟨v, rfl, hv⟩ : ∃ v, fvs = [(f, v)] ∧ Rp.rep K G v x := by
      match fvs, fk with
      | [(g, v)], ⟨h1, h2, _⟩ => exact ⟨v, by rw [show g = f from h1], h2⟩
    exact k a dx as G _ H (A.set hj (show VOk K as G (.ref a) (.d (Exv.mk (f := f) a dx x)) from ⟨rfl, v, e, hv⟩)), fun z => Bool.noConfusion z⟩
theorem er_byX {α : Type} [Rp α] {x : α} {a dd : Addr} (h : ER K c te s o s1 o1 (.d (Exv.mk (f := f) a dd x))) : ER K c (tByX (He.ga K cls) f a (.ref (He.ga K cls)) (some dd) te) s o s1 o1 (.d x) := fun as G σ H A Q q =>
  h as G σ H A _ fun v as1 G1 H1 p1 l1 A1 hv => by
    obtain ⟨e, w, h1, h2⟩ := (show Rp.rep K G1 v (Exv.mk (f := f) a dd x) from hv)
    exact ⟨e, rfl, dd, w, rfl, A1.sub _ _ h1, q w as1 G1 H1 p1 l1 A1 h2⟩
/-! ### match -/
theorem s_match {x : Str} {tc : V → TS} (h : ER K c te s o s1 o1 (.d x)) (k : Run K c (tc (.str x)) D s1 o1) : Run K c (tMatch te tc) D s o := fun as G σ H A =>
  h as G σ H A _ fun v as1 G1 H1 p1 l1 A1 hv => by
    rw [show v = .str x from hv]
    exact k as1 G1 σ H1 A1
theorem s_case {x k : Str} {r : V → TS} (h1 : x = k → Run K c t D s o) (h2 : x ≠ k → Run K c (r (.str x)) D s o) : Run K c (tCase k t r (.str x)) D s o := fun as G σ H A => ⟨x, rfl, by
  by_cases q : x = k
  · rw [if_pos q]; exact h1 q as G σ H A
  · rw [if_neg q]; exact h2 q as G σ H A⟩
/-! ### plain instances, constants -/
/-- an instance without attributes of its own -/
structure Ob0 where
  cls : Str
instance : Rp Ob0 := ⟨fun K G v x => ∃ a dx, v = .ref a ∧ G a = some (.ins (He.ga K x.cls) dx []), fun l ⟨a, dx, e, h⟩ => ⟨a, dx, e, l _ _ h⟩⟩
theorem er_make0 {C : Str} : ER K c (tMake0 (He.ga K C)) s o s o (.d (Ob0.mk C)) := fun as G σ H A Q q x dx hx hd ne => by
  have A1 := A.newD (o := .own x) hd
  have hx1 : upd H dx (.own x) x = none := by rw [upd_ne (Ne.symm ne)]; exact hx
  have A2 := A1.newD (o := .ins (He.ga K C) dx []) hx1
  have l1 : Le G (upd G dx (.own x)) := Le.upd (A.sub.free hd)
  have l2 : Le (upd G dx (.own x)) (upd (upd G dx (.own x)) x (.ins (He.ga K C) dx [])) := Le.upd (A1.sub.free hx1)
  exact q _ as _ _ (Pre.refl _) (l1.trans l2) A2 ⟨x, dx, rfl, upd_same⟩
theorem er_con {C : Str} {b : Bool} {u : Value} (h : ER K c te s o s1 o1 (.d (Ob0.mk C))) (cl : Cls K (He.ga K C)) (k : Con K (He.ga K C) f (.bl b) u) : ER K c (tCon K te f) s o s1 o1 (.d b) := fun as G σ H A Q q =>
  h as G σ H A _ fun v as1 G1 H1 p1 l1 A1 hv => by
    obtain ⟨a, dx, e, h1⟩ := (show Rp.rep K G1 v (Ob0.mk C) from hv)
    exact ⟨a, _, dx, [], .bl b, u, e, A1.sub _ _ h1, cl, k, rfl, q _ as1 G1 H1 p1 l1 A1 rfl⟩
/-- a module's tuple of texts -/
theorem reps_str {xs : List Str} : Reps K G (xs.map V.str) xs := by
  induction xs with
  | nil => exact .nil
  | cons x xs ih => exact .cons rfl ih
theorem er_gtup {a : Addr} {vs : List V} {xs : List Str} (h : ∀ H : Hp, SqT K H a vs) (e : vs = xs.map V.str) : ER K c (tC (.ref a)) s o s o (.d (Tup.mk xs)) := er_v fun as G => ⟨a, vs, rfl, h G, by rw [e]; exact reps_str⟩
end
end VL

set_option maxHeartbeats 4000000
/-! THE VALUE LAYER 8: options, deep ==, types, bits, displays, two names at once. -/
namespace VL
open PySem PySem.Spec PyProof.Rows L2
section
variable {X : Cx} {x : Str} {k k' : Nat} {ps : List Str} {F : FS} {E : L2.St → XK} {p pos : Pos} {e : Expr} {es : List Expr} {t : TA}
theorem pe_goodS (g : Good X.prog X.w X.K X.mg X.base x k ps F) (hr : Room k' X.A) (hk : k ≤ k') (hg : Gl X x) (hx : ∀ σ, PassesAt (L2.CX X.prog X.w) X σ (E σ)) (ha : PA X (e :: es) t) (hdb : (x == ("__debug__" : Str)) = false := by decide)
    (he : starEach (e :: es) X.env = (false, eval e X.env) :: starEach es X.env := by rfl) (hpl : (backTo pos (starEach es X.env)).any (·.1) = false := by rfl) : PE X (.Call (.Name x p) (e :: es) [] pos) (tCallS (spOf X.K F) E t) := by
  obtain ⟨f, fd, h1, h2, h3, h4⟩ := g.ex
  exact pe_callS h1 (hr.mono hk) hg h2 h3 h4 hx ha hdb he hpl
end
section
variable {K : Fg} {c : Cx0} {as : List Addr} {G H : Hp} {σ : L2.St} {s s1 s2 s' : List Slot} {o o1 o2 os : List Cont} {r r1 r2 : Slot} {rs : List Slot} {ta : TA} {te tb : TE} {D : Ends} {t u : TS} {i j : Nat}
/-! ### options -/
theorem er_some {α : Type} [Rp α] {x : α} (h : ER K c te s o s1 o1 (.d x)) : ER K c te s o s1 o1 (.d (some x)) := h
theorem er_none {α : Type} [Rp α] (h : ER K c te s o s1 o1 (.d ())) : ER K c te s o s1 o1 (.d (none : Option α)) := h
theorem er_inl {α β : Type} [Rp α] [Rp β] {x : α} (h : ER K c te s o s1 o1 (.d x)) : ER K c te s o s1 o1 (.d (Sum.inl x : Sum α β)) := h
theorem er_inr {α β : Type} [Rp α] [Rp β] {x : β} (h : ER K c te s o s1 o1 (.d x)) : ER K c te s o s1 o1 (.d (Sum.inr x : Sum α β)) := h
theorem ov_eqOO {x y : Option Int} : OV K c (uEq K) s o (.d x) (.d y) s o (.d (decide (x = y))) := ov_of fun as G H u v _ h1 h2 Q q => by
  have sc : ∀ x : Option Int, ∀ u : V, Rp.rep K G u x → u = (match x with | none => V.non | some i => V.int i) := fun x u h => by cases x <;> exact h
  rw [sc x u h1, sc y v h2]
  cases x <;> cases y <;> exact .inl ⟨rfl, q _ (by show V.bl _ = V.bl _; simp)⟩
theorem ov_eqOs {x y : Int} : OV K c (uEq K) s o (.d (some x)) (.d y) s o (.d (decide (x = y))) := ov_eq (x := x) (y := y)
theorem ov_eqsO {x y : Int} : OV K c (uEq K) s o (.d x) (.d (some y)) s o (.d (decide (x = y))) := ov_eq (x := x) (y := y)
theorem ov_eqss {x y : Int} : OV K c (uEq K) s o (.d (some x)) (.d (some y)) s o (.d (decide (x = y))) := ov_eq (x := x) (y := y)
theorem ov_ltO {x y : Int} : OV K c uLt s o (.d x) (.d (some y)) s o (.d (decide (x < y))) := ov_lt
theorem ov_leO {x y : Int} : OV K c uLe s o (.d (some x)) (.d y) s o (.d (decide (x ≤ y))) := ov_le
theorem ov_gtO {x y : Int} : OV K c uGt s o (.d (some x)) (.d y) s o (.d (decide (y < x))) := ov_gt
/-! ### data of any depth: == -/
class Deep (α : Type) extends Rp α where
  dat : α → PyData
  dp : ∀ (K : Fg) (G H : Hp) (v : V) (x : α), Le G H → Rp.rep K G v x → Dp K H v (dat x)
instance : Deep Int := ⟨.int, fun _ _ _ v x _ h => by rw [show v = .int x from h]; exact .int x⟩
instance : Deep Bool := ⟨.bool, fun _ _ _ v x _ h => by rw [show v = .bl x from h]; exact .bl x⟩
instance : Deep Str := ⟨.str, fun _ _ _ v x _ h => by rw [show v = .str x from h]; exact .str x⟩
instance : Deep Unit := ⟨fun _ => .none, fun _ _ _ v x _ h => by rw [show v = .non from h]; exact .non⟩
instance {α : Type} [Deep α] : Deep (Option α) where
  dat := fun x => match x with | none => .none | some x => Deep.dat x
  dp := fun K G H v x l h => by
    cases x with
    | none => rw [show v = .non from h]; exact .non
    | some x => exact Deep.dp K G H v x l h
instance {α β : Type} [Deep α] [Deep β] : Deep (Sum α β) where
  dat := fun x => match x with | .inl x => Deep.dat x | .inr x => Deep.dat x
  dp := fun K G H v x l h => by
    cases x with
    | inl x => exact Deep.dp K G H v x l h
    | inr x => exact Deep.dp K G H v x l h
theorem dp_all {α : Type} [Deep α] {G H : Hp} (l : Le G H) {vs : List V} {xs : List α} (h : Reps K G vs xs) : DpAll K H vs (xs.map Deep.dat) := by
  induction h with
  | nil => exact .nil
  | cons r t ih => exact .cons (Deep.dp K G H _ _ l r) ih
instance {α : Type} [Deep α] : Deep (List α) where
  dat := fun xs => .list (xs.map Deep.dat)
  dp := fun K G H v x l h => by
    obtain ⟨a, vs, e, hs, hr⟩ := h
    rw [e]; exact .lst (l.sqL hs) (dp_all l hr)
instance {α : Type} [Deep α] : Deep (Tup α) where
  dat := fun xs => .tuple (xs.l.map Deep.dat)
  dp := fun K G H v x l h => by
    obtain ⟨a, vs, e, hs, hr⟩ := h
    rw [e]; exact .tup (l.sqT hs) (dp_all l hr)
instance {α β : Type} [Deep α] [Deep β] : Deep (T2 α β) where
  dat := fun x => .tuple [Deep.dat x.a, Deep.dat x.b]
  dp := fun K G H v x l h => by
    obtain ⟨t, v1, v2, e, hs, r1, r2⟩ := h
    rw [e]; exact .tup (l.sqT hs) (.cons (Deep.dp K G H _ _ l r1) (.cons (Deep.dp K G H _ _ l r2) .nil))
instance {α β γ : Type} [Deep α] [Deep β] [Deep γ] : Deep (T3 α β γ) where
  dat := fun x => .tuple [Deep.dat x.a, Deep.dat x.b, Deep.dat x.c]
  dp := fun K G H v x l h => by
    obtain ⟨t, v1, v2, v3, e, hs, r1, r2, r3⟩ := h
    rw [e]; exact .tup (l.sqT hs) (.cons (Deep.dp K G H _ _ l r1) (.cons (Deep.dp K G H _ _ l r2) (.cons (Deep.dp K G H _ _ l r3) .nil)))
theorem ov_eqD {α β : Type} [Deep α] [Deep β] {x : α} {y : β} {b : Bool} (h1 : SeqAt.shaped (Deep.dat x) = true) (h2 : SeqAt.shaped (Deep.dat y) = true) (h : PyData.eqv (Deep.dat x) (Deep.dat y) = b) : OV K c (uEq K) s o (.d x) (.d y) s o (.d b) := ov_of fun as G H u v l r1 r2 Q q =>
  .inr ⟨_, _, Deep.dp K G H u x l r1, Deep.dp K G H v y l r2, h1, h2, q _ (by rw [h]; rfl)⟩
theorem ov_neD {α β : Type} [Deep α] [Deep β] {x : α} {y : β} {b : Bool} (h1 : SeqAt.shaped (Deep.dat x) = true) (h2 : SeqAt.shaped (Deep.dat y) = true) (h : (!PyData.eqv (Deep.dat x) (Deep.dat y)) = b) : OV K c (uNe K) s o (.d x) (.d y) s o (.d b) := ov_of fun as G H u v l r1 r2 Q q =>
  .inr ⟨_, _, Deep.dp K G H u x l r1, Deep.dp K G H v y l r2, h1, h2, q _ (by rw [h]; rfl)⟩
/-! ### types -/
structure TyC where
  n : String
instance : Rp TyC := ⟨fun _ _ v x => v = .ty x.n, fun _ h => h⟩
theorem er_ty {n : String} : ER K c (tC (.ty n)) s o s o (.d (TyC.mk n)) := er_v fun _ _ => rfl
class TyN (α : Type) extends Rp α where
  ty : String
  ok : ∀ (K : Fg) (G H : Hp) (v : V) (x : α), Le G H → Rp.rep K G v x → TyX K H v (.type ty)
instance : TyN Int := ⟨"int", fun _ _ _ v x _ h => by rw [show v = .int x from h]; exact .base (.int x)⟩
instance : TyN Bool := ⟨"bool", fun _ _ _ v x _ h => by rw [show v = .bl x from h]; exact .base (.bl x)⟩
instance : TyN Str := ⟨"str", fun _ _ _ v x _ h => by rw [show v = .str x from h]; exact .base (.str x)⟩
instance : TyN Unit := ⟨"NoneType", fun _ _ _ v x _ h => by rw [show v = .non from h]; exact .base .non⟩
theorem tyL {H : Hp} {a : Addr} {vs : List V} (h : SqL K H a vs) : TyX K H (.ref a) (.type "list") := by
  rcases h with h | h
  · rcases h with h | ⟨ob, h⟩
    · exact .base (.lst h)
    · exact .base (.frz h)
  · obtain ⟨oc, its, n, e, h1, h2, h3, h4⟩ := h
    exact .kList e (by assumption)
theorem tyT {H : Hp} {a : Addr} {vs : List V} (h : SqT K H a vs) : TyX K H (.ref a) (.type "tuple") := by
  rcases h with h | h
  · rcases h with h | ⟨ob, h⟩
    · exact .base (.tup h)
    · exact .fTuple h
  · obtain ⟨oc, its, n, e, h1⟩ := h
    exact .kTuple e (by first | assumption | exact h1.1 | exact h1.2.1)
instance {α : Type} [Rp α] : TyN (List α) where
  ty := "list"
  ok := fun K G H v x l h => by
    obtain ⟨a, vs, e, hs, hr⟩ := h
    rw [e]; exact tyL (l.sqL hs)
instance {α : Type} [Rp α] : TyN (Tup α) where
  ty := "tuple"
  ok := fun K G H v x l h => by
    obtain ⟨a, vs, e, hs, hr⟩ := h
    rw [e]; exact tyT (l.sqT hs)
instance {α β : Type} [Rp α] [Rp β] : TyN (T2 α β) where
  ty := "tuple"
  ok := fun K G H v x l h => by
    obtain ⟨t, v1, v2, e, hs, r1, r2⟩ := h
    rw [e]; exact tyT (l.sqT hs)
instance {α β γ : Type} [Rp α] [Rp β] [Rp γ] : TyN (T3 α β γ) where
  ty := "tuple"
  ok := fun K G H v x l h => by
    obtain ⟨t, v1, v2, v3, e, hs, r1, r2, r3⟩ := h
    rw [e]; exact tyT (l.sqT hs)
theorem cv_isi {α : Type} [TyN α] {x : α} {n : String} {b : Bool} (h : PySem.W.kitOne K (.type (TyN.ty α)) (.type n) = some b) : CV K c (rIsi K) s o [.d x, .d (TyC.mk n)] s o (.d b) := cv_of fun as G σ H vs A hv Q q => by
  obtain ⟨v, w, rfl, h1, h2⟩ := hv.two
  exact ⟨v, w, _, _, b, rfl, by rw [show w = .ty n from h2]; exact .ty n, TyN.ok K G H v x A.sub h1, h, q _ rfl⟩
theorem cv_isiP {α : Type} [Rp α] {xs : List α} {k : Nat} {n : String} {b : Bool} (hk : cget o k = .lst xs) (h : PySem.W.kitOne K (.type "list") (.type n) = some b) : CV K c (rIsi K) s o [.p k, .d (TyC.mk n)] s o (.d b) := cv_of fun as G σ H vs A hv Q q => by
  obtain ⟨v, w, rfl, h1, h2⟩ := hv.two
  obtain ⟨a, ha, rfl⟩ := h1
  obtain ⟨vs, e, hr⟩ := at_list A ha hk
  exact ⟨_, w, _, _, b, rfl, by rw [show w = .ty n from h2]; exact .ty n, .base (.lst e), h, q _ rfl⟩
/-! ### bits -/
def bitsI (x : Int) : Int := if x = 0 then 0 else (x.natAbs.log2 : Int) + 1
theorem er_bits {x : Int} (h : ER K c te s o s1 o1 (.d x)) : ER K c (tBits te) s o s1 o1 (.d (bitsI x)) := fun as G σ H A Q q => h as G σ H A _ fun v as1 G1 H1 p1 l1 A1 hv => ⟨x, hv, q _ as1 G1 H1 p1 l1 A1 (by
  show V.int _ = V.int _
  unfold Builtin.Int.intBits bitsI
  by_cases e : x = 0
  · subst e; rfl
  · have e2 : (x == 0) = false := by simpa using e
    rw [e2, if_neg e]; simp)⟩
/-! ### two names at once -/
theorem s_par (h : EA K c ta s o s1 o1 [r1, r2]) (hi : i < s1.length) (hj : j < s1.length) (k : Go K c D.nx ((s1.set i r1).set j r2) o1) : Run K c (tPar i j ta) D s o := fun as G σ H A =>
  h as G σ H A _ fun vs as1 G1 H1 p1 l1 A1 hv => by
    obtain ⟨v, w, rfl, h1, h2⟩ := hv.two
    exact ⟨v, w, rfl, k as1 G1 _ H1 ((A1.set hi h1).set (by simpa using hj) h2)⟩
theorem q_par (h : EA K c ta s o s1 o1 [r1, r2]) (hi : i < s1.length) (hj : j < s1.length) (k : Run K c u D ((s1.set i r1).set j r2) o1) : Run K c (tSeq (tPar i j ta) u) D s o := s_par (D := { D with nx := u D }) h hi hj k
/-! ### displays -/
inductive AllD {α : Type} [Rp α] : List Slot → List α → Prop
  | nil : AllD [] []
  | cons {r : Slot} {x : α} {rs : List Slot} {xs : List α} (h : ∀ K as G v, VOk K as G v r → Rp.rep K G v x) (t : AllD rs xs) : AllD (r :: rs) (x :: xs)
theorem AllD.d {α : Type} [Rp α] {x : α} {rs : List Slot} {xs : List α} (t : AllD rs xs) : AllD (.d x :: rs) (x :: xs) := .cons (fun _ _ _ _ h => h) t
theorem AllD.vs {α : Type} [Rp α] {rs : List Slot} {xs : List α} (t : AllD rs xs) : ∀ {vs : List V}, VsOk K as G vs rs → VsOk K as G vs (sl xs) := by
  induction t with
  | nil => intro vs h; cases h; exact .nil
  | cons h t ih => intro vs hv; cases hv with | cons a b => exact .cons (h _ _ _ _ a) (ih b)
theorem EA.all {α : Type} [Rp α] {xs : List α} (h : EA K c ta s o s1 o1 rs) (d : AllD rs xs) : EA K c ta s o s1 o1 (sl xs) := fun as G σ H A Q q => h as G σ H A _ fun vs as1 G1 H1 p1 l1 A1 h1 => q vs as1 G1 H1 p1 l1 A1 (d.vs h1)
theorem er_tupA {α : Type} [Rp α] {xs : List α} (h : EA K c ta s o s1 o1 rs) (d : AllD rs xs) (hl : xs.length ≤ sizeLine) : ER K c (tTup ta) s o s1 o1 (.d (Tup.mk xs)) := er_tup (h.all d) hl
theorem er_lstA {α : Type} [Rp α] {xs : List α} (h : EA K c ta s o s1 o1 rs) (d : AllD rs xs) (hl : xs.length ≤ sizeLine) : ER K c (tLst ta) s o s1 (o1 ++ [.lst xs]) (.p o1.length) := er_lst (h.all d) hl
theorem er_lstAD {α : Type} [Rp α] {xs : List α} (h : EA K c ta s o s1 o1 rs) (d : AllD rs xs) (hl : xs.length ≤ sizeLine) : ER K c (tLst ta) s o s1 o1 (.d xs) := er_lstD (h.all d) hl
/-- a walk over data: a list or a tuple -/
theorem ei_seqD {α : Type} [Rp α] {xs : List α} (h : ER K c te s o s1 o1 (.d xs)) : EI K c (iSeq K te) s o s1 o1 xs (fun _ => True) := fun as G σ H A R q => .inl (ei_data h as G σ H A R q)
theorem ei_seqT {α : Type} [Rp α] {xs : List α} (h : ER K c te s o s1 o1 (.d (Tup.mk xs))) : EI K c (iSeq K te) s o s1 o1 xs (fun _ => True) := fun as G σ H A R q => .inr (ei_tup h as G σ H A R q)
theorem ei_seqP {α : Type} [Rp α] {xs : List α} {k : Nat} (h : ER K c te s o s1 o1 (.p k)) (hk : cget o1 k = .lst xs) : EI K c (iSeq K te) s o s1 o1 xs (fun o => cget o k = .lst xs) := fun as G σ H A R q => .inl (ei_store h hk as G σ H A R q)
end
end VL

set_option maxHeartbeats 4000000
/-! THE HEAD'S HOOK: defs, facts, any test of the written part, own exceptions. -/
namespace HV
open PySem PySem.Spec PyProof.Rows L2 VL
abbrev FnS : Type := Option (Str × Str × Arguments × FuncBody × Scope × Addr × List Str × Value × Addr)
def fnS (K : Fg) (C : Str) : FnS := match K.lookup (He.ma K (He.ga K C) "__init__") with
  | some ⟨_, _, .func fd, _⟩ => some (fd.name, fd.qualname, fd.params, fd.body, fd.scope, fd.globals, fd.closure.map (·.1), fd.defaults, fd.builtins)
  | _ => none
def sVal (S : SX.Shape) : FnS := some ("__init__", S.qual, S.params, .stmts S.body, S.scope, mainGlobals, [("__class__" : Str)], .none, builtinsNs)
def clsB (K : Fg) (C : Addr) : Bool := match PySem.W.clsIn K C with
  | some cd => HandSPX.refsVE cd.mro && cd.hasDict
  | none => false
def codB (file : Str) (K : Fg) (C : Addr) (q : Str) : Bool := match K.lookup (He.ma K C "__init__") with
  | some ⟨_, _, .func fd, _⟩ => PySem.W.codeIn K fd.code q && ((match fd.code with
    | .ref a => (match K.lookup a with
      | some ⟨_, _, .fields vs, _⟩ => (match (vs[2]? : Option Value) with
        | some (.str f _) => file == f
        | _ => false)
      | _ => false)
    | _ => false) && (match fd.closure with
    | [(_, cc)] => (match K.lookup cc with
      | some ⟨_, _, .cell (some (.ref D)), _⟩ => D == C
      | _ => false)
    | _ => false))
  | _ => false
/-- what is asked of the class -/
def sxB (file : Str) (K : Fg) (S : SX.Shape) : Bool :=
  PySem.W.excInitIn K (He.ga K S.cls) He.veBase "ValueError.__new__" && (clsB K (He.ga K S.cls) && (He.eqO (PySem.W.findIn K (.ref (He.ga K S.cls)) "__setattr__") (some (some (.builtin "object.__setattr__"))) &&
  (He.eqO (PySem.W.findIn K (.ref (He.ga K S.cls)) "__getattribute__") (some (some (.builtin "BaseException.__getattribute__"))) && (He.eqO (PySem.W.findIn K (.ref (He.ga K S.cls)) "__getattr__") (some none) &&
  (He.eqO (PySem.W.findIn K (.ref (He.ga K S.cls)) S.f) (some none) && (He.eqO (PySem.W.findIn K (.ref (He.ga K S.cls)) "__init__") (some (some (.ref (He.ma K (He.ga K S.cls) "__init__")))) &&
  (decide (PySem.W.typeIn K (.ref (He.ma K (He.ga K S.cls) "__init__")) = some (.type "function")) && (PySem.W.keepIn K (.ref (He.ga K S.cls)) && (decide (PySem.W.subIn K (.ref (He.ga K S.cls)) (.type "BaseException") = some true) &&
  (decide (PySem.W.typeIn K (.ref (He.ga K S.cls)) = some (.type "type")) && (PySem.W.hasDictIn K (He.ga K S.cls) && (He.eqO (PySem.W.ks_superIn K (He.ga K S.cls) (He.ga K S.cls) "__init__") (some (some (.builtin "ValueError.__init__"))) &&
  (decide (PySem.W.subIn K (.ref (He.ga K S.cls)) (.type "ValueError") = some true) && (decide (PySem.W.mroIn K (He.ga K S.cls) (.ref (He.ga K S.cls)) = some true) && (He.eqO (PySem.W.nsIn K PySem.cStatics "thirdparty.any") (some none) &&
  (He.eqO (PySem.W.nsIn K mainGlobals "super") (some none) && codB file K (He.ga K S.cls) S.qual))))))))))))))))
theorem sx_ok {P : Program} {K : Fg} {S : SX.Shape} (I : SX.Ini S) (hm : (P.main.scope.names.lookup ("super" : Str)).isSome = false) (e : fnS K S.cls = sVal S) (c : sxB P.main.file K S = true) : SX.Txt P K (He.ga K S.cls) S := by
  obtain ⟨c1, c⟩ := He.ba c
  obtain ⟨c2, c⟩ := He.ba c
  obtain ⟨c3, c⟩ := He.ba c
  obtain ⟨c4, c⟩ := He.ba c
  obtain ⟨c5, c⟩ := He.ba c
  obtain ⟨c6, c⟩ := He.ba c
  obtain ⟨c7, c⟩ := He.ba c
  obtain ⟨c8, c⟩ := He.ba c
  obtain ⟨c9, c⟩ := He.ba c
  obtain ⟨c10, c⟩ := He.ba c
  obtain ⟨c11, c⟩ := He.ba c
  obtain ⟨c12, c⟩ := He.ba c
  obtain ⟨c13, c⟩ := He.ba c
  obtain ⟨c14, c⟩ := He.ba c
  obtain ⟨c15, c⟩ := He.ba c
  obtain ⟨c16, c⟩ := He.ba c
  obtain ⟨c17, c18⟩ := He.ba c
  refine ⟨I, c1, ?_, He.eqO_ok c3, He.eqO_ok c4, He.eqO_ok c5, He.eqO_ok c6, He.eqO_ok c7, of_decide_eq_true c8, c9, of_decide_eq_true c10, of_decide_eq_true c11, c12, He.eqO_ok c13, of_decide_eq_true c14, of_decide_eq_true c15, He.eqO_ok c16, He.eqO_ok c17, hm, ?_⟩
  · unfold clsB at c2
    split at c2
    · rename_i cd q
      obtain ⟨d1, d2⟩ := He.ba c2
      exact ⟨cd, q, d1, d2⟩
    · cases c2
  · unfold fnS at e
    unfold codB at c18
    generalize q : K.lookup (He.ma K (He.ga K S.cls) "__init__") = o at e c18
    cases o with
    | none => cases c18
    | some ob =>
      obtain ⟨oc, od, dt, osl⟩ := ob
      cases dt with
      | func fd =>
        obtain ⟨n1, n2, n3, n4, n5, n6, n7, n8, n9, n10, n11, n12, n13, n14, n15⟩ := fd
        have e2 : (some (n1, n2, n3, n4, n5, n6, n7.map (·.1), n8, n15) : FnS) = sVal S := e
        unfold sVal at e2
        simp only [Option.some.injEq, Prod.mk.injEq] at e2
        obtain ⟨h1, h2, h3, h4, h5, h6, h7, h8, h9⟩ := e2
        subst h1 h2 h3 h4 h5 h6 h8 h9
        obtain ⟨d1, d2⟩ := He.ba (show (PySem.W.codeIn K n13 S.qual && _) = true from c18)
        obtain ⟨d2, d3⟩ := He.ba d2
        dsimp only at d2 d3
        match n7, h7, d3, q with
        | [(a, cc)], h7, d3, q =>
          have ha : a = "__class__" := by simpa using h7
          subst ha
          match n13, d1, d2, q with
          | .ref cda, d1, d2, q =>
            refine ⟨oc, _, _, _, _, od, _, cda, cc, osl, rfl, d1, ?_, ?_⟩
            · dsimp only at d2
              split at d2
              · rename_i cl dd vs ss q2
                split at d2
                · rename_i f tf q3
                  exact ⟨_, _, vs, _, f, tf, q2, q3, by first | exact d2 | exact (He.ba d2).1⟩
                · cases d2
              · cases d2
            · dsimp only at d3
              split at d3
              · rename_i cl dd D ss q2
                have eD : D = He.ga K S.cls := beq_iff_eq.mp d3
                subst eD
                exact ⟨_, _, _, q2⟩
              · cases d3
        | [], h7, d3, q => cases d3
        | _ :: _ :: _, h7, d3, q => cases d3
      | _ => cases c18
/-! ### the Hook -/
abbrev AlV : Type := He.AlD × Bool × List FnS
def frV (n : Nat) (g : Addr → Option Obj) : Fg := He.frG g (PySem.cStatics :: He.asD g n)
def obsV (fa : List He.Fa) (fn : List He.DefD) (sx : List SX.Shape) (ex : Fg → Bool) (K : Fg) : AlV := (He.obsD fa fn K, ex K, sx.map fun S => fnS K S.cls)
def valV (fn : List He.DefD) (sx : List SX.Shape) : AlV := (He.valD fn, true, sx.map sVal)
def obsVG (n : Nat) (fa : List He.Fa) (fn : List He.DefD) (sx : List SX.Shape) (ex : Fg → Bool) (g : Addr → Option Obj) : AlV := obsV fa fn sx ex (frV n g)
structure SaysV (fa : List He.Fa) (fn : List He.DefD) (sx : List SX.Shape) (ex : Fg → Bool) (K : Fg) : Prop where
  eq : obsV fa fn sx ex K = valV fn sx
def hookV (n : Nat) (fa : List He.Fa) (fn : List He.DefD) (sx : List SX.Shape) (ex : Fg → Bool) : PySem.W.Hook where
  α := AlV
  obs := fun s => obsVG n fa fn sx ex s.heap.get?
  val := fun _ => valV fn sx
  says := fun _ h => ∃ K : PySem.W.Frag, K.In h ∧ SaysV fa fn sx ex K
  of := fun _ _ e => ⟨_, He.frG_in, ⟨e⟩⟩
  keeps := fun _ _ _ ⟨K, hK, c⟩ k => ⟨K, PySem.W.Frag.In.keeps hK k, c⟩
theorem obsVG_eq {n : Nat} {fa : List He.Fa} {fn : List He.DefD} {sx : List SX.Shape} {ex : Fg → Bool} {g : Addr → Option Obj} {s : Shared} (h : ∀ a, g a = s.heap.get? a) : obsVG n fa fn sx ex g = (hookV n fa fn sx ex).obs s := by
  have e : g = s.heap.get? := funext h
  rw [e] <;> rfl
section
variable {fa : List He.Fa} {fn : List He.DefD} {sx : List SX.Shape} {ex : Fg → Bool} {K : Fg}
theorem SaysV.d (c : SaysV fa fn sx ex K) : He.SaysD fa fn K := congrArg (fun z : AlV => z.1) c.eq
theorem SaysV.e (c : SaysV fa fn sx ex K) : ex K = true := congrArg (fun z : AlV => z.2.1) c.eq
theorem SaysV.shp (c : SaysV fa fn sx ex K) (i : Nat) {S : SX.Shape} (h : sx[i]? = some S := by rfl) : fnS K S.cls = sVal S := by
  have e : (sx.map fun S => fnS K S.cls) = sx.map sVal := congrArg (fun z : AlV => z.2.2) c.eq
  have e2 : (sx.map fun S => fnS K S.cls)[i]? = (sx.map sVal)[i]? := by rw [e]
  rw [List.getElem?_map, List.getElem?_map, h] at e2
  exact Option.some.inj e2
end
def mk0B (K : Fg) (C : Addr) : Bool := PySem.W.makesIn K C && (He.eqO (PySem.W.findIn K (.ref C) "__init__") (some (some (.builtin "object.__init__"))) && (decide (PySem.W.mroIn K C (.type "object") = some true) && PySem.W.keepIn K (.ref C)))
theorem mk0_ok {K : Fg} {C : Addr} (h : mk0B K C = true) : Mk0 K C := by
  obtain ⟨c1, c⟩ := He.ba h
  obtain ⟨c2, c⟩ := He.ba c
  obtain ⟨c3, c4⟩ := He.ba c
  exact ⟨c1, He.eqO_ok c2, of_decide_eq_true c3, c4⟩
/-- a list of tests -/
def allB : List (Fg → Bool) → Fg → Bool
  | [], _ => true
  | p :: r, K => p K && allB r K
theorem allB_at {l : List (Fg → Bool)} {K : Fg} (h : allB l K = true) (i : Nat) {p : Fg → Bool} (e : l[i]? = some p := by rfl) : p K = true := by
  induction l generalizing i with
  | nil => simp at e
  | cons q l ih =>
    obtain ⟨h1, h2⟩ := He.ba h
    cases i with
    | zero => have := Option.some.inj e; rw [← this]; exact h1
    | succ i => exact ih h2 i e
end HV

set_option maxHeartbeats 4000000
/-! THE VALUE LAYER 9: calls with data only, calls whose answer is one of many, tries, the law's end. -/
namespace VL
open PySem PySem.Spec PyProof.Rows L2
def tTryM (K : Fg) (tb : WX → TS) (Wout : WX) (l : List (Value × Nat × (Addr → Value → Option Addr → TS))) : TS := fun D σ H => tb (wManyAs K Wout D l) D σ H
theorem ps_tryM {X : Cx} {body : List Stmt} {h₀ : ExceptHandler} {hds : List ExceptHandler} {l : List (Value × Nat × (Addr → Value → Option Addr → TS))} {pos : Pos} {tb : WX → TS} {Wout : WX} (hs : X.stack = X.env :: X.outer) (hf : X.env.frame = some X.env.locals) (hN : X.N.Nodup) (tk : Takes X Wout)
    (hb : ∀ (W : WX) (pn : List (Addr × Obj)) (xe : Value → Shared → Prop), Takes (X.tr pn xe) W → PassesOwn (model X.prog X.w) X.A X.env xe → PSs (X.tr pn xe) body (tb W))
    (hh : HdsAs X (h₀ :: hds) l) : PS X (.Try body (h₀ :: hds) [] [] pos) (tTryM X.K tb Wout l) := ps_try_manyAs hs hf hN tk hb hh
section
variable {K : Fg} {c : Cx0} {as : List Addr} {G H : Hp} {σ : L2.St} {s s1 s2 s' : List Slot} {o o1 o2 os : List Cont} {r r1 r2 : Slot} {rs : List Slot} {ta : TA} {te tb : TE} {D : Ends} {t u : TS} {i j : Nat} {F : FS} {E : XK} {W : WX}
theorem s_try {tb : WX → TS} {Wout : WX} {l : List (Value × Nat × (Addr → Value → Option Addr → TS))} (h : Run K c (tb (wManyAs K Wout D l)) D s o) : Run K c (tTryM K tb Wout l) D s o := h
/-- data in, data out -/
theorem er_callD {α : Type} [Rp α] {x : α} (h : EA K c ta s o s1 o1 rs) (hF : ∀ (R : RT) (X : XT), R (.d x) [] → F rs [] R X) (hd : rs.all (fun q => match q with | .p _ => false | _ => true) = true := by rfl) : ER K c (tCall (spOf K F) [] E ta) s o s1 o1 (.d x) := by
  have z := er_call (E := E) h hF hd rfl
  rw [List.append_nil] at z
  exact z
theorem er_callSD {α : Type} [Rp α] {x : α} (h : EA K c ta s o s1 o1 rs) (hF : ∀ (R : RT) (X : XT), R (.d x) [] → F rs [] R X) (hd : rs.all (fun q => match q with | .p _ => false | _ => true) = true := by rfl) : ER K c (tCallS (spOf K F) (WE W) ta) s o s1 o1 (.d x) := by
  have z := er_callS (W := W) h hF hd rfl
  rw [List.append_nil] at z
  exact z
/-- one container in (the caller's k), it stands behind, data out -/
theorem er_callD1 {α : Type} [Rp α] {x : α} {k : Nat} {ct ct' : Cont} {rs' : List Slot} (h : EA K c ta s o s1 o1 rs') (hF : ∀ (R : RT) (X : XT), R (.d x) [ct'] → F rs [ct] R X) (hk : k < o1.length) (hct : cget o1 k = ct) (hl : ct.flat = true) (hfl : ct'.flat = true)
    (hrs : rs' = rs.map (slotK k)) (hp : rs.all (fun q => match q with | .p 0 => true | .p _ => false | _ => true) = true) : ER K c (tCall (spOf K F) [] E ta) s o s1 (o1.set k ct') (.d x) := by
  have z := er_call1 (E := E) (os := []) (k := k) (ct' := ct') h hF hk hct hl (by rw [List.all_cons, hfl]; rfl) hrs hp
  rw [List.append_nil] at z
  exact z
/-- the answer is one of many -/
def ERF (K : Fg) (c : Cx0) {ω : Type} (te : TE) (s : List Slot) (o : List Cont) (P : ω → Prop) (s' : ω → List Slot) (o' : ω → List Cont) (r : ω → Slot) : Prop :=
  ∀ as G σ H, Abs K c as G σ H s o → ∀ Q : VK, (∀ w, P w → ∀ v as' G' H', Pre as as' → Le G G' → Abs K c as' G' σ H' (s' w) (o' w) → VOk K as' G' v (r w) → Q v H') → te σ H Q
theorem erf_call {ω : Type} {P : ω → Prop} {os : ω → List Cont} {r : ω → Slot} (h : EA K c ta s o s1 o1 rs) (hF : ∀ (R : RT) (X : XT), (∀ w, P w → R (r w) (os w)) → F rs [] R X) (hd : rs.all (fun q => match q with | .p _ => false | _ => true) = true) (hfl : ∀ w, (os w).all Cont.flat = true) :
    ERF K c (tCall (spOf K F) [] E ta) s o P (fun _ => s1) (fun w => o1 ++ os w) (fun w => rmap o1.length [] (r w)) := fun as G σ H A Q q =>
  h as G σ H A _ fun vs as1 G1 H1 p1 l1 A1 h1 => by
    have B := A1.into (ks := []) (M := []) (os := []) (vs := vs) rfl rfl (by simp) (fun j k e => by simp at e) (vs_data h1 hd)
    rw [List.append_nil]
    refine ⟨cx1 H1 G1 [], rs, [], rfl, B, hF _ _ fun w hw => ?_⟩
    intro v asF GF σF HF sF BF hv
    obtain ⟨as', pp, A2, hr⟩ := A1.back (ks := []) BF rfl (by simp) (fun j k e => by simp at e) (fun j => by
      unfold cget
      rw [List.getD_eq_getElem?_getD]
      cases e : (os w)[j]? with
      | none => rfl
      | some ct => exact List.all_eq_true.mp (hfl w) ct (List.mem_of_getElem? e))
    rw [cput0] at A2
    exact q w hw v as' GF HF (p1.trans pp) (l1.trans BF.g0) A2 (hr v (r w) hv)
theorem q_asgF {ω : Type} {P : ω → Prop} {s' : ω → List Slot} {o' : ω → List Cont} {r : ω → Slot} (h : ERF K c te s o P s' o' r) (hi : ∀ w, i < (s' w).length) (k : ∀ w, P w → Run K c u D ((s' w).set i (r w)) (o' w)) : Run K c (tSeq (tAsg te (gName i)) u) D s o := fun as G σ H A =>
  h as G σ H A _ fun w hw v as1 G1 H1 _ _ A1 h1 => k w hw as1 G1 _ H1 (A1.set (hi w) h1)
/-- a store that may be told otherwise -/
theorem run_os (h : Run K c t D s o1) (e : o = o1) : Run K c t D s o := e ▸ h
theorem run_sl (h : Run K c t D s1 o) (e : s = s1) : Run K c t D s o := e ▸ h
end
section
variable {K : Fg} {c : Cx0} {s s1 s2 s' : List Slot} {o o1 o2 os : List Cont} {D : Ends} {t u : TS} {i j : Nat}
theorem gENil {rs : List Slot} (h : EA K c tNil s o s1 o1 rs) : EA K c tNil s o s1 o1 rs := h
theorem OsW.nil {o : List Cont} : OsW o [] := by cases o <;> trivial
theorem q_for {α ω : Type} [Rp α] {wi : TI} {tg : TG} {xs : List α} {P : List Cont → Prop} (I : Nat → ω → Prop) (f : ω → List Slot) (g : ω → List Cont) (f' : ω → α → List Slot) (h : EI K c wi s o s1 o1 xs P) (w0 : ω) (h0 : I 0 w0) (e1 : SlW s1 (f w0)) (e2 : o1 = g w0) (h1 : (f w0).all (ptS (g w0).length) = true) (h2 : (g w0).all (ptC (g w0).length) = true)
    (hP : ∀ k w, I k w → P (g w)) (hg : ∀ w x, EG K tg (.d x) (f w) (f' w x))
    (hs : ∀ c', CLe K c c' → c'.M.length = o1.length → ∀ (k : Nat) (w : ω) (x : α), xs[k]? = some x → I k w → Run K c' t { D with nx := At K c' (I (k + 1)) f g, ct := At K c' (I (k + 1)) f g, bk := u D } (f' w x) (g w))
    (hd : ∀ w, I xs.length w → Run K c u D (f w) (g w)) : Run K c (tSeq (tFor wi tg t) u) D s o := s_for (D := { D with nx := u D }) I f g f' h w0 h0 e1 e2 h1 h2 hP hg hs fun w hw => hd w hw
theorem q_while {ω : Type} {tt : TT} (I : ω → Prop) (μ : ω → Nat) (b : ω → Bool) (f : ω → List Slot) (g : ω → List Cont) (w0 : ω) (h0 : I w0) (e1 : SlW s (f w0)) (e2 : OsW o (g w0)) (hm : c.M.length ≤ (g w0).length) (h1 : (f w0).all (ptS (g w0).length) = true) (h2 : (g w0).all (ptC (g w0).length) = true)
    (hb : ∀ w, I w → ET K c tt (f w) (g w) (f w) (g w) (b w))
    (hs : ∀ w, I w → b w = true → Run K c t { D with nx := At K c (fun w' => I w' ∧ μ w' < μ w) f g, ct := At K c (fun w' => I w' ∧ μ w' < μ w) f g, bk := u D } (f w) (g w))
    (hd : ∀ w, I w → b w = false → Run K c u D (f w) (g w)) : Run K c (tSeq (tWhile tt t) u) D s o := s_while (D := { D with nx := u D }) I μ b f g w0 h0 e1 e2 hm h1 h2 hb hs fun w hw e => hd w hw e
theorem run_next {P : L2.St → Hp → Prop} {D : Ends} (h : Run K c u D s o) (e : P = u D) : Go K c P s o := e ▸ h
end
section
variable {P : Program} {w : World} {K : Fg} {mg : Str → Option Value} {base : Heap}
theorem fnok_mk {x : Str} {st : Stmt} {N ps : List Str} {k : Nat} {F : FS} {f : Addr} {fd : FuncData} (t : XK → TS) (FD : FunD K x x (defArgs st) (defBody st) (defScope st) [] [] f fd) (S : FnScope N ps (defScope st))
    (len : ∀ ss os R X, F ss os R X → ss.length = ps.length)
    (body : ∀ (cdv : Value) (A : Around) (outer : List Env) (s : Shared) (H : Hp) (E : XK), Room k (A.deeper (envOfC x (defScope st) s.heap.objs.size f cdv)) → PSs (cxOf (L2.CX P w) P w K mg base N x (defScope st) f cdv A outer s H E) (defBody st) (t E))
    (run : ∀ (c : Cx0) (ss : List Slot) (os : List Cont) (Q : VK) (E : XK), c.M.length = os.length → F ss os (Rc K c Q) (Xc K c E) → Run K c (t E) { nx := fun _ H' => Q .non H', rt := Q } (ss ++ List.replicate (N.length - ss.length) .u) os) :
    FnOk P w K mg base (L2.CX P w) (k + 1) f fd ps (spOf K F) := by
  refine FD.ok S (fun vs H Q E h => spOf.len len vs H Q E h) (fun cdv A outer s H vs Q E hr h => ⟨t E, body cdv A outer s H E hr, ?_⟩)
  exact enter h fun c ss os hM hF => run c ss os Q E hM hF
end
/-- the end, the exceptions' context by the world -/
theorem walk_ofV {l : PySem.W.OpenLaw} {n k : Nat} {q : Program} {loose : List Str} {XP : (Str → Option Value) → Heap → Prop} {YP : World → Heap → Prop} {d : DefRec} {x : Str}
    (hn : l.most = some n) (hn2 : n ≤ sizeLine) (hdf : d.params.defaults = []) (hr : Room k callerA)
    (F : ∀ (w : World) (mg : Str → Option Value) (fa : Addr) (h : Heap), YP w h → h.Ns mainGlobals mg → mg d.name = some (.ref fa) →
      ∃ (K : PySem.W.Frag) (fd : FuncData) (sp : Sp), K.In h ∧ (∀ (s : Shared) (u : Value), BindsTo s fd ⟨[u], []⟩ [(x, u)]) ∧
        (∀ (H : Hp) (a : Addr) (ns : List Int), ns.length ≤ n → Only H → SqL K H a (ns.map V.int) → sp [.ref a] H (fun v _ => v = .bl true) fun _ _ _ => False) ∧
        ∀ base : Heap, K.In base → base.Ns mainGlobals mg → FnOk l.prog w K mg base (L2.CX l.prog w) k fa fd [x] sp) :
    PySem.W.WalkO q loose XP YP l.row.toRowW d [] (fun f vs => PySem.call f vs) := by
  refine Att.attach_call hn hdf fun w s₀ s₁ mg mb fa o pm cd doc a vs ns G Y ho hd hcd hmg hobj hints hlen hg => ?_
  obtain ⟨K, fd, sp, KX, hb, hsp, hF⟩ := F w mg fa _ Y G.T.g hmg
  exact law_call KX G.T.g G.T.b G.T.builtins G.T.nolimit hg hobj hints (Nat.le_trans hlen hn2) hr hF hb (fun H hO hS => hsp H a ns hlen hO hS) fun H e s' hz => by
    obtain ⟨_, _, _, _, _, _, _, _, _, _, _, _, z⟩ := hz
    exact z
/-- the law: it says True of every list of ints of at most n -/
theorem law_sp {K : Fg} {F : FS} {n : Nat} (hF : ∀ (ns : List Int) (R : RT) (X : XT), ns.length ≤ n → R (.d true) [] → F [.d ns] [] R X) {H : Hp} {a : Addr} {ns : List Int} (hl : ns.length ≤ n) (hS : SqL K H a (ns.map V.int)) :
    spOf K F [.ref a] H (fun v _ => v = .bl true) (fun _ _ _ => False) := by
  have rp : ∀ l : List Int, Reps K H (l.map V.int) l := by
    intro l
    induction l with
    | nil => exact .nil
    | cons x xs ih => exact .cons rfl ih
  refine ⟨⟨H, H, []⟩, [.d ns], [], rfl, ⟨Le.refl _, Le.refl _, fun b u e _ => e, fun b u e => .inl e, Pre.refl _, List.nodup_nil, rfl, fun a m => (by cases m), fun k a e => (by simp at e), fun i => ?_, fun k a e => (by simp at e), rfl⟩, hF ns _ _ hl ?_⟩
  · cases i with
    | zero => exact ⟨.ref a, rfl, a, _, rfl, hS, rp ns⟩
    | succ i => trivial
  · intro w as G σ H' sds A hw
    exact hw
end VL

set_option maxHeartbeats 4000000
namespace Z20
open PySem PySem.Spec PyProof.Rows L2 VL
/-! ### what the defs compute -/
def kcls (n : Str) : Option Str := if n = "list" then some "Kind" else if n = "bag" then some "BagKind" else if n = "set" then some "SetKind" else if n = "first" then some "FirstKind" else if n = "last" then some "LastKind" else if n = "ends" then some "EndsKind" else if n = "heads" then some "HeadsKind" else if n = "tails" then some "TailsKind" else none
def fulls : List Str := ["list", "bag", "set", "heads", "tails"]
def idem (n : Str) : Bool := !(decide (n = "list") || decide (n = "bag"))
def lg (k : Int) : Int := (k.natAbs.log2 : Int)
def nsV (kind : Str) (width : Int) : Bool := decide (width = 1) && (decide (kind ∈ fulls) && !idem kind)
def priceV (kind : Str) (width strength : Int) : Option Int :=
  if nsV kind width = true then (if strength = 1 then some 0 else none) else if kind ∉ fulls then some (strength - 1) else if strength - 1 ≤ lg width then some (width - width / 2 ^ (strength - 1).toNat) else some (width + strength - 2 - lg width)
def mostV (kind : Str) (width merges : Int) : Int :=
  if nsV kind width = true then 1 else if kind ∉ fulls then merges + 1 else if merges < width - 1 then lg (width / (width - merges)) + 1 else lg width + 1 + merges - (width - 1)
def drawV (xs : List Int) (n : Int) : Int := match xs.getLast? with
  | none => 0
  | some x => x % n
def names8 : List Str := ["list", "bag", "set", "first", "last", "ends", "heads", "tails"]
def dueV (kind : Str) (many strength : Int) : Option Int :=
  if kind ∈ (["first", "last", "ends"] : List Str) then some (strength - 1) else if many = 1 ∧ kind ∈ (["list", "bag"] : List Str) then (if strength = 1 then some 0 else none)
  else if strength - 1 > lg many then some (many + strength - 2 - lg many) else some (many - many / 2 ^ (strength - 1).toNat)
def longGo : Nat → List Int → Int → Int × List Int
  | 0, xs, a => (a, xs)
  | n + 1, xs, a => longGo n xs.dropLast (a * 1000 + drawV xs 1000)
def longV (xs : List Int) (groups : Int) : Int × List Int := longGo (drawV xs (groups + 1)).toNat xs.dropLast 0
def lgN (n : Int) : Int := if n < 2 then 0 else lg n
/-- the least sum over the partings -/
def bestGo (costs : List Int) (size strength : Int) : List Int → Option Int → Option Int
  | [], b => b
  | p :: ps, b =>
    let cost := (atI costs (size - p)).getD default + p - 1 + max 0 (strength - 1 - lgN p)
    bestGo costs size strength ps (match b with | none => some cost | some x => if cost < x then some cost else some x)
def costsGo (strength : Int) : List Int → List Int → List Int
  | [], cs => cs
  | size :: r, cs => costsGo strength r (cs ++ [(bestGo cs size strength (rngl 1 size.toNat) none).getD 0])
def leastV (many strength : Int) : Int := (atI (costsGo strength (rngl 1 many.toNat) [0]) many).getD default
def firstBad (ns : List Int) : Option Int := ns.find? fun n => decide (n < 0)
abbrev Wd : Type := T2 Str (Sum Int Str)
def refusedV (which : Int) (kind : Str) (many number other : Int) : Wd :=
  if (kcls kind).isNone then ⟨"kind", .inr kind⟩ else if many < 1 then ⟨"width", .inl many⟩ else
  if which = 0 then (if number < 1 then ⟨"count", .inl number⟩ else ⟨"fine", .inl 0⟩)
  else if which = 1 then (if number < 0 then ⟨"length", .inl number⟩ else ⟨"fine", .inl 0⟩)
  else match firstBad [number, other] with
    | some n => ⟨"losses", .inl n⟩
    | none => ⟨"fine", .inl 0⟩
/-! ### what the defs promise -/
def F_kind_named : FS := fun ss os R X => ∃ n : Str, ss = [.d n] ∧ os = [] ∧ match kcls n with
  | some C => R (.d (Ob0.mk C)) []
  | none => X "BadKind" [("name", .d n)] []
def F_floor_log2 : FS := fun ss os R X => ∃ k : Int, ss = [.d k] ∧ os = [] ∧ if k < 1 then X "BadCount" [("number", .d k)] [] else R (.d (lg k)) []
def F_check_numbers : FS := fun ss os R X => ∃ ns : List Int, ss = [.d ns] ∧ os = [] ∧ match firstBad ns with
  | some n => X "BadLosses" [("lacks", .d n)] []
  | none => R (.d ()) []
def F_check_sizes : FS := fun ss os R X => ∃ (kind : Str) (width : Int), ss = [.d kind, .d width] ∧ os = [] ∧ if (kcls kind).isNone then X "BadKind" [("name", .d kind)] [] else if width < 1 then X "BadWidth" [("width", .d width)] [] else R (.d ()) []
def F_halved : FS := fun ss os R X => ∃ width turns : Int, ss = [.d width, .d turns] ∧ os = [] ∧ 0 ≤ turns ∧ turns < 2 ^ 62 ∧ R (.d (width / 2 ^ turns.toNat)) []
def F_never_stronger : FS := fun ss os R X => ∃ (kind : Str) (width : Int), ss = [.d kind, .d width] ∧ os = [] ∧ (kcls kind).isSome ∧ R (.d (nsV kind width)) []
def F_price : FS := fun ss os R X => ∃ (kind : Str) (width strength : Int), ss = [.d kind, .d width, .d strength] ∧ os = [] ∧ width.natAbs < 2 ^ 500 ∧
  if (kcls kind).isNone then X "BadKind" [("name", .d kind)] [] else if width < 1 then X "BadWidth" [("width", .d width)] [] else if strength < 1 then X "BadCount" [("number", .d strength)] [] else R (.d (priceV kind width strength)) []
def F_most_strength : FS := fun ss os R X => ∃ (kind : Str) (width merges : Int), ss = [.d kind, .d width, .d merges] ∧ os = [] ∧ width.natAbs < 2 ^ 500 ∧
  if (kcls kind).isNone then X "BadKind" [("name", .d kind)] [] else if width < 1 then X "BadWidth" [("width", .d width)] [] else if merges < 0 then X "BadLength" [("length", .d merges)] [] else R (.d (mostV kind width merges)) []
def F_price_of_errors : FS := fun ss os R X => ∃ (kind : Str) (width lacks wrong : Int), ss = [.d kind, .d width, .d lacks, .d wrong] ∧ os = [] ∧ width.natAbs < 2 ^ 500 ∧
  if (kcls kind).isNone then X "BadKind" [("name", .d kind)] [] else if width < 1 then X "BadWidth" [("width", .d width)] [] else match firstBad [lacks, wrong] with
  | some n => X "BadLosses" [("lacks", .d n)] []
  | none => R (.d (priceV kind width (lacks + 2 * wrong + 1))) []
def F_part_bound : FS := fun ss os R X => ∃ letters merges : Int, ss = [.d letters, .d merges] ∧ os = [] ∧ 1 ≤ letters ∧ R (.d (lg letters + 1 + merges - (letters - 1))) []
def F__law_stream : FS := fun ss os R X => ∃ xs : List Int, ss = [.d xs] ∧ os = [] ∧ ∀ ys : List Int, R (.p 0) [.lst ys]
def F__law_draw : FS := fun ss os R X => ∃ (xs : List Int) (n : Int), ss = [.p 0, .d n] ∧ os = [.lst xs] ∧ 0 < n ∧ R (.d (drawV xs n)) [.lst xs.dropLast]
def F__law_kind : FS := fun ss os R X => ∃ xs : List Int, ss = [.p 0] ∧ os = [.lst xs] ∧ R (.d ((atI names8 (drawV xs 8)).getD default)) [.lst xs.dropLast]
def F__law_log : FS := fun ss os R X => ∃ n : Int, ss = [.d n] ∧ os = [] ∧ n < 2 ^ 300 ∧ R (.d (lgN n)) []
def F__law_least : FS := fun ss os R X => ∃ many strength : Int, ss = [.d many, .d strength] ∧ os = [] ∧ 0 ≤ many ∧ many ≤ 100 ∧ R (.d (leastV many strength)) []
def F__law_due : FS := fun ss os R X => ∃ (kind : Str) (many strength : Int), ss = [.d kind, .d many, .d strength] ∧ os = [] ∧ 1 ≤ many ∧ many < 2 ^ 300 ∧ 1 ≤ strength ∧ R (.d (dueV kind many strength)) []
def F__law_same : FS := fun ss os R X => ∃ told due : Option Int, ss = [.d told, .d due] ∧ os = [] ∧ R (.d (decide (told = due))) []
def F__law_long : FS := fun ss os R X => ∃ (xs : List Int) (g : Int), ss = [.p 0, .d g] ∧ os = [.lst xs] ∧ 0 ≤ g ∧ g < 1000 ∧ R (.d (longV xs g).1) [.lst (longV xs g).2]
def F__law_most : FS := fun ss os R X => ∃ (kind : Str) (many merges : Int), ss = [.d kind, .d many, .d merges] ∧ os = [] ∧ kind ∈ names8 ∧ 1 ≤ many ∧ many < 2 ^ 299 ∧ 0 ≤ merges ∧ R (.d true) []
def F__law_refused : FS := fun ss os R X => ∃ (which : Int) (kind : Str) (many number other : Int), ss = [.d which, .d kind, .d many, .d number, .d other] ∧ os = [] ∧ many.natAbs < 2 ^ 500 ∧ R (.d (refusedV which kind many number other)) []
def F__law_faults : FS := fun ss os R X => ∃ (xs : List Int) (kind : Str), ss = [.p 0, .d kind] ∧ os = [.lst xs] ∧ kind ∈ names8 ∧ R (.d true) [.lst xs.dropLast.dropLast.dropLast]
def F_law : FS := fun ss os R X => ∃ xs : List Int, ss = [.d xs] ∧ os = [] ∧ xs.length ≤ 63 ∧ R (.d true) []
end Z20

set_option maxHeartbeats 4000000
namespace Z20
open PySem PySem.Spec PyProof.Rows L2 VL
def top (i : Nat) : Stmt := PySem.Challenge.pw_foldsunseen_k20_prices.main.body.getD i (.Pass ⟨0, 0, 0, 0⟩)
abbrev s_kind_named : Stmt := top 18
theorem sc_kind_named : FnScope ["name"] ["name"] (defScope s_kind_named) := ⟨rfl, rfl, rfl, by decide +kernel, rfl, by decide +kernel, by decide +kernel⟩
def t_kind_named (K : Fg) (E : XK) : TS := (tMatch (tVar 0) (tCase "list" (tRet (tMake0 (He.ga K "Kind")))
  (tCase "bag" (tRet (tMake0 (He.ga K "BagKind")))
  (tCase "set" (tRet (tMake0 (He.ga K "SetKind")))
  (tCase "first" (tRet (tMake0 (He.ga K "FirstKind")))
  (tCase "last" (tRet (tMake0 (He.ga K "LastKind")))
  (tCase "ends" (tRet (tMake0 (He.ga K "EndsKind")))
  (tCase "heads" (tRet (tMake0 (He.ga K "HeadsKind")))
  (tCase "tails" (tRet (tMake0 (He.ga K "TailsKind")))
  (fun _ => (tRaiseX (He.ga K "BadKind") "name" (fun cls d _ H => E cls d H) (tCons (tVar 0) tNil))))))))))))
abbrev s_floor_log2 : Stmt := top 20
theorem sc_floor_log2 : FnScope ["k"] ["k"] (defScope s_floor_log2) := ⟨rfl, rfl, rfl, by decide +kernel, rfl, by decide +kernel, by decide +kernel⟩
def t_floor_log2 (K : Fg) (E : XK) : TS := (tSeq (tIfS (tB (tOp uLt (tVar 0) (tC (.int 1)))) (tRaiseX (He.ga K "BadCount") "number" (fun cls d _ H => E cls d H) (tCons (tVar 0) tNil)) tNext)
  (tRet (tOp uSub (tBits (tVar 0)) (tC (.int 1)))))
abbrev s_check_numbers : Stmt := top 22
theorem sc_check_numbers : FnScope ["numbers", "number"] ["numbers"] (defScope s_check_numbers) := ⟨rfl, rfl, rfl, by decide +kernel, rfl, by decide +kernel, by decide +kernel⟩
def t_check_numbers (K : Fg) (E : XK) : TS := (tFor (iSeq K (tVar 0)) (gName 1) (tIfS (tB (tOp uLt (tVar 1) (tC (.int 0)))) (tRaiseX (He.ga K "BadLosses") "lacks" (fun cls d _ H => E cls d H) (tCons (tVar 1) tNil)) tNext))
abbrev s_check_sizes : Stmt := top 24
theorem sc_check_sizes : FnScope ["kind", "width"] ["kind", "width"] (defScope s_check_sizes) := ⟨rfl, rfl, rfl, by decide +kernel, rfl, by decide +kernel, by decide +kernel⟩
def t_check_sizes (K : Fg) (E : XK) : TS := (tSeq (tDrop (tCall (spOf K F_kind_named) [] E (tCons (tVar 0) tNil)))
  (tIfS (tB (tOp uLt (tVar 1) (tC (.int 1)))) (tRaiseX (He.ga K "BadWidth") "width" (fun cls d _ H => E cls d H) (tCons (tVar 1) tNil)) tNext))
abbrev s_halved : Stmt := top 25
theorem sc_halved : FnScope ["width", "turns", "rest", "_"] ["width", "turns"] (defScope s_halved) := ⟨rfl, rfl, rfl, by decide +kernel, rfl, by decide +kernel, by decide +kernel⟩
def t_halved (K : Fg) (E : XK) : TS := (tSeq (tAsg (tVar 0) (gName 2))
  (tSeq (tFor (iRng1 (tCons (tVar 1) tNil)) (gName 3) (tAsg (tOp uDiv (tVar 2) (tC (.int 2))) (gName 2)))
  (tRet (tVar 2))))
abbrev s_never_stronger : Stmt := top 26
theorem sc_never_stronger : FnScope ["kind", "width"] ["kind", "width"] (defScope s_never_stronger) := ⟨rfl, rfl, rfl, by decide +kernel, rfl, by decide +kernel, by decide +kernel⟩
def t_never_stronger (K : Fg) (E : XK) : TS := (tRet (tAndV (tOp (uEq K) (tVar 1) (tC (.int 1))) (tAndV (uIn K (tVar 0) (tC (.ref (He.ga K "FULL_KINDS")))) (tNotV (tCon K (tCall (spOf K F_kind_named) [] E (tCons (tVar 0) tNil)) "IDEMPOTENT")))))
abbrev s_price : Stmt := top 27
theorem sc_price : FnScope ["kind", "width", "strength", "levels"] ["kind", "width", "strength"] (defScope s_price) := ⟨rfl, rfl, rfl, by decide +kernel, rfl, by decide +kernel, by decide +kernel⟩
def t_price (K : Fg) (E : XK) : TS := (tSeq (tDrop (tCall (spOf K F_check_sizes) [] E (tCons (tVar 0) (tCons (tVar 1) tNil))))
  (tSeq (tIfS (tB (tOp uLt (tVar 2) (tC (.int 1)))) (tRaiseX (He.ga K "BadCount") "number" (fun cls d _ H => E cls d H) (tCons (tVar 2) tNil)) tNext)
  (tSeq (tIfS (uTru K (tCall (spOf K F_never_stronger) [] E (tCons (tVar 0) (tCons (tVar 1) tNil)))) (tRet (tIf (tB (tOp (uEq K) (tVar 2) (tC (.int 1)))) (tC (.int 0)) (tC .non))) tNext)
  (tSeq (tIfS (tB (uNotIn K (tVar 0) (tC (.ref (He.ga K "FULL_KINDS"))))) (tRet (tOp uSub (tVar 2) (tC (.int 1)))) tNext)
  (tSeq (tAsg (tCall (spOf K F_floor_log2) [] E (tCons (tVar 1) tNil)) (gName 3))
  (tSeq (tIfS (tB (tOp uLe (tOp uSub (tVar 2) (tC (.int 1))) (tVar 3))) (tRet (tOp uSub (tVar 1) (tCall (spOf K F_halved) [] E (tCons (tVar 1) (tCons (tOp uSub (tVar 2) (tC (.int 1))) tNil))))) tNext)
  (tRet (tOp uSub (tOp uSub (tOp (uAdd K) (tVar 1) (tVar 2)) (tC (.int 2))) (tVar 3)))))))))
abbrev s_most_strength : Stmt := top 28
theorem sc_most_strength : FnScope ["kind", "width", "merges"] ["kind", "width", "merges"] (defScope s_most_strength) := ⟨rfl, rfl, rfl, by decide +kernel, rfl, by decide +kernel, by decide +kernel⟩
def t_most_strength (K : Fg) (E : XK) : TS := (tSeq (tDrop (tCall (spOf K F_check_sizes) [] E (tCons (tVar 0) (tCons (tVar 1) tNil))))
  (tSeq (tIfS (tB (tOp uLt (tVar 2) (tC (.int 0)))) (tRaiseX (He.ga K "BadLength") "length" (fun cls d _ H => E cls d H) (tCons (tVar 2) tNil)) tNext)
  (tSeq (tIfS (uTru K (tCall (spOf K F_never_stronger) [] E (tCons (tVar 0) (tCons (tVar 1) tNil)))) (tRet (tC (.int 1))) tNext)
  (tSeq (tIfS (tB (uNotIn K (tVar 0) (tC (.ref (He.ga K "FULL_KINDS"))))) (tRet (tOp (uAdd K) (tVar 2) (tC (.int 1)))) tNext)
  (tSeq (tIfS (tB (tOp uLt (tVar 2) (tOp uSub (tVar 1) (tC (.int 1))))) (tRet (tOp (uAdd K) (tCall (spOf K F_floor_log2) [] E (tCons (tOp uDiv (tVar 1) (tOp uSub (tVar 1) (tVar 2))) tNil)) (tC (.int 1)))) tNext)
  (tRet (tOp uSub (tOp (uAdd K) (tOp (uAdd K) (tCall (spOf K F_floor_log2) [] E (tCons (tVar 1) tNil)) (tC (.int 1))) (tVar 2)) (tOp uSub (tVar 1) (tC (.int 1))))))))))
abbrev s_price_of_errors : Stmt := top 29
theorem sc_price_of_errors : FnScope ["kind", "width", "lacks", "wrong"] ["kind", "width", "lacks", "wrong"] (defScope s_price_of_errors) := ⟨rfl, rfl, rfl, by decide +kernel, rfl, by decide +kernel, by decide +kernel⟩
def t_price_of_errors (K : Fg) (E : XK) : TS := (tSeq (tDrop (tCall (spOf K F_check_sizes) [] E (tCons (tVar 0) (tCons (tVar 1) tNil))))
  (tSeq (tDrop (tCall (spOf K F_check_numbers) [] E (tCons (tLst (tCons (tVar 2) (tCons (tVar 3) tNil))) tNil)))
  (tRet (tCall (spOf K F_price) [] E (tCons (tVar 0) (tCons (tVar 1) (tCons (tOp (uAdd K) (tOp (uAdd K) (tVar 2) (tOp uMul (tC (.int 2)) (tVar 3))) (tC (.int 1))) tNil)))))))
abbrev s_part_bound : Stmt := top 30
theorem sc_part_bound : FnScope ["letters", "merges"] ["letters", "merges"] (defScope s_part_bound) := ⟨rfl, rfl, rfl, by decide +kernel, rfl, by decide +kernel, by decide +kernel⟩
def t_part_bound (K : Fg) (E : XK) : TS := (tRet (tOp uSub (tOp (uAdd K) (tOp (uAdd K) (tCall (spOf K F_floor_log2) [] E (tCons (tVar 0) tNil)) (tC (.int 1))) (tVar 1)) (tOp uSub (tVar 0) (tC (.int 1)))))
abbrev s__law_stream : Stmt := top 32
theorem sc__law_stream : FnScope ["script", "numbers", "place", "cell", "rest", "turn", "mixed"] ["script"] (defScope s__law_stream) := ⟨rfl, rfl, rfl, by decide +kernel, rfl, by decide +kernel, by decide +kernel⟩
def t__law_stream (K : Fg) (E : XK) : TS := (tSeq (tAsg (tLst tNil) (gName 1))
  (tSeq (tFor (iRng1 (tCons (tCB uMin2 (tCons (tCB (uLen K) (tCons (tVar 0) tNil)) (tCons (tC (.int 63)) tNil))) tNil)) (gName 2) (tSeq (tAsg (tCB uInt (tCons (uIx K (tVar 0) (tVar 2)) tNil)) (gName 3))
  (tSeq (tAsg (tCB uAbs (tCons (tVar 3) tNil)) (gName 4))
  (tIfS (tAnd (tB (tOp uGe (tVar 3) (tC (.int 0)))) (tB (tOp uLt (tVar 3) (tOp uPow (tC (.int 10)) (tC (.int 18)))))) (tFor (iRng1 (tCons (tC (.int 3)) tNil)) (gName 5) (tSeq (tAsg (tOp uMod (tCB uInt (tCons (tOp uMul (tOp (uAdd K) (tVar 3) (tC (.int 1))) (tOp (uAdd K) (tOp (uAdd K) (tC (.int 48271)) (tOp uMul (tC (.int 6)) (tVar 2))) (tOp uMul (tC (.int 2)) (tVar 5)))) tNil)) (tC (.int 2147483629))) (gName 6))
  (tDrop (tBM K "list" rAppend (tVar 1) (tCons (tOp uMod (tCB uInt (tCons (tOp uMul (tVar 6) (tVar 6)) tNil)) (tC (.int 1000003))) tNil))))) (tFor (iRng1 (tCons (tC (.int 60)) tNil)) (gName 5) (tIfS (tB (tOp uGt (tVar 4) (tC (.int 0)))) (tSeq (tDrop (tBM K "list" rAppend (tVar 1) (tCons (tOp uMod (tCB uInt (tCons (tVar 4) tNil)) (tC (.int 1000))) tNil)))
  (tAsg (tOp uDiv (tVar 4) (tC (.int 1000))) (gName 4))) tNext))))))
  (tRet (tRevL K (tVar 1)))))
abbrev s__law_draw : Stmt := top 33
theorem sc__law_draw : FnScope ["stream", "many"] ["stream", "many"] (defScope s__law_draw) := ⟨rfl, rfl, rfl, by decide +kernel, rfl, by decide +kernel, by decide +kernel⟩
def t__law_draw (K : Fg) (E : XK) : TS := (tSeq (tIfS (tB (tOp (uEq K) (tCB (uLen K) (tCons (tVar 0) tNil)) (tC (.int 0)))) (tRet (tC (.int 0))) tNext)
  (tRet (tOp uMod (tCB uInt (tCons (tBM0 K "list" rPop (tVar 0)) tNil)) (tVar 1))))
abbrev s__law_kind : Stmt := top 34
theorem sc__law_kind : FnScope ["stream", "names"] ["stream"] (defScope s__law_kind) := ⟨rfl, rfl, rfl, by decide +kernel, rfl, by decide +kernel, by decide +kernel⟩
def t__law_kind (K : Fg) (E : XK) : TS := (tSeq (tAsg (tLst (tCons (tC (.str "list")) (tCons (tC (.str "bag")) (tCons (tC (.str "set")) (tCons (tC (.str "first")) (tCons (tC (.str "last")) (tCons (tC (.str "ends")) (tCons (tC (.str "heads")) (tCons (tC (.str "tails")) tNil))))))))) (gName 1))
  (tRet (uIx K (tVar 1) (tCall (spOf K F__law_draw) [] E (tCons (tVar 0) (tCons (tC (.int 8)) tNil))))))
abbrev s__law_log : Stmt := top 35
theorem sc__law_log : FnScope ["number", "found", "rest", "turn"] ["number"] (defScope s__law_log) := ⟨rfl, rfl, rfl, by decide +kernel, rfl, by decide +kernel, by decide +kernel⟩
def t__law_log (K : Fg) (E : XK) : TS := (tSeq (tAsg (tC (.int 0)) (gName 1))
  (tSeq (tAsg (tVar 0) (gName 2))
  (tSeq (tFor (iRng1 (tCons (tC (.int 300)) tNil)) (gName 3) (tSeq (tIfS (tB (tOp uLt (tVar 2) (tC (.int 2)))) tBreak tNext)
  (tSeq (tAsg (tOp uDiv (tVar 2) (tC (.int 2))) (gName 2))
  (tAsg (tOp (uAdd K) (tVar 1) (tC (.int 1))) (gName 1)))))
  (tRet (tVar 1)))))
abbrev s__law_least : Stmt := top 36
theorem sc__law_least : FnScope ["many", "strength", "costs", "size", "best", "part", "cost"] ["many", "strength"] (defScope s__law_least) := ⟨rfl, rfl, rfl, by decide +kernel, rfl, by decide +kernel, by decide +kernel⟩
def t__law_least (K : Fg) (E : XK) : TS := (tSeq (tAsg (tLst (tCons (tC (.int 0)) tNil)) (gName 2))
  (tSeq (tFor (iRng2 (tCons (tC (.int 1)) (tCons (tOp (uAdd K) (tVar 0) (tC (.int 1))) tNil))) (gName 3) (tSeq (tAsg (tC .non) (gName 4))
  (tSeq (tFor (iRng2 (tCons (tC (.int 1)) (tCons (tOp (uAdd K) (tVar 3) (tC (.int 1))) tNil))) (gName 5) (tSeq (tAsg (tOp (uAdd K) (tOp uSub (tOp (uAdd K) (uIx K (tVar 2) (tOp uSub (tVar 3) (tVar 5))) (tVar 5)) (tC (.int 1))) (tCB uMax2 (tCons (tC (.int 0)) (tCons (tOp uSub (tOp uSub (tVar 1) (tC (.int 1))) (tCall (spOf K F__law_log) [] E (tCons (tVar 5) tNil))) tNil)))) (gName 6))
  (tIfS (tOr (tB (tOp uIs (tVar 4) (tC .non))) (tB (tOp uLt (tVar 6) (tVar 4)))) (tAsg (tVar 6) (gName 4)) tNext)))
  (tDrop (tBM K "list" rAppend (tVar 2) (tCons (tVar 4) tNil))))))
  (tRet (uIx K (tVar 2) (tVar 0)))))
abbrev s__law_due : Stmt := top 37
theorem sc__law_due : FnScope ["kind", "many", "strength", "rest", "turn"] ["kind", "many", "strength"] (defScope s__law_due) := ⟨rfl, rfl, rfl, by decide +kernel, rfl, by decide +kernel, by decide +kernel⟩
def t__law_due (K : Fg) (E : XK) : TS := (tSeq (tIfS (tB (uIn K (tVar 0) (tTup (tCons (tC (.str "first")) (tCons (tC (.str "last")) (tCons (tC (.str "ends")) tNil)))))) (tRet (tOp uSub (tVar 2) (tC (.int 1)))) tNext)
  (tSeq (tIfS (tAnd (tB (tOp (uEq K) (tVar 1) (tC (.int 1)))) (tB (uIn K (tVar 0) (tTup (tCons (tC (.str "list")) (tCons (tC (.str "bag")) tNil)))))) (tRet (uIx K (tLst (tCons (tC .non) (tCons (tC (.int 0)) tNil))) (tCB uInt (tCons (tOp (uEq K) (tVar 2) (tC (.int 1))) tNil)))) tNext)
  (tSeq (tIfS (tB (tOp uGt (tOp uSub (tVar 2) (tC (.int 1))) (tCall (spOf K F__law_log) [] E (tCons (tVar 1) tNil)))) (tRet (tOp uSub (tOp uSub (tOp (uAdd K) (tVar 1) (tVar 2)) (tC (.int 2))) (tCall (spOf K F__law_log) [] E (tCons (tVar 1) tNil)))) tNext)
  (tSeq (tAsg (tVar 1) (gName 3))
  (tSeq (tFor (iRng1 (tCons (tOp uSub (tVar 2) (tC (.int 1))) tNil)) (gName 4) (tAsg (tOp uDiv (tVar 3) (tC (.int 2))) (gName 3)))
  (tRet (tOp uSub (tVar 1) (tVar 3))))))))
abbrev s__law_same : Stmt := top 38
theorem sc__law_same : FnScope ["told", "due"] ["told", "due"] (defScope s__law_same) := ⟨rfl, rfl, rfl, by decide +kernel, rfl, by decide +kernel, by decide +kernel⟩
def t__law_same (K : Fg) (E : XK) : TS := (tSeq (tIfS (tB (tOp uIs (tVar 1) (tC .non))) (tRet (tOp uIs (tVar 0) (tC .non))) tNext)
  (tRet (tAndV (tCB (rIsi K) (tCons (tVar 0) (tCons (tC (.ty "int")) tNil))) (tAndV (tNotV (tCB (rIsi K) (tCons (tVar 0) (tCons (tC (.ty "bool")) tNil)))) (tOp (uEq K) (tVar 0) (tVar 1))))))
abbrev s__law_long : Stmt := top 39
theorem sc__law_long : FnScope ["stream", "groups", "number", "turn"] ["stream", "groups"] (defScope s__law_long) := ⟨rfl, rfl, rfl, by decide +kernel, rfl, by decide +kernel, by decide +kernel⟩
def t__law_long (K : Fg) (E : XK) : TS := (tSeq (tAsg (tC (.int 0)) (gName 2))
  (tSeq (tFor (iRng1 (tCons (tCall (spOf K F__law_draw) [] E (tCons (tVar 0) (tCons (tOp (uAdd K) (tVar 1) (tC (.int 1))) tNil))) tNil)) (gName 3) (tAsg (tOp (uAdd K) (tOp uMul (tVar 2) (tC (.int 1000))) (tCall (spOf K F__law_draw) [] E (tCons (tVar 0) (tCons (tC (.int 1000)) tNil)))) (gName 2)))
  (tRet (tVar 2))))
abbrev s__law_most : Stmt := top 40
theorem sc__law_most : FnScope ["kind", "many", "merges", "told", "low", "high"] ["kind", "many", "merges"] (defScope s__law_most) := ⟨rfl, rfl, rfl, by decide +kernel, rfl, by decide +kernel, by decide +kernel⟩
def t__law_most (K : Fg) (E : XK) : TS := (tSeq (tAsg (tCall (spOf K F_most_strength) [] E (tCons (tVar 0) (tCons (tVar 1) (tCons (tVar 2) tNil)))) (gName 3))
  (tSeq (tIfS (tOr (tNot (uTru K (tCB (rIsi K) (tCons (tVar 3) (tCons (tC (.ty "int")) tNil))))) (tOr (uTru K (tCB (rIsi K) (tCons (tVar 3) (tCons (tC (.ty "bool")) tNil)))) (tB (tOp uLt (tVar 3) (tC (.int 1)))))) (tRet (tC (.bl false))) tNext)
  (tSeq (tAsg (tCall (spOf K F__law_due) [] E (tCons (tVar 0) (tCons (tVar 1) (tCons (tVar 3) tNil)))) (gName 4))
  (tSeq (tAsg (tCall (spOf K F__law_due) [] E (tCons (tVar 0) (tCons (tVar 1) (tCons (tOp (uAdd K) (tVar 3) (tC (.int 1))) tNil)))) (gName 5))
  (tRet (tAndV (tOp uIsN (tVar 4) (tC .non)) (tAndV (tOp uLe (tVar 4) (tVar 2)) (tOrV (tOp uIs (tVar 5) (tC .non)) (tOp uGt (tVar 5) (tVar 2))))))))))
abbrev s__law_refused : Stmt := top 41
theorem sc__law_refused : FnScope ["which", "kind", "many", "number", "other", "word", "e"] ["which", "kind", "many", "number", "other"] (defScope s__law_refused) := ⟨rfl, rfl, rfl, by decide +kernel, rfl, by decide +kernel, by decide +kernel⟩
def t__law_refused (K : Fg) (E : XK) : TS := (tSeq (tAsg (tTup (tCons (tC (.str "fine")) (tCons (tC (.int 0)) tNil))) (gName 5))
  (tSeq (tTryM K (fun W => (tIfS (tB (tOp (uEq K) (tVar 0) (tC (.int 0)))) (tDrop (tCallS (spOf K F_price) (WE W) (tCons (tVar 1) (tCons (tVar 2) (tCons (tVar 3) tNil))))) (tIfS (tB (tOp (uEq K) (tVar 0) (tC (.int 1)))) (tDrop (tCallS (spOf K F_most_strength) (WE W) (tCons (tVar 1) (tCons (tVar 2) (tCons (tVar 3) tNil))))) (tDrop (tCallS (spOf K F_price_of_errors) (WE W) (tCons (tVar 1) (tCons (tVar 2) (tCons (tVar 3) (tCons (tVar 4) tNil))))))))) (fun cls d _ H => E cls d H) ((.ref (He.ga K "BadKind"), 6, fun a cls d => (tAsg (tTup (tCons (tC (.str "kind")) (tCons (tByX (He.ga K "BadKind") "name" a cls d (tVar 6)) tNil))) (gName 5))) ::
  ((.ref (He.ga K "BadWidth"), 6, fun a cls d => (tAsg (tTup (tCons (tC (.str "width")) (tCons (tByX (He.ga K "BadWidth") "width" a cls d (tVar 6)) tNil))) (gName 5))) ::
  ((.ref (He.ga K "BadCount"), 6, fun a cls d => (tAsg (tTup (tCons (tC (.str "count")) (tCons (tByX (He.ga K "BadCount") "number" a cls d (tVar 6)) tNil))) (gName 5))) ::
  ((.ref (He.ga K "BadLength"), 6, fun a cls d => (tAsg (tTup (tCons (tC (.str "length")) (tCons (tByX (He.ga K "BadLength") "length" a cls d (tVar 6)) tNil))) (gName 5))) ::
  ((.ref (He.ga K "BadLosses"), 6, fun a cls d => (tAsg (tTup (tCons (tC (.str "losses")) (tCons (tByX (He.ga K "BadLosses") "lacks" a cls d (tVar 6)) tNil))) (gName 5))) ::
  []))))))
  (tRet (tVar 5))))
abbrev s__law_faults : Stmt := top 42
theorem sc__law_faults : FnScope ["stream", "kind", "which", "few", "number", "due"] ["stream", "kind"] (defScope s__law_faults) := ⟨rfl, rfl, rfl, by decide +kernel, rfl, by decide +kernel, by decide +kernel⟩
def t__law_faults (K : Fg) (E : XK) : TS := (tSeq (tAsg (tCall (spOf K F__law_draw) [] E (tCons (tVar 0) (tCons (tC (.int 3)) tNil))) (gName 2))
  (tSeq (tAsg (tOp uSub (tC (.int 0)) (tCall (spOf K F__law_draw) [] E (tCons (tVar 0) (tCons (tC (.int 3)) tNil)))) (gName 3))
  (tSeq (tAsg (tOp uSub (tOp uSub (tC (.int 0)) (tC (.int 1))) (tCall (spOf K F__law_draw) [] E (tCons (tVar 0) (tCons (tC (.int 3)) tNil)))) (gName 4))
  (tSeq (tIfS (tB (tOp (uNe K) (tCall (spOf K F__law_refused) [] E (tCons (tVar 2) (tCons (tC (.str "Bag")) (tCons (tVar 3) (tCons (tVar 4) (tCons (tVar 4) tNil)))))) (tTup (tCons (tC (.str "kind")) (tCons (tC (.str "Bag")) tNil))))) (tRet (tC (.bl false))) tNext)
  (tSeq (tIfS (tB (tOp (uNe K) (tCall (spOf K F__law_refused) [] E (tCons (tVar 2) (tCons (tVar 1) (tCons (tVar 3) (tCons (tVar 4) (tCons (tVar 4) tNil)))))) (tTup (tCons (tC (.str "width")) (tCons (tVar 3) tNil))))) (tRet (tC (.bl false))) tNext)
  (tSeq (tAsg (uIx K (tLst (tCons (tTup (tCons (tC (.str "count")) (tCons (tVar 4) tNil))) (tCons (tTup (tCons (tC (.str "length")) (tCons (tVar 4) tNil))) (tCons (tTup (tCons (tC (.str "losses")) (tCons (tVar 4) tNil))) tNil)))) (tVar 2)) (gName 5))
  (tSeq (tIfS (tB (tOp (uNe K) (tCall (spOf K F__law_refused) [] E (tCons (tVar 2) (tCons (tVar 1) (tCons (tC (.int 3)) (tCons (tVar 4) (tCons (tOp uSub (tVar 4) (tC (.int 1))) tNil)))))) (tVar 5))) (tRet (tC (.bl false))) tNext)
  (tSeq (tIfS (tOr (tB (tOp (uNe K) (tCall (spOf K F__law_refused) [] E (tCons (tC (.int 0)) (tCons (tVar 1) (tCons (tC (.int 3)) (tCons (tC (.int 0)) (tCons (tC (.int 0)) tNil)))))) (tTup (tCons (tC (.str "count")) (tCons (tC (.int 0)) tNil))))) (tB (tOp (uNe K) (tCall (spOf K F__law_refused) [] E (tCons (tC (.int 1)) (tCons (tVar 1) (tCons (tC (.int 1)) (tCons (tC (.int 0)) (tCons (tC (.int 0)) tNil)))))) (tTup (tCons (tC (.str "fine")) (tCons (tC (.int 0)) tNil)))))) (tRet (tC (.bl false))) tNext)
  (tRet (tAndV (tOp (uEq K) (tCall (spOf K F__law_refused) [] E (tCons (tC (.int 2)) (tCons (tVar 1) (tCons (tC (.int 1)) (tCons (tC (.int 0)) (tCons (tVar 4) tNil)))))) (tTup (tCons (tC (.str "losses")) (tCons (tVar 4) tNil)))) (tOp (uEq K) (tCall (spOf K F__law_refused) [] E (tCons (tC (.int 2)) (tCons (tVar 1) (tCons (tC (.int 1)) (tCons (tC (.int 0)) (tCons (tC (.int 0)) tNil)))))) (tTup (tCons (tC (.str "fine")) (tCons (tC (.int 0)) tNil))))))))))))))
abbrev s_law : Stmt := top 43
theorem sc_law : FnScope ["script", "stream", "kind", "many", "strength", "letters", "goal", "merges", "turn", "lacks", "wrong", "more", "great", "far", "near"] ["script"] (defScope s_law) := ⟨rfl, rfl, rfl, by decide +kernel, rfl, by decide +kernel, by decide +kernel⟩
def t_law (K : Fg) (E : XK) : TS := (tSeq (tAsg (tCall (spOf K F__law_stream) [] E (tCons (tVar 0) tNil)) (gName 1))
  (tSeq (tAsg (tCall (spOf K F__law_kind) [] E (tCons (tVar 1) tNil)) (gName 2))
  (tSeq (tAsg (tOp (uAdd K) (tC (.int 1)) (tCall (spOf K F__law_draw) [] E (tCons (tVar 1) (tCons (tC (.int 40)) tNil)))) (gName 3))
  (tSeq (tAsg (tOp (uAdd K) (tC (.int 1)) (tCall (spOf K F__law_draw) [] E (tCons (tVar 1) (tCons (tC (.int 12)) tNil)))) (gName 4))
  (tSeq (tIfS (tAnd (tB (uIn K (tVar 2) (tTup (tCons (tC (.str "list")) (tCons (tC (.str "bag")) (tCons (tC (.str "set")) (tCons (tC (.str "heads")) (tCons (tC (.str "tails")) tNil)))))))) (tB (tOp uGt (tVar 3) (tC (.int 1))))) (tIfS (tNot (uTru K (tCall (spOf K F__law_same) [] E (tCons (tCall (spOf K F_price) [] E (tCons (tVar 2) (tCons (tVar 3) (tCons (tVar 4) tNil)))) (tCons (tCall (spOf K F__law_least) [] E (tCons (tVar 3) (tCons (tVar 4) tNil))) tNil))))) (tRet (tC (.bl false))) tNext) tNext)
  (tSeq (tFor (iSeq K (tTup (tCons (tC (.int 1)) (tCons (tC (.int 2)) (tCons (tC (.int 3)) (tCons (tC (.int 4)) (tCons (tVar 3) (tCons (tOp uMul (tC (.int 2)) (tVar 3)) tNil)))))))) (gName 5) (tFor (iSeq K (tTup (tCons (tC (.int 1)) (tCons (tC (.int 2)) (tCons (tC (.int 3)) (tCons (tVar 4) tNil)))))) (gName 6) (tIfS (tNot (uTru K (tCall (spOf K F__law_same) [] E (tCons (tCall (spOf K F_price) [] E (tCons (tVar 2) (tCons (tVar 5) (tCons (tVar 6) tNil)))) (tCons (tCall (spOf K F__law_due) [] E (tCons (tVar 2) (tCons (tVar 5) (tCons (tVar 6) tNil)))) tNil))))) (tRet (tC (.bl false))) tNext)))
  (tSeq (tAsg (tCall (spOf K F__law_draw) [] E (tCons (tVar 1) (tCons (tC (.int 61)) tNil))) (gName 7))
  (tSeq (tFor (iSeq K (tTup (tCons (tC (.int 0)) (tCons (tC (.int 1)) (tCons (tOp uSub (tVar 3) (tC (.int 2))) (tCons (tOp uSub (tVar 3) (tC (.int 1))) (tCons (tVar 3) (tCons (tVar 7) tNil)))))))) (gName 8) (tIfS (tAnd (tB (tOp uGe (tVar 8) (tC (.int 0)))) (tNot (uTru K (tCall (spOf K F__law_most) [] E (tCons (tVar 2) (tCons (tVar 3) (tCons (tVar 8) tNil))))))) (tRet (tC (.bl false))) tNext))
  (tSeq (tIfS (tOr (tNot (uTru K (tCall (spOf K F__law_most) [] E (tCons (tVar 2) (tCons (tC (.int 1)) (tCons (tVar 7) tNil)))))) (tNot (uTru K (tCall (spOf K F__law_most) [] E (tCons (tVar 2) (tCons (tC (.int 2)) (tCons (tVar 7) tNil))))))) (tRet (tC (.bl false))) tNext)
  (tSeq (tAsg (tCall (spOf K F__law_draw) [] E (tCons (tVar 1) (tCons (tC (.int 5)) tNil))) (gName 9))
  (tSeq (tAsg (tCall (spOf K F__law_draw) [] E (tCons (tVar 1) (tCons (tC (.int 4)) tNil))) (gName 10))
  (tSeq (tIfS (tNot (uTru K (tCall (spOf K F__law_same) [] E (tCons (tCall (spOf K F_price_of_errors) [] E (tCons (tVar 2) (tCons (tVar 3) (tCons (tVar 9) (tCons (tVar 10) tNil))))) (tCons (tCall (spOf K F__law_due) [] E (tCons (tVar 2) (tCons (tVar 3) (tCons (tOp (uAdd K) (tOp (uAdd K) (tVar 9) (tOp uMul (tC (.int 2)) (tVar 10))) (tC (.int 1))) tNil)))) tNil))))) (tRet (tC (.bl false))) tNext)
  (tSeq (tAsg (tOp (uAdd K) (tOp uSub (tVar 3) (tC (.int 1))) (tCall (spOf K F__law_draw) [] E (tCons (tVar 1) (tCons (tC (.int 9)) tNil)))) (gName 11))
  (tSeq (tIfS (tNot (uTru K (tCall (spOf K F__law_same) [] E (tCons (tCall (spOf K F_part_bound) [] E (tCons (tVar 3) (tCons (tVar 11) tNil))) (tCons (tOp uSub (tOp (uAdd K) (tOp (uAdd K) (tCall (spOf K F__law_log) [] E (tCons (tVar 3) tNil)) (tC (.int 1))) (tVar 11)) (tOp uSub (tVar 3) (tC (.int 1)))) tNil))))) (tRet (tC (.bl false))) tNext)
  (tSeq (tAsg (tOp (uAdd K) (tC (.int 1)) (tCall (spOf K F__law_long) [] E (tCons (tVar 1) (tCons (tC (.int 19)) tNil)))) (gName 12))
  (tSeq (tAsg (tOp (uAdd K) (tC (.int 1)) (tCall (spOf K F__law_long) [] E (tCons (tVar 1) (tCons (tC (.int 19)) tNil)))) (gName 13))
  (tSeq (tAsg (tOp (uAdd K) (tC (.int 1)) (tCall (spOf K F__law_draw) [] E (tCons (tVar 1) (tCons (tC (.int 150)) tNil)))) (gName 14))
  (tSeq (tIfS (tNot (uTru K (tCall (spOf K F__law_same) [] E (tCons (tCall (spOf K F_price) [] E (tCons (tVar 2) (tCons (tVar 12) (tCons (tVar 14) tNil)))) (tCons (tCall (spOf K F__law_due) [] E (tCons (tVar 2) (tCons (tVar 12) (tCons (tVar 14) tNil)))) tNil))))) (tRet (tC (.bl false))) tNext)
  (tSeq (tIfS (tAnd (tB (tOp uGt (tVar 13) (tC (.int 200)))) (tNot (uTru K (tCall (spOf K F__law_same) [] E (tCons (tCall (spOf K F_price) [] E (tCons (tVar 2) (tCons (tVar 3) (tCons (tVar 13) tNil)))) (tCons (tCall (spOf K F__law_due) [] E (tCons (tVar 2) (tCons (tVar 3) (tCons (tVar 13) tNil)))) tNil)))))) (tRet (tC (.bl false))) tNext)
  (tSeq (tIfS (tNot (uTru K (tCall (spOf K F__law_most) [] E (tCons (tVar 2) (tCons (tVar 12) (tCons (tVar 13) tNil)))))) (tRet (tC (.bl false))) tNext)
  (tRet (tCall (spOf K F__law_faults) [] E (tCons (tVar 1) (tCons (tVar 2) tNil))))))))))))))))))))))))
def sh_BadCount : SX.Shape where
  cls := "BadCount"
  m := "the count is below 1"
  f := "number"
  a := "number"
  qual := "BadCount.__init__"
  j := 0
  p0 := ⟨25, 8, 25, 13⟩
  p1 := ⟨25, 8, 25, 15⟩
  p2 := ⟨25, 8, 25, 24⟩
  p3 := ⟨25, 25, 25, 47⟩
  p4 := ⟨25, 8, 25, 48⟩
  p5 := ⟨25, 8, 25, 48⟩
  q1 := ⟨26, 8, 26, 12⟩
  q2 := ⟨26, 8, 26, 19⟩
  q3 := ⟨26, 22, 26, 28⟩
  q4 := ⟨26, 8, 26, 28⟩
  params := { posonlyargs := [], args := [{ arg := "self", annotation := none, pos := ⟨24, 17, 24, 21⟩ }, { arg := "number", annotation := none, pos := ⟨24, 23, 24, 29⟩ }], vararg := none, kwonlyargs := [], kw_defaults := [], kwarg := none, defaults := [] }
  scope := { kind := .function, names := [(PySem.Str.ofString "self", .local), (PySem.Str.ofString "number", .local), (PySem.Str.ofString "__class__", .free), (PySem.Str.ofString "super", .globalImplicit)], isGenerator := false, isCoroutine := false, more := [] }
theorem in_BadCount : SX.Ini sh_BadCount where
  arg := ⟨_, rfl⟩
  bnd := fun _ _ _ _ _ _ _ _ _ => rfl
  eInt := fun _ _ _ _ _ _ _ _ _ => rfl
  eSw := fun _ _ _ _ _ _ _ _ _ => rfl
  eSw2 := fun _ _ _ _ _ _ _ _ _ => rfl
  eCall := fun _ _ _ _ _ _ _ _ _ => ⟨_, rfl⟩
  sSup := rfl
  sCls := rfl
  sSelf := rfl
  sArg := rfl
  ne := by decide
  dbg := by decide
  cell := by decide
  kind := rfl
  co := rfl
  gen := rfl
def sh_BadKind : SX.Shape where
  cls := "BadKind"
  m := "not the name of a kind"
  f := "name"
  a := "name"
  qual := "BadKind.__init__"
  j := 0
  p0 := ⟨10, 8, 10, 13⟩
  p1 := ⟨10, 8, 10, 15⟩
  p2 := ⟨10, 8, 10, 24⟩
  p3 := ⟨10, 25, 10, 49⟩
  p4 := ⟨10, 8, 10, 50⟩
  p5 := ⟨10, 8, 10, 50⟩
  q1 := ⟨11, 8, 11, 12⟩
  q2 := ⟨11, 8, 11, 17⟩
  q3 := ⟨11, 20, 11, 24⟩
  q4 := ⟨11, 8, 11, 24⟩
  params := { posonlyargs := [], args := [{ arg := "self", annotation := none, pos := ⟨9, 17, 9, 21⟩ }, { arg := "name", annotation := none, pos := ⟨9, 23, 9, 27⟩ }], vararg := none, kwonlyargs := [], kw_defaults := [], kwarg := none, defaults := [] }
  scope := { kind := .function, names := [(PySem.Str.ofString "self", .local), (PySem.Str.ofString "name", .local), (PySem.Str.ofString "__class__", .free), (PySem.Str.ofString "super", .globalImplicit)], isGenerator := false, isCoroutine := false, more := [] }
theorem in_BadKind : SX.Ini sh_BadKind where
  arg := ⟨_, rfl⟩
  bnd := fun _ _ _ _ _ _ _ _ _ => rfl
  eInt := fun _ _ _ _ _ _ _ _ _ => rfl
  eSw := fun _ _ _ _ _ _ _ _ _ => rfl
  eSw2 := fun _ _ _ _ _ _ _ _ _ => rfl
  eCall := fun _ _ _ _ _ _ _ _ _ => ⟨_, rfl⟩
  sSup := rfl
  sCls := rfl
  sSelf := rfl
  sArg := rfl
  ne := by decide
  dbg := by decide
  cell := by decide
  kind := rfl
  co := rfl
  gen := rfl
def sh_BadLength : SX.Shape where
  cls := "BadLength"
  m := "not a length that the call takes"
  f := "length"
  a := "length"
  qual := "BadLength.__init__"
  j := 0
  p0 := ⟨15, 8, 15, 13⟩
  p1 := ⟨15, 8, 15, 15⟩
  p2 := ⟨15, 8, 15, 24⟩
  p3 := ⟨15, 25, 15, 59⟩
  p4 := ⟨15, 8, 15, 60⟩
  p5 := ⟨15, 8, 15, 60⟩
  q1 := ⟨16, 8, 16, 12⟩
  q2 := ⟨16, 8, 16, 19⟩
  q3 := ⟨16, 22, 16, 28⟩
  q4 := ⟨16, 8, 16, 28⟩
  params := { posonlyargs := [], args := [{ arg := "self", annotation := none, pos := ⟨14, 17, 14, 21⟩ }, { arg := "length", annotation := none, pos := ⟨14, 23, 14, 29⟩ }], vararg := none, kwonlyargs := [], kw_defaults := [], kwarg := none, defaults := [] }
  scope := { kind := .function, names := [(PySem.Str.ofString "self", .local), (PySem.Str.ofString "length", .local), (PySem.Str.ofString "__class__", .free), (PySem.Str.ofString "super", .globalImplicit)], isGenerator := false, isCoroutine := false, more := [] }
theorem in_BadLength : SX.Ini sh_BadLength where
  arg := ⟨_, rfl⟩
  bnd := fun _ _ _ _ _ _ _ _ _ => rfl
  eInt := fun _ _ _ _ _ _ _ _ _ => rfl
  eSw := fun _ _ _ _ _ _ _ _ _ => rfl
  eSw2 := fun _ _ _ _ _ _ _ _ _ => rfl
  eCall := fun _ _ _ _ _ _ _ _ _ => ⟨_, rfl⟩
  sSup := rfl
  sCls := rfl
  sSelf := rfl
  sArg := rfl
  ne := by decide
  dbg := by decide
  cell := by decide
  kind := rfl
  co := rfl
  gen := rfl
def sh_BadLosses : SX.Shape where
  cls := "BadLosses"
  m := "the number of lost pieces is below 0"
  f := "lacks"
  a := "lacks"
  qual := "BadLosses.__init__"
  j := 0
  p0 := ⟨30, 8, 30, 13⟩
  p1 := ⟨30, 8, 30, 15⟩
  p2 := ⟨30, 8, 30, 24⟩
  p3 := ⟨30, 25, 30, 63⟩
  p4 := ⟨30, 8, 30, 64⟩
  p5 := ⟨30, 8, 30, 64⟩
  q1 := ⟨31, 8, 31, 12⟩
  q2 := ⟨31, 8, 31, 18⟩
  q3 := ⟨31, 21, 31, 26⟩
  q4 := ⟨31, 8, 31, 26⟩
  params := { posonlyargs := [], args := [{ arg := "self", annotation := none, pos := ⟨29, 17, 29, 21⟩ }, { arg := "lacks", annotation := none, pos := ⟨29, 23, 29, 28⟩ }], vararg := none, kwonlyargs := [], kw_defaults := [], kwarg := none, defaults := [] }
  scope := { kind := .function, names := [(PySem.Str.ofString "self", .local), (PySem.Str.ofString "lacks", .local), (PySem.Str.ofString "__class__", .free), (PySem.Str.ofString "super", .globalImplicit)], isGenerator := false, isCoroutine := false, more := [] }
theorem in_BadLosses : SX.Ini sh_BadLosses where
  arg := ⟨_, rfl⟩
  bnd := fun _ _ _ _ _ _ _ _ _ => rfl
  eInt := fun _ _ _ _ _ _ _ _ _ => rfl
  eSw := fun _ _ _ _ _ _ _ _ _ => rfl
  eSw2 := fun _ _ _ _ _ _ _ _ _ => rfl
  eCall := fun _ _ _ _ _ _ _ _ _ => ⟨_, rfl⟩
  sSup := rfl
  sCls := rfl
  sSelf := rfl
  sArg := rfl
  ne := by decide
  dbg := by decide
  cell := by decide
  kind := rfl
  co := rfl
  gen := rfl
def sh_BadWidth : SX.Shape where
  cls := "BadWidth"
  m := "the width is below 1"
  f := "width"
  a := "width"
  qual := "BadWidth.__init__"
  j := 0
  p0 := ⟨20, 8, 20, 13⟩
  p1 := ⟨20, 8, 20, 15⟩
  p2 := ⟨20, 8, 20, 24⟩
  p3 := ⟨20, 25, 20, 47⟩
  p4 := ⟨20, 8, 20, 48⟩
  p5 := ⟨20, 8, 20, 48⟩
  q1 := ⟨21, 8, 21, 12⟩
  q2 := ⟨21, 8, 21, 18⟩
  q3 := ⟨21, 21, 21, 26⟩
  q4 := ⟨21, 8, 21, 26⟩
  params := { posonlyargs := [], args := [{ arg := "self", annotation := none, pos := ⟨19, 17, 19, 21⟩ }, { arg := "width", annotation := none, pos := ⟨19, 23, 19, 28⟩ }], vararg := none, kwonlyargs := [], kw_defaults := [], kwarg := none, defaults := [] }
  scope := { kind := .function, names := [(PySem.Str.ofString "self", .local), (PySem.Str.ofString "width", .local), (PySem.Str.ofString "__class__", .free), (PySem.Str.ofString "super", .globalImplicit)], isGenerator := false, isCoroutine := false, more := [] }
theorem in_BadWidth : SX.Ini sh_BadWidth where
  arg := ⟨_, rfl⟩
  bnd := fun _ _ _ _ _ _ _ _ _ => rfl
  eInt := fun _ _ _ _ _ _ _ _ _ => rfl
  eSw := fun _ _ _ _ _ _ _ _ _ => rfl
  eSw2 := fun _ _ _ _ _ _ _ _ _ => rfl
  eCall := fun _ _ _ _ _ _ _ _ _ => ⟨_, rfl⟩
  sSup := rfl
  sCls := rfl
  sSelf := rfl
  sArg := rfl
  ne := by decide
  dbg := by decide
  cell := by decide
  kind := rfl
  co := rfl
  gen := rfl
structure Txt (P : Program) (K : Fg) (mg : Str → Option Value) : Prop where
  g_abs : mg "abs" = none
  g_bool : mg "bool" = none
  g_int : mg "int" = none
  g_isinstance : mg "isinstance" = none
  g_len : mg "len" = none
  g_max : mg "max" = none
  g_min : mg "min" = none
  g_range : mg "range" = none
  m_kind_named : mg "kind_named" = some (.ref (He.ga K "kind_named"))
  m_floor_log2 : mg "floor_log2" = some (.ref (He.ga K "floor_log2"))
  m_check_numbers : mg "check_numbers" = some (.ref (He.ga K "check_numbers"))
  m_check_sizes : mg "check_sizes" = some (.ref (He.ga K "check_sizes"))
  m_halved : mg "halved" = some (.ref (He.ga K "halved"))
  m_never_stronger : mg "never_stronger" = some (.ref (He.ga K "never_stronger"))
  m_price : mg "price" = some (.ref (He.ga K "price"))
  m_most_strength : mg "most_strength" = some (.ref (He.ga K "most_strength"))
  m_price_of_errors : mg "price_of_errors" = some (.ref (He.ga K "price_of_errors"))
  m_part_bound : mg "part_bound" = some (.ref (He.ga K "part_bound"))
  m__law_stream : mg "_law_stream" = some (.ref (He.ga K "_law_stream"))
  m__law_draw : mg "_law_draw" = some (.ref (He.ga K "_law_draw"))
  m__law_kind : mg "_law_kind" = some (.ref (He.ga K "_law_kind"))
  m__law_log : mg "_law_log" = some (.ref (He.ga K "_law_log"))
  m__law_least : mg "_law_least" = some (.ref (He.ga K "_law_least"))
  m__law_due : mg "_law_due" = some (.ref (He.ga K "_law_due"))
  m__law_same : mg "_law_same" = some (.ref (He.ga K "_law_same"))
  m__law_long : mg "_law_long" = some (.ref (He.ga K "_law_long"))
  m__law_most : mg "_law_most" = some (.ref (He.ga K "_law_most"))
  m__law_refused : mg "_law_refused" = some (.ref (He.ga K "_law_refused"))
  m__law_faults : mg "_law_faults" = some (.ref (He.ga K "_law_faults"))
  m_law : mg "law" = some (.ref (He.ga K "law"))
  m_BadCount : mg "BadCount" = some (.ref (He.ga K "BadCount"))
  m_BadKind : mg "BadKind" = some (.ref (He.ga K "BadKind"))
  m_BadLength : mg "BadLength" = some (.ref (He.ga K "BadLength"))
  m_BadLosses : mg "BadLosses" = some (.ref (He.ga K "BadLosses"))
  m_BadWidth : mg "BadWidth" = some (.ref (He.ga K "BadWidth"))
  m_BagKind : mg "BagKind" = some (.ref (He.ga K "BagKind"))
  m_EndsKind : mg "EndsKind" = some (.ref (He.ga K "EndsKind"))
  m_FirstKind : mg "FirstKind" = some (.ref (He.ga K "FirstKind"))
  m_HeadsKind : mg "HeadsKind" = some (.ref (He.ga K "HeadsKind"))
  m_Kind : mg "Kind" = some (.ref (He.ga K "Kind"))
  m_LastKind : mg "LastKind" = some (.ref (He.ga K "LastKind"))
  m_SetKind : mg "SetKind" = some (.ref (He.ga K "SetKind"))
  m_TailsKind : mg "TailsKind" = some (.ref (He.ga K "TailsKind"))
  m_FULL_KINDS : mg "FULL_KINDS" = some (.ref (He.ga K "FULL_KINDS"))
  fn_kind_named : ∃ fd, FunD K "kind_named" "kind_named" (defArgs s_kind_named) (defBody s_kind_named) (defScope s_kind_named) [] [] (He.ga K "kind_named") fd
  fn_floor_log2 : ∃ fd, FunD K "floor_log2" "floor_log2" (defArgs s_floor_log2) (defBody s_floor_log2) (defScope s_floor_log2) [] [] (He.ga K "floor_log2") fd
  fn_check_numbers : ∃ fd, FunD K "check_numbers" "check_numbers" (defArgs s_check_numbers) (defBody s_check_numbers) (defScope s_check_numbers) [] [] (He.ga K "check_numbers") fd
  fn_check_sizes : ∃ fd, FunD K "check_sizes" "check_sizes" (defArgs s_check_sizes) (defBody s_check_sizes) (defScope s_check_sizes) [] [] (He.ga K "check_sizes") fd
  fn_halved : ∃ fd, FunD K "halved" "halved" (defArgs s_halved) (defBody s_halved) (defScope s_halved) [] [] (He.ga K "halved") fd
  fn_never_stronger : ∃ fd, FunD K "never_stronger" "never_stronger" (defArgs s_never_stronger) (defBody s_never_stronger) (defScope s_never_stronger) [] [] (He.ga K "never_stronger") fd
  fn_price : ∃ fd, FunD K "price" "price" (defArgs s_price) (defBody s_price) (defScope s_price) [] [] (He.ga K "price") fd
  fn_most_strength : ∃ fd, FunD K "most_strength" "most_strength" (defArgs s_most_strength) (defBody s_most_strength) (defScope s_most_strength) [] [] (He.ga K "most_strength") fd
  fn_price_of_errors : ∃ fd, FunD K "price_of_errors" "price_of_errors" (defArgs s_price_of_errors) (defBody s_price_of_errors) (defScope s_price_of_errors) [] [] (He.ga K "price_of_errors") fd
  fn_part_bound : ∃ fd, FunD K "part_bound" "part_bound" (defArgs s_part_bound) (defBody s_part_bound) (defScope s_part_bound) [] [] (He.ga K "part_bound") fd
  fn__law_stream : ∃ fd, FunD K "_law_stream" "_law_stream" (defArgs s__law_stream) (defBody s__law_stream) (defScope s__law_stream) [] [] (He.ga K "_law_stream") fd
  fn__law_draw : ∃ fd, FunD K "_law_draw" "_law_draw" (defArgs s__law_draw) (defBody s__law_draw) (defScope s__law_draw) [] [] (He.ga K "_law_draw") fd
  fn__law_kind : ∃ fd, FunD K "_law_kind" "_law_kind" (defArgs s__law_kind) (defBody s__law_kind) (defScope s__law_kind) [] [] (He.ga K "_law_kind") fd
  fn__law_log : ∃ fd, FunD K "_law_log" "_law_log" (defArgs s__law_log) (defBody s__law_log) (defScope s__law_log) [] [] (He.ga K "_law_log") fd
  fn__law_least : ∃ fd, FunD K "_law_least" "_law_least" (defArgs s__law_least) (defBody s__law_least) (defScope s__law_least) [] [] (He.ga K "_law_least") fd
  fn__law_due : ∃ fd, FunD K "_law_due" "_law_due" (defArgs s__law_due) (defBody s__law_due) (defScope s__law_due) [] [] (He.ga K "_law_due") fd
  fn__law_same : ∃ fd, FunD K "_law_same" "_law_same" (defArgs s__law_same) (defBody s__law_same) (defScope s__law_same) [] [] (He.ga K "_law_same") fd
  fn__law_long : ∃ fd, FunD K "_law_long" "_law_long" (defArgs s__law_long) (defBody s__law_long) (defScope s__law_long) [] [] (He.ga K "_law_long") fd
  fn__law_most : ∃ fd, FunD K "_law_most" "_law_most" (defArgs s__law_most) (defBody s__law_most) (defScope s__law_most) [] [] (He.ga K "_law_most") fd
  fn__law_refused : ∃ fd, FunD K "_law_refused" "_law_refused" (defArgs s__law_refused) (defBody s__law_refused) (defScope s__law_refused) [] [] (He.ga K "_law_refused") fd
  fn__law_faults : ∃ fd, FunD K "_law_faults" "_law_faults" (defArgs s__law_faults) (defBody s__law_faults) (defScope s__law_faults) [] [] (He.ga K "_law_faults") fd
  fn_law : ∃ fd, FunD K "law" "law" (defArgs s_law) (defBody s_law) (defScope s_law) [] [] (He.ga K "law") fd
  sx_BadCount : SX.Txt P K (He.ga K "BadCount") sh_BadCount
  sx_BadKind : SX.Txt P K (He.ga K "BadKind") sh_BadKind
  sx_BadLength : SX.Txt P K (He.ga K "BadLength") sh_BadLength
  sx_BadLosses : SX.Txt P K (He.ga K "BadLosses") sh_BadLosses
  sx_BadWidth : SX.Txt P K (He.ga K "BadWidth") sh_BadWidth
  k_BagKind : Mk0 K (He.ga K "BagKind")
  c_BagKind : Cls K (He.ga K "BagKind")
  k_EndsKind : Mk0 K (He.ga K "EndsKind")
  c_EndsKind : Cls K (He.ga K "EndsKind")
  k_FirstKind : Mk0 K (He.ga K "FirstKind")
  c_FirstKind : Cls K (He.ga K "FirstKind")
  k_HeadsKind : Mk0 K (He.ga K "HeadsKind")
  c_HeadsKind : Cls K (He.ga K "HeadsKind")
  k_Kind : Mk0 K (He.ga K "Kind")
  c_Kind : Cls K (He.ga K "Kind")
  k_LastKind : Mk0 K (He.ga K "LastKind")
  c_LastKind : Cls K (He.ga K "LastKind")
  k_SetKind : Mk0 K (He.ga K "SetKind")
  c_SetKind : Cls K (He.ga K "SetKind")
  k_TailsKind : Mk0 K (He.ga K "TailsKind")
  c_TailsKind : Cls K (He.ga K "TailsKind")
  i_BagKind_IDEMPOTENT : ∃ u, Con K (He.ga K "BagKind") "IDEMPOTENT" (.bl false) u
  i_EndsKind_IDEMPOTENT : ∃ u, Con K (He.ga K "EndsKind") "IDEMPOTENT" (.bl true) u
  i_FirstKind_IDEMPOTENT : ∃ u, Con K (He.ga K "FirstKind") "IDEMPOTENT" (.bl true) u
  i_HeadsKind_IDEMPOTENT : ∃ u, Con K (He.ga K "HeadsKind") "IDEMPOTENT" (.bl true) u
  i_Kind_IDEMPOTENT : ∃ u, Con K (He.ga K "Kind") "IDEMPOTENT" (.bl false) u
  i_LastKind_IDEMPOTENT : ∃ u, Con K (He.ga K "LastKind") "IDEMPOTENT" (.bl true) u
  i_SetKind_IDEMPOTENT : ∃ u, Con K (He.ga K "SetKind") "IDEMPOTENT" (.bl true) u
  i_TailsKind_IDEMPOTENT : ∃ u, Con K (He.ga K "TailsKind") "IDEMPOTENT" (.bl true) u
  tu_FULL_KINDS : ∀ H : Hp, SqT K H (He.ga K "FULL_KINDS") ([.str "list", .str "bag", .str "set", .str "heads", .str "tails"] : List V)
  x_BadCount_BadCount : PySem.W.exmOne K (.ref (He.ga K "BadCount")) (.ref (He.ga K "BadCount")) = some true
  x_BadCount_BadKind : PySem.W.exmOne K (.ref (He.ga K "BadCount")) (.ref (He.ga K "BadKind")) = some false
  x_BadCount_BadLength : PySem.W.exmOne K (.ref (He.ga K "BadCount")) (.ref (He.ga K "BadLength")) = some false
  x_BadCount_BadLosses : PySem.W.exmOne K (.ref (He.ga K "BadCount")) (.ref (He.ga K "BadLosses")) = some false
  x_BadCount_BadWidth : PySem.W.exmOne K (.ref (He.ga K "BadCount")) (.ref (He.ga K "BadWidth")) = some false
  x_BadKind_BadCount : PySem.W.exmOne K (.ref (He.ga K "BadKind")) (.ref (He.ga K "BadCount")) = some false
  x_BadKind_BadKind : PySem.W.exmOne K (.ref (He.ga K "BadKind")) (.ref (He.ga K "BadKind")) = some true
  x_BadKind_BadLength : PySem.W.exmOne K (.ref (He.ga K "BadKind")) (.ref (He.ga K "BadLength")) = some false
  x_BadKind_BadLosses : PySem.W.exmOne K (.ref (He.ga K "BadKind")) (.ref (He.ga K "BadLosses")) = some false
  x_BadKind_BadWidth : PySem.W.exmOne K (.ref (He.ga K "BadKind")) (.ref (He.ga K "BadWidth")) = some false
  x_BadLength_BadCount : PySem.W.exmOne K (.ref (He.ga K "BadLength")) (.ref (He.ga K "BadCount")) = some false
  x_BadLength_BadKind : PySem.W.exmOne K (.ref (He.ga K "BadLength")) (.ref (He.ga K "BadKind")) = some false
  x_BadLength_BadLength : PySem.W.exmOne K (.ref (He.ga K "BadLength")) (.ref (He.ga K "BadLength")) = some true
  x_BadLength_BadLosses : PySem.W.exmOne K (.ref (He.ga K "BadLength")) (.ref (He.ga K "BadLosses")) = some false
  x_BadLength_BadWidth : PySem.W.exmOne K (.ref (He.ga K "BadLength")) (.ref (He.ga K "BadWidth")) = some false
  x_BadLosses_BadCount : PySem.W.exmOne K (.ref (He.ga K "BadLosses")) (.ref (He.ga K "BadCount")) = some false
  x_BadLosses_BadKind : PySem.W.exmOne K (.ref (He.ga K "BadLosses")) (.ref (He.ga K "BadKind")) = some false
  x_BadLosses_BadLength : PySem.W.exmOne K (.ref (He.ga K "BadLosses")) (.ref (He.ga K "BadLength")) = some false
  x_BadLosses_BadLosses : PySem.W.exmOne K (.ref (He.ga K "BadLosses")) (.ref (He.ga K "BadLosses")) = some true
  x_BadLosses_BadWidth : PySem.W.exmOne K (.ref (He.ga K "BadLosses")) (.ref (He.ga K "BadWidth")) = some false
  x_BadWidth_BadCount : PySem.W.exmOne K (.ref (He.ga K "BadWidth")) (.ref (He.ga K "BadCount")) = some false
  x_BadWidth_BadKind : PySem.W.exmOne K (.ref (He.ga K "BadWidth")) (.ref (He.ga K "BadKind")) = some false
  x_BadWidth_BadLength : PySem.W.exmOne K (.ref (He.ga K "BadWidth")) (.ref (He.ga K "BadLength")) = some false
  x_BadWidth_BadLosses : PySem.W.exmOne K (.ref (He.ga K "BadWidth")) (.ref (He.ga K "BadLosses")) = some false
  x_BadWidth_BadWidth : PySem.W.exmOne K (.ref (He.ga K "BadWidth")) (.ref (He.ga K "BadWidth")) = some true
def d_kind_named : He.DefD := ⟨("kind_named", none), "kind_named", "kind_named", defArgs s_kind_named, defBody s_kind_named, defScope s_kind_named, [], []⟩
def d_floor_log2 : He.DefD := ⟨("floor_log2", none), "floor_log2", "floor_log2", defArgs s_floor_log2, defBody s_floor_log2, defScope s_floor_log2, [], []⟩
def d_check_numbers : He.DefD := ⟨("check_numbers", none), "check_numbers", "check_numbers", defArgs s_check_numbers, defBody s_check_numbers, defScope s_check_numbers, [], []⟩
def d_check_sizes : He.DefD := ⟨("check_sizes", none), "check_sizes", "check_sizes", defArgs s_check_sizes, defBody s_check_sizes, defScope s_check_sizes, [], []⟩
def d_halved : He.DefD := ⟨("halved", none), "halved", "halved", defArgs s_halved, defBody s_halved, defScope s_halved, [], []⟩
def d_never_stronger : He.DefD := ⟨("never_stronger", none), "never_stronger", "never_stronger", defArgs s_never_stronger, defBody s_never_stronger, defScope s_never_stronger, [], []⟩
def d_price : He.DefD := ⟨("price", none), "price", "price", defArgs s_price, defBody s_price, defScope s_price, [], []⟩
def d_most_strength : He.DefD := ⟨("most_strength", none), "most_strength", "most_strength", defArgs s_most_strength, defBody s_most_strength, defScope s_most_strength, [], []⟩
def d_price_of_errors : He.DefD := ⟨("price_of_errors", none), "price_of_errors", "price_of_errors", defArgs s_price_of_errors, defBody s_price_of_errors, defScope s_price_of_errors, [], []⟩
def d_part_bound : He.DefD := ⟨("part_bound", none), "part_bound", "part_bound", defArgs s_part_bound, defBody s_part_bound, defScope s_part_bound, [], []⟩
def d__law_stream : He.DefD := ⟨("_law_stream", none), "_law_stream", "_law_stream", defArgs s__law_stream, defBody s__law_stream, defScope s__law_stream, [], []⟩
def d__law_draw : He.DefD := ⟨("_law_draw", none), "_law_draw", "_law_draw", defArgs s__law_draw, defBody s__law_draw, defScope s__law_draw, [], []⟩
def d__law_kind : He.DefD := ⟨("_law_kind", none), "_law_kind", "_law_kind", defArgs s__law_kind, defBody s__law_kind, defScope s__law_kind, [], []⟩
def d__law_log : He.DefD := ⟨("_law_log", none), "_law_log", "_law_log", defArgs s__law_log, defBody s__law_log, defScope s__law_log, [], []⟩
def d__law_least : He.DefD := ⟨("_law_least", none), "_law_least", "_law_least", defArgs s__law_least, defBody s__law_least, defScope s__law_least, [], []⟩
def d__law_due : He.DefD := ⟨("_law_due", none), "_law_due", "_law_due", defArgs s__law_due, defBody s__law_due, defScope s__law_due, [], []⟩
def d__law_same : He.DefD := ⟨("_law_same", none), "_law_same", "_law_same", defArgs s__law_same, defBody s__law_same, defScope s__law_same, [], []⟩
def d__law_long : He.DefD := ⟨("_law_long", none), "_law_long", "_law_long", defArgs s__law_long, defBody s__law_long, defScope s__law_long, [], []⟩
def d__law_most : He.DefD := ⟨("_law_most", none), "_law_most", "_law_most", defArgs s__law_most, defBody s__law_most, defScope s__law_most, [], []⟩
def d__law_refused : He.DefD := ⟨("_law_refused", none), "_law_refused", "_law_refused", defArgs s__law_refused, defBody s__law_refused, defScope s__law_refused, [], []⟩
def d__law_faults : He.DefD := ⟨("_law_faults", none), "_law_faults", "_law_faults", defArgs s__law_faults, defBody s__law_faults, defScope s__law_faults, [], []⟩
def d_law : He.DefD := ⟨("law", none), "law", "law", defArgs s_law, defBody s_law, defScope s_law, [], []⟩
def mainFile : Str := PySem.Challenge.pw_foldsunseen_k20_prices.main.file
def fa : List He.Fa := [.free "abs", .free "bool", .free "int", .free "isinstance", .free "len", .free "max", .free "min", .free "range", .glo "kind_named", .glo "floor_log2", .glo "check_numbers", .glo "check_sizes", .glo "halved", .glo "never_stronger", .glo "price", .glo "most_strength", .glo "price_of_errors", .glo "part_bound", .glo "_law_stream", .glo "_law_draw", .glo "_law_kind", .glo "_law_log", .glo "_law_least", .glo "_law_due", .glo "_law_same", .glo "_law_long", .glo "_law_most", .glo "_law_refused", .glo "_law_faults", .glo "law", .glo "BadCount", .glo "BadKind", .glo "BadLength", .glo "BadLosses", .glo "BadWidth", .glo "BagKind", .glo "EndsKind", .glo "FirstKind", .glo "HeadsKind", .glo "Kind", .glo "LastKind", .glo "SetKind", .glo "TailsKind", .glo "FULL_KINDS", .cls "BagKind", .cls "EndsKind", .cls "FirstKind", .cls "HeadsKind", .cls "Kind", .cls "LastKind", .cls "SetKind", .cls "TailsKind", .exm "BadCount" "BadCount" true, .exm "BadCount" "BadKind" false, .exm "BadCount" "BadLength" false, .exm "BadCount" "BadLosses" false, .exm "BadCount" "BadWidth" false, .exm "BadKind" "BadCount" false, .exm "BadKind" "BadKind" true, .exm "BadKind" "BadLength" false, .exm "BadKind" "BadLosses" false, .exm "BadKind" "BadWidth" false, .exm "BadLength" "BadCount" false, .exm "BadLength" "BadKind" false, .exm "BadLength" "BadLength" true, .exm "BadLength" "BadLosses" false, .exm "BadLength" "BadWidth" false, .exm "BadLosses" "BadCount" false, .exm "BadLosses" "BadKind" false, .exm "BadLosses" "BadLength" false, .exm "BadLosses" "BadLosses" true, .exm "BadLosses" "BadWidth" false, .exm "BadWidth" "BadCount" false, .exm "BadWidth" "BadKind" false, .exm "BadWidth" "BadLength" false, .exm "BadWidth" "BadLosses" false, .exm "BadWidth" "BadWidth" true]
def fn : List He.DefD := [d_kind_named, d_floor_log2, d_check_numbers, d_check_sizes, d_halved, d_never_stronger, d_price, d_most_strength, d_price_of_errors, d_part_bound, d__law_stream, d__law_draw, d__law_kind, d__law_log, d__law_least, d__law_due, d__law_same, d__law_long, d__law_most, d__law_refused, d__law_faults, d_law]
def sx : List SX.Shape := [sh_BadCount, sh_BadKind, sh_BadLength, sh_BadLosses, sh_BadWidth]
def ex : Fg → Bool := HV.allB [fun K => HV.sxB mainFile K sh_BadCount, fun K => HV.sxB mainFile K sh_BadKind, fun K => HV.sxB mainFile K sh_BadLength, fun K => HV.sxB mainFile K sh_BadLosses, fun K => HV.sxB mainFile K sh_BadWidth, fun K => HV.mk0B K (He.ga K "BagKind"), fun K => HV.mk0B K (He.ga K "EndsKind"), fun K => HV.mk0B K (He.ga K "FirstKind"), fun K => HV.mk0B K (He.ga K "HeadsKind"), fun K => HV.mk0B K (He.ga K "Kind"), fun K => HV.mk0B K (He.ga K "LastKind"), fun K => HV.mk0B K (He.ga K "SetKind"), fun K => HV.mk0B K (He.ga K "TailsKind"), fun K => He.conB K "BagKind" "IDEMPOTENT" (.bl false), fun K => He.conB K "EndsKind" "IDEMPOTENT" (.bl true), fun K => He.conB K "FirstKind" "IDEMPOTENT" (.bl true), fun K => He.conB K "HeadsKind" "IDEMPOTENT" (.bl true), fun K => He.conB K "Kind" "IDEMPOTENT" (.bl false), fun K => He.conB K "LastKind" "IDEMPOTENT" (.bl true), fun K => He.conB K "SetKind" "IDEMPOTENT" (.bl true), fun K => He.conB K "TailsKind" "IDEMPOTENT" (.bl true), fun K => He.tupB K "FULL_KINDS" [.str "list", .str "bag", .str "set", .str "heads", .str "tails"]]
theorem txt {P : Program} {K : Fg} {h : Heap} {mg : Str → Option Value} (hP : P.main.file = mainFile) (hsup : (P.main.scope.names.lookup ("super" : Str)).isSome = false) (X : K.In h) (G : h.Ns mainGlobals mg) (c : HV.SaysV fa fn sx ex K) : Txt P K mg where
  g_abs := He.free_ok X G (c.d.fact 0 rfl)
  g_bool := He.free_ok X G (c.d.fact 1 rfl)
  g_int := He.free_ok X G (c.d.fact 2 rfl)
  g_isinstance := He.free_ok X G (c.d.fact 3 rfl)
  g_len := He.free_ok X G (c.d.fact 4 rfl)
  g_max := He.free_ok X G (c.d.fact 5 rfl)
  g_min := He.free_ok X G (c.d.fact 6 rfl)
  g_range := He.free_ok X G (c.d.fact 7 rfl)
  m_kind_named := He.glo_ok X G (c.d.fact 8 rfl)
  m_floor_log2 := He.glo_ok X G (c.d.fact 9 rfl)
  m_check_numbers := He.glo_ok X G (c.d.fact 10 rfl)
  m_check_sizes := He.glo_ok X G (c.d.fact 11 rfl)
  m_halved := He.glo_ok X G (c.d.fact 12 rfl)
  m_never_stronger := He.glo_ok X G (c.d.fact 13 rfl)
  m_price := He.glo_ok X G (c.d.fact 14 rfl)
  m_most_strength := He.glo_ok X G (c.d.fact 15 rfl)
  m_price_of_errors := He.glo_ok X G (c.d.fact 16 rfl)
  m_part_bound := He.glo_ok X G (c.d.fact 17 rfl)
  m__law_stream := He.glo_ok X G (c.d.fact 18 rfl)
  m__law_draw := He.glo_ok X G (c.d.fact 19 rfl)
  m__law_kind := He.glo_ok X G (c.d.fact 20 rfl)
  m__law_log := He.glo_ok X G (c.d.fact 21 rfl)
  m__law_least := He.glo_ok X G (c.d.fact 22 rfl)
  m__law_due := He.glo_ok X G (c.d.fact 23 rfl)
  m__law_same := He.glo_ok X G (c.d.fact 24 rfl)
  m__law_long := He.glo_ok X G (c.d.fact 25 rfl)
  m__law_most := He.glo_ok X G (c.d.fact 26 rfl)
  m__law_refused := He.glo_ok X G (c.d.fact 27 rfl)
  m__law_faults := He.glo_ok X G (c.d.fact 28 rfl)
  m_law := He.glo_ok X G (c.d.fact 29 rfl)
  m_BadCount := He.glo_ok X G (c.d.fact 30 rfl)
  m_BadKind := He.glo_ok X G (c.d.fact 31 rfl)
  m_BadLength := He.glo_ok X G (c.d.fact 32 rfl)
  m_BadLosses := He.glo_ok X G (c.d.fact 33 rfl)
  m_BadWidth := He.glo_ok X G (c.d.fact 34 rfl)
  m_BagKind := He.glo_ok X G (c.d.fact 35 rfl)
  m_EndsKind := He.glo_ok X G (c.d.fact 36 rfl)
  m_FirstKind := He.glo_ok X G (c.d.fact 37 rfl)
  m_HeadsKind := He.glo_ok X G (c.d.fact 38 rfl)
  m_Kind := He.glo_ok X G (c.d.fact 39 rfl)
  m_LastKind := He.glo_ok X G (c.d.fact 40 rfl)
  m_SetKind := He.glo_ok X G (c.d.fact 41 rfl)
  m_TailsKind := He.glo_ok X G (c.d.fact 42 rfl)
  m_FULL_KINDS := He.glo_ok X G (c.d.fact 43 rfl)
  fn_kind_named := c.d.def_ 0 (d := d_kind_named) rfl
  fn_floor_log2 := c.d.def_ 1 (d := d_floor_log2) rfl
  fn_check_numbers := c.d.def_ 2 (d := d_check_numbers) rfl
  fn_check_sizes := c.d.def_ 3 (d := d_check_sizes) rfl
  fn_halved := c.d.def_ 4 (d := d_halved) rfl
  fn_never_stronger := c.d.def_ 5 (d := d_never_stronger) rfl
  fn_price := c.d.def_ 6 (d := d_price) rfl
  fn_most_strength := c.d.def_ 7 (d := d_most_strength) rfl
  fn_price_of_errors := c.d.def_ 8 (d := d_price_of_errors) rfl
  fn_part_bound := c.d.def_ 9 (d := d_part_bound) rfl
  fn__law_stream := c.d.def_ 10 (d := d__law_stream) rfl
  fn__law_draw := c.d.def_ 11 (d := d__law_draw) rfl
  fn__law_kind := c.d.def_ 12 (d := d__law_kind) rfl
  fn__law_log := c.d.def_ 13 (d := d__law_log) rfl
  fn__law_least := c.d.def_ 14 (d := d__law_least) rfl
  fn__law_due := c.d.def_ 15 (d := d__law_due) rfl
  fn__law_same := c.d.def_ 16 (d := d__law_same) rfl
  fn__law_long := c.d.def_ 17 (d := d__law_long) rfl
  fn__law_most := c.d.def_ 18 (d := d__law_most) rfl
  fn__law_refused := c.d.def_ 19 (d := d__law_refused) rfl
  fn__law_faults := c.d.def_ 20 (d := d__law_faults) rfl
  fn_law := c.d.def_ 21 (d := d_law) rfl
  sx_BadCount := by
    have z := HV.allB_at c.e 0 (p := fun K => HV.sxB mainFile K sh_BadCount) rfl
    exact HV.sx_ok in_BadCount hsup (c.shp 0 rfl) (by rw [hP]; exact z)
  sx_BadKind := by
    have z := HV.allB_at c.e 1 (p := fun K => HV.sxB mainFile K sh_BadKind) rfl
    exact HV.sx_ok in_BadKind hsup (c.shp 1 rfl) (by rw [hP]; exact z)
  sx_BadLength := by
    have z := HV.allB_at c.e 2 (p := fun K => HV.sxB mainFile K sh_BadLength) rfl
    exact HV.sx_ok in_BadLength hsup (c.shp 2 rfl) (by rw [hP]; exact z)
  sx_BadLosses := by
    have z := HV.allB_at c.e 3 (p := fun K => HV.sxB mainFile K sh_BadLosses) rfl
    exact HV.sx_ok in_BadLosses hsup (c.shp 3 rfl) (by rw [hP]; exact z)
  sx_BadWidth := by
    have z := HV.allB_at c.e 4 (p := fun K => HV.sxB mainFile K sh_BadWidth) rfl
    exact HV.sx_ok in_BadWidth hsup (c.shp 4 rfl) (by rw [hP]; exact z)
  k_BagKind := HV.mk0_ok (HV.allB_at (p := fun K => HV.mk0B K (He.ga K "BagKind")) c.e 5 rfl)
  c_BagKind := He.cls_ok (c.d.fact 44 rfl)
  k_EndsKind := HV.mk0_ok (HV.allB_at (p := fun K => HV.mk0B K (He.ga K "EndsKind")) c.e 6 rfl)
  c_EndsKind := He.cls_ok (c.d.fact 45 rfl)
  k_FirstKind := HV.mk0_ok (HV.allB_at (p := fun K => HV.mk0B K (He.ga K "FirstKind")) c.e 7 rfl)
  c_FirstKind := He.cls_ok (c.d.fact 46 rfl)
  k_HeadsKind := HV.mk0_ok (HV.allB_at (p := fun K => HV.mk0B K (He.ga K "HeadsKind")) c.e 8 rfl)
  c_HeadsKind := He.cls_ok (c.d.fact 47 rfl)
  k_Kind := HV.mk0_ok (HV.allB_at (p := fun K => HV.mk0B K (He.ga K "Kind")) c.e 9 rfl)
  c_Kind := He.cls_ok (c.d.fact 48 rfl)
  k_LastKind := HV.mk0_ok (HV.allB_at (p := fun K => HV.mk0B K (He.ga K "LastKind")) c.e 10 rfl)
  c_LastKind := He.cls_ok (c.d.fact 49 rfl)
  k_SetKind := HV.mk0_ok (HV.allB_at (p := fun K => HV.mk0B K (He.ga K "SetKind")) c.e 11 rfl)
  c_SetKind := He.cls_ok (c.d.fact 50 rfl)
  k_TailsKind := HV.mk0_ok (HV.allB_at (p := fun K => HV.mk0B K (He.ga K "TailsKind")) c.e 12 rfl)
  c_TailsKind := He.cls_ok (c.d.fact 51 rfl)
  i_BagKind_IDEMPOTENT := He.conB_ok (v := .bl false) (HV.allB_at (p := fun K => He.conB K "BagKind" "IDEMPOTENT" (.bl false)) c.e 13 rfl)
  i_EndsKind_IDEMPOTENT := He.conB_ok (v := .bl true) (HV.allB_at (p := fun K => He.conB K "EndsKind" "IDEMPOTENT" (.bl true)) c.e 14 rfl)
  i_FirstKind_IDEMPOTENT := He.conB_ok (v := .bl true) (HV.allB_at (p := fun K => He.conB K "FirstKind" "IDEMPOTENT" (.bl true)) c.e 15 rfl)
  i_HeadsKind_IDEMPOTENT := He.conB_ok (v := .bl true) (HV.allB_at (p := fun K => He.conB K "HeadsKind" "IDEMPOTENT" (.bl true)) c.e 16 rfl)
  i_Kind_IDEMPOTENT := He.conB_ok (v := .bl false) (HV.allB_at (p := fun K => He.conB K "Kind" "IDEMPOTENT" (.bl false)) c.e 17 rfl)
  i_LastKind_IDEMPOTENT := He.conB_ok (v := .bl true) (HV.allB_at (p := fun K => He.conB K "LastKind" "IDEMPOTENT" (.bl true)) c.e 18 rfl)
  i_SetKind_IDEMPOTENT := He.conB_ok (v := .bl true) (HV.allB_at (p := fun K => He.conB K "SetKind" "IDEMPOTENT" (.bl true)) c.e 19 rfl)
  i_TailsKind_IDEMPOTENT := He.conB_ok (v := .bl true) (HV.allB_at (p := fun K => He.conB K "TailsKind" "IDEMPOTENT" (.bl true)) c.e 20 rfl)
  tu_FULL_KINDS := He.tupB_ok (vs := [.str "list", .str "bag", .str "set", .str "heads", .str "tails"]) (HV.allB_at (p := fun K => He.tupB K "FULL_KINDS" [.str "list", .str "bag", .str "set", .str "heads", .str "tails"]) c.e 21 rfl)
  x_BadCount_BadCount := He.exm_ok (c.d.fact 52 rfl)
  x_BadCount_BadKind := He.exm_ok (c.d.fact 53 rfl)
  x_BadCount_BadLength := He.exm_ok (c.d.fact 54 rfl)
  x_BadCount_BadLosses := He.exm_ok (c.d.fact 55 rfl)
  x_BadCount_BadWidth := He.exm_ok (c.d.fact 56 rfl)
  x_BadKind_BadCount := He.exm_ok (c.d.fact 57 rfl)
  x_BadKind_BadKind := He.exm_ok (c.d.fact 58 rfl)
  x_BadKind_BadLength := He.exm_ok (c.d.fact 59 rfl)
  x_BadKind_BadLosses := He.exm_ok (c.d.fact 60 rfl)
  x_BadKind_BadWidth := He.exm_ok (c.d.fact 61 rfl)
  x_BadLength_BadCount := He.exm_ok (c.d.fact 62 rfl)
  x_BadLength_BadKind := He.exm_ok (c.d.fact 63 rfl)
  x_BadLength_BadLength := He.exm_ok (c.d.fact 64 rfl)
  x_BadLength_BadLosses := He.exm_ok (c.d.fact 65 rfl)
  x_BadLength_BadWidth := He.exm_ok (c.d.fact 66 rfl)
  x_BadLosses_BadCount := He.exm_ok (c.d.fact 67 rfl)
  x_BadLosses_BadKind := He.exm_ok (c.d.fact 68 rfl)
  x_BadLosses_BadLength := He.exm_ok (c.d.fact 69 rfl)
  x_BadLosses_BadLosses := He.exm_ok (c.d.fact 70 rfl)
  x_BadLosses_BadWidth := He.exm_ok (c.d.fact 71 rfl)
  x_BadWidth_BadCount := He.exm_ok (c.d.fact 72 rfl)
  x_BadWidth_BadKind := He.exm_ok (c.d.fact 73 rfl)
  x_BadWidth_BadLength := He.exm_ok (c.d.fact 74 rfl)
  x_BadWidth_BadLosses := He.exm_ok (c.d.fact 75 rfl)
  x_BadWidth_BadWidth := He.exm_ok (c.d.fact 76 rfl)
end Z20

set_option maxHeartbeats 4000000
namespace Z20
open PySem PySem.Spec PyProof.Rows L2 VL
open Txt
section
variable {P : Program} {w : World} {K : Fg} {mg : Str → Option Value} {base : Heap}
def L_kind_named : Nat := 3
theorem ok_kind_named (T : Txt P K mg) 
    (run : ∀ (c : Cx0) (ss : List Slot) (os : List Cont) (Q : VK) (E : XK), c.M.length = os.length → F_kind_named ss os (Rc K c Q) (Xc K c E) → Run K c (t_kind_named K E) { nx := fun _ H' => Q .non H', rt := Q } (ss ++ List.replicate (1 - ss.length) .u) os) (len : ∀ ss os R X, F_kind_named ss os R X → ss.length = 1) : Good P w K mg base "kind_named" L_kind_named ["name"] F_kind_named := by
  refine good_mk (k := 2) (st := s_kind_named) (f := He.ga K "kind_named") (N := ["name"]) (t_kind_named K) (T.fn_kind_named) (T.m_kind_named) sc_kind_named len (fun _ _ _ _ _ _ us hl => match us, hl with | [_], _ => rfl) (fun cdv A outer s H E hr => ?_) run
  have hu := hu_of hr
  have hu64 : (A.deeper (envOfC "kind_named" (defScope s_kind_named) s.heap.objs.size (He.ga K "kind_named") cdv)).units + 64 < cLine := by have := hr.un; omega
  have nd := sc_kind_named.nd
  exact (pss_one (ps_match (pv 0) (pm_str (pss_one (ps_ret (pe_make_0 T.k_Kind rfl T.m_Kind (by decide +kernel))))
  (pm_str (pss_one (ps_ret (pe_make_0 T.k_BagKind rfl T.m_BagKind (by decide +kernel))))
  (pm_str (pss_one (ps_ret (pe_make_0 T.k_SetKind rfl T.m_SetKind (by decide +kernel))))
  (pm_str (pss_one (ps_ret (pe_make_0 T.k_FirstKind rfl T.m_FirstKind (by decide +kernel))))
  (pm_str (pss_one (ps_ret (pe_make_0 T.k_LastKind rfl T.m_LastKind (by decide +kernel))))
  (pm_str (pss_one (ps_ret (pe_make_0 T.k_EndsKind rfl T.m_EndsKind (by decide +kernel))))
  (pm_str (pss_one (ps_ret (pe_make_0 T.k_HeadsKind rfl T.m_HeadsKind (by decide +kernel))))
  (pm_str (pss_one (ps_ret (pe_make_0 T.k_TailsKind rfl T.m_TailsKind (by decide +kernel))))
  (pm_any (pss_one (ps_raiseX (S := sh_BadKind) rfl T.sx_BadKind T.m_BadKind hr (takes_of rfl rfl rfl rfl) (pa_cons (pv 0) pa_nil) rfl (by decide +kernel))))))))))))))
def L_floor_log2 : Nat := 3
theorem ok_floor_log2 (T : Txt P K mg) 
    (run : ∀ (c : Cx0) (ss : List Slot) (os : List Cont) (Q : VK) (E : XK), c.M.length = os.length → F_floor_log2 ss os (Rc K c Q) (Xc K c E) → Run K c (t_floor_log2 K E) { nx := fun _ H' => Q .non H', rt := Q } (ss ++ List.replicate (1 - ss.length) .u) os) (len : ∀ ss os R X, F_floor_log2 ss os R X → ss.length = 1) : Good P w K mg base "floor_log2" L_floor_log2 ["k"] F_floor_log2 := by
  refine good_mk (k := 2) (st := s_floor_log2) (f := He.ga K "floor_log2") (N := ["k"]) (t_floor_log2 K) (T.fn_floor_log2) (T.m_floor_log2) sc_floor_log2 len (fun _ _ _ _ _ _ us hl => match us, hl with | [_], _ => rfl) (fun cdv A outer s H E hr => ?_) run
  have hu := hu_of hr
  have hu64 : (A.deeper (envOfC "floor_log2" (defScope s_floor_log2) s.heap.objs.size (He.ga K "floor_log2") cdv)).units + 64 < cLine := by have := hr.un; omega
  have nd := sc_floor_log2.nd
  exact (pss_cons (ps_if (pt_cmp (pc_of op_uLt (pv 0) pe_int) rfl) (pss_one (ps_raiseX (S := sh_BadCount) rfl T.sx_BadCount T.m_BadCount hr (takes_of rfl rfl rfl rfl) (pa_cons (pv 0) pa_nil) rfl (by decide +kernel))) pss_nil)
  (pss_one (ps_ret (pe_op op_uSub (pe_bits (pv 0)) pe_int))))
def L_check_numbers : Nat := 3
theorem ok_check_numbers (T : Txt P K mg) 
    (run : ∀ (c : Cx0) (ss : List Slot) (os : List Cont) (Q : VK) (E : XK), c.M.length = os.length → F_check_numbers ss os (Rc K c Q) (Xc K c E) → Run K c (t_check_numbers K E) { nx := fun _ H' => Q .non H', rt := Q } (ss ++ List.replicate (2 - ss.length) .u) os) (len : ∀ ss os R X, F_check_numbers ss os R X → ss.length = 1) : Good P w K mg base "check_numbers" L_check_numbers ["numbers"] F_check_numbers := by
  refine good_mk (k := 2) (st := s_check_numbers) (f := He.ga K "check_numbers") (N := ["numbers", "number"]) (t_check_numbers K) (T.fn_check_numbers) (T.m_check_numbers) sc_check_numbers len (fun _ _ _ _ _ _ us hl => match us, hl with | [_], _ => rfl) (fun cdv A outer s H E hr => ?_) run
  have hu := hu_of hr
  have hu64 : (A.deeper (envOfC "check_numbers" (defScope s_check_numbers) s.heap.objs.size (He.ga K "check_numbers") cdv)).units + 64 < cLine := by have := hr.un; omega
  have nd := sc_check_numbers.nd
  exact (pss_one (ps_for (passes_of rfl) rfl (pi_seq (pv 0)) (pg_name (i := 1) nd rfl (by first | exact Or.inl rfl | exact Or.inr rfl)) (pss_one (ps_if (pt_cmp (pc_of op_uLt (pv 1) pe_int) rfl) (pss_one (ps_raiseX (S := sh_BadLosses) rfl T.sx_BadLosses T.m_BadLosses hr (takes_of rfl rfl rfl rfl) (pa_cons (pv 1) pa_nil) rfl (by decide +kernel))) pss_nil))))
def L_check_sizes : Nat := 4
theorem ok_check_sizes (T : Txt P K mg) (g_kind_named : Good P w K mg base "kind_named" L_kind_named ["name"] F_kind_named)
    (run : ∀ (c : Cx0) (ss : List Slot) (os : List Cont) (Q : VK) (E : XK), c.M.length = os.length → F_check_sizes ss os (Rc K c Q) (Xc K c E) → Run K c (t_check_sizes K E) { nx := fun _ H' => Q .non H', rt := Q } (ss ++ List.replicate (2 - ss.length) .u) os) (len : ∀ ss os R X, F_check_sizes ss os R X → ss.length = 2) : Good P w K mg base "check_sizes" L_check_sizes ["kind", "width"] F_check_sizes := by
  refine good_mk (k := 3) (st := s_check_sizes) (f := He.ga K "check_sizes") (N := ["kind", "width"]) (t_check_sizes K) (T.fn_check_sizes) (T.m_check_sizes) sc_check_sizes len (fun _ _ _ _ _ _ us hl => match us, hl with | [_, _], _ => rfl) (fun cdv A outer s H E hr => ?_) run
  have hu := hu_of hr
  have hu64 : (A.deeper (envOfC "check_sizes" (defScope s_check_sizes) s.heap.objs.size (He.ga K "check_sizes") cdv)).units + 64 < cLine := by have := hr.un; omega
  have nd := sc_check_sizes.nd
  exact (pss_cons (ps_expr (pe_good g_kind_named hr (by decide) rfl passE (pa_cons (pv 0) pa_nil)))
  (pss_one (ps_if (pt_cmp (pc_of op_uLt (pv 1) pe_int) rfl) (pss_one (ps_raiseX (S := sh_BadWidth) rfl T.sx_BadWidth T.m_BadWidth hr (takes_of rfl rfl rfl rfl) (pa_cons (pv 1) pa_nil) rfl (by decide +kernel))) pss_nil)))
def L_halved : Nat := 2
theorem ok_halved (T : Txt P K mg) 
    (run : ∀ (c : Cx0) (ss : List Slot) (os : List Cont) (Q : VK) (E : XK), c.M.length = os.length → F_halved ss os (Rc K c Q) (Xc K c E) → Run K c (t_halved K E) { nx := fun _ H' => Q .non H', rt := Q } (ss ++ List.replicate (4 - ss.length) .u) os) (len : ∀ ss os R X, F_halved ss os R X → ss.length = 2) : Good P w K mg base "halved" L_halved ["width", "turns"] F_halved := by
  refine good_mk (k := 1) (st := s_halved) (f := He.ga K "halved") (N := ["width", "turns", "rest", "_"]) (t_halved K) (T.fn_halved) (T.m_halved) sc_halved len (fun _ _ _ _ _ _ us hl => match us, hl with | [_, _], _ => rfl) (fun cdv A outer s H E hr => ?_) run
  have hu := hu_of hr
  have hu64 : (A.deeper (envOfC "halved" (defScope s_halved) s.heap.objs.size (He.ga K "halved") cdv)).units + 64 < cLine := by have := hr.un; omega
  have nd := sc_halved.nd
  exact (pss_cons (ps_set (i := 2) nd rfl (by first | exact Or.inl rfl | exact Or.inr rfl) (pv 0))
  (pss_cons (ps_for (passes_of rfl) rfl (pi_range1 rfl (g_range T) (pa_cons (pv 1) pa_nil)) (pg_name (i := 3) nd rfl (by first | exact Or.inl rfl | exact Or.inr rfl)) (pss_one (ps_set (i := 2) nd rfl (by first | exact Or.inl rfl | exact Or.inr rfl) (pe_op op_uDiv (pv 2) pe_int))))
  (pss_one (ps_ret (pv 2)))))
def L_never_stronger : Nat := 4
theorem ok_never_stronger (T : Txt P K mg) (g_kind_named : Good P w K mg base "kind_named" L_kind_named ["name"] F_kind_named)
    (run : ∀ (c : Cx0) (ss : List Slot) (os : List Cont) (Q : VK) (E : XK), c.M.length = os.length → F_never_stronger ss os (Rc K c Q) (Xc K c E) → Run K c (t_never_stronger K E) { nx := fun _ H' => Q .non H', rt := Q } (ss ++ List.replicate (2 - ss.length) .u) os) (len : ∀ ss os R X, F_never_stronger ss os R X → ss.length = 2) : Good P w K mg base "never_stronger" L_never_stronger ["kind", "width"] F_never_stronger := by
  refine good_mk (k := 3) (st := s_never_stronger) (f := He.ga K "never_stronger") (N := ["kind", "width"]) (t_never_stronger K) (T.fn_never_stronger) (T.m_never_stronger) sc_never_stronger len (fun _ _ _ _ _ _ us hl => match us, hl with | [_, _], _ => rfl) (fun cdv A outer s H E hr => ?_) run
  have hu := hu_of hr
  have hu64 : (A.deeper (envOfC "never_stronger" (defScope s_never_stronger) s.heap.objs.size (He.ga K "never_stronger") cdv)).units + 64 < cLine := by have := hr.un; omega
  have nd := sc_never_stronger.nd
  exact (pss_one (ps_ret (L2.pe_and (pe_cmp (pc_of (op_uEq hu64) (pv 1) pe_int) rfl) (L2.pe_and (pe_cmp (pc_uIn hu (pv 0) (pe_glob (v := .ref (He.ga K "FULL_KINDS")) rfl T.m_FULL_KINDS rfl (by decide +kernel))) rfl) (pe_one (pe_not (pe_con (pe_good g_kind_named hr (by decide) rfl passE (pa_cons (pv 0) pa_nil)) rfl)))))))
def L_price : Nat := 5
theorem ok_price (T : Txt P K mg) (g_check_sizes : Good P w K mg base "check_sizes" L_check_sizes ["kind", "width"] F_check_sizes) (g_floor_log2 : Good P w K mg base "floor_log2" L_floor_log2 ["k"] F_floor_log2) (g_halved : Good P w K mg base "halved" L_halved ["width", "turns"] F_halved) (g_never_stronger : Good P w K mg base "never_stronger" L_never_stronger ["kind", "width"] F_never_stronger)
    (run : ∀ (c : Cx0) (ss : List Slot) (os : List Cont) (Q : VK) (E : XK), c.M.length = os.length → F_price ss os (Rc K c Q) (Xc K c E) → Run K c (t_price K E) { nx := fun _ H' => Q .non H', rt := Q } (ss ++ List.replicate (4 - ss.length) .u) os) (len : ∀ ss os R X, F_price ss os R X → ss.length = 3) : Good P w K mg base "price" L_price ["kind", "width", "strength"] F_price := by
  refine good_mk (k := 4) (st := s_price) (f := He.ga K "price") (N := ["kind", "width", "strength", "levels"]) (t_price K) (T.fn_price) (T.m_price) sc_price len (fun _ _ _ _ _ _ us hl => match us, hl with | [_, _, _], _ => rfl) (fun cdv A outer s H E hr => ?_) run
  have hu := hu_of hr
  have hu64 : (A.deeper (envOfC "price" (defScope s_price) s.heap.objs.size (He.ga K "price") cdv)).units + 64 < cLine := by have := hr.un; omega
  have nd := sc_price.nd
  exact (pss_cons (ps_expr (pe_good g_check_sizes hr (by decide) rfl passE (pa_cons (pv 0) (pa_cons (pv 1) pa_nil))))
  (pss_cons (ps_if (pt_cmp (pc_of op_uLt (pv 2) pe_int) rfl) (pss_one (ps_raiseX (S := sh_BadCount) rfl T.sx_BadCount T.m_BadCount hr (takes_of rfl rfl rfl rfl) (pa_cons (pv 2) pa_nil) rfl (by decide +kernel))) pss_nil)
  (pss_cons (ps_if (pt_truth (pe_good g_never_stronger hr (by decide) rfl passE (pa_cons (pv 0) (pa_cons (pv 1) pa_nil))) (by intro _; rfl)) (pss_one (ps_ret (pe_ifExp (pt_cmp (pc_of (op_uEq hu64) (pv 2) pe_int) rfl) pe_int pe_non))) pss_nil)
  (pss_cons (ps_if (pt_cmp (pc_uNotIn hu (pv 0) (pe_glob (v := .ref (He.ga K "FULL_KINDS")) rfl T.m_FULL_KINDS rfl (by decide +kernel))) rfl) (pss_one (ps_ret (pe_op op_uSub (pv 2) pe_int))) pss_nil)
  (pss_cons (ps_set (i := 3) nd rfl (by first | exact Or.inl rfl | exact Or.inr rfl) (pe_good g_floor_log2 hr (by decide) rfl passE (pa_cons (pv 1) pa_nil)))
  (pss_cons (ps_if (pt_cmp (pc_of op_uLe (pe_op op_uSub (pv 2) pe_int) (pv 3)) rfl) (pss_one (ps_ret (pe_op op_uSub (pv 1) (pe_good g_halved hr (by decide) rfl passE (pa_cons (pv 1) (pa_cons (pe_op op_uSub (pv 2) pe_int) pa_nil)))))) pss_nil)
  (pss_one (ps_ret (pe_op op_uSub (pe_op op_uSub (pe_op op_uAdd (pv 1) (pv 2)) pe_int) (pv 3))))))))))
def L_most_strength : Nat := 5
theorem ok_most_strength (T : Txt P K mg) (g_check_sizes : Good P w K mg base "check_sizes" L_check_sizes ["kind", "width"] F_check_sizes) (g_floor_log2 : Good P w K mg base "floor_log2" L_floor_log2 ["k"] F_floor_log2) (g_never_stronger : Good P w K mg base "never_stronger" L_never_stronger ["kind", "width"] F_never_stronger)
    (run : ∀ (c : Cx0) (ss : List Slot) (os : List Cont) (Q : VK) (E : XK), c.M.length = os.length → F_most_strength ss os (Rc K c Q) (Xc K c E) → Run K c (t_most_strength K E) { nx := fun _ H' => Q .non H', rt := Q } (ss ++ List.replicate (3 - ss.length) .u) os) (len : ∀ ss os R X, F_most_strength ss os R X → ss.length = 3) : Good P w K mg base "most_strength" L_most_strength ["kind", "width", "merges"] F_most_strength := by
  refine good_mk (k := 4) (st := s_most_strength) (f := He.ga K "most_strength") (N := ["kind", "width", "merges"]) (t_most_strength K) (T.fn_most_strength) (T.m_most_strength) sc_most_strength len (fun _ _ _ _ _ _ us hl => match us, hl with | [_, _, _], _ => rfl) (fun cdv A outer s H E hr => ?_) run
  have hu := hu_of hr
  have hu64 : (A.deeper (envOfC "most_strength" (defScope s_most_strength) s.heap.objs.size (He.ga K "most_strength") cdv)).units + 64 < cLine := by have := hr.un; omega
  have nd := sc_most_strength.nd
  exact (pss_cons (ps_expr (pe_good g_check_sizes hr (by decide) rfl passE (pa_cons (pv 0) (pa_cons (pv 1) pa_nil))))
  (pss_cons (ps_if (pt_cmp (pc_of op_uLt (pv 2) pe_int) rfl) (pss_one (ps_raiseX (S := sh_BadLength) rfl T.sx_BadLength T.m_BadLength hr (takes_of rfl rfl rfl rfl) (pa_cons (pv 2) pa_nil) rfl (by decide +kernel))) pss_nil)
  (pss_cons (ps_if (pt_truth (pe_good g_never_stronger hr (by decide) rfl passE (pa_cons (pv 0) (pa_cons (pv 1) pa_nil))) (by intro _; rfl)) (pss_one (ps_ret pe_int)) pss_nil)
  (pss_cons (ps_if (pt_cmp (pc_uNotIn hu (pv 0) (pe_glob (v := .ref (He.ga K "FULL_KINDS")) rfl T.m_FULL_KINDS rfl (by decide +kernel))) rfl) (pss_one (ps_ret (pe_op op_uAdd (pv 2) pe_int))) pss_nil)
  (pss_cons (ps_if (pt_cmp (pc_of op_uLt (pv 2) (pe_op op_uSub (pv 1) pe_int)) rfl) (pss_one (ps_ret (pe_op op_uAdd (pe_good g_floor_log2 hr (by decide) rfl passE (pa_cons (pe_op op_uDiv (pv 1) (pe_op op_uSub (pv 1) (pv 2))) pa_nil)) pe_int))) pss_nil)
  (pss_one (ps_ret (pe_op op_uSub (pe_op op_uAdd (pe_op op_uAdd (pe_good g_floor_log2 hr (by decide) rfl passE (pa_cons (pv 1) pa_nil)) pe_int) (pv 2)) (pe_op op_uSub (pv 1) pe_int)))))))))
def L_price_of_errors : Nat := 6
theorem ok_price_of_errors (T : Txt P K mg) (g_check_numbers : Good P w K mg base "check_numbers" L_check_numbers ["numbers"] F_check_numbers) (g_check_sizes : Good P w K mg base "check_sizes" L_check_sizes ["kind", "width"] F_check_sizes) (g_price : Good P w K mg base "price" L_price ["kind", "width", "strength"] F_price)
    (run : ∀ (c : Cx0) (ss : List Slot) (os : List Cont) (Q : VK) (E : XK), c.M.length = os.length → F_price_of_errors ss os (Rc K c Q) (Xc K c E) → Run K c (t_price_of_errors K E) { nx := fun _ H' => Q .non H', rt := Q } (ss ++ List.replicate (4 - ss.length) .u) os) (len : ∀ ss os R X, F_price_of_errors ss os R X → ss.length = 4) : Good P w K mg base "price_of_errors" L_price_of_errors ["kind", "width", "lacks", "wrong"] F_price_of_errors := by
  refine good_mk (k := 5) (st := s_price_of_errors) (f := He.ga K "price_of_errors") (N := ["kind", "width", "lacks", "wrong"]) (t_price_of_errors K) (T.fn_price_of_errors) (T.m_price_of_errors) sc_price_of_errors len (fun _ _ _ _ _ _ us hl => match us, hl with | [_, _, _, _], _ => rfl) (fun cdv A outer s H E hr => ?_) run
  have hu := hu_of hr
  have hu64 : (A.deeper (envOfC "price_of_errors" (defScope s_price_of_errors) s.heap.objs.size (He.ga K "price_of_errors") cdv)).units + 64 < cLine := by have := hr.un; omega
  have nd := sc_price_of_errors.nd
  exact (pss_cons (ps_expr (pe_good g_check_sizes hr (by decide) rfl passE (pa_cons (pv 0) (pa_cons (pv 1) pa_nil))))
  (pss_cons (ps_expr (pe_good g_check_numbers hr (by decide) rfl passE (pa_cons (pe_lst (pa_cons (pv 2) (pa_cons (pv 3) pa_nil))) pa_nil)))
  (pss_one (ps_ret (pe_good g_price hr (by decide) rfl passE (pa_cons (pv 0) (pa_cons (pv 1) (pa_cons (pe_op op_uAdd (pe_op op_uAdd (pv 2) (pe_op op_uMul pe_int (pv 3))) pe_int) pa_nil))))))))
def L_part_bound : Nat := 4
theorem ok_part_bound (T : Txt P K mg) (g_floor_log2 : Good P w K mg base "floor_log2" L_floor_log2 ["k"] F_floor_log2)
    (run : ∀ (c : Cx0) (ss : List Slot) (os : List Cont) (Q : VK) (E : XK), c.M.length = os.length → F_part_bound ss os (Rc K c Q) (Xc K c E) → Run K c (t_part_bound K E) { nx := fun _ H' => Q .non H', rt := Q } (ss ++ List.replicate (2 - ss.length) .u) os) (len : ∀ ss os R X, F_part_bound ss os R X → ss.length = 2) : Good P w K mg base "part_bound" L_part_bound ["letters", "merges"] F_part_bound := by
  refine good_mk (k := 3) (st := s_part_bound) (f := He.ga K "part_bound") (N := ["letters", "merges"]) (t_part_bound K) (T.fn_part_bound) (T.m_part_bound) sc_part_bound len (fun _ _ _ _ _ _ us hl => match us, hl with | [_, _], _ => rfl) (fun cdv A outer s H E hr => ?_) run
  have hu := hu_of hr
  have hu64 : (A.deeper (envOfC "part_bound" (defScope s_part_bound) s.heap.objs.size (He.ga K "part_bound") cdv)).units + 64 < cLine := by have := hr.un; omega
  have nd := sc_part_bound.nd
  exact (pss_one (ps_ret (pe_op op_uSub (pe_op op_uAdd (pe_op op_uAdd (pe_good g_floor_log2 hr (by decide) rfl passE (pa_cons (pv 0) pa_nil)) pe_int) (pv 1)) (pe_op op_uSub (pv 0) pe_int))))
def L__law_stream : Nat := 2
theorem ok__law_stream (T : Txt P K mg) 
    (run : ∀ (c : Cx0) (ss : List Slot) (os : List Cont) (Q : VK) (E : XK), c.M.length = os.length → F__law_stream ss os (Rc K c Q) (Xc K c E) → Run K c (t__law_stream K E) { nx := fun _ H' => Q .non H', rt := Q } (ss ++ List.replicate (7 - ss.length) .u) os) (len : ∀ ss os R X, F__law_stream ss os R X → ss.length = 1) : Good P w K mg base "_law_stream" L__law_stream ["script"] F__law_stream := by
  refine good_mk (k := 1) (st := s__law_stream) (f := He.ga K "_law_stream") (N := ["script", "numbers", "place", "cell", "rest", "turn", "mixed"]) (t__law_stream K) (T.fn__law_stream) (T.m__law_stream) sc__law_stream len (fun _ _ _ _ _ _ us hl => match us, hl with | [_], _ => rfl) (fun cdv A outer s H E hr => ?_) run
  have hu := hu_of hr
  have hu64 : (A.deeper (envOfC "_law_stream" (defScope s__law_stream) s.heap.objs.size (He.ga K "_law_stream") cdv)).units + 64 < cLine := by have := hr.un; omega
  have nd := sc__law_stream.nd
  exact (pss_cons (ps_set (i := 1) nd rfl (by first | exact Or.inl rfl | exact Or.inr rfl) (pe_lst pa_nil))
  (pss_cons (ps_for (passes_of rfl) rfl (pi_range1 rfl (g_range T) (pa_cons (pe_callB (call_min2 rfl) rfl (g_min T) (by decide +kernel) (pa_cons (pe_callB call_len_seq rfl (g_len T) (by decide +kernel) (pa_cons (pv 0) pa_nil)) (pa_cons pe_int pa_nil))) pa_nil)) (pg_name (i := 2) nd rfl (by first | exact Or.inl rfl | exact Or.inr rfl)) (pss_cons (ps_set (i := 3) nd rfl (by first | exact Or.inl rfl | exact Or.inr rfl) (pe_callTy call_int1 rfl (g_int T) (by decide +kernel) (pa_cons (pe_uIx hu (pv 0) (pv 2) (fun _ _ => rfl)) pa_nil)))
  (pss_cons (ps_set (i := 4) nd rfl (by first | exact Or.inl rfl | exact Or.inr rfl) (pe_callB call_abs rfl (g_abs T) (by decide +kernel) (pa_cons (pv 3) pa_nil)))
  (pss_one (ps_if (PW.pt (pw_and (pt_cmp (pc_of op_uGe (pv 3) pe_int) rfl) (pw_and1 (pt_cmp (pc_of op_uLt (pv 3) (pe_op op_uPow pe_int pe_int)) rfl)))) (pss_one (ps_for (passes_of rfl) rfl (pi_range1 rfl (g_range T) (pa_cons pe_int pa_nil)) (pg_name (i := 5) nd rfl (by first | exact Or.inl rfl | exact Or.inr rfl)) (pss_cons (ps_set (i := 6) nd rfl (by first | exact Or.inl rfl | exact Or.inr rfl) (pe_op op_uMod (pe_callTy call_int1 rfl (g_int T) (by decide +kernel) (pa_cons (pe_op op_uMul (pe_op op_uAdd (pv 3) pe_int) (pe_op op_uAdd (pe_op op_uAdd pe_int (pe_op op_uMul pe_int (pv 2))) (pe_op op_uMul pe_int (pv 5)))) pa_nil)) pe_int))
  (pss_one (ps_expr (pe_bm PySem.F.plainAttrs_list PySem.F.slot_list_append PySem.F.type_list_append mt_append (pv 1) (pa_cons (pe_op op_uMod (pe_callTy call_int1 rfl (g_int T) (by decide +kernel) (pa_cons (pe_op op_uMul (pv 6) (pv 6)) pa_nil)) pe_int) pa_nil))))))) (pss_one (ps_for (passes_of rfl) rfl (pi_range1 rfl (g_range T) (pa_cons pe_int pa_nil)) (pg_name (i := 5) nd rfl (by first | exact Or.inl rfl | exact Or.inr rfl)) (pss_one (ps_if (pt_cmp (pc_of op_uGt (pv 4) pe_int) rfl) (pss_cons (ps_expr (pe_bm PySem.F.plainAttrs_list PySem.F.slot_list_append PySem.F.type_list_append mt_append (pv 1) (pa_cons (pe_op op_uMod (pe_callTy call_int1 rfl (g_int T) (by decide +kernel) (pa_cons (pv 4) pa_nil)) pe_int) pa_nil)))
  (pss_one (ps_set (i := 4) nd rfl (by first | exact Or.inl rfl | exact Or.inr rfl) (pe_op op_uDiv (pv 4) pe_int)))) pss_nil)))))))))
  (pss_one (ps_ret (pe_revL (pv 1))))))
def L__law_draw : Nat := 2
theorem ok__law_draw (T : Txt P K mg) 
    (run : ∀ (c : Cx0) (ss : List Slot) (os : List Cont) (Q : VK) (E : XK), c.M.length = os.length → F__law_draw ss os (Rc K c Q) (Xc K c E) → Run K c (t__law_draw K E) { nx := fun _ H' => Q .non H', rt := Q } (ss ++ List.replicate (2 - ss.length) .u) os) (len : ∀ ss os R X, F__law_draw ss os R X → ss.length = 2) : Good P w K mg base "_law_draw" L__law_draw ["stream", "many"] F__law_draw := by
  refine good_mk (k := 1) (st := s__law_draw) (f := He.ga K "_law_draw") (N := ["stream", "many"]) (t__law_draw K) (T.fn__law_draw) (T.m__law_draw) sc__law_draw len (fun _ _ _ _ _ _ us hl => match us, hl with | [_, _], _ => rfl) (fun cdv A outer s H E hr => ?_) run
  have hu := hu_of hr
  have hu64 : (A.deeper (envOfC "_law_draw" (defScope s__law_draw) s.heap.objs.size (He.ga K "_law_draw") cdv)).units + 64 < cLine := by have := hr.un; omega
  have nd := sc__law_draw.nd
  exact (pss_cons (ps_if (pt_cmp (pc_of (op_uEq hu64) (pe_callB call_len_seq rfl (g_len T) (by decide +kernel) (pa_cons (pv 0) pa_nil)) pe_int) rfl) (pss_one (ps_ret pe_int)) pss_nil)
  (pss_one (ps_ret (pe_op op_uMod (pe_callTy call_int1 rfl (g_int T) (by decide +kernel) (pa_cons (pe_bm0 PySem.F.plainAttrs_list PySem.F.slot_list_pop PySem.F.type_list_pop mt_pop (pv 0)) pa_nil)) (pv 1)))))
def L__law_kind : Nat := 3
theorem ok__law_kind (T : Txt P K mg) (g__law_draw : Good P w K mg base "_law_draw" L__law_draw ["stream", "many"] F__law_draw)
    (run : ∀ (c : Cx0) (ss : List Slot) (os : List Cont) (Q : VK) (E : XK), c.M.length = os.length → F__law_kind ss os (Rc K c Q) (Xc K c E) → Run K c (t__law_kind K E) { nx := fun _ H' => Q .non H', rt := Q } (ss ++ List.replicate (2 - ss.length) .u) os) (len : ∀ ss os R X, F__law_kind ss os R X → ss.length = 1) : Good P w K mg base "_law_kind" L__law_kind ["stream"] F__law_kind := by
  refine good_mk (k := 2) (st := s__law_kind) (f := He.ga K "_law_kind") (N := ["stream", "names"]) (t__law_kind K) (T.fn__law_kind) (T.m__law_kind) sc__law_kind len (fun _ _ _ _ _ _ us hl => match us, hl with | [_], _ => rfl) (fun cdv A outer s H E hr => ?_) run
  have hu := hu_of hr
  have hu64 : (A.deeper (envOfC "_law_kind" (defScope s__law_kind) s.heap.objs.size (He.ga K "_law_kind") cdv)).units + 64 < cLine := by have := hr.un; omega
  have nd := sc__law_kind.nd
  exact (pss_cons (ps_set (i := 1) nd rfl (by first | exact Or.inl rfl | exact Or.inr rfl) (pe_lst (pa_cons pe_str (pa_cons pe_str (pa_cons pe_str (pa_cons pe_str (pa_cons pe_str (pa_cons pe_str (pa_cons pe_str (pa_cons pe_str pa_nil))))))))))
  (pss_one (ps_ret (pe_uIx hu (pv 1) (pe_good g__law_draw hr (by decide) rfl passE (pa_cons (pv 0) (pa_cons pe_int pa_nil))) (fun _ _ => rfl)))))
def L__law_log : Nat := 2
theorem ok__law_log (T : Txt P K mg) 
    (run : ∀ (c : Cx0) (ss : List Slot) (os : List Cont) (Q : VK) (E : XK), c.M.length = os.length → F__law_log ss os (Rc K c Q) (Xc K c E) → Run K c (t__law_log K E) { nx := fun _ H' => Q .non H', rt := Q } (ss ++ List.replicate (4 - ss.length) .u) os) (len : ∀ ss os R X, F__law_log ss os R X → ss.length = 1) : Good P w K mg base "_law_log" L__law_log ["number"] F__law_log := by
  refine good_mk (k := 1) (st := s__law_log) (f := He.ga K "_law_log") (N := ["number", "found", "rest", "turn"]) (t__law_log K) (T.fn__law_log) (T.m__law_log) sc__law_log len (fun _ _ _ _ _ _ us hl => match us, hl with | [_], _ => rfl) (fun cdv A outer s H E hr => ?_) run
  have hu := hu_of hr
  have hu64 : (A.deeper (envOfC "_law_log" (defScope s__law_log) s.heap.objs.size (He.ga K "_law_log") cdv)).units + 64 < cLine := by have := hr.un; omega
  have nd := sc__law_log.nd
  exact (pss_cons (ps_set (i := 1) nd rfl (by first | exact Or.inl rfl | exact Or.inr rfl) pe_int)
  (pss_cons (ps_set (i := 2) nd rfl (by first | exact Or.inl rfl | exact Or.inr rfl) (pv 0))
  (pss_cons (ps_for (passes_of rfl) rfl (pi_range1 rfl (g_range T) (pa_cons pe_int pa_nil)) (pg_name (i := 3) nd rfl (by first | exact Or.inl rfl | exact Or.inr rfl)) (pss_cons (ps_if (pt_cmp (pc_of op_uLt (pv 2) pe_int) rfl) (pss_one ps_break) pss_nil)
  (pss_cons (ps_set (i := 2) nd rfl (by first | exact Or.inl rfl | exact Or.inr rfl) (pe_op op_uDiv (pv 2) pe_int))
  (pss_one (ps_set (i := 1) nd rfl (by first | exact Or.inl rfl | exact Or.inr rfl) (pe_op op_uAdd (pv 1) pe_int))))))
  (pss_one (ps_ret (pv 1))))))
def L__law_least : Nat := 3
theorem ok__law_least (T : Txt P K mg) (g__law_log : Good P w K mg base "_law_log" L__law_log ["number"] F__law_log)
    (run : ∀ (c : Cx0) (ss : List Slot) (os : List Cont) (Q : VK) (E : XK), c.M.length = os.length → F__law_least ss os (Rc K c Q) (Xc K c E) → Run K c (t__law_least K E) { nx := fun _ H' => Q .non H', rt := Q } (ss ++ List.replicate (7 - ss.length) .u) os) (len : ∀ ss os R X, F__law_least ss os R X → ss.length = 2) : Good P w K mg base "_law_least" L__law_least ["many", "strength"] F__law_least := by
  refine good_mk (k := 2) (st := s__law_least) (f := He.ga K "_law_least") (N := ["many", "strength", "costs", "size", "best", "part", "cost"]) (t__law_least K) (T.fn__law_least) (T.m__law_least) sc__law_least len (fun _ _ _ _ _ _ us hl => match us, hl with | [_, _], _ => rfl) (fun cdv A outer s H E hr => ?_) run
  have hu := hu_of hr
  have hu64 : (A.deeper (envOfC "_law_least" (defScope s__law_least) s.heap.objs.size (He.ga K "_law_least") cdv)).units + 64 < cLine := by have := hr.un; omega
  have nd := sc__law_least.nd
  exact (pss_cons (ps_set (i := 2) nd rfl (by first | exact Or.inl rfl | exact Or.inr rfl) (pe_lst (pa_cons pe_int pa_nil)))
  (pss_cons (ps_for (passes_of rfl) rfl (pi_range2 rfl (g_range T) (pa_cons pe_int (pa_cons (pe_op op_uAdd (pv 0) pe_int) pa_nil))) (pg_name (i := 3) nd rfl (by first | exact Or.inl rfl | exact Or.inr rfl)) (pss_cons (ps_set (i := 4) nd rfl (by first | exact Or.inl rfl | exact Or.inr rfl) pe_non)
  (pss_cons (ps_for (passes_of rfl) rfl (pi_range2 rfl (g_range T) (pa_cons pe_int (pa_cons (pe_op op_uAdd (pv 3) pe_int) pa_nil))) (pg_name (i := 5) nd rfl (by first | exact Or.inl rfl | exact Or.inr rfl)) (pss_cons (ps_set (i := 6) nd rfl (by first | exact Or.inl rfl | exact Or.inr rfl) (pe_op op_uAdd (pe_op op_uSub (pe_op op_uAdd (pe_uIx hu (pv 2) (pe_op op_uSub (pv 3) (pv 5)) (fun _ _ => rfl)) (pv 5)) pe_int) (pe_callB (call_max2 rfl) rfl (g_max T) (by decide +kernel) (pa_cons pe_int (pa_cons (pe_op op_uSub (pe_op op_uSub (pv 1) pe_int) (pe_good g__law_log hr (by decide) rfl passE (pa_cons (pv 5) pa_nil))) pa_nil)))))
  (pss_one (ps_if (PW.pt (pw_or (pt_cmp (pc_of op_uIs (pv 4) pe_non) rfl) (pw_or1 (pt_cmp (pc_of op_uLt (pv 6) (pv 4)) rfl)))) (pss_one (ps_set (i := 4) nd rfl (by first | exact Or.inl rfl | exact Or.inr rfl) (pv 6))) pss_nil))))
  (pss_one (ps_expr (pe_bm PySem.F.plainAttrs_list PySem.F.slot_list_append PySem.F.type_list_append mt_append (pv 2) (pa_cons (pv 4) pa_nil)))))))
  (pss_one (ps_ret (pe_uIx hu (pv 2) (pv 0) (fun _ _ => rfl))))))
def L__law_due : Nat := 3
theorem ok__law_due (T : Txt P K mg) (g__law_log : Good P w K mg base "_law_log" L__law_log ["number"] F__law_log)
    (run : ∀ (c : Cx0) (ss : List Slot) (os : List Cont) (Q : VK) (E : XK), c.M.length = os.length → F__law_due ss os (Rc K c Q) (Xc K c E) → Run K c (t__law_due K E) { nx := fun _ H' => Q .non H', rt := Q } (ss ++ List.replicate (5 - ss.length) .u) os) (len : ∀ ss os R X, F__law_due ss os R X → ss.length = 3) : Good P w K mg base "_law_due" L__law_due ["kind", "many", "strength"] F__law_due := by
  refine good_mk (k := 2) (st := s__law_due) (f := He.ga K "_law_due") (N := ["kind", "many", "strength", "rest", "turn"]) (t__law_due K) (T.fn__law_due) (T.m__law_due) sc__law_due len (fun _ _ _ _ _ _ us hl => match us, hl with | [_, _, _], _ => rfl) (fun cdv A outer s H E hr => ?_) run
  have hu := hu_of hr
  have hu64 : (A.deeper (envOfC "_law_due" (defScope s__law_due) s.heap.objs.size (He.ga K "_law_due") cdv)).units + 64 < cLine := by have := hr.un; omega
  have nd := sc__law_due.nd
  exact (pss_cons (ps_if (pt_cmp (pc_uIn hu (pv 0) (pe_tup (pa_cons pe_str (pa_cons pe_str (pa_cons pe_str pa_nil))))) rfl) (pss_one (ps_ret (pe_op op_uSub (pv 2) pe_int))) pss_nil)
  (pss_cons (ps_if (PW.pt (pw_and (pt_cmp (pc_of (op_uEq hu64) (pv 1) pe_int) rfl) (pw_and1 (pt_cmp (pc_uIn hu (pv 0) (pe_tup (pa_cons pe_str (pa_cons pe_str pa_nil)))) rfl)))) (pss_one (ps_ret (pe_uIx hu (pe_lst (pa_cons pe_non (pa_cons pe_int pa_nil))) (pe_callTy call_int1 rfl (g_int T) (by decide +kernel) (pa_cons (pe_cmp (pc_of (op_uEq hu64) (pv 2) pe_int) rfl) pa_nil)) (fun _ _ => rfl)))) pss_nil)
  (pss_cons (ps_if (pt_cmp (pc_of op_uGt (pe_op op_uSub (pv 2) pe_int) (pe_good g__law_log hr (by decide) rfl passE (pa_cons (pv 1) pa_nil))) rfl) (pss_one (ps_ret (pe_op op_uSub (pe_op op_uSub (pe_op op_uAdd (pv 1) (pv 2)) pe_int) (pe_good g__law_log hr (by decide) rfl passE (pa_cons (pv 1) pa_nil))))) pss_nil)
  (pss_cons (ps_set (i := 3) nd rfl (by first | exact Or.inl rfl | exact Or.inr rfl) (pv 1))
  (pss_cons (ps_for (passes_of rfl) rfl (pi_range1 rfl (g_range T) (pa_cons (pe_op op_uSub (pv 2) pe_int) pa_nil)) (pg_name (i := 4) nd rfl (by first | exact Or.inl rfl | exact Or.inr rfl)) (pss_one (ps_set (i := 3) nd rfl (by first | exact Or.inl rfl | exact Or.inr rfl) (pe_op op_uDiv (pv 3) pe_int))))
  (pss_one (ps_ret (pe_op op_uSub (pv 1) (pv 3)))))))))
def L__law_same : Nat := 2
theorem ok__law_same (T : Txt P K mg) 
    (run : ∀ (c : Cx0) (ss : List Slot) (os : List Cont) (Q : VK) (E : XK), c.M.length = os.length → F__law_same ss os (Rc K c Q) (Xc K c E) → Run K c (t__law_same K E) { nx := fun _ H' => Q .non H', rt := Q } (ss ++ List.replicate (2 - ss.length) .u) os) (len : ∀ ss os R X, F__law_same ss os R X → ss.length = 2) : Good P w K mg base "_law_same" L__law_same ["told", "due"] F__law_same := by
  refine good_mk (k := 1) (st := s__law_same) (f := He.ga K "_law_same") (N := ["told", "due"]) (t__law_same K) (T.fn__law_same) (T.m__law_same) sc__law_same len (fun _ _ _ _ _ _ us hl => match us, hl with | [_, _], _ => rfl) (fun cdv A outer s H E hr => ?_) run
  have hu := hu_of hr
  have hu64 : (A.deeper (envOfC "_law_same" (defScope s__law_same) s.heap.objs.size (He.ga K "_law_same") cdv)).units + 64 < cLine := by have := hr.un; omega
  have nd := sc__law_same.nd
  exact (pss_cons (ps_if (pt_cmp (pc_of op_uIs (pv 1) pe_non) rfl) (pss_one (ps_ret (pe_cmp (pc_of op_uIs (pv 0) pe_non) rfl))) pss_nil)
  (pss_one (ps_ret (L2.pe_and (pe_callB call_isi rfl (g_isinstance T) (by decide +kernel) (pa_cons (pv 0) (pa_cons (pe_bltn (v := .ty "int") rfl (g_int T) (by decide +kernel) rfl) pa_nil))) (L2.pe_and (pe_not (pe_callB call_isi rfl (g_isinstance T) (by decide +kernel) (pa_cons (pv 0) (pa_cons (pe_bltn (v := .ty "bool") rfl (g_bool T) (by decide +kernel) rfl) pa_nil)))) (pe_one (pe_cmp (pc_of (op_uEq hu64) (pv 0) (pv 1)) rfl)))))))
def L__law_long : Nat := 3
theorem ok__law_long (T : Txt P K mg) (g__law_draw : Good P w K mg base "_law_draw" L__law_draw ["stream", "many"] F__law_draw)
    (run : ∀ (c : Cx0) (ss : List Slot) (os : List Cont) (Q : VK) (E : XK), c.M.length = os.length → F__law_long ss os (Rc K c Q) (Xc K c E) → Run K c (t__law_long K E) { nx := fun _ H' => Q .non H', rt := Q } (ss ++ List.replicate (4 - ss.length) .u) os) (len : ∀ ss os R X, F__law_long ss os R X → ss.length = 2) : Good P w K mg base "_law_long" L__law_long ["stream", "groups"] F__law_long := by
  refine good_mk (k := 2) (st := s__law_long) (f := He.ga K "_law_long") (N := ["stream", "groups", "number", "turn"]) (t__law_long K) (T.fn__law_long) (T.m__law_long) sc__law_long len (fun _ _ _ _ _ _ us hl => match us, hl with | [_, _], _ => rfl) (fun cdv A outer s H E hr => ?_) run
  have hu := hu_of hr
  have hu64 : (A.deeper (envOfC "_law_long" (defScope s__law_long) s.heap.objs.size (He.ga K "_law_long") cdv)).units + 64 < cLine := by have := hr.un; omega
  have nd := sc__law_long.nd
  exact (pss_cons (ps_set (i := 2) nd rfl (by first | exact Or.inl rfl | exact Or.inr rfl) pe_int)
  (pss_cons (ps_for (passes_of rfl) rfl (pi_range1 rfl (g_range T) (pa_cons (pe_good g__law_draw hr (by decide) rfl passE (pa_cons (pv 0) (pa_cons (pe_op op_uAdd (pv 1) pe_int) pa_nil))) pa_nil)) (pg_name (i := 3) nd rfl (by first | exact Or.inl rfl | exact Or.inr rfl)) (pss_one (ps_set (i := 2) nd rfl (by first | exact Or.inl rfl | exact Or.inr rfl) (pe_op op_uAdd (pe_op op_uMul (pv 2) pe_int) (pe_good g__law_draw hr (by decide) rfl passE (pa_cons (pv 0) (pa_cons pe_int pa_nil)))))))
  (pss_one (ps_ret (pv 2)))))
def L__law_most : Nat := 6
theorem ok__law_most (T : Txt P K mg) (g__law_due : Good P w K mg base "_law_due" L__law_due ["kind", "many", "strength"] F__law_due) (g_most_strength : Good P w K mg base "most_strength" L_most_strength ["kind", "width", "merges"] F_most_strength)
    (run : ∀ (c : Cx0) (ss : List Slot) (os : List Cont) (Q : VK) (E : XK), c.M.length = os.length → F__law_most ss os (Rc K c Q) (Xc K c E) → Run K c (t__law_most K E) { nx := fun _ H' => Q .non H', rt := Q } (ss ++ List.replicate (6 - ss.length) .u) os) (len : ∀ ss os R X, F__law_most ss os R X → ss.length = 3) : Good P w K mg base "_law_most" L__law_most ["kind", "many", "merges"] F__law_most := by
  refine good_mk (k := 5) (st := s__law_most) (f := He.ga K "_law_most") (N := ["kind", "many", "merges", "told", "low", "high"]) (t__law_most K) (T.fn__law_most) (T.m__law_most) sc__law_most len (fun _ _ _ _ _ _ us hl => match us, hl with | [_, _, _], _ => rfl) (fun cdv A outer s H E hr => ?_) run
  have hu := hu_of hr
  have hu64 : (A.deeper (envOfC "_law_most" (defScope s__law_most) s.heap.objs.size (He.ga K "_law_most") cdv)).units + 64 < cLine := by have := hr.un; omega
  have nd := sc__law_most.nd
  exact (pss_cons (ps_set (i := 3) nd rfl (by first | exact Or.inl rfl | exact Or.inr rfl) (pe_good g_most_strength hr (by decide) rfl passE (pa_cons (pv 0) (pa_cons (pv 1) (pa_cons (pv 2) pa_nil)))))
  (pss_cons (ps_if (PW.pt (pw_or (pt_not (pt_truth (pe_callB call_isi rfl (g_isinstance T) (by decide +kernel) (pa_cons (pv 3) (pa_cons (pe_bltn (v := .ty "int") rfl (g_int T) (by decide +kernel) rfl) pa_nil))) (by intro _; rfl))) (pw_or (pt_truth (pe_callB call_isi rfl (g_isinstance T) (by decide +kernel) (pa_cons (pv 3) (pa_cons (pe_bltn (v := .ty "bool") rfl (g_bool T) (by decide +kernel) rfl) pa_nil))) (by intro _; rfl)) (pw_or1 (pt_cmp (pc_of op_uLt (pv 3) pe_int) rfl))))) (pss_one (ps_ret pe_bl)) pss_nil)
  (pss_cons (ps_set (i := 4) nd rfl (by first | exact Or.inl rfl | exact Or.inr rfl) (pe_good g__law_due hr (by decide) rfl passE (pa_cons (pv 0) (pa_cons (pv 1) (pa_cons (pv 3) pa_nil)))))
  (pss_cons (ps_set (i := 5) nd rfl (by first | exact Or.inl rfl | exact Or.inr rfl) (pe_good g__law_due hr (by decide) rfl passE (pa_cons (pv 0) (pa_cons (pv 1) (pa_cons (pe_op op_uAdd (pv 3) pe_int) pa_nil)))))
  (pss_one (ps_ret (L2.pe_and (pe_cmp (pc_of op_uIsN (pv 4) pe_non) rfl) (L2.pe_and (pe_cmp (pc_of op_uLe (pv 4) (pv 2)) rfl) (pe_one (L2.pe_or (pe_cmp (pc_of op_uIs (pv 5) pe_non) rfl) (pe_one (pe_cmp (pc_of op_uGt (pv 5) (pv 2)) rfl))))))))))))
def L__law_refused : Nat := 7
theorem ok__law_refused (T : Txt P K mg) (g_most_strength : Good P w K mg base "most_strength" L_most_strength ["kind", "width", "merges"] F_most_strength) (g_price : Good P w K mg base "price" L_price ["kind", "width", "strength"] F_price) (g_price_of_errors : Good P w K mg base "price_of_errors" L_price_of_errors ["kind", "width", "lacks", "wrong"] F_price_of_errors)
    (run : ∀ (c : Cx0) (ss : List Slot) (os : List Cont) (Q : VK) (E : XK), c.M.length = os.length → F__law_refused ss os (Rc K c Q) (Xc K c E) → Run K c (t__law_refused K E) { nx := fun _ H' => Q .non H', rt := Q } (ss ++ List.replicate (7 - ss.length) .u) os) (len : ∀ ss os R X, F__law_refused ss os R X → ss.length = 5) : Good P w K mg base "_law_refused" L__law_refused ["which", "kind", "many", "number", "other"] F__law_refused := by
  refine good_mk (k := 6) (st := s__law_refused) (f := He.ga K "_law_refused") (N := ["which", "kind", "many", "number", "other", "word", "e"]) (t__law_refused K) (T.fn__law_refused) (T.m__law_refused) sc__law_refused len (fun _ _ _ _ _ _ us hl => match us, hl with | [_, _, _, _, _], _ => rfl) (fun cdv A outer s H E hr => ?_) run
  have hu := hu_of hr
  have hu64 : (A.deeper (envOfC "_law_refused" (defScope s__law_refused) s.heap.objs.size (He.ga K "_law_refused") cdv)).units + 64 < cLine := by have := hr.un; omega
  have nd := sc__law_refused.nd
  exact (pss_cons (ps_set (i := 5) nd rfl (by first | exact Or.inl rfl | exact Or.inr rfl) (pe_tup (pa_cons pe_str (pa_cons pe_int pa_nil))))
  (pss_cons (ps_tryM rfl rfl nd (takes_of rfl rfl rfl rfl) (fun W pn xe tk _ => (pss_one (ps_if (pt_cmp (pc_of (op_uEq hu64) (pv 0) pe_int) rfl) (pss_one (ps_expr (pe_goodS g_price hr (by decide) rfl (fun σ => passAt tk σ) (pa_cons (pv 1) (pa_cons (pv 2) (pa_cons (pv 3) pa_nil)))))) (pss_one (ps_if (pt_cmp (pc_of (op_uEq hu64) (pv 0) pe_int) rfl) (pss_one (ps_expr (pe_goodS g_most_strength hr (by decide) rfl (fun σ => passAt tk σ) (pa_cons (pv 1) (pa_cons (pv 2) (pa_cons (pv 3) pa_nil)))))) (pss_one (ps_expr (pe_goodS g_price_of_errors hr (by decide) rfl (fun σ => passAt tk σ) (pa_cons (pv 1) (pa_cons (pv 2) (pa_cons (pv 3) (pa_cons (pv 4) pa_nil)))))))))))) (HdsAs.cons (i := 6) rfl rfl ⟨rfl, by decide +kernel, Or.inl T.m_BadKind⟩ (fun a oe cls d pn hz hf => (pss_one (ps_set (i := 5) nd rfl (by first | exact Or.inl rfl | exact Or.inr rfl) (pe_tup (pa_cons pe_str (pa_cons (pe_byX (S := sh_BadKind) T.sx_BadKind hz hf (pv 6) rfl) pa_nil))))))
  (HdsAs.cons (i := 6) rfl rfl ⟨rfl, by decide +kernel, Or.inl T.m_BadWidth⟩ (fun a oe cls d pn hz hf => (pss_one (ps_set (i := 5) nd rfl (by first | exact Or.inl rfl | exact Or.inr rfl) (pe_tup (pa_cons pe_str (pa_cons (pe_byX (S := sh_BadWidth) T.sx_BadWidth hz hf (pv 6) rfl) pa_nil))))))
  (HdsAs.cons (i := 6) rfl rfl ⟨rfl, by decide +kernel, Or.inl T.m_BadCount⟩ (fun a oe cls d pn hz hf => (pss_one (ps_set (i := 5) nd rfl (by first | exact Or.inl rfl | exact Or.inr rfl) (pe_tup (pa_cons pe_str (pa_cons (pe_byX (S := sh_BadCount) T.sx_BadCount hz hf (pv 6) rfl) pa_nil))))))
  (HdsAs.cons (i := 6) rfl rfl ⟨rfl, by decide +kernel, Or.inl T.m_BadLength⟩ (fun a oe cls d pn hz hf => (pss_one (ps_set (i := 5) nd rfl (by first | exact Or.inl rfl | exact Or.inr rfl) (pe_tup (pa_cons pe_str (pa_cons (pe_byX (S := sh_BadLength) T.sx_BadLength hz hf (pv 6) rfl) pa_nil))))))
  (HdsAs.cons (i := 6) rfl rfl ⟨rfl, by decide +kernel, Or.inl T.m_BadLosses⟩ (fun a oe cls d pn hz hf => (pss_one (ps_set (i := 5) nd rfl (by first | exact Or.inl rfl | exact Or.inr rfl) (pe_tup (pa_cons pe_str (pa_cons (pe_byX (S := sh_BadLosses) T.sx_BadLosses hz hf (pv 6) rfl) pa_nil))))))
  HdsAs.nil))))))
  (pss_one (ps_ret (pv 5)))))
def L__law_faults : Nat := 8
theorem ok__law_faults (T : Txt P K mg) (g__law_draw : Good P w K mg base "_law_draw" L__law_draw ["stream", "many"] F__law_draw) (g__law_refused : Good P w K mg base "_law_refused" L__law_refused ["which", "kind", "many", "number", "other"] F__law_refused)
    (run : ∀ (c : Cx0) (ss : List Slot) (os : List Cont) (Q : VK) (E : XK), c.M.length = os.length → F__law_faults ss os (Rc K c Q) (Xc K c E) → Run K c (t__law_faults K E) { nx := fun _ H' => Q .non H', rt := Q } (ss ++ List.replicate (6 - ss.length) .u) os) (len : ∀ ss os R X, F__law_faults ss os R X → ss.length = 2) : Good P w K mg base "_law_faults" L__law_faults ["stream", "kind"] F__law_faults := by
  refine good_mk (k := 7) (st := s__law_faults) (f := He.ga K "_law_faults") (N := ["stream", "kind", "which", "few", "number", "due"]) (t__law_faults K) (T.fn__law_faults) (T.m__law_faults) sc__law_faults len (fun _ _ _ _ _ _ us hl => match us, hl with | [_, _], _ => rfl) (fun cdv A outer s H E hr => ?_) run
  have hu := hu_of hr
  have hu64 : (A.deeper (envOfC "_law_faults" (defScope s__law_faults) s.heap.objs.size (He.ga K "_law_faults") cdv)).units + 64 < cLine := by have := hr.un; omega
  have nd := sc__law_faults.nd
  exact (pss_cons (ps_set (i := 2) nd rfl (by first | exact Or.inl rfl | exact Or.inr rfl) (pe_good g__law_draw hr (by decide) rfl passE (pa_cons (pv 0) (pa_cons pe_int pa_nil))))
  (pss_cons (ps_set (i := 3) nd rfl (by first | exact Or.inl rfl | exact Or.inr rfl) (pe_op op_uSub pe_int (pe_good g__law_draw hr (by decide) rfl passE (pa_cons (pv 0) (pa_cons pe_int pa_nil)))))
  (pss_cons (ps_set (i := 4) nd rfl (by first | exact Or.inl rfl | exact Or.inr rfl) (pe_op op_uSub (pe_op op_uSub pe_int pe_int) (pe_good g__law_draw hr (by decide) rfl passE (pa_cons (pv 0) (pa_cons pe_int pa_nil)))))
  (pss_cons (ps_if (pt_cmp (pc_of (op_uNe hu64) (pe_good g__law_refused hr (by decide) rfl passE (pa_cons (pv 2) (pa_cons pe_str (pa_cons (pv 3) (pa_cons (pv 4) (pa_cons (pv 4) pa_nil)))))) (pe_tup (pa_cons pe_str (pa_cons pe_str pa_nil)))) rfl) (pss_one (ps_ret pe_bl)) pss_nil)
  (pss_cons (ps_if (pt_cmp (pc_of (op_uNe hu64) (pe_good g__law_refused hr (by decide) rfl passE (pa_cons (pv 2) (pa_cons (pv 1) (pa_cons (pv 3) (pa_cons (pv 4) (pa_cons (pv 4) pa_nil)))))) (pe_tup (pa_cons pe_str (pa_cons (pv 3) pa_nil)))) rfl) (pss_one (ps_ret pe_bl)) pss_nil)
  (pss_cons (ps_set (i := 5) nd rfl (by first | exact Or.inl rfl | exact Or.inr rfl) (pe_uIx hu (pe_lst (pa_cons (pe_tup (pa_cons pe_str (pa_cons (pv 4) pa_nil))) (pa_cons (pe_tup (pa_cons pe_str (pa_cons (pv 4) pa_nil))) (pa_cons (pe_tup (pa_cons pe_str (pa_cons (pv 4) pa_nil))) pa_nil)))) (pv 2) (fun _ _ => rfl)))
  (pss_cons (ps_if (pt_cmp (pc_of (op_uNe hu64) (pe_good g__law_refused hr (by decide) rfl passE (pa_cons (pv 2) (pa_cons (pv 1) (pa_cons pe_int (pa_cons (pv 4) (pa_cons (pe_op op_uSub (pv 4) pe_int) pa_nil)))))) (pv 5)) rfl) (pss_one (ps_ret pe_bl)) pss_nil)
  (pss_cons (ps_if (PW.pt (pw_or (pt_cmp (pc_of (op_uNe hu64) (pe_good g__law_refused hr (by decide) rfl passE (pa_cons pe_int (pa_cons (pv 1) (pa_cons pe_int (pa_cons pe_int (pa_cons pe_int pa_nil)))))) (pe_tup (pa_cons pe_str (pa_cons pe_int pa_nil)))) rfl) (pw_or1 (pt_cmp (pc_of (op_uNe hu64) (pe_good g__law_refused hr (by decide) rfl passE (pa_cons pe_int (pa_cons (pv 1) (pa_cons pe_int (pa_cons pe_int (pa_cons pe_int pa_nil)))))) (pe_tup (pa_cons pe_str (pa_cons pe_int pa_nil)))) rfl)))) (pss_one (ps_ret pe_bl)) pss_nil)
  (pss_one (ps_ret (L2.pe_and (pe_cmp (pc_of (op_uEq hu64) (pe_good g__law_refused hr (by decide) rfl passE (pa_cons pe_int (pa_cons (pv 1) (pa_cons pe_int (pa_cons pe_int (pa_cons (pv 4) pa_nil)))))) (pe_tup (pa_cons pe_str (pa_cons (pv 4) pa_nil)))) rfl) (pe_one (pe_cmp (pc_of (op_uEq hu64) (pe_good g__law_refused hr (by decide) rfl passE (pa_cons pe_int (pa_cons (pv 1) (pa_cons pe_int (pa_cons pe_int (pa_cons pe_int pa_nil)))))) (pe_tup (pa_cons pe_str (pa_cons pe_int pa_nil)))) rfl)))))))))))))
def L_law : Nat := 9
theorem ok_law (T : Txt P K mg) (g__law_draw : Good P w K mg base "_law_draw" L__law_draw ["stream", "many"] F__law_draw) (g__law_due : Good P w K mg base "_law_due" L__law_due ["kind", "many", "strength"] F__law_due) (g__law_faults : Good P w K mg base "_law_faults" L__law_faults ["stream", "kind"] F__law_faults) (g__law_kind : Good P w K mg base "_law_kind" L__law_kind ["stream"] F__law_kind) (g__law_least : Good P w K mg base "_law_least" L__law_least ["many", "strength"] F__law_least) (g__law_log : Good P w K mg base "_law_log" L__law_log ["number"] F__law_log) (g__law_long : Good P w K mg base "_law_long" L__law_long ["stream", "groups"] F__law_long) (g__law_most : Good P w K mg base "_law_most" L__law_most ["kind", "many", "merges"] F__law_most) (g__law_same : Good P w K mg base "_law_same" L__law_same ["told", "due"] F__law_same) (g__law_stream : Good P w K mg base "_law_stream" L__law_stream ["script"] F__law_stream) (g_part_bound : Good P w K mg base "part_bound" L_part_bound ["letters", "merges"] F_part_bound) (g_price : Good P w K mg base "price" L_price ["kind", "width", "strength"] F_price) (g_price_of_errors : Good P w K mg base "price_of_errors" L_price_of_errors ["kind", "width", "lacks", "wrong"] F_price_of_errors)
    (run : ∀ (c : Cx0) (ss : List Slot) (os : List Cont) (Q : VK) (E : XK), c.M.length = os.length → F_law ss os (Rc K c Q) (Xc K c E) → Run K c (t_law K E) { nx := fun _ H' => Q .non H', rt := Q } (ss ++ List.replicate (15 - ss.length) .u) os) (len : ∀ ss os R X, F_law ss os R X → ss.length = 1) : Good P w K mg base "law" L_law ["script"] F_law := by
  refine good_mk (k := 8) (st := s_law) (f := He.ga K "law") (N := ["script", "stream", "kind", "many", "strength", "letters", "goal", "merges", "turn", "lacks", "wrong", "more", "great", "far", "near"]) (t_law K) (T.fn_law) (T.m_law) sc_law len (fun _ _ _ _ _ _ us hl => match us, hl with | [_], _ => rfl) (fun cdv A outer s H E hr => ?_) run
  have hu := hu_of hr
  have hu64 : (A.deeper (envOfC "law" (defScope s_law) s.heap.objs.size (He.ga K "law") cdv)).units + 64 < cLine := by have := hr.un; omega
  have nd := sc_law.nd
  exact (pss_cons (ps_set (i := 1) nd rfl (by first | exact Or.inl rfl | exact Or.inr rfl) (pe_good g__law_stream hr (by decide) rfl passE (pa_cons (pv 0) pa_nil)))
  (pss_cons (ps_set (i := 2) nd rfl (by first | exact Or.inl rfl | exact Or.inr rfl) (pe_good g__law_kind hr (by decide) rfl passE (pa_cons (pv 1) pa_nil)))
  (pss_cons (ps_set (i := 3) nd rfl (by first | exact Or.inl rfl | exact Or.inr rfl) (pe_op op_uAdd pe_int (pe_good g__law_draw hr (by decide) rfl passE (pa_cons (pv 1) (pa_cons pe_int pa_nil)))))
  (pss_cons (ps_set (i := 4) nd rfl (by first | exact Or.inl rfl | exact Or.inr rfl) (pe_op op_uAdd pe_int (pe_good g__law_draw hr (by decide) rfl passE (pa_cons (pv 1) (pa_cons pe_int pa_nil)))))
  (pss_cons (ps_if (PW.pt (pw_and (pt_cmp (pc_uIn hu (pv 2) (pe_tup (pa_cons pe_str (pa_cons pe_str (pa_cons pe_str (pa_cons pe_str (pa_cons pe_str pa_nil))))))) rfl) (pw_and1 (pt_cmp (pc_of op_uGt (pv 3) pe_int) rfl)))) (pss_one (ps_if (pt_not (pt_truth (pe_good g__law_same hr (by decide) rfl passE (pa_cons (pe_good g_price hr (by decide) rfl passE (pa_cons (pv 2) (pa_cons (pv 3) (pa_cons (pv 4) pa_nil)))) (pa_cons (pe_good g__law_least hr (by decide) rfl passE (pa_cons (pv 3) (pa_cons (pv 4) pa_nil))) pa_nil))) (by intro _; rfl))) (pss_one (ps_ret pe_bl)) pss_nil)) pss_nil)
  (pss_cons (ps_for (passes_of rfl) rfl (pi_seq (pe_tup (pa_cons pe_int (pa_cons pe_int (pa_cons pe_int (pa_cons pe_int (pa_cons (pv 3) (pa_cons (pe_op op_uMul pe_int (pv 3)) pa_nil)))))))) (pg_name (i := 5) nd rfl (by first | exact Or.inl rfl | exact Or.inr rfl)) (pss_one (ps_for (passes_of rfl) rfl (pi_seq (pe_tup (pa_cons pe_int (pa_cons pe_int (pa_cons pe_int (pa_cons (pv 4) pa_nil)))))) (pg_name (i := 6) nd rfl (by first | exact Or.inl rfl | exact Or.inr rfl)) (pss_one (ps_if (pt_not (pt_truth (pe_good g__law_same hr (by decide) rfl passE (pa_cons (pe_good g_price hr (by decide) rfl passE (pa_cons (pv 2) (pa_cons (pv 5) (pa_cons (pv 6) pa_nil)))) (pa_cons (pe_good g__law_due hr (by decide) rfl passE (pa_cons (pv 2) (pa_cons (pv 5) (pa_cons (pv 6) pa_nil)))) pa_nil))) (by intro _; rfl))) (pss_one (ps_ret pe_bl)) pss_nil)))))
  (pss_cons (ps_set (i := 7) nd rfl (by first | exact Or.inl rfl | exact Or.inr rfl) (pe_good g__law_draw hr (by decide) rfl passE (pa_cons (pv 1) (pa_cons pe_int pa_nil))))
  (pss_cons (ps_for (passes_of rfl) rfl (pi_seq (pe_tup (pa_cons pe_int (pa_cons pe_int (pa_cons (pe_op op_uSub (pv 3) pe_int) (pa_cons (pe_op op_uSub (pv 3) pe_int) (pa_cons (pv 3) (pa_cons (pv 7) pa_nil)))))))) (pg_name (i := 8) nd rfl (by first | exact Or.inl rfl | exact Or.inr rfl)) (pss_one (ps_if (PW.pt (pw_and (pt_cmp (pc_of op_uGe (pv 8) pe_int) rfl) (pw_and1 (pt_not (pt_truth (pe_good g__law_most hr (by decide) rfl passE (pa_cons (pv 2) (pa_cons (pv 3) (pa_cons (pv 8) pa_nil)))) (by intro _; rfl)))))) (pss_one (ps_ret pe_bl)) pss_nil)))
  (pss_cons (ps_if (PW.pt (pw_or (pt_not (pt_truth (pe_good g__law_most hr (by decide) rfl passE (pa_cons (pv 2) (pa_cons pe_int (pa_cons (pv 7) pa_nil)))) (by intro _; rfl))) (pw_or1 (pt_not (pt_truth (pe_good g__law_most hr (by decide) rfl passE (pa_cons (pv 2) (pa_cons pe_int (pa_cons (pv 7) pa_nil)))) (by intro _; rfl)))))) (pss_one (ps_ret pe_bl)) pss_nil)
  (pss_cons (ps_set (i := 9) nd rfl (by first | exact Or.inl rfl | exact Or.inr rfl) (pe_good g__law_draw hr (by decide) rfl passE (pa_cons (pv 1) (pa_cons pe_int pa_nil))))
  (pss_cons (ps_set (i := 10) nd rfl (by first | exact Or.inl rfl | exact Or.inr rfl) (pe_good g__law_draw hr (by decide) rfl passE (pa_cons (pv 1) (pa_cons pe_int pa_nil))))
  (pss_cons (ps_if (pt_not (pt_truth (pe_good g__law_same hr (by decide) rfl passE (pa_cons (pe_good g_price_of_errors hr (by decide) rfl passE (pa_cons (pv 2) (pa_cons (pv 3) (pa_cons (pv 9) (pa_cons (pv 10) pa_nil))))) (pa_cons (pe_good g__law_due hr (by decide) rfl passE (pa_cons (pv 2) (pa_cons (pv 3) (pa_cons (pe_op op_uAdd (pe_op op_uAdd (pv 9) (pe_op op_uMul pe_int (pv 10))) pe_int) pa_nil)))) pa_nil))) (by intro _; rfl))) (pss_one (ps_ret pe_bl)) pss_nil)
  (pss_cons (ps_set (i := 11) nd rfl (by first | exact Or.inl rfl | exact Or.inr rfl) (pe_op op_uAdd (pe_op op_uSub (pv 3) pe_int) (pe_good g__law_draw hr (by decide) rfl passE (pa_cons (pv 1) (pa_cons pe_int pa_nil)))))
  (pss_cons (ps_if (pt_not (pt_truth (pe_good g__law_same hr (by decide) rfl passE (pa_cons (pe_good g_part_bound hr (by decide) rfl passE (pa_cons (pv 3) (pa_cons (pv 11) pa_nil))) (pa_cons (pe_op op_uSub (pe_op op_uAdd (pe_op op_uAdd (pe_good g__law_log hr (by decide) rfl passE (pa_cons (pv 3) pa_nil)) pe_int) (pv 11)) (pe_op op_uSub (pv 3) pe_int)) pa_nil))) (by intro _; rfl))) (pss_one (ps_ret pe_bl)) pss_nil)
  (pss_cons (ps_set (i := 12) nd rfl (by first | exact Or.inl rfl | exact Or.inr rfl) (pe_op op_uAdd pe_int (pe_good g__law_long hr (by decide) rfl passE (pa_cons (pv 1) (pa_cons pe_int pa_nil)))))
  (pss_cons (ps_set (i := 13) nd rfl (by first | exact Or.inl rfl | exact Or.inr rfl) (pe_op op_uAdd pe_int (pe_good g__law_long hr (by decide) rfl passE (pa_cons (pv 1) (pa_cons pe_int pa_nil)))))
  (pss_cons (ps_set (i := 14) nd rfl (by first | exact Or.inl rfl | exact Or.inr rfl) (pe_op op_uAdd pe_int (pe_good g__law_draw hr (by decide) rfl passE (pa_cons (pv 1) (pa_cons pe_int pa_nil)))))
  (pss_cons (ps_if (pt_not (pt_truth (pe_good g__law_same hr (by decide) rfl passE (pa_cons (pe_good g_price hr (by decide) rfl passE (pa_cons (pv 2) (pa_cons (pv 12) (pa_cons (pv 14) pa_nil)))) (pa_cons (pe_good g__law_due hr (by decide) rfl passE (pa_cons (pv 2) (pa_cons (pv 12) (pa_cons (pv 14) pa_nil)))) pa_nil))) (by intro _; rfl))) (pss_one (ps_ret pe_bl)) pss_nil)
  (pss_cons (ps_if (PW.pt (pw_and (pt_cmp (pc_of op_uGt (pv 13) pe_int) rfl) (pw_and1 (pt_not (pt_truth (pe_good g__law_same hr (by decide) rfl passE (pa_cons (pe_good g_price hr (by decide) rfl passE (pa_cons (pv 2) (pa_cons (pv 3) (pa_cons (pv 13) pa_nil)))) (pa_cons (pe_good g__law_due hr (by decide) rfl passE (pa_cons (pv 2) (pa_cons (pv 3) (pa_cons (pv 13) pa_nil)))) pa_nil))) (by intro _; rfl)))))) (pss_one (ps_ret pe_bl)) pss_nil)
  (pss_cons (ps_if (pt_not (pt_truth (pe_good g__law_most hr (by decide) rfl passE (pa_cons (pv 2) (pa_cons (pv 12) (pa_cons (pv 13) pa_nil)))) (by intro _; rfl))) (pss_one (ps_ret pe_bl)) pss_nil)
  (pss_one (ps_ret (pe_good g__law_faults hr (by decide) rfl passE (pa_cons (pv 1) (pa_cons (pv 2) pa_nil)))))))))))))))))))))))))
theorem okf_law {fd : FuncData} (FD : FunD K "law" "law" (defArgs s_law) (defBody s_law) (defScope s_law) [] [] (He.ga K "law") fd) (T : Txt P K mg) (g__law_draw : Good P w K mg base "_law_draw" L__law_draw ["stream", "many"] F__law_draw) (g__law_due : Good P w K mg base "_law_due" L__law_due ["kind", "many", "strength"] F__law_due) (g__law_faults : Good P w K mg base "_law_faults" L__law_faults ["stream", "kind"] F__law_faults) (g__law_kind : Good P w K mg base "_law_kind" L__law_kind ["stream"] F__law_kind) (g__law_least : Good P w K mg base "_law_least" L__law_least ["many", "strength"] F__law_least) (g__law_log : Good P w K mg base "_law_log" L__law_log ["number"] F__law_log) (g__law_long : Good P w K mg base "_law_long" L__law_long ["stream", "groups"] F__law_long) (g__law_most : Good P w K mg base "_law_most" L__law_most ["kind", "many", "merges"] F__law_most) (g__law_same : Good P w K mg base "_law_same" L__law_same ["told", "due"] F__law_same) (g__law_stream : Good P w K mg base "_law_stream" L__law_stream ["script"] F__law_stream) (g_part_bound : Good P w K mg base "part_bound" L_part_bound ["letters", "merges"] F_part_bound) (g_price : Good P w K mg base "price" L_price ["kind", "width", "strength"] F_price) (g_price_of_errors : Good P w K mg base "price_of_errors" L_price_of_errors ["kind", "width", "lacks", "wrong"] F_price_of_errors)
    (run : ∀ (c : Cx0) (ss : List Slot) (os : List Cont) (Q : VK) (E : XK), c.M.length = os.length → F_law ss os (Rc K c Q) (Xc K c E) → Run K c (t_law K E) { nx := fun _ H' => Q .non H', rt := Q } (ss ++ List.replicate (15 - ss.length) .u) os) (len : ∀ ss os R X, F_law ss os R X → ss.length = 1) : FnOk P w K mg base (L2.CX P w) L_law (He.ga K "law") fd ["script"] (spOf K F_law) := by
  refine fnok_mk (k := 8) (st := s_law) (f := He.ga K "law") (N := ["script", "stream", "kind", "many", "strength", "letters", "goal", "merges", "turn", "lacks", "wrong", "more", "great", "far", "near"]) (t_law K) FD sc_law len (fun cdv A outer s H E hr => ?_) run
  have hu := hu_of hr
  have hu64 : (A.deeper (envOfC "law" (defScope s_law) s.heap.objs.size (He.ga K "law") cdv)).units + 64 < cLine := by have := hr.un; omega
  have nd := sc_law.nd
  exact (pss_cons (ps_set (i := 1) nd rfl (by first | exact Or.inl rfl | exact Or.inr rfl) (pe_good g__law_stream hr (by decide) rfl passE (pa_cons (pv 0) pa_nil)))
  (pss_cons (ps_set (i := 2) nd rfl (by first | exact Or.inl rfl | exact Or.inr rfl) (pe_good g__law_kind hr (by decide) rfl passE (pa_cons (pv 1) pa_nil)))
  (pss_cons (ps_set (i := 3) nd rfl (by first | exact Or.inl rfl | exact Or.inr rfl) (pe_op op_uAdd pe_int (pe_good g__law_draw hr (by decide) rfl passE (pa_cons (pv 1) (pa_cons pe_int pa_nil)))))
  (pss_cons (ps_set (i := 4) nd rfl (by first | exact Or.inl rfl | exact Or.inr rfl) (pe_op op_uAdd pe_int (pe_good g__law_draw hr (by decide) rfl passE (pa_cons (pv 1) (pa_cons pe_int pa_nil)))))
  (pss_cons (ps_if (PW.pt (pw_and (pt_cmp (pc_uIn hu (pv 2) (pe_tup (pa_cons pe_str (pa_cons pe_str (pa_cons pe_str (pa_cons pe_str (pa_cons pe_str pa_nil))))))) rfl) (pw_and1 (pt_cmp (pc_of op_uGt (pv 3) pe_int) rfl)))) (pss_one (ps_if (pt_not (pt_truth (pe_good g__law_same hr (by decide) rfl passE (pa_cons (pe_good g_price hr (by decide) rfl passE (pa_cons (pv 2) (pa_cons (pv 3) (pa_cons (pv 4) pa_nil)))) (pa_cons (pe_good g__law_least hr (by decide) rfl passE (pa_cons (pv 3) (pa_cons (pv 4) pa_nil))) pa_nil))) (by intro _; rfl))) (pss_one (ps_ret pe_bl)) pss_nil)) pss_nil)
  (pss_cons (ps_for (passes_of rfl) rfl (pi_seq (pe_tup (pa_cons pe_int (pa_cons pe_int (pa_cons pe_int (pa_cons pe_int (pa_cons (pv 3) (pa_cons (pe_op op_uMul pe_int (pv 3)) pa_nil)))))))) (pg_name (i := 5) nd rfl (by first | exact Or.inl rfl | exact Or.inr rfl)) (pss_one (ps_for (passes_of rfl) rfl (pi_seq (pe_tup (pa_cons pe_int (pa_cons pe_int (pa_cons pe_int (pa_cons (pv 4) pa_nil)))))) (pg_name (i := 6) nd rfl (by first | exact Or.inl rfl | exact Or.inr rfl)) (pss_one (ps_if (pt_not (pt_truth (pe_good g__law_same hr (by decide) rfl passE (pa_cons (pe_good g_price hr (by decide) rfl passE (pa_cons (pv 2) (pa_cons (pv 5) (pa_cons (pv 6) pa_nil)))) (pa_cons (pe_good g__law_due hr (by decide) rfl passE (pa_cons (pv 2) (pa_cons (pv 5) (pa_cons (pv 6) pa_nil)))) pa_nil))) (by intro _; rfl))) (pss_one (ps_ret pe_bl)) pss_nil)))))
  (pss_cons (ps_set (i := 7) nd rfl (by first | exact Or.inl rfl | exact Or.inr rfl) (pe_good g__law_draw hr (by decide) rfl passE (pa_cons (pv 1) (pa_cons pe_int pa_nil))))
  (pss_cons (ps_for (passes_of rfl) rfl (pi_seq (pe_tup (pa_cons pe_int (pa_cons pe_int (pa_cons (pe_op op_uSub (pv 3) pe_int) (pa_cons (pe_op op_uSub (pv 3) pe_int) (pa_cons (pv 3) (pa_cons (pv 7) pa_nil)))))))) (pg_name (i := 8) nd rfl (by first | exact Or.inl rfl | exact Or.inr rfl)) (pss_one (ps_if (PW.pt (pw_and (pt_cmp (pc_of op_uGe (pv 8) pe_int) rfl) (pw_and1 (pt_not (pt_truth (pe_good g__law_most hr (by decide) rfl passE (pa_cons (pv 2) (pa_cons (pv 3) (pa_cons (pv 8) pa_nil)))) (by intro _; rfl)))))) (pss_one (ps_ret pe_bl)) pss_nil)))
  (pss_cons (ps_if (PW.pt (pw_or (pt_not (pt_truth (pe_good g__law_most hr (by decide) rfl passE (pa_cons (pv 2) (pa_cons pe_int (pa_cons (pv 7) pa_nil)))) (by intro _; rfl))) (pw_or1 (pt_not (pt_truth (pe_good g__law_most hr (by decide) rfl passE (pa_cons (pv 2) (pa_cons pe_int (pa_cons (pv 7) pa_nil)))) (by intro _; rfl)))))) (pss_one (ps_ret pe_bl)) pss_nil)
  (pss_cons (ps_set (i := 9) nd rfl (by first | exact Or.inl rfl | exact Or.inr rfl) (pe_good g__law_draw hr (by decide) rfl passE (pa_cons (pv 1) (pa_cons pe_int pa_nil))))
  (pss_cons (ps_set (i := 10) nd rfl (by first | exact Or.inl rfl | exact Or.inr rfl) (pe_good g__law_draw hr (by decide) rfl passE (pa_cons (pv 1) (pa_cons pe_int pa_nil))))
  (pss_cons (ps_if (pt_not (pt_truth (pe_good g__law_same hr (by decide) rfl passE (pa_cons (pe_good g_price_of_errors hr (by decide) rfl passE (pa_cons (pv 2) (pa_cons (pv 3) (pa_cons (pv 9) (pa_cons (pv 10) pa_nil))))) (pa_cons (pe_good g__law_due hr (by decide) rfl passE (pa_cons (pv 2) (pa_cons (pv 3) (pa_cons (pe_op op_uAdd (pe_op op_uAdd (pv 9) (pe_op op_uMul pe_int (pv 10))) pe_int) pa_nil)))) pa_nil))) (by intro _; rfl))) (pss_one (ps_ret pe_bl)) pss_nil)
  (pss_cons (ps_set (i := 11) nd rfl (by first | exact Or.inl rfl | exact Or.inr rfl) (pe_op op_uAdd (pe_op op_uSub (pv 3) pe_int) (pe_good g__law_draw hr (by decide) rfl passE (pa_cons (pv 1) (pa_cons pe_int pa_nil)))))
  (pss_cons (ps_if (pt_not (pt_truth (pe_good g__law_same hr (by decide) rfl passE (pa_cons (pe_good g_part_bound hr (by decide) rfl passE (pa_cons (pv 3) (pa_cons (pv 11) pa_nil))) (pa_cons (pe_op op_uSub (pe_op op_uAdd (pe_op op_uAdd (pe_good g__law_log hr (by decide) rfl passE (pa_cons (pv 3) pa_nil)) pe_int) (pv 11)) (pe_op op_uSub (pv 3) pe_int)) pa_nil))) (by intro _; rfl))) (pss_one (ps_ret pe_bl)) pss_nil)
  (pss_cons (ps_set (i := 12) nd rfl (by first | exact Or.inl rfl | exact Or.inr rfl) (pe_op op_uAdd pe_int (pe_good g__law_long hr (by decide) rfl passE (pa_cons (pv 1) (pa_cons pe_int pa_nil)))))
  (pss_cons (ps_set (i := 13) nd rfl (by first | exact Or.inl rfl | exact Or.inr rfl) (pe_op op_uAdd pe_int (pe_good g__law_long hr (by decide) rfl passE (pa_cons (pv 1) (pa_cons pe_int pa_nil)))))
  (pss_cons (ps_set (i := 14) nd rfl (by first | exact Or.inl rfl | exact Or.inr rfl) (pe_op op_uAdd pe_int (pe_good g__law_draw hr (by decide) rfl passE (pa_cons (pv 1) (pa_cons pe_int pa_nil)))))
  (pss_cons (ps_if (pt_not (pt_truth (pe_good g__law_same hr (by decide) rfl passE (pa_cons (pe_good g_price hr (by decide) rfl passE (pa_cons (pv 2) (pa_cons (pv 12) (pa_cons (pv 14) pa_nil)))) (pa_cons (pe_good g__law_due hr (by decide) rfl passE (pa_cons (pv 2) (pa_cons (pv 12) (pa_cons (pv 14) pa_nil)))) pa_nil))) (by intro _; rfl))) (pss_one (ps_ret pe_bl)) pss_nil)
  (pss_cons (ps_if (PW.pt (pw_and (pt_cmp (pc_of op_uGt (pv 13) pe_int) rfl) (pw_and1 (pt_not (pt_truth (pe_good g__law_same hr (by decide) rfl passE (pa_cons (pe_good g_price hr (by decide) rfl passE (pa_cons (pv 2) (pa_cons (pv 3) (pa_cons (pv 13) pa_nil)))) (pa_cons (pe_good g__law_due hr (by decide) rfl passE (pa_cons (pv 2) (pa_cons (pv 3) (pa_cons (pv 13) pa_nil)))) pa_nil))) (by intro _; rfl)))))) (pss_one (ps_ret pe_bl)) pss_nil)
  (pss_cons (ps_if (pt_not (pt_truth (pe_good g__law_most hr (by decide) rfl passE (pa_cons (pv 2) (pa_cons (pv 12) (pa_cons (pv 13) pa_nil)))) (by intro _; rfl))) (pss_one (ps_ret pe_bl)) pss_nil)
  (pss_one (ps_ret (pe_good g__law_faults hr (by decide) rfl passE (pa_cons (pv 1) (pa_cons (pv 2) pa_nil)))))))))))))))))))))))))
end
end Z20

set_option maxHeartbeats 0
namespace Z20
open PySem PySem.Spec PyProof.Rows L2 VL
def nm0 : List Str := [PySem.Str.ofString "_wall", PySem.Str.ofString "FoldError", PySem.Str.ofString "BadKind", PySem.Str.ofString "BadLength", PySem.Str.ofString "BadWidth", PySem.Str.ofString "BadCount", PySem.Str.ofString "BadLosses", PySem.Str.ofString "FULL_KINDS", PySem.Str.ofString "Kind", PySem.Str.ofString "BagKind", PySem.Str.ofString "SetKind", PySem.Str.ofString "HeadsKind", PySem.Str.ofString "FirstKind", PySem.Str.ofString "TailsKind", PySem.Str.ofString "LastKind", PySem.Str.ofString "EndsKind", PySem.Str.ofString "kind_named", PySem.Str.ofString "floor_log2", PySem.Str.ofString "check_numbers", PySem.Str.ofString "check_sizes", PySem.Str.ofString "halved", PySem.Str.ofString "never_stronger", PySem.Str.ofString "price", PySem.Str.ofString "most_strength", PySem.Str.ofString "price_of_errors", PySem.Str.ofString "part_bound", PySem.Str.ofString "_law_stream", PySem.Str.ofString "_law_draw", PySem.Str.ofString "_law_kind", PySem.Str.ofString "_law_log", PySem.Str.ofString "_law_least", PySem.Str.ofString "_law_due", PySem.Str.ofString "_law_same", PySem.Str.ofString "_law_long", PySem.Str.ofString "_law_most", PySem.Str.ofString "_law_refused", PySem.Str.ofString "_law_faults"]
abbrev names : List Str := nm0
abbrev R : PySem.W.OpenRow := PySem.W.OpenLaw.row PySem.Challenge.rw_foldsunseen_k20_prices
abbrev hk : PySem.W.Hook := HV.hookV 6 fa fn sx ex
def ob (s : PySem.W.SharedT) : HV.AlV := HV.obsVG 6 fa fn sx ex (HandSHeadRun.getT s)
theorem ob_eq (s : PySem.W.SharedT) : ob s = hk.obs s.abs := HV.obsVG_eq (HandSHeadRun.getT_eq s)
theorem run (w : World) : HandSHeadRun.RunEq R (PySem.W.view R.prog [43]) hk ob 6000 names w := by
  intro os
  kernel_rfl
end Z20

set_option maxHeartbeats 4000000
namespace Z20
open PySem PySem.Spec PyProof.Rows L2 VL
local macro_rules | `(tactic| walk_at "side") => `(tactic| first | assumption | rfl | omega | decide)
local macro_rules | `(tactic| walk_at "sd") => `(tactic| first | assumption | omega | rotate_left 1)
local macro_rules | `(tactic| walk_at "lv") => `(tactic| first | exact lv_d | exact lv_p rfl | exact dv_d | exact dv_p rfl)
local macro_rules | `(tactic| walk_at "ov") => `(tactic| first
  | ((with_reducible apply VL.gAdd); (first | exact ov_add))
  | ((with_reducible apply VL.gSub); exact ov_sub)
  | ((with_reducible apply VL.gMul); (refine ov_mul ?_); (first | (refine Or.inl ⟨?_, ?_⟩ <;> decide) | (refine Or.inr ⟨?_, ?_⟩ <;> decide) | walk_at "sd"))
  | ((with_reducible apply VL.gDiv); (refine ov_div ?_); (first | (refine ⟨?_, ?_⟩ <;> decide) | walk_at "sd"))
  | ((with_reducible apply VL.gMod); (refine ov_mod ?_); (first | decide | walk_at "sd"))
  | ((with_reducible apply VL.gPow); (refine ov_pow ?_); (first | (refine ⟨?_, ?_, ?_⟩ <;> decide) | walk_at "sd"))
  | ((with_reducible apply VL.gEq); first | exact ov_eq | exact ov_eqO | exact ov_eqOs | exact ov_eqss | exact ov_eqOO)
  | ((with_reducible apply VL.gNe); first | exact ov_ne)
  | ((with_reducible apply VL.gLt); first | exact ov_lt | exact ov_ltO)
  | ((with_reducible apply VL.gLe); first | exact ov_le | exact ov_leO)
  | ((with_reducible apply VL.gGt); first | exact ov_gt | exact ov_gtO)
  | ((with_reducible apply VL.gGe); exact ov_ge)
  | ((with_reducible apply VL.gIs); first | exact ov_isO | exact ov_isU | exact ov_isX)
  | ((with_reducible apply VL.gIsN); first | exact ov_isNO | exact ov_isNU | exact ov_isNX)
  | ((with_reducible apply VL.gIx); first | exact ov_ix20 | exact ov_ix21 | exact ov_ix30 | exact ov_ix31 | exact ov_ix32 | ((refine ov_ixLG (by walk_at "lv") ?_); (walk_at "sd")) | ((refine ov_ixTG ?_); (walk_at "sd"))))
local macro_rules | `(tactic| walk_at "cv") => `(tactic| first
  | ((with_reducible apply VL.gLen); first | exact cv_lenT | exact cv_lenL (by walk_at "lv"))
  | ((with_reducible apply VL.gInt); first | exact cv_int | exact cv_intB)
  | ((with_reducible apply VL.gAbs); exact cv_abs)
  | ((with_reducible apply VL.gMin); exact cv_min2)
  | ((with_reducible apply VL.gMax); exact cv_max2)
  | ((with_reducible apply VL.gList); first | exact cv_listT | exact cv_listL (by walk_at "lv"))
  | ((with_reducible apply VL.gTuple); first | exact cv_tupleT | exact cv_tupleL (by walk_at "lv"))
  | ((with_reducible apply VL.gIsi); first | exact cv_isi rfl | exact cv_isiP rfl rfl))
local macro_rules | `(tactic| walk_at "all") => `(tactic| repeat (first | exact AllD.nil | refine AllD.d ?_))
local macro_rules | `(tactic| walk_at "e") => `(tactic| first
  | ((with_reducible apply VL.gVar); first | exact er_d rfl | exact er_p rfl)
  | ((with_reducible apply VL.gC); first | exact er_int | exact er_bl | exact er_str | exact er_non | exact er_ty | assumption)
  | ((with_reducible apply er_op); (walk_at "e"); (walk_at "e"); (walk_at "ov"))
  | ((with_reducible apply er_cb); (walk_at "e"); (walk_at "cv"))
  | ((with_reducible apply VL.gENil); exact ea_nil)
  | ((with_reducible apply ea_cons); (walk_at "e"); (walk_at "e"))
  | ((with_reducible apply VL.gPop); (refine er_popG rfl rfl ?_); (walk_at "sd"))
  | ((with_reducible apply et_v); (walk_at "e"))
  | ((with_reducible apply er_ix); (walk_at "e"); (walk_at "e"); (walk_at "ov"))
  | ((with_reducible apply er_andV); (walk_at "e"); (intro hb_; (try simp only [decide_eq_true_eq] at hb_); (walk_at "e")))
  | ((with_reducible apply er_orV); (walk_at "e"); (intro hb_; (try simp only [decide_eq_false_iff_not] at hb_); (walk_at "e")))
  | ((with_reducible apply er_notV); (walk_at "e"))
  | ((with_reducible apply et_and); (walk_at "e"); (intro hb_; (try simp only [decide_eq_true_eq] at hb_); (walk_at "e")))
  | ((with_reducible apply et_or); (walk_at "e"); (intro hb_; (try simp only [decide_eq_false_iff_not] at hb_); (walk_at "e")))
  | ((with_reducible apply et_not); (walk_at "e"))
  | ((with_reducible apply VL.gTru); (apply et_truB); (walk_at "e"))
  | ((with_reducible apply er_bits); (walk_at "e"))
  | ((with_reducible apply er_neg); (walk_at "e"))
  | (with_reducible exact er_make0)
  | ((with_reducible apply er_t2); (walk_at "e"); done)
  | ((with_reducible apply er_t3); (walk_at "e"); done)
  | (walk_at "in")
  | (walk_at "call"))
local macro_rules | `(tactic| walk_at "in") => `(tactic| first
  | ((with_reducible apply VL.gIn); first | exact er_inT (by walk_at "e") (by walk_at "e") | exact er_inL (by walk_at "e") (by walk_at "e") (by walk_at "lv"))
  | ((with_reducible apply VL.gNotIn); first | exact er_notinT (by walk_at "e") (by walk_at "e") | exact er_notinL (by walk_at "e") (by walk_at "e") (by walk_at "lv")))
/-! ### what each def does -/
section
variable {P : Program} {K : Fg} {mg : Str → Option Value} {c : Cx0} {s s1 : List Slot} {o o1 : List Cont} {E : XK} {ta : TA}
theorem c_floor_log2 {k : Int} (h : EA K c ta s o s1 o1 [.d k]) (hk : 1 ≤ k) : ER K c (tCall (spOf K F_floor_log2) [] E ta) s o s1 o1 (.d (lg k)) := er_callD h fun R X q => ⟨k, rfl, rfl, by rw [if_neg (by omega)]; exact q⟩
theorem c_halved {w t : Int} (h : EA K c ta s o s1 o1 [.d w, .d t]) (h0 : 0 ≤ t) (h1 : t < 2 ^ 62) : ER K c (tCall (spOf K F_halved) [] E ta) s o s1 o1 (.d (w / 2 ^ t.toNat)) := er_callD h fun R X q => ⟨w, t, rfl, rfl, h0, h1, q⟩
theorem c_kind_named {n C : Str} (h : EA K c ta s o s1 o1 [.d n]) (hk : kcls n = some C) : ER K c (tCall (spOf K F_kind_named) [] E ta) s o s1 o1 (.d (Ob0.mk C)) := er_callD h fun R X q => ⟨n, rfl, rfl, by rw [hk]; exact q⟩
theorem c_never_stronger {kind : Str} {w : Int} (h : EA K c ta s o s1 o1 [.d kind, .d w]) (hk : (kcls kind).isSome) : ER K c (tCall (spOf K F_never_stronger) [] E ta) s o s1 o1 (.d (nsV kind w)) := er_callD h fun R X q => ⟨kind, w, rfl, rfl, hk, q⟩
end
local macro_rules | `(tactic| walk_at "call") => `(tactic| first
  | ((with_reducible apply c_floor_log2); (walk_at "e"); (walk_at "sd"))
  | ((with_reducible apply c_halved); (walk_at "e"); (walk_at "sd"); (walk_at "sd"))
  | ((with_reducible apply c_never_stronger); (walk_at "e"); (walk_at "sd")))
section
variable {P : Program} {K : Fg} {mg : Str → Option Value}
theorem bits_lg {k : Int} (h : 1 ≤ k) : bitsI k - 1 = lg k := by
  unfold bitsI lg
  rw [if_neg (by omega)]; omega
theorem run_floor_log2 (T : Txt P K mg) (c : Cx0) (ss : List Slot) (os : List Cont) (Q : VK) (E : XK) (hM : c.M.length = os.length) (h : F_floor_log2 ss os (Rc K c Q) (Xc K c E)) : Run K c (t_floor_log2 K E) { nx := fun _ H' => Q .non H', rt := Q } (ss ++ List.replicate (1 - ss.length) .u) os := by
  obtain ⟨k, rfl, rfl, h⟩ := h
  show Run K c _ _ [.d k] []
  unfold t_floor_log2
  apply q_when
  · walk_at "e"
  · intro e
    have hk : k < 1 := by simpa using e
    rw [if_pos hk] at h
    exact s_raise (by walk_at "e") h OsW.nil (by rw [hM]; exact Nat.le_refl _) rfl
  · intro e
    have hk : ¬ k < 1 := by simpa using e
    rw [if_neg hk] at h
    apply s_ret
    · walk_at "e"
    · rw [bits_lg (by omega)]
      exact ret_d h OsW.nil (by rw [hM]; exact Nat.le_refl _) rfl rfl
theorem run_halved (T : Txt P K mg) (c : Cx0) (ss : List Slot) (os : List Cont) (Q : VK) (E : XK) (hM : c.M.length = os.length) (h : F_halved ss os (Rc K c Q) (Xc K c E)) : Run K c (t_halved K E) { nx := fun _ H' => Q .non H', rt := Q } (ss ++ List.replicate (4 - ss.length) .u) os := by
  obtain ⟨w, t, rfl, rfl, h0, h1, h⟩ := h
  show Run K c _ _ [.d w, .d t, .u, .u] []
  unfold t_halved
  apply q_asg
  · walk_at "e"
  · exact Nat.le_of_ble_eq_true rfl
  refine q_for (α := Int) (I := fun k (x : Int) => x = w / 2 ^ k) (f := fun x => [.d w, .d t, .d x, .u]) (g := fun _ => []) (f' := fun x y => [.d w, .d t, .d x, .d y]) (ei_rng1 (by walk_at "e") ⟨by omega, h1⟩) w ?_ ?_ rfl rfl rfl ?_ ?_ ?_ ?_
  · simp
  · exact SlW.refl _
  · intro _ _ _; trivial
  · intro x y; exact eg_name (Nat.le_of_ble_eq_true rfl)
  · intro c' hc hM' k x y hy hx
    apply s_asg
    · walk_at "e"
    · exact Nat.le_of_ble_eq_true rfl
    refine go_at (x / 2) ?_ ?_ OsW.nil (Nat.le_of_eq hM') rfl rfl
    · rw [hx, Int.ediv_ediv_of_nonneg (Int.le_of_lt (Int.pow_pos (by decide))), Int.pow_succ]
    · exact ⟨.inr rfl, .inr rfl, .inr rfl, .inl rfl, trivial⟩
  · intro x hx
    rw [rngl_len] at hx
    apply s_ret
    · walk_at "e"
    · rw [hx]
      exact ret_d h OsW.nil (by rw [hM]; exact Nat.le_refl _) rfl rfl
theorem run_part_bound (T : Txt P K mg) (c : Cx0) (ss : List Slot) (os : List Cont) (Q : VK) (E : XK) (hM : c.M.length = os.length) (h : F_part_bound ss os (Rc K c Q) (Xc K c E)) : Run K c (t_part_bound K E) { nx := fun _ H' => Q .non H', rt := Q } (ss ++ List.replicate (2 - ss.length) .u) os := by
  obtain ⟨l, m, rfl, rfl, h0, h⟩ := h
  show Run K c _ _ [.d l, .d m] []
  unfold t_part_bound
  apply s_ret
  · walk_at "e"
  · exact ret_d h OsW.nil (by rw [hM]; exact Nat.le_refl _) rfl rfl
end
end Z20

set_option maxHeartbeats 4000000
namespace Z20
open PySem PySem.Spec PyProof.Rows L2 VL
local macro_rules | `(tactic| walk_at "side") => `(tactic| first | assumption | rfl | omega | decide)
local macro_rules | `(tactic| walk_at "sd") => `(tactic| first | assumption | omega | rotate_left 1)
local macro_rules | `(tactic| walk_at "lv") => `(tactic| first | exact lv_d | exact lv_p rfl | exact dv_d | exact dv_p rfl)
local macro_rules | `(tactic| walk_at "ov") => `(tactic| first
  | ((with_reducible apply VL.gAdd); (first | exact ov_add))
  | ((with_reducible apply VL.gSub); exact ov_sub)
  | ((with_reducible apply VL.gMul); (refine ov_mul ?_); (first | (refine Or.inl ⟨?_, ?_⟩ <;> decide) | (refine Or.inr ⟨?_, ?_⟩ <;> decide) | walk_at "sd"))
  | ((with_reducible apply VL.gDiv); (refine ov_div ?_); (first | (refine ⟨?_, ?_⟩ <;> decide) | walk_at "sd"))
  | ((with_reducible apply VL.gMod); (refine ov_mod ?_); (first | decide | walk_at "sd"))
  | ((with_reducible apply VL.gPow); (refine ov_pow ?_); (first | (refine ⟨?_, ?_, ?_⟩ <;> decide) | walk_at "sd"))
  | ((with_reducible apply VL.gEq); first | exact ov_eq | exact ov_eqO | exact ov_eqOs | exact ov_eqss | exact ov_eqOO)
  | ((with_reducible apply VL.gNe); first | exact ov_ne)
  | ((with_reducible apply VL.gLt); first | exact ov_lt | exact ov_ltO)
  | ((with_reducible apply VL.gLe); first | exact ov_le | exact ov_leO)
  | ((with_reducible apply VL.gGt); first | exact ov_gt | exact ov_gtO)
  | ((with_reducible apply VL.gGe); exact ov_ge)
  | ((with_reducible apply VL.gIs); first | exact ov_isO | exact ov_isU | exact ov_isX)
  | ((with_reducible apply VL.gIsN); first | exact ov_isNO | exact ov_isNU | exact ov_isNX)
  | ((with_reducible apply VL.gIx); first | exact ov_ix20 | exact ov_ix21 | exact ov_ix30 | exact ov_ix31 | exact ov_ix32 | ((refine ov_ixLG (by walk_at "lv") ?_); (walk_at "sd")) | ((refine ov_ixTG ?_); (walk_at "sd"))))
local macro_rules | `(tactic| walk_at "cv") => `(tactic| first
  | ((with_reducible apply VL.gLen); first | exact cv_lenT | exact cv_lenL (by walk_at "lv"))
  | ((with_reducible apply VL.gInt); first | exact cv_int | exact cv_intB)
  | ((with_reducible apply VL.gAbs); exact cv_abs)
  | ((with_reducible apply VL.gMin); exact cv_min2)
  | ((with_reducible apply VL.gMax); exact cv_max2)
  | ((with_reducible apply VL.gList); first | exact cv_listT | exact cv_listL (by walk_at "lv"))
  | ((with_reducible apply VL.gTuple); first | exact cv_tupleT | exact cv_tupleL (by walk_at "lv"))
  | ((with_reducible apply VL.gIsi); first | exact cv_isi rfl | exact cv_isiP rfl rfl))
local macro_rules | `(tactic| walk_at "all") => `(tactic| repeat (first | exact AllD.nil | refine AllD.d ?_))
local macro_rules | `(tactic| walk_at "e") => `(tactic| first
  | ((with_reducible apply VL.gVar); first | exact er_d rfl | exact er_p rfl)
  | ((with_reducible apply VL.gC); first | exact er_int | exact er_bl | exact er_str | exact er_non | exact er_ty | assumption)
  | ((with_reducible apply er_op); (walk_at "e"); (walk_at "e"); (walk_at "ov"))
  | ((with_reducible apply er_cb); (walk_at "e"); (walk_at "cv"))
  | ((with_reducible apply VL.gENil); exact ea_nil)
  | ((with_reducible apply ea_cons); (walk_at "e"); (walk_at "e"))
  | ((with_reducible apply VL.gPop); (refine er_popG rfl rfl ?_); (walk_at "sd"))
  | ((with_reducible apply et_v); (walk_at "e"))
  | ((with_reducible apply er_ix); (walk_at "e"); (walk_at "e"); (walk_at "ov"))
  | ((with_reducible apply er_andV); (walk_at "e"); (intro hb_; (try simp only [decide_eq_true_eq] at hb_); (walk_at "e")))
  | ((with_reducible apply er_orV); (walk_at "e"); (intro hb_; (try simp only [decide_eq_false_iff_not] at hb_); (walk_at "e")))
  | ((with_reducible apply er_notV); (walk_at "e"))
  | ((with_reducible apply et_and); (walk_at "e"); (intro hb_; (try simp only [decide_eq_true_eq] at hb_); (walk_at "e")))
  | ((with_reducible apply et_or); (walk_at "e"); (intro hb_; (try simp only [decide_eq_false_iff_not] at hb_); (walk_at "e")))
  | ((with_reducible apply et_not); (walk_at "e"))
  | ((with_reducible apply VL.gTru); (apply et_truB); (walk_at "e"))
  | ((with_reducible apply er_bits); (walk_at "e"))
  | ((with_reducible apply er_neg); (walk_at "e"))
  | (with_reducible exact er_make0)
  | ((with_reducible apply er_t2); (walk_at "e"); done)
  | ((with_reducible apply er_t3); (walk_at "e"); done)
  | (walk_at "in")
  | (walk_at "call"))
local macro_rules | `(tactic| walk_at "in") => `(tactic| first
  | ((with_reducible apply VL.gIn); first | exact er_inT (by walk_at "e") (by walk_at "e") | exact er_inL (by walk_at "e") (by walk_at "e") (by walk_at "lv"))
  | ((with_reducible apply VL.gNotIn); first | exact er_notinT (by walk_at "e") (by walk_at "e") | exact er_notinL (by walk_at "e") (by walk_at "e") (by walk_at "lv")))
section
variable {P : Program} {K : Fg} {mg : Str → Option Value}
theorem kcls_list : kcls "list" = some "Kind" := by decide +kernel
theorem kcls_bag : kcls "bag" = some "BagKind" := by decide +kernel
theorem kcls_set : kcls "set" = some "SetKind" := by decide +kernel
theorem kcls_first : kcls "first" = some "FirstKind" := by decide +kernel
theorem kcls_last : kcls "last" = some "LastKind" := by decide +kernel
theorem kcls_ends : kcls "ends" = some "EndsKind" := by decide +kernel
theorem kcls_heads : kcls "heads" = some "HeadsKind" := by decide +kernel
theorem kcls_tails : kcls "tails" = some "TailsKind" := by decide +kernel
theorem run_kind_named (T : Txt P K mg) (c : Cx0) (ss : List Slot) (os : List Cont) (Q : VK) (E : XK) (hM : c.M.length = os.length) (h : F_kind_named ss os (Rc K c Q) (Xc K c E)) : Run K c (t_kind_named K E) { nx := fun _ H' => Q .non H', rt := Q } (ss ++ List.replicate (1 - ss.length) .u) os := by
  obtain ⟨n, rfl, rfl, h⟩ := h
  show Run K c _ _ [.d n] []
  unfold t_kind_named
  have fin : ∀ C : Str, kcls n = some C → Run K c (tRet (tMake0 (He.ga K C))) { nx := fun _ H' => Q .non H', rt := Q } [.d n] [] := fun C e => by
    rw [e] at h
    exact s_ret er_make0 (ret_d h OsW.nil (by rw [hM]; exact Nat.le_refl _) rfl rfl)
  apply s_match
  · walk_at "e"
  apply s_case
  · intro e; exact fin _ (e ▸ kcls_list)
  intro e1
  apply s_case
  · intro e; exact fin _ (e ▸ kcls_bag)
  intro e2
  apply s_case
  · intro e; exact fin _ (e ▸ kcls_set)
  intro e3
  apply s_case
  · intro e; exact fin _ (e ▸ kcls_first)
  intro e4
  apply s_case
  · intro e; exact fin _ (e ▸ kcls_last)
  intro e5
  apply s_case
  · intro e; exact fin _ (e ▸ kcls_ends)
  intro e6
  apply s_case
  · intro e; exact fin _ (e ▸ kcls_heads)
  intro e7
  apply s_case
  · intro e; exact fin _ (e ▸ kcls_tails)
  intro e8
  have e : kcls n = none := by
    unfold kcls
    rw [if_neg e1, if_neg e2, if_neg e3, if_neg e4, if_neg e5, if_neg e6, if_neg e7, if_neg e8]
  rw [e] at h
  exact s_raise (by walk_at "e") h OsW.nil (by rw [hM]; exact Nat.le_refl _) rfl
theorem run_check_numbers (T : Txt P K mg) (c : Cx0) (ss : List Slot) (os : List Cont) (Q : VK) (E : XK) (hM : c.M.length = os.length) (h : F_check_numbers ss os (Rc K c Q) (Xc K c E)) : Run K c (t_check_numbers K E) { nx := fun _ H' => Q .non H', rt := Q } (ss ++ List.replicate (2 - ss.length) .u) os := by
  obtain ⟨ns, rfl, rfl, h⟩ := h
  show Run K c _ _ [.d ns, .u] []
  unfold t_check_numbers
  refine s_for (α := Int) (I := fun k (_ : Unit) => ∀ j < k, ∀ y, ns[j]? = some y → ¬ y < 0) (f := fun _ => [.d ns, .u]) (g := fun _ => []) (f' := fun _ y => [.d ns, .d y]) (ei_seqD (by walk_at "e")) () ?_ (SlW.refl _) rfl rfl rfl (fun _ _ _ => trivial) (fun _ y => eg_name (Nat.le_of_ble_eq_true rfl)) ?_ ?_
  · intro j hj; omega
  · intro c' hc hM' k _ y hy hx
    apply s_when
    · walk_at "e"
    · intro e
      have hk : y < 0 := by simpa using e
      have ff : firstBad ns = some y := by
        unfold firstBad
        rw [List.find?_eq_some_iff_getElem]
        obtain ⟨hlt, e2⟩ := List.getElem?_eq_some_iff.mp hy
        refine ⟨by simpa using hk, k, hlt, e2, fun j hj => ?_⟩
        have := hx j hj _ (List.getElem?_eq_getElem (by omega))
        simpa using this
      rw [ff] at h
      refine Run.up hc ?_
      exact s_raise (by walk_at "e") h OsW.nil (by rw [hM]; exact Nat.le_refl _) rfl
    · intro e
      have hk : ¬ y < 0 := by simpa using e
      refine go_at () (fun j hj z hz => ?_) ⟨.inr rfl, .inl rfl, trivial⟩ OsW.nil (Nat.le_of_eq hM') rfl rfl
      by_cases q : j = k
      · subst q
        rw [hy] at hz; cases hz; exact hk
      · exact hx j (by omega) z hz
  · intro _ hx
    have ff : firstBad ns = none := by
      unfold firstBad
      rw [List.find?_eq_none]
      intro y hy
      obtain ⟨j, hj, e⟩ := List.mem_iff_getElem.mp hy
      have := hx j hj y (by rw [List.getElem?_eq_getElem hj, e])
      simpa using this
    rw [ff] at h
    exact s_end (ret_d h OsW.nil (by rw [hM]; exact Nat.le_refl _) rfl rfl)
theorem run_check_sizes (T : Txt P K mg) (c : Cx0) (ss : List Slot) (os : List Cont) (Q : VK) (E : XK) (hM : c.M.length = os.length) (h : F_check_sizes ss os (Rc K c Q) (Xc K c E)) : Run K c (t_check_sizes K E) { nx := fun _ H' => Q .non H', rt := Q } (ss ++ List.replicate (2 - ss.length) .u) os := by
  obtain ⟨kind, width, rfl, rfl, h⟩ := h
  show Run K c _ _ [.d kind, .d width] []
  unfold t_check_sizes
  cases hk : kcls kind with
  | none =>
    rw [hk, if_pos (show (none : Option Str).isNone = true from rfl)] at h
    refine q_dropZ (ez_call (rs := [.d kind]) (fs := [("name", .d kind)]) (by walk_at "e") rfl (fun R X x => ⟨kind, rfl, rfl, by rw [hk]; exact x⟩) h (by simp) rfl OsW.nil (by rw [hM]; exact Nat.le_refl _) rfl)
  | some C =>
    rw [hk, if_neg (by simp)] at h
    refine q_drop (c_kind_named (by walk_at "e") hk) ?_
    apply s_when
    · walk_at "e"
    · intro e
      have hw : width < 1 := by simpa using e
      rw [if_pos hw] at h
      exact s_raise (by walk_at "e") h OsW.nil (by rw [hM]; exact Nat.le_refl _) rfl
    · intro e
      have hw : ¬ width < 1 := by simpa using e
      rw [if_neg hw] at h
      exact s_end (ret_d h OsW.nil (by rw [hM]; exact Nat.le_refl _) rfl rfl)
/-- a kind's constant -/
theorem er_idem (T : Txt P K mg) {c : Cx0} {s s1 : List Slot} {o o1 : List Cont} {te : TE} {n C : Str} (hk : kcls n = some C) (h : ER K c te s o s1 o1 (.d (Ob0.mk C))) : ER K c (tCon K te "IDEMPOTENT") s o s1 o1 (.d (idem n)) := by
  unfold kcls at hk
  split at hk
  · rename_i e; subst e; cases hk; obtain ⟨u, x⟩ := T.i_Kind_IDEMPOTENT; exact er_is (er_con h T.c_Kind x) (by decide +kernel)
  split at hk
  · rename_i e; subst e; cases hk; obtain ⟨u, x⟩ := T.i_BagKind_IDEMPOTENT; exact er_is (er_con h T.c_BagKind x) (by decide +kernel)
  split at hk
  · rename_i e; subst e; cases hk; obtain ⟨u, x⟩ := T.i_SetKind_IDEMPOTENT; exact er_is (er_con h T.c_SetKind x) (by decide +kernel)
  split at hk
  · rename_i e; subst e; cases hk; obtain ⟨u, x⟩ := T.i_FirstKind_IDEMPOTENT; exact er_is (er_con h T.c_FirstKind x) (by decide +kernel)
  split at hk
  · rename_i e; subst e; cases hk; obtain ⟨u, x⟩ := T.i_LastKind_IDEMPOTENT; exact er_is (er_con h T.c_LastKind x) (by decide +kernel)
  split at hk
  · rename_i e; subst e; cases hk; obtain ⟨u, x⟩ := T.i_EndsKind_IDEMPOTENT; exact er_is (er_con h T.c_EndsKind x) (by decide +kernel)
  split at hk
  · rename_i e; subst e; cases hk; obtain ⟨u, x⟩ := T.i_HeadsKind_IDEMPOTENT; exact er_is (er_con h T.c_HeadsKind x) (by decide +kernel)
  split at hk
  · rename_i e; subst e; cases hk; obtain ⟨u, x⟩ := T.i_TailsKind_IDEMPOTENT; exact er_is (er_con h T.c_TailsKind x) (by decide +kernel)
  · cases hk
theorem er_fulls (T : Txt P K mg) {c : Cx0} {s : List Slot} {o : List Cont} : ER K c (tC (.ref (He.ga K "FULL_KINDS"))) s o s o (.d (Tup.mk fulls)) := er_gtup T.tu_FULL_KINDS rfl
theorem run_never_stronger (T : Txt P K mg) (c : Cx0) (ss : List Slot) (os : List Cont) (Q : VK) (E : XK) (hM : c.M.length = os.length) (h : F_never_stronger ss os (Rc K c Q) (Xc K c E)) : Run K c (t_never_stronger K E) { nx := fun _ H' => Q .non H', rt := Q } (ss ++ List.replicate (2 - ss.length) .u) os := by
  obtain ⟨kind, width, rfl, rfl, hk, h⟩ := h
  show Run K c _ _ [.d kind, .d width] []
  unfold t_never_stronger
  obtain ⟨C, hk⟩ := Option.isSome_iff_exists.mp hk
  have fl := er_fulls T (c := c) (s := [.d kind, .d width]) (o := [])
  apply s_ret
  · refine er_andV (by walk_at "e") fun _ => er_andV (er_inT (by walk_at "e") fl) fun _ => er_notV (er_idem T hk (c_kind_named (by walk_at "e") hk))
  · exact ret_d h OsW.nil (by rw [hM]; exact Nat.le_refl _) rfl rfl
end
end Z20

set_option maxHeartbeats 4000000
namespace Z20
open PySem PySem.Spec PyProof.Rows L2 VL
local macro_rules | `(tactic| walk_at "side") => `(tactic| first | assumption | rfl | omega | decide)
local macro_rules | `(tactic| walk_at "sd") => `(tactic| first | assumption | omega | rotate_left 1)
local macro_rules | `(tactic| walk_at "lv") => `(tactic| first | exact lv_d | exact lv_p rfl | exact dv_d | exact dv_p rfl)
local macro_rules | `(tactic| walk_at "ov") => `(tactic| first
  | ((with_reducible apply VL.gAdd); (first | exact ov_add))
  | ((with_reducible apply VL.gSub); exact ov_sub)
  | ((with_reducible apply VL.gMul); (refine ov_mul ?_); (first | (refine Or.inl ⟨?_, ?_⟩ <;> decide) | (refine Or.inr ⟨?_, ?_⟩ <;> decide) | walk_at "sd"))
  | ((with_reducible apply VL.gDiv); (refine ov_div ?_); (first | (refine ⟨?_, ?_⟩ <;> decide) | walk_at "sd"))
  | ((with_reducible apply VL.gMod); (refine ov_mod ?_); (first | decide | walk_at "sd"))
  | ((with_reducible apply VL.gPow); (refine ov_pow ?_); (first | (refine ⟨?_, ?_, ?_⟩ <;> decide) | walk_at "sd"))
  | ((with_reducible apply VL.gEq); first | exact ov_eq | exact ov_eqO | exact ov_eqOs | exact ov_eqss | exact ov_eqOO)
  | ((with_reducible apply VL.gNe); first | exact ov_ne)
  | ((with_reducible apply VL.gLt); first | exact ov_lt | exact ov_ltO)
  | ((with_reducible apply VL.gLe); first | exact ov_le | exact ov_leO)
  | ((with_reducible apply VL.gGt); first | exact ov_gt | exact ov_gtO)
  | ((with_reducible apply VL.gGe); exact ov_ge)
  | ((with_reducible apply VL.gIs); first | exact ov_isO | exact ov_isU | exact ov_isX)
  | ((with_reducible apply VL.gIsN); first | exact ov_isNO | exact ov_isNU | exact ov_isNX)
  | ((with_reducible apply VL.gIx); first | exact ov_ix20 | exact ov_ix21 | exact ov_ix30 | exact ov_ix31 | exact ov_ix32 | ((refine ov_ixLG (by walk_at "lv") ?_); (walk_at "sd")) | ((refine ov_ixTG ?_); (walk_at "sd"))))
local macro_rules | `(tactic| walk_at "cv") => `(tactic| first
  | ((with_reducible apply VL.gLen); first | exact cv_lenT | exact cv_lenL (by walk_at "lv"))
  | ((with_reducible apply VL.gInt); first | exact cv_int | exact cv_intB)
  | ((with_reducible apply VL.gAbs); exact cv_abs)
  | ((with_reducible apply VL.gMin); exact cv_min2)
  | ((with_reducible apply VL.gMax); exact cv_max2)
  | ((with_reducible apply VL.gList); first | exact cv_listT | exact cv_listL (by walk_at "lv"))
  | ((with_reducible apply VL.gTuple); first | exact cv_tupleT | exact cv_tupleL (by walk_at "lv"))
  | ((with_reducible apply VL.gIsi); first | exact cv_isi rfl | exact cv_isiP rfl rfl))
local macro_rules | `(tactic| walk_at "all") => `(tactic| repeat (first | exact AllD.nil | refine AllD.d ?_))
local macro_rules | `(tactic| walk_at "e") => `(tactic| first
  | ((with_reducible apply VL.gVar); first | exact er_d rfl | exact er_p rfl)
  | ((with_reducible apply VL.gC); first | exact er_int | exact er_bl | exact er_str | exact er_non | exact er_ty | assumption)
  | ((with_reducible apply er_op); (walk_at "e"); (walk_at "e"); (walk_at "ov"))
  | ((with_reducible apply er_cb); (walk_at "e"); (walk_at "cv"))
  | ((with_reducible apply VL.gENil); exact ea_nil)
  | ((with_reducible apply ea_cons); (walk_at "e"); (walk_at "e"))
  | ((with_reducible apply VL.gPop); (refine er_popG rfl rfl ?_); (walk_at "sd"))
  | ((with_reducible apply et_v); (walk_at "e"))
  | ((with_reducible apply er_ix); (walk_at "e"); (walk_at "e"); (walk_at "ov"))
  | ((with_reducible apply er_andV); (walk_at "e"); (intro hb_; (try simp only [decide_eq_true_eq] at hb_); (walk_at "e")))
  | ((with_reducible apply er_orV); (walk_at "e"); (intro hb_; (try simp only [decide_eq_false_iff_not] at hb_); (walk_at "e")))
  | ((with_reducible apply er_notV); (walk_at "e"))
  | ((with_reducible apply et_and); (walk_at "e"); (intro hb_; (try simp only [decide_eq_true_eq] at hb_); (walk_at "e")))
  | ((with_reducible apply et_or); (walk_at "e"); (intro hb_; (try simp only [decide_eq_false_iff_not] at hb_); (walk_at "e")))
  | ((with_reducible apply et_not); (walk_at "e"))
  | ((with_reducible apply VL.gTru); (apply et_truB); (walk_at "e"))
  | ((with_reducible apply er_bits); (walk_at "e"))
  | ((with_reducible apply er_neg); (walk_at "e"))
  | (with_reducible exact er_make0)
  | ((with_reducible apply er_t2); (walk_at "e"); done)
  | ((with_reducible apply er_t3); (walk_at "e"); done)
  | (walk_at "in")
  | (walk_at "call"))
local macro_rules | `(tactic| walk_at "in") => `(tactic| first
  | ((with_reducible apply VL.gIn); first | exact er_inT (by walk_at "e") (by walk_at "e") | exact er_inL (by walk_at "e") (by walk_at "e") (by walk_at "lv"))
  | ((with_reducible apply VL.gNotIn); first | exact er_notinT (by walk_at "e") (by walk_at "e") | exact er_notinL (by walk_at "e") (by walk_at "e") (by walk_at "lv")))
section
variable {P : Program} {K : Fg} {mg : Str → Option Value} {c : Cx0} {s s1 : List Slot} {o o1 os : List Cont} {E : XK} {ta : TA}
theorem lg_lt {w : Int} {n : Nat} (h : w.natAbs < 2 ^ n) (h1 : 1 ≤ w) : lg w < n := by
  unfold lg
  have := (Nat.log2_lt (n := w.natAbs) (k := n) (by omega)).mpr h
  exact_mod_cast this
theorem lg_nonneg (w : Int) : 0 ≤ lg w := by unfold lg; exact Int.natCast_nonneg _
theorem c_check_sizes {kind : Str} {w : Int} (h : EA K c ta s o s1 o1 [.d kind, .d w]) (hk : (kcls kind).isSome) (hw : 1 ≤ w) : ER K c (tCall (spOf K F_check_sizes) [] E ta) s o s1 o1 (.d ()) :=
  er_callD h fun R X q => ⟨kind, w, rfl, rfl, by rw [if_neg (by cases e : kcls kind <;> simp_all), if_neg (by omega)]; exact q⟩
theorem z_check_kind {kind : Str} {w : Int} (h : EA K c ta s o s1 o1 [.d kind, .d w]) (hk : kcls kind = none) (hX : Xc K c E "BadKind" [("name", .d kind)] []) (hM : c.M.length = 0) : EZ K c (tCall (spOf K F_check_sizes) [] E ta) s o :=
  ez_call (fs := [("name", .d kind)]) h rfl (fun R X x => ⟨kind, w, rfl, rfl, by rw [hk, if_pos (show (none : Option Str).isNone = true from rfl)]; exact x⟩) hX (by simp) rfl OsW.nil (by rw [hM]; exact Nat.le_refl _) rfl
theorem z_check_width {kind : Str} {w : Int} (h : EA K c ta s o s1 o1 [.d kind, .d w]) (hk : (kcls kind).isSome) (hw : w < 1) (hX : Xc K c E "BadWidth" [("width", .d w)] []) (hM : c.M.length = 0) : EZ K c (tCall (spOf K F_check_sizes) [] E ta) s o :=
  ez_call (fs := [("width", .d w)]) h rfl (fun R X x => ⟨kind, w, rfl, rfl, by rw [if_neg (by cases e : kcls kind <;> simp_all), if_pos hw]; exact x⟩) hX (by simp) rfl OsW.nil (by rw [hM]; exact Nat.le_refl _) rfl
theorem c_check_numbers {ns : List Int} (h : EA K c ta s o s1 o1 [.d ns]) (hk : firstBad ns = none) : ER K c (tCall (spOf K F_check_numbers) [] E ta) s o s1 o1 (.d ()) := er_callD h fun R X q => ⟨ns, rfl, rfl, by rw [hk]; exact q⟩
theorem z_check_numbers {ns : List Int} {n : Int} (h : EA K c ta s o s1 o1 [.d ns]) (hk : firstBad ns = some n) (hX : Xc K c E "BadLosses" [("lacks", .d n)] []) (hM : c.M.length = 0) : EZ K c (tCall (spOf K F_check_numbers) [] E ta) s o :=
  ez_call (fs := [("lacks", .d n)]) h rfl (fun R X x => ⟨ns, rfl, rfl, by rw [hk]; exact x⟩) hX (by simp) rfl OsW.nil (by rw [hM]; exact Nat.le_refl _) rfl
theorem c_price {kind : Str} {w n : Int} (h : EA K c ta s o s1 o1 [.d kind, .d w, .d n]) (hk : (kcls kind).isSome) (hw : 1 ≤ w) (hn : 1 ≤ n) (hz : w.natAbs < 2 ^ 500) : ER K c (tCall (spOf K F_price) [] E ta) s o s1 o1 (.d (priceV kind w n)) :=
  er_callD h fun R X q => ⟨kind, w, n, rfl, rfl, hz, by rw [if_neg (by cases e : kcls kind <;> simp_all), if_neg (by omega), if_neg (by omega)]; exact q⟩
theorem c_most {kind : Str} {w n : Int} (h : EA K c ta s o s1 o1 [.d kind, .d w, .d n]) (hk : (kcls kind).isSome) (hw : 1 ≤ w) (hn : 0 ≤ n) (hz : w.natAbs < 2 ^ 500) : ER K c (tCall (spOf K F_most_strength) [] E ta) s o s1 o1 (.d (mostV kind w n)) :=
  er_callD h fun R X q => ⟨kind, w, n, rfl, rfl, hz, by rw [if_neg (by cases e : kcls kind <;> simp_all), if_neg (by omega), if_neg (by omega)]; exact q⟩
theorem c_errors {kind : Str} {w a b : Int} (h : EA K c ta s o s1 o1 [.d kind, .d w, .d a, .d b]) (hk : (kcls kind).isSome) (hw : 1 ≤ w) (ha : 0 ≤ a) (hb : 0 ≤ b) (hz : w.natAbs < 2 ^ 500) : ER K c (tCall (spOf K F_price_of_errors) [] E ta) s o s1 o1 (.d (priceV kind w (a + 2 * b + 1))) :=
  er_callD h fun R X q => ⟨kind, w, a, b, rfl, rfl, hz, by
    rw [if_neg (by cases e : kcls kind <;> simp_all), if_neg (by omega)]
    have e : firstBad [a, b] = none := by unfold firstBad; rw [List.find?_eq_none]; intro y hy; rcases List.mem_cons.mp hy with rfl | hy <;> simp_all
    rw [e]; exact q⟩
theorem c_part_bound {l m : Int} (h : EA K c ta s o s1 o1 [.d l, .d m]) (hl : 1 ≤ l) : ER K c (tCall (spOf K F_part_bound) [] E ta) s o s1 o1 (.d (lg l + 1 + m - (l - 1))) := er_callD h fun R X q => ⟨l, m, rfl, rfl, hl, q⟩
end
local macro_rules | `(tactic| walk_at "call") => `(tactic| first
  | ((with_reducible apply c_floor_log2); (walk_at "e"); (walk_at "sd"))
  | ((with_reducible apply c_halved); (walk_at "e"); (walk_at "sd"); (walk_at "sd"))
  | ((with_reducible apply c_never_stronger); (walk_at "e"); (walk_at "sd"))
  | ((with_reducible apply c_check_sizes); (walk_at "e"); (walk_at "sd"); (walk_at "sd")))
section
variable {P : Program} {K : Fg} {mg : Str → Option Value}
theorem run_price (T : Txt P K mg) (c : Cx0) (ss : List Slot) (os : List Cont) (Q : VK) (E : XK) (hM : c.M.length = os.length) (h : F_price ss os (Rc K c Q) (Xc K c E)) : Run K c (t_price K E) { nx := fun _ H' => Q .non H', rt := Q } (ss ++ List.replicate (4 - ss.length) .u) os := by
  obtain ⟨kind, width, strength, rfl, rfl, hz, h⟩ := h
  show Run K c _ _ [.d kind, .d width, .d strength, .u] []
  unfold t_price
  cases hk : kcls kind with
  | none =>
    rw [hk, if_pos (show (none : Option Str).isNone = true from rfl)] at h
    exact q_dropZ (z_check_kind (w := width) (by walk_at "e") hk h hM)
  | some C =>
    have hks : (kcls kind).isSome := by rw [hk]; rfl
    rw [hk, if_neg (by simp)] at h
    by_cases hw : width < 1
    · rw [if_pos hw] at h
      exact q_dropZ (z_check_width (kind := kind) (by walk_at "e") hks hw h hM)
    rw [if_neg hw] at h
    refine q_drop (c_check_sizes (kind := kind) (w := width) (by walk_at "e") hks (by omega)) ?_
    apply q_when
    · walk_at "e"
    · intro e
      have hw : strength < 1 := by simpa using e
      rw [if_pos hw] at h
      exact s_raise (by walk_at "e") h OsW.nil (by rw [hM]; exact Nat.le_refl _) rfl
    intro e
    have hs : ¬ strength < 1 := by simpa using e
    rw [if_neg hs] at h
    apply q_when
    · walk_at "e"
    · intro e
      refine s_ret (s1 := [.d kind, .d width, .d strength, .u]) (o1 := []) (er_if (b := decide (strength = 1)) (r := .d (priceV kind width strength)) (by walk_at "e") (fun q => ?_) (fun q => ?_)) (ret_d h OsW.nil (by rw [hM]; exact Nat.le_refl _) rfl rfl)
      · have : priceV kind width strength = some 0 := by unfold priceV; rw [if_pos e, if_pos (by simpa using q)]
        rw [this]; exact er_some er_int
      · have : priceV kind width strength = none := by unfold priceV; rw [if_pos e, if_neg (by simpa using q)]
        rw [this]; exact er_none er_non
    intro e
    apply q_when
    · exact et_v (er_notinT (by walk_at "e") (er_fulls T))
    · intro e2
      have hv : priceV kind width strength = some (strength - 1) := by unfold priceV; rw [if_neg (by rw [e]; simp), if_pos (by simpa using e2)]
      rw [hv] at h
      exact s_ret (er_some (by walk_at "e")) (ret_d h OsW.nil (by rw [hM]; exact Nat.le_refl _) rfl rfl)
    intro e2
    have hlg := lg_lt hz (by omega)
    have hlg0 := lg_nonneg width
    refine q_asg (c_floor_log2 (k := width) (by walk_at "e") (by omega)) (Nat.le_of_ble_eq_true rfl) ?_
    apply q_when
    · walk_at "e"
    · intro e3
      have e3 : strength - 1 ≤ lg width := by simpa using e3
      have hv : priceV kind width strength = some (width - width / 2 ^ (strength - 1).toNat) := by unfold priceV; rw [if_neg (by rw [e]; simp), if_neg (by simpa using e2), if_pos e3]
      rw [hv] at h
      exact s_ret (er_some (er_op (er_d rfl) (c_halved (t := strength - 1) (w := width) (by walk_at "e") (by omega) (by omega)) ov_sub)) (ret_d h OsW.nil (by rw [hM]; exact Nat.le_refl _) rfl rfl)
    · intro e3
      have e3 : ¬ strength - 1 ≤ lg width := by simpa using e3
      have hv : priceV kind width strength = some (width + strength - 2 - lg width) := by unfold priceV; rw [if_neg (by rw [e]; simp), if_neg (by simpa using e2), if_neg e3]
      rw [hv] at h
      exact s_ret (er_some (by walk_at "e")) (ret_d h OsW.nil (by rw [hM]; exact Nat.le_refl _) rfl rfl)
theorem run_most_strength (T : Txt P K mg) (c : Cx0) (ss : List Slot) (os : List Cont) (Q : VK) (E : XK) (hM : c.M.length = os.length) (h : F_most_strength ss os (Rc K c Q) (Xc K c E)) : Run K c (t_most_strength K E) { nx := fun _ H' => Q .non H', rt := Q } (ss ++ List.replicate (3 - ss.length) .u) os := by
  obtain ⟨kind, width, merges, rfl, rfl, hz, h⟩ := h
  show Run K c _ _ [.d kind, .d width, .d merges] []
  unfold t_most_strength
  cases hk : kcls kind with
  | none =>
    rw [hk, if_pos (show (none : Option Str).isNone = true from rfl)] at h
    exact q_dropZ (z_check_kind (w := width) (by walk_at "e") hk h hM)
  | some C =>
    have hks : (kcls kind).isSome := by rw [hk]; rfl
    rw [hk, if_neg (by simp)] at h
    by_cases hw : width < 1
    · rw [if_pos hw] at h
      exact q_dropZ (z_check_width (kind := kind) (by walk_at "e") hks hw h hM)
    rw [if_neg hw] at h
    refine q_drop (c_check_sizes (kind := kind) (w := width) (by walk_at "e") hks (by omega)) ?_
    apply q_when
    · walk_at "e"
    · intro e
      have hw : merges < 0 := by simpa using e
      rw [if_pos hw] at h
      exact s_raise (by walk_at "e") h OsW.nil (by rw [hM]; exact Nat.le_refl _) rfl
    intro e
    have hs : ¬ merges < 0 := by simpa using e
    rw [if_neg hs] at h
    apply q_when
    · walk_at "e"
    · intro e
      have hv : mostV kind width merges = 1 := by unfold mostV; rw [if_pos e]
      rw [hv] at h
      exact s_ret (by walk_at "e") (ret_d h OsW.nil (by rw [hM]; exact Nat.le_refl _) rfl rfl)
    intro e
    apply q_when
    · exact et_v (er_notinT (by walk_at "e") (er_fulls T))
    · intro e2
      have hv : mostV kind width merges = merges + 1 := by unfold mostV; rw [if_neg (by rw [e]; simp), if_pos (by simpa using e2)]
      rw [hv] at h
      exact s_ret (by walk_at "e") (ret_d h OsW.nil (by rw [hM]; exact Nat.le_refl _) rfl rfl)
    intro e2
    have hlg := lg_lt hz (by omega)
    have hlg0 := lg_nonneg width
    apply q_when
    · walk_at "e"
    · intro e3
      have e3 : merges < width - 1 := by simpa using e3
      have hv : mostV kind width merges = lg (width / (width - merges)) + 1 := by unfold mostV; rw [if_neg (by rw [e]; simp), if_neg (by simpa using e2), if_pos e3]
      rw [hv] at h
      have h1 : 1 ≤ width / (width - merges) := by
        rw [Int.le_ediv_iff_mul_le (by omega)]; omega
      have h2 : (width - merges).natAbs.log2 < 9000 := by
        have := (Nat.log2_lt (n := (width - merges).natAbs) (k := 500) (by omega)).mpr (by omega)
        omega
      exact s_ret (er_op (c_floor_log2 (k := width / (width - merges)) (ea_cons (er_op (by walk_at "e") (by walk_at "e") (ov_divW ⟨by omega, h2⟩)) ea_nil) h1) er_int ov_add) (ret_d h OsW.nil (by rw [hM]; exact Nat.le_refl _) rfl rfl)
    · intro e3
      have e3 : ¬ merges < width - 1 := by simpa using e3
      have hv : mostV kind width merges = lg width + 1 + merges - (width - 1) := by unfold mostV; rw [if_neg (by rw [e]; simp), if_neg (by simpa using e2), if_neg e3]
      rw [hv] at h
      have : 1 ≤ width := by omega
      exact s_ret (by walk_at "e") (ret_d h OsW.nil (by rw [hM]; exact Nat.le_refl _) rfl rfl)
theorem run_price_of_errors (T : Txt P K mg) (c : Cx0) (ss : List Slot) (os : List Cont) (Q : VK) (E : XK) (hM : c.M.length = os.length) (h : F_price_of_errors ss os (Rc K c Q) (Xc K c E)) : Run K c (t_price_of_errors K E) { nx := fun _ H' => Q .non H', rt := Q } (ss ++ List.replicate (4 - ss.length) .u) os := by
  obtain ⟨kind, width, lacks, wrong, rfl, rfl, hz, h⟩ := h
  show Run K c _ _ [.d kind, .d width, .d lacks, .d wrong] []
  unfold t_price_of_errors
  cases hk : kcls kind with
  | none =>
    rw [hk, if_pos (show (none : Option Str).isNone = true from rfl)] at h
    exact q_dropZ (z_check_kind (w := width) (by walk_at "e") hk h hM)
  | some C =>
    have hks : (kcls kind).isSome := by rw [hk]; rfl
    rw [hk, if_neg (by simp)] at h
    by_cases hw : width < 1
    · rw [if_pos hw] at h
      exact q_dropZ (z_check_width (kind := kind) (by walk_at "e") hks hw h hM)
    rw [if_neg hw] at h
    refine q_drop (c_check_sizes (kind := kind) (w := width) (by walk_at "e") hks (by omega)) ?_
    have dsp : EA K c (tCons (tLst (tCons (tVar 2) (tCons (tVar 3) tNil))) tNil) [.d kind, .d width, .d lacks, .d wrong] [] [.d kind, .d width, .d lacks, .d wrong] [] [.d [lacks, wrong]] := ea_cons (er_lstAD (xs := [lacks, wrong]) (by walk_at "e") (by walk_at "all") (Nat.le_of_ble_eq_true rfl)) ea_nil
    cases hb : firstBad [lacks, wrong] with
    | some n =>
      rw [hb] at h
      exact q_dropZ (z_check_numbers dsp hb h hM)
    | none =>
      rw [hb] at h
      have hb' := hb
      unfold firstBad at hb'
      rw [List.find?_eq_none] at hb'
      have h1 : ¬ lacks < 0 := by simpa using hb' lacks (by simp)
      have h2 : ¬ wrong < 0 := by simpa using hb' wrong (by simp)
      refine q_drop (c_check_numbers dsp hb) ?_
      exact s_ret (c_price (by walk_at "e") hks (by omega) (by omega) hz) (ret_d h OsW.nil (by rw [hM]; exact Nat.le_refl _) rfl rfl)
end
end Z20

set_option maxHeartbeats 4000000
namespace Z20
open PySem PySem.Spec PyProof.Rows L2 VL
local macro_rules | `(tactic| walk_at "side") => `(tactic| first | assumption | rfl | omega | decide)
local macro_rules | `(tactic| walk_at "sd") => `(tactic| first | assumption | omega | rotate_left 1)
local macro_rules | `(tactic| walk_at "lv") => `(tactic| first | exact lv_d | exact lv_p rfl | exact dv_d | exact dv_p rfl)
local macro_rules | `(tactic| walk_at "ov") => `(tactic| first
  | ((with_reducible apply VL.gAdd); (first | exact ov_add))
  | ((with_reducible apply VL.gSub); exact ov_sub)
  | ((with_reducible apply VL.gMul); (refine ov_mul ?_); (first | (refine Or.inl ⟨?_, ?_⟩ <;> decide) | (refine Or.inr ⟨?_, ?_⟩ <;> decide) | walk_at "sd"))
  | ((with_reducible apply VL.gDiv); (refine ov_div ?_); (first | (refine ⟨?_, ?_⟩ <;> decide) | walk_at "sd"))
  | ((with_reducible apply VL.gMod); (refine ov_mod ?_); (first | decide | walk_at "sd"))
  | ((with_reducible apply VL.gPow); (refine ov_pow ?_); (first | (refine ⟨?_, ?_, ?_⟩ <;> decide) | walk_at "sd"))
  | ((with_reducible apply VL.gEq); first | exact ov_eq | exact ov_eqO | exact ov_eqOs | exact ov_eqss | exact ov_eqOO)
  | ((with_reducible apply VL.gNe); first | exact ov_ne)
  | ((with_reducible apply VL.gLt); first | exact ov_lt | exact ov_ltO)
  | ((with_reducible apply VL.gLe); first | exact ov_le | exact ov_leO)
  | ((with_reducible apply VL.gGt); first | exact ov_gt | exact ov_gtO)
  | ((with_reducible apply VL.gGe); exact ov_ge)
  | ((with_reducible apply VL.gIs); first | exact ov_isO | exact ov_isU | exact ov_isX)
  | ((with_reducible apply VL.gIsN); first | exact ov_isNO | exact ov_isNU | exact ov_isNX)
  | ((with_reducible apply VL.gIx); first | exact ov_ix20 | exact ov_ix21 | exact ov_ix30 | exact ov_ix31 | exact ov_ix32 | ((refine ov_ixLG (by walk_at "lv") ?_); (walk_at "sd")) | ((refine ov_ixTG ?_); (walk_at "sd"))))
local macro_rules | `(tactic| walk_at "cv") => `(tactic| first
  | ((with_reducible apply VL.gLen); first | exact cv_lenT | exact cv_lenL (by walk_at "lv"))
  | ((with_reducible apply VL.gInt); first | exact cv_int | exact cv_intB)
  | ((with_reducible apply VL.gAbs); exact cv_abs)
  | ((with_reducible apply VL.gMin); exact cv_min2)
  | ((with_reducible apply VL.gMax); exact cv_max2)
  | ((with_reducible apply VL.gList); first | exact cv_listT | exact cv_listL (by walk_at "lv"))
  | ((with_reducible apply VL.gTuple); first | exact cv_tupleT | exact cv_tupleL (by walk_at "lv"))
  | ((with_reducible apply VL.gIsi); first | exact cv_isi rfl | exact cv_isiP rfl rfl))
local macro_rules | `(tactic| walk_at "all") => `(tactic| repeat (first | exact AllD.nil | refine AllD.d ?_))
local macro_rules | `(tactic| walk_at "e") => `(tactic| first
  | ((with_reducible apply VL.gVar); first | exact er_d rfl | exact er_p rfl)
  | ((with_reducible apply VL.gC); first | exact er_int | exact er_bl | exact er_str | exact er_non | exact er_ty | assumption)
  | ((with_reducible apply er_op); (walk_at "e"); (walk_at "e"); (walk_at "ov"))
  | ((with_reducible apply er_cb); (walk_at "e"); (walk_at "cv"))
  | ((with_reducible apply VL.gENil); exact ea_nil)
  | ((with_reducible apply ea_cons); (walk_at "e"); (walk_at "e"))
  | ((with_reducible apply VL.gPop); (refine er_popG rfl rfl ?_); (walk_at "sd"))
  | ((with_reducible apply et_v); (walk_at "e"))
  | ((with_reducible apply er_ix); (walk_at "e"); (walk_at "e"); (walk_at "ov"))
  | ((with_reducible apply er_andV); (walk_at "e"); (intro hb_; (try simp only [decide_eq_true_eq] at hb_); (walk_at "e")))
  | ((with_reducible apply er_orV); (walk_at "e"); (intro hb_; (try simp only [decide_eq_false_iff_not] at hb_); (walk_at "e")))
  | ((with_reducible apply er_notV); (walk_at "e"))
  | ((with_reducible apply et_and); (walk_at "e"); (intro hb_; (try simp only [decide_eq_true_eq] at hb_); (walk_at "e")))
  | ((with_reducible apply et_or); (walk_at "e"); (intro hb_; (try simp only [decide_eq_false_iff_not] at hb_); (walk_at "e")))
  | ((with_reducible apply et_not); (walk_at "e"))
  | ((with_reducible apply VL.gTru); (apply et_truB); (walk_at "e"))
  | ((with_reducible apply er_bits); (walk_at "e"))
  | ((with_reducible apply er_neg); (walk_at "e"))
  | (with_reducible exact er_make0)
  | ((with_reducible apply er_t2); (walk_at "e"); done)
  | ((with_reducible apply er_t3); (walk_at "e"); done)
  | (walk_at "in")
  | (walk_at "call"))
local macro_rules | `(tactic| walk_at "in") => `(tactic| first
  | ((with_reducible apply VL.gIn); first | exact er_inT (by walk_at "e") (by walk_at "e") | exact er_inL (by walk_at "e") (by walk_at "e") (by walk_at "lv"))
  | ((with_reducible apply VL.gNotIn); first | exact er_notinT (by walk_at "e") (by walk_at "e") | exact er_notinL (by walk_at "e") (by walk_at "e") (by walk_at "lv")))
section
variable {P : Program} {K : Fg} {mg : Str → Option Value}
theorem atI_nat {α : Type} (xs : List α) (k : Nat) : atI xs (k : Int) = xs[k]? := by
  unfold atI ixN
  by_cases h : k < xs.length
  · rw [if_pos (by omega), if_pos (by omega)]
    simp
  · rw [if_pos (by omega), if_neg (by omega)]
    simp [List.getElem?_eq_none (Nat.le_of_not_lt h)]
theorem q_append {α : Type} [Rp α] {c : Cx0} {s s1 : List Slot} {o o1 : List Cont} {i k : Nat} {te : TE} {D : Ends} {u : TS} {xs : List α} {x : α} (hs : sget s i = .p k) (h : ER K c te s o s1 o1 (.d x)) (hk : cget o1 k = .lst xs) (hk0 : ∃ (β : Type) (j : Rp β) (ys : List β), cget o k = @Cont.lst β j ys) (hz : xs.length < sizeLine) (q : Run K c u D s1 (o1.set k (.lst (xs ++ [x])))) :
    Run K c (tSeq (tDrop (tBM K "list" rAppend (tVar i) (tCons te tNil))) u) D s o := s_append (D := { D with nx := u D }) hs h hk hk0 hz q
theorem drawV_range (xs : List Int) {n : Int} (h : 0 < n) : 0 ≤ drawV xs n ∧ drawV xs n < n := by
  unfold drawV
  split
  · omega
  · exact ⟨Int.emod_nonneg _ (by omega), Int.emod_lt_of_pos _ h⟩
theorem run__law_draw (T : Txt P K mg) (c : Cx0) (ss : List Slot) (os : List Cont) (Q : VK) (E : XK) (hM : c.M.length = os.length) (h : F__law_draw ss os (Rc K c Q) (Xc K c E)) : Run K c (t__law_draw K E) { nx := fun _ H' => Q .non H', rt := Q } (ss ++ List.replicate (2 - ss.length) .u) os := by
  obtain ⟨xs, n, rfl, rfl, hn, h⟩ := h
  show Run K c _ _ [.p 0, .d n] [.lst xs]
  unfold t__law_draw
  apply q_when
  · walk_at "e"
  · intro e
    have hx : xs = [] := by
      cases xs with
      | nil => rfl
      | cons a l => simp at e; omega
    subst hx
    exact s_ret (by walk_at "e") (ret_d h (OsW.refl _) (by rw [hM]; exact Nat.le_refl _) rfl rfl)
  · intro e
    have hx : xs ≠ [] := by rintro rfl; simp at e
    have hv : drawV xs n = xs.getLastD default % n := by
      unfold drawV
      rw [List.getLastD_eq_getLast?]
      cases q : xs.getLast? with
      | none => exact absurd (List.getLast?_eq_none_iff.mp q) hx
      | some x => rfl
    rw [hv] at h
    exact s_ret (o1 := [.lst xs.dropLast]) (by walk_at "e") (ret_d h (OsW.refl _) (by rw [hM]; exact Nat.le_refl _) rfl rfl)
theorem szl : sizeLine = 16777216 := sizeLine_eq
theorem run__law_stream (T : Txt P K mg) (c : Cx0) (ss : List Slot) (os : List Cont) (Q : VK) (E : XK) (hM : c.M.length = os.length) (h : F__law_stream ss os (Rc K c Q) (Xc K c E)) : Run K c (t__law_stream K E) { nx := fun _ H' => Q .non H', rt := Q } (ss ++ List.replicate (7 - ss.length) .u) os := by
  obtain ⟨xs, rfl, rfl, h⟩ := h
  show Run K c _ _ [.d xs, .u, .u, .u, .u, .u, .u] []
  have hM : c.M.length = 0 := hM
  unfold t__law_stream
  refine q_asg (er_lst (xs := ([] : List Int)) ea_nil (Nat.zero_le _)) (Nat.le_of_ble_eq_true rfl) ?_
  refine q_for (α := Int) (I := fun k (w : List Int) => w.length ≤ 60 * k) (f := fun _ => [.d xs, .p 0, .u, .u, .u, .u, .u]) (g := fun w => [.lst w]) (f' := fun _ x => [.d xs, .p 0, .d x, .u, .u, .u, .u]) (ei_rng1 (n := min (xs.length : Int) 63) (by walk_at "e") ⟨by omega, by omega⟩) [] (Nat.zero_le _) (SlW.refl _) rfl rfl rfl (fun _ _ _ => trivial) (fun _ _ => eg_name (Nat.le_of_ble_eq_true rfl)) ?_ ?_
  · intro c' hc hM' k w x hx hw
    obtain ⟨hk, rfl⟩ := rngl_get.mp hx
    have hk1 : k < xs.length := by omega
    have hk2 : k < 63 := by omega
    have hM' : c'.M.length = 1 := hM'
    obtain ⟨cell, hcell⟩ : ∃ cell, xs[k]? = some cell := ⟨_, List.getElem?_eq_getElem hk1⟩
    have hat : atI xs (0 + (k : Int)) = some cell := by rw [Int.zero_add, atI_nat]; exact hcell
    refine q_asg (r := .d cell) (er_cb (ea_cons (er_ix (er_d rfl) (er_d rfl) (ov_ixL lv_d hat)) ea_nil) cv_int) (Nat.le_of_ble_eq_true rfl) ?_
    refine q_asg (by walk_at "e") (Nat.le_of_ble_eq_true rfl) ?_
    apply s_if
    · walk_at "e"
    · intro e
      have e : 0 ≤ cell ∧ cell < 10 ^ 18 := by simpa using e
      refine s_for (α := Int) (I := fun j (w' : List Int) => w'.length ≤ 60 * k + j) (f := fun _ => [.d xs, .p 0, .d ((0 : Int) + (k : Int)), .d cell, .u, .u, .u]) (g := fun w => [.lst w]) (f' := fun _ x => [.d xs, .p 0, .d ((0 : Int) + (k : Int)), .d cell, .u, .d x, .u]) (ei_rng1 (n := 3) (ea_cons er_int ea_nil) ⟨by omega, by omega⟩) w hw ?_ rfl rfl rfl (fun _ _ _ => trivial) (fun _ _ => eg_name (Nat.le_of_ble_eq_true rfl)) ?_ ?_
      · exact ⟨.inr rfl, .inr rfl, .inr rfl, .inr rfl, .inl rfl, .inl rfl, .inl rfl, trivial⟩
      · intro c2 hc2 hM2 j w2 t ht hw2
        obtain ⟨hj, rfl⟩ := rngl_get.mp ht
        have hj : j < 3 := hj
        refine q_asg (er_op (er_cb (ea_cons (er_op (by walk_at "e") (by walk_at "e") (ov_mul (.inl ⟨by omega, by omega⟩))) ea_nil) cv_int) er_int (ov_mod (by decide))) (Nat.le_of_ble_eq_true rfl) ?_
        generalize hm : (cell + 1) * (48271 + 6 * (0 + (k : Int)) + 2 * (0 + (j : Int))) % 2147483629 = mixed
        have m0 : 0 ≤ mixed := by rw [← hm]; exact Int.emod_nonneg _ (by decide)
        have m1 : mixed < 2147483629 := by rw [← hm]; exact Int.emod_lt_of_pos _ (by decide)
        refine s_append (x := mixed * mixed % 1000003) (xs := w2) (k := 0) rfl (er_op (er_cb (ea_cons (er_op (er_d rfl) (er_d rfl) (ov_mul (.inl ⟨by omega, by omega⟩))) ea_nil) cv_int) er_int (ov_mod (by decide))) rfl ⟨_, _, _, rfl⟩ (by rw [szl]; omega) ?_
        exact go_at (w2 ++ [mixed * mixed % 1000003]) (by simp; omega) ⟨.inr rfl, .inr rfl, .inr rfl, .inr rfl, .inl rfl, .inl rfl, .inl rfl, trivial⟩ (OsW.refl _) (Nat.le_of_eq hM2) rfl rfl
      · intro w2 hw2
        have : w2.length ≤ 60 * k + 3 := hw2
        exact go_at w2 (show w2.length ≤ 60 * (k + 1) by omega) ⟨.inr rfl, .inr rfl, .inl rfl, .inl rfl, .inl rfl, .inl rfl, .inl rfl, trivial⟩ (OsW.refl _) (Nat.le_of_eq hM') rfl rfl
    · intro e
      refine s_for (α := Int) (I := fun j (w' : List Int × Int) => w'.1.length ≤ 60 * k + j) (f := fun w => [.d xs, .p 0, .u, .u, .d w.2, .u, .u]) (g := fun w => [.lst w.1]) (f' := fun w x => [.d xs, .p 0, .u, .u, .d w.2, .d x, .u]) (ei_rng1 (n := 60) (ea_cons er_int ea_nil) ⟨by omega, by omega⟩) (w, if cell < 0 then -cell else cell) hw ?_ rfl rfl rfl (fun _ _ _ => trivial) (fun _ _ => eg_name (Nat.le_of_ble_eq_true rfl)) ?_ ?_
      · exact ⟨.inr rfl, .inr rfl, .inl rfl, .inl rfl, .inr rfl, .inl rfl, .inl rfl, trivial⟩
      · intro c2 hc2 hM2 j w2 t ht hw2
        obtain ⟨hj, rfl⟩ := rngl_get.mp ht
        have hj : j < 60 := hj
        obtain ⟨nums, rest⟩ := w2
        have hw2 : nums.length ≤ 60 * k + j := hw2
        apply s_when
        · walk_at "e"
        · intro e2
          refine q_append (x := rest % 1000) (xs := nums) (k := 0) rfl (by walk_at "e") rfl ⟨_, _, _, rfl⟩ (by rw [szl]; omega) ?_
          apply s_asg
          · walk_at "e"
          · exact Nat.le_of_ble_eq_true rfl
          exact go_at (nums ++ [rest % 1000], rest / 1000) (show (nums ++ [rest % 1000]).length ≤ _ by simp; omega) ⟨.inr rfl, .inr rfl, .inr rfl, .inr rfl, .inr rfl, .inl rfl, .inr rfl, trivial⟩ (OsW.refl _) (Nat.le_of_eq hM2) rfl rfl
        · intro e2
          exact go_at (nums, rest) (show nums.length ≤ _ by omega) ⟨.inr rfl, .inr rfl, .inr rfl, .inr rfl, .inr rfl, .inl rfl, .inr rfl, trivial⟩ (OsW.refl _) (Nat.le_of_eq hM2) rfl rfl
      · intro w2 hw2
        have : w2.1.length ≤ 60 * k + 60 := hw2
        exact go_at w2.1 (show w2.1.length ≤ 60 * (k + 1) by omega) ⟨.inr rfl, .inr rfl, .inl rfl, .inl rfl, .inl rfl, .inl rfl, .inl rfl, trivial⟩ (OsW.refl _) (Nat.le_of_eq hM') rfl rfl
  · intro w hw
    apply s_ret
    · exact er_revL (er_p rfl) (lv_p rfl)
    · exact ret_p (os := []) (k := 1) (n := 0) (h w.reverse) rfl OsW.nil (by rw [hM]; exact Nat.le_refl _) rfl (Nat.zero_le _) (Nat.le_of_ble_eq_true rfl) rfl rfl rfl
end
end Z20

set_option maxHeartbeats 4000000
namespace Z20
open PySem PySem.Spec PyProof.Rows L2 VL
local macro_rules | `(tactic| walk_at "side") => `(tactic| first | assumption | rfl | omega | decide)
local macro_rules | `(tactic| walk_at "sd") => `(tactic| first | assumption | omega | rotate_left 1)
local macro_rules | `(tactic| walk_at "lv") => `(tactic| first | exact lv_d | exact lv_p rfl | exact dv_d | exact dv_p rfl)
local macro_rules | `(tactic| walk_at "ov") => `(tactic| first
  | ((with_reducible apply VL.gAdd); (first | exact ov_add))
  | ((with_reducible apply VL.gSub); exact ov_sub)
  | ((with_reducible apply VL.gMul); (refine ov_mul ?_); (first | (refine Or.inl ⟨?_, ?_⟩ <;> decide) | (refine Or.inr ⟨?_, ?_⟩ <;> decide) | walk_at "sd"))
  | ((with_reducible apply VL.gDiv); (refine ov_div ?_); (first | (refine ⟨?_, ?_⟩ <;> decide) | walk_at "sd"))
  | ((with_reducible apply VL.gMod); (refine ov_mod ?_); (first | decide | walk_at "sd"))
  | ((with_reducible apply VL.gPow); (refine ov_pow ?_); (first | (refine ⟨?_, ?_, ?_⟩ <;> decide) | walk_at "sd"))
  | ((with_reducible apply VL.gEq); first | exact ov_eq | exact ov_eqO | exact ov_eqOs | exact ov_eqss | exact ov_eqOO)
  | ((with_reducible apply VL.gNe); first | exact ov_ne)
  | ((with_reducible apply VL.gLt); first | exact ov_lt | exact ov_ltO)
  | ((with_reducible apply VL.gLe); first | exact ov_le | exact ov_leO)
  | ((with_reducible apply VL.gGt); first | exact ov_gt | exact ov_gtO)
  | ((with_reducible apply VL.gGe); exact ov_ge)
  | ((with_reducible apply VL.gIs); first | exact ov_isO | exact ov_isU | exact ov_isX)
  | ((with_reducible apply VL.gIsN); first | exact ov_isNO | exact ov_isNU | exact ov_isNX)
  | ((with_reducible apply VL.gIx); first | exact ov_ix20 | exact ov_ix21 | exact ov_ix30 | exact ov_ix31 | exact ov_ix32 | ((refine ov_ixLG (by walk_at "lv") ?_); (walk_at "sd")) | ((refine ov_ixTG ?_); (walk_at "sd"))))
local macro_rules | `(tactic| walk_at "cv") => `(tactic| first
  | ((with_reducible apply VL.gLen); first | exact cv_lenT | exact cv_lenL (by walk_at "lv"))
  | ((with_reducible apply VL.gInt); first | exact cv_int | exact cv_intB)
  | ((with_reducible apply VL.gAbs); exact cv_abs)
  | ((with_reducible apply VL.gMin); exact cv_min2)
  | ((with_reducible apply VL.gMax); exact cv_max2)
  | ((with_reducible apply VL.gList); first | exact cv_listT | exact cv_listL (by walk_at "lv"))
  | ((with_reducible apply VL.gTuple); first | exact cv_tupleT | exact cv_tupleL (by walk_at "lv"))
  | ((with_reducible apply VL.gIsi); first | exact cv_isi rfl | exact cv_isiP rfl rfl))
local macro_rules | `(tactic| walk_at "all") => `(tactic| repeat (first | exact AllD.nil | refine AllD.d ?_))
local macro_rules | `(tactic| walk_at "e") => `(tactic| first
  | ((with_reducible apply VL.gVar); first | exact er_d rfl | exact er_p rfl)
  | ((with_reducible apply VL.gC); first | exact er_int | exact er_bl | exact er_str | exact er_non | exact er_ty | assumption)
  | ((with_reducible apply er_op); (walk_at "e"); (walk_at "e"); (walk_at "ov"))
  | ((with_reducible apply er_cb); (walk_at "e"); (walk_at "cv"))
  | ((with_reducible apply VL.gENil); exact ea_nil)
  | ((with_reducible apply ea_cons); (walk_at "e"); (walk_at "e"))
  | ((with_reducible apply VL.gPop); (refine er_popG rfl rfl ?_); (walk_at "sd"))
  | ((with_reducible apply et_v); (walk_at "e"))
  | ((with_reducible apply er_ix); (walk_at "e"); (walk_at "e"); (walk_at "ov"))
  | ((with_reducible apply er_andV); (walk_at "e"); (intro hb_; (try simp only [decide_eq_true_eq] at hb_); (walk_at "e")))
  | ((with_reducible apply er_orV); (walk_at "e"); (intro hb_; (try simp only [decide_eq_false_iff_not] at hb_); (walk_at "e")))
  | ((with_reducible apply er_notV); (walk_at "e"))
  | ((with_reducible apply et_and); (walk_at "e"); (intro hb_; (try simp only [decide_eq_true_eq] at hb_); (walk_at "e")))
  | ((with_reducible apply et_or); (walk_at "e"); (intro hb_; (try simp only [decide_eq_false_iff_not] at hb_); (walk_at "e")))
  | ((with_reducible apply et_not); (walk_at "e"))
  | ((with_reducible apply VL.gTru); (apply et_truB); (walk_at "e"))
  | ((with_reducible apply er_bits); (walk_at "e"))
  | ((with_reducible apply er_neg); (walk_at "e"))
  | (with_reducible exact er_make0)
  | ((with_reducible apply er_t2); (walk_at "e"); done)
  | ((with_reducible apply er_t3); (walk_at "e"); done)
  | (walk_at "in")
  | (walk_at "call"))
local macro_rules | `(tactic| walk_at "in") => `(tactic| first
  | ((with_reducible apply VL.gIn); first | exact er_inT (by walk_at "e") (by walk_at "e") | exact er_inL (by walk_at "e") (by walk_at "e") (by walk_at "lv"))
  | ((with_reducible apply VL.gNotIn); first | exact er_notinT (by walk_at "e") (by walk_at "e") | exact er_notinL (by walk_at "e") (by walk_at "e") (by walk_at "lv")))
section
variable {P : Program} {K : Fg} {mg : Str → Option Value} {c : Cx0} {s s1 : List Slot} {o o1 os : List Cont} {E : XK} {ta : TA}
theorem c_draw {xs : List Int} {n : Int} {k : Nat} (h : EA K c ta s o s1 o1 [.p k, .d n]) (hct : cget o1 k = .lst xs) (hk : k < o1.length) (hn : 0 < n) : ER K c (tCall (spOf K F__law_draw) [] E ta) s o s1 (o1.set k (.lst xs.dropLast)) (.d (drawV xs n)) :=
  er_callD1 (rs := [.p 0, .d n]) h (fun R X q => ⟨xs, n, rfl, rfl, hn, q⟩) hk hct rfl rfl rfl rfl
theorem c_log {n : Int} (h : EA K c ta s o s1 o1 [.d n]) (hn : n < 2 ^ 300) : ER K c (tCall (spOf K F__law_log) [] E ta) s o s1 o1 (.d (lgN n)) := er_callD h fun R X q => ⟨n, rfl, rfl, hn, q⟩
theorem er_unsome {α : Type} [Rp α] {x : α} {te : TE} (h : ER K c te s o s1 o1 (.d (some x))) : ER K c te s o s1 o1 (.d x) := h
theorem er_unnone {α : Type} [Rp α] {te : TE} (h : ER K c te s o s1 o1 (.d (none : Option α))) : ER K c te s o s1 o1 (.d ()) := h
end
local macro_rules | `(tactic| walk_at "call") => `(tactic| first
  | ((with_reducible apply c_draw); (walk_at "e"); exact rfl; exact Nat.le_of_ble_eq_true rfl; (first | decide | walk_at "sd"))
  | ((with_reducible apply c_log); (walk_at "e"); (walk_at "sd")))
section
variable {P : Program} {K : Fg} {mg : Str → Option Value}
theorem atI_some {α : Type} (xs : List α) {i : Int} (h0 : 0 ≤ i) (h1 : i < xs.length) : (atI xs i).isSome = true := by
  obtain ⟨k, rfl⟩ : ∃ k : Nat, i = k := ⟨i.toNat, by omega⟩
  rw [atI_nat, List.getElem?_eq_getElem (by omega)]; rfl
theorem run__law_kind (T : Txt P K mg) (c : Cx0) (ss : List Slot) (os : List Cont) (Q : VK) (E : XK) (hM : c.M.length = os.length) (h : F__law_kind ss os (Rc K c Q) (Xc K c E)) : Run K c (t__law_kind K E) { nx := fun _ H' => Q .non H', rt := Q } (ss ++ List.replicate (2 - ss.length) .u) os := by
  obtain ⟨xs, rfl, rfl, h⟩ := h
  show Run K c _ _ [.p 0, .u] [.lst xs]
  unfold t__law_kind
  refine q_asg (er_lstAD (xs := names8) (by walk_at "e") (by walk_at "all") (Nat.le_of_ble_eq_true rfl)) (Nat.le_of_ble_eq_true rfl) ?_
  have r := drawV_range xs (n := 8) (by decide)
  apply s_ret
  · exact er_ix (er_d rfl) (by walk_at "e") (ov_ixLG lv_d (atI_some names8 r.1 r.2))
  · exact ret_d h (OsW.refl _) (by rw [hM]; exact Nat.le_refl _) rfl rfl
theorem lgN_of {n : Int} {k : Nat} (h1 : n / 2 ^ k < 2) (h2 : ∀ j < k, 2 ≤ n / 2 ^ j) : lgN n = k := by
  cases k with
  | zero => unfold lgN; rw [if_pos (by simpa using h1)]; rfl
  | succ k =>
    have a := h2 k (by omega)
    have p : (0 : Int) < 2 ^ k := Int.pow_pos (by decide)
    have b : 2 * 2 ^ k ≤ n := by
      have := (Int.le_ediv_iff_mul_le p).mp a
      exact this
    have e : (2 : Int) ^ (k + 1) = 2 * 2 ^ k := by rw [Int.pow_succ, Int.mul_comm]
    have d : n < 2 * (2 * 2 ^ k) := by
      have := (Int.ediv_lt_iff_lt_mul (by rw [e]; omega)).mp h1
      rw [e] at this; exact this
    have n2 : ¬ n < 2 := by
      have : (1 : Int) ≤ 2 ^ k := p
      omega
    unfold lgN lg
    rw [if_neg n2]
    have e1 : n.natAbs.log2 = k + 1 := by
      rw [Nat.log2_eq_iff (by omega)]
      have c1 : ((2 ^ (k + 1) : Nat) : Int) ≤ n := by push_cast; rw [e]; exact b
      have c2 : n < ((2 ^ (k + 1 + 1) : Nat) : Int) := by push_cast; rw [Int.pow_succ, e]; omega
      omega
    rw [e1]
theorem run__law_log (T : Txt P K mg) (c : Cx0) (ss : List Slot) (os : List Cont) (Q : VK) (E : XK) (hM : c.M.length = os.length) (h : F__law_log ss os (Rc K c Q) (Xc K c E)) : Run K c (t__law_log K E) { nx := fun _ H' => Q .non H', rt := Q } (ss ++ List.replicate (4 - ss.length) .u) os := by
  obtain ⟨n, rfl, rfl, hn, h⟩ := h
  show Run K c _ _ [.d n, .u, .u, .u] []
  have hM : c.M.length = 0 := hM
  unfold t__law_log
  refine q_asg (by walk_at "e") (Nat.le_of_ble_eq_true rfl) ?_
  refine q_asg (by walk_at "e") (Nat.le_of_ble_eq_true rfl) ?_
  refine q_for (α := Int) (I := fun k (w : Int × Int) => w.1 = k ∧ w.2 = n / 2 ^ k ∧ ∀ j < k, 2 ≤ n / 2 ^ j) (f := fun w => [.d n, .d w.1, .d w.2, .u]) (g := fun _ => []) (f' := fun w x => [.d n, .d w.1, .d w.2, .d x]) (ei_rng1 (n := 300) (by walk_at "e") ⟨by omega, by omega⟩) (0, n) ⟨rfl, by simp, fun j hj => by omega⟩ (SlW.refl _) rfl rfl rfl (fun _ _ _ => trivial) (fun _ _ => eg_name (Nat.le_of_ble_eq_true rfl)) ?_ ?_
  · intro c' hc hM' k w x hx hw
    obtain ⟨f, r⟩ := w
    obtain ⟨h1, h2, h3⟩ := hw
    have h1 : f = k := h1
    have h2 : r = n / 2 ^ k := h2
    subst h1 h2
    apply q_when
    · walk_at "e"
    · intro e
      have e : n / 2 ^ k < 2 := by simpa using e
      rw [lgN_of e h3] at h
      refine s_break (Go.up hc ?_)
      have z : Run K c (tRet (tVar 1)) { nx := fun _ H' => Q .non H', rt := Q } [.d n, .d (k : Int), .d (n / 2 ^ k), .d x] [] := s_ret (er_d rfl) (ret_d h OsW.nil (by rw [hM]; exact Nat.le_refl _) rfl rfl)
      exact z
    · intro e
      have e : ¬ n / 2 ^ k < 2 := by simpa using e
      refine q_asg (by walk_at "e") (Nat.le_of_ble_eq_true rfl) ?_
      refine s_asg (by walk_at "e") (Nat.le_of_ble_eq_true rfl) ?_
      refine go_at ((k : Int) + 1, n / 2 ^ k / 2) ⟨by simp, ?_, fun j hj => ?_⟩ ⟨.inr rfl, .inr rfl, .inr rfl, .inl rfl, trivial⟩ OsW.nil (Nat.le_of_eq hM') rfl rfl
      · show n / 2 ^ k / 2 = n / 2 ^ (k + 1)
        rw [Int.ediv_ediv_of_nonneg (Int.le_of_lt (Int.pow_pos (by decide))), Int.pow_succ]
      · by_cases q : j = k
        · subst q; omega
        · exact h3 j (by omega)
  · intro w hw
    obtain ⟨h1, h2, h3⟩ := hw
    rw [rngl_len] at h3
    have := h3 299 (by decide)
    have := (Int.le_ediv_iff_mul_le (by exact Int.pow_pos (by decide))).mp this
    omega
theorem run__law_same (T : Txt P K mg) (c : Cx0) (ss : List Slot) (os : List Cont) (Q : VK) (E : XK) (hM : c.M.length = os.length) (h : F__law_same ss os (Rc K c Q) (Xc K c E)) : Run K c (t__law_same K E) { nx := fun _ H' => Q .non H', rt := Q } (ss ++ List.replicate (2 - ss.length) .u) os := by
  obtain ⟨told, due, rfl, rfl, h⟩ := h
  show Run K c _ _ [.d told, .d due] []
  unfold t__law_same
  apply q_when
  · walk_at "e"
  · intro e
    have e : due = none := by cases due <;> simp_all
    subst e
    have e2 : (!told.isSome) = decide (told = none) := by cases told <;> rfl
    refine s_ret (s1 := [.d told, .d (none : Option Int)]) (o1 := []) (er_is (er_op (er_d rfl) er_non ov_isO) e2) (ret_d h OsW.nil (by rw [hM]; exact Nat.le_refl _) rfl rfl)
  · intro e
    obtain ⟨d, rfl⟩ : ∃ d, due = some d := by cases due <;> simp_all
    cases told with
    | none =>
      have e2 : decide ((none : Option Int) = some d) = false := rfl
      rw [e2] at h
      refine s_ret (s1 := [.d (none : Option Int), .d (some d)]) (o1 := []) (er_andV (b := false) (d := false) (er_cb (ea_cons (er_unnone (er_d rfl)) (ea_cons er_ty ea_nil)) (cv_isi rfl)) (fun z => by cases z)) (ret_d h OsW.nil (by rw [hM]; exact Nat.le_refl _) rfl rfl)
    | some t =>
      have e2 : decide (some t = some d) = (true && ((!false) && decide (t = d))) := by simp
      rw [e2] at h
      refine s_ret (s1 := [.d (some t), .d (some d)]) (o1 := []) (er_andV (er_cb (ea_cons (er_unsome (er_d rfl)) (ea_cons er_ty ea_nil)) (cv_isi rfl)) (fun _ => er_andV (er_notV (er_cb (ea_cons (er_unsome (er_d rfl)) (ea_cons er_ty ea_nil)) (cv_isi rfl))) (fun _ => er_op (er_d rfl) (er_d rfl) ov_eqss))) (ret_d h OsW.nil (by rw [hM]; exact Nat.le_refl _) rfl rfl)
theorem run__law_long (T : Txt P K mg) (c : Cx0) (ss : List Slot) (os : List Cont) (Q : VK) (E : XK) (hM : c.M.length = os.length) (h : F__law_long ss os (Rc K c Q) (Xc K c E)) : Run K c (t__law_long K E) { nx := fun _ H' => Q .non H', rt := Q } (ss ++ List.replicate (4 - ss.length) .u) os := by
  obtain ⟨xs, g, rfl, rfl, h0, h1, h⟩ := h
  show Run K c _ _ [.p 0, .d g, .u, .u] [.lst xs]
  have hM : c.M.length = 1 := hM
  unfold t__law_long
  have r := drawV_range xs (n := g + 1) (by omega)
  unfold longV at h
  generalize hn : drawV xs (g + 1) = n at h r
  refine q_asg (by walk_at "e") (Nat.le_of_ble_eq_true rfl) ?_
  refine q_for (α := Int) (o1 := [.lst xs.dropLast]) (I := fun k (w : List Int × Int) => longGo (n.toNat - k) w.1 w.2 = longGo n.toNat xs.dropLast 0) (f := fun w => [.p 0, .d g, .d w.2, .u]) (g := fun w => [.lst w.1]) (f' := fun w x => [.p 0, .d g, .d w.2, .d x]) (ei_rng1 (n := n) (hn ▸ by walk_at "e") ⟨by omega, by omega⟩) (xs.dropLast, 0) rfl (SlW.refl _) rfl rfl rfl (fun _ _ _ => trivial) (fun _ _ => eg_name (Nat.le_of_ble_eq_true rfl)) ?_ ?_
  · intro c' hc hM' k w x hx hw
    obtain ⟨hk, rfl⟩ := rngl_get.mp hx
    obtain ⟨ys, a⟩ := w
    have hw : longGo (n.toNat - k) ys a = longGo n.toNat xs.dropLast 0 := hw
    refine s_asg (by walk_at "e") (Nat.le_of_ble_eq_true rfl) ?_
    refine go_at (ys.dropLast, a * 1000 + drawV ys 1000) ?_ ⟨.inr rfl, .inr rfl, .inr rfl, .inl rfl, trivial⟩ (OsW.refl _) (Nat.le_of_eq hM') rfl rfl
    rw [← hw]
    have : n.toNat - k = (n.toNat - (k + 1)) + 1 := by omega
    rw [this]; rfl
  · intro w hw
    obtain ⟨ys, a⟩ := w
    rw [rngl_len] at hw
    have hw : longGo (n.toNat - n.toNat) ys a = longGo n.toNat xs.dropLast 0 := hw
    rw [Nat.sub_self] at hw
    rw [← hw] at h
    exact s_ret (er_d rfl) (ret_d h (OsW.refl _) (by rw [hM]; exact Nat.le_refl _) rfl rfl)
end
end Z20

set_option maxHeartbeats 4000000
namespace Z20
open PySem PySem.Spec PyProof.Rows L2 VL
local macro_rules | `(tactic| walk_at "side") => `(tactic| first | assumption | rfl | omega | decide)
local macro_rules | `(tactic| walk_at "sd") => `(tactic| first | assumption | omega | rotate_left 1)
local macro_rules | `(tactic| walk_at "lv") => `(tactic| first | exact lv_d | exact lv_p rfl | exact dv_d | exact dv_p rfl)
local macro_rules | `(tactic| walk_at "ov") => `(tactic| first
  | ((with_reducible apply VL.gAdd); (first | exact ov_add))
  | ((with_reducible apply VL.gSub); exact ov_sub)
  | ((with_reducible apply VL.gMul); (refine ov_mul ?_); (first | (refine Or.inl ⟨?_, ?_⟩ <;> decide) | (refine Or.inr ⟨?_, ?_⟩ <;> decide) | walk_at "sd"))
  | ((with_reducible apply VL.gDiv); (refine ov_div ?_); (first | (refine ⟨?_, ?_⟩ <;> decide) | walk_at "sd"))
  | ((with_reducible apply VL.gMod); (refine ov_mod ?_); (first | decide | walk_at "sd"))
  | ((with_reducible apply VL.gPow); (refine ov_pow ?_); (first | (refine ⟨?_, ?_, ?_⟩ <;> decide) | walk_at "sd"))
  | ((with_reducible apply VL.gEq); first | exact ov_eq | exact ov_eqO | exact ov_eqOs | exact ov_eqss | exact ov_eqOO)
  | ((with_reducible apply VL.gNe); first | exact ov_ne)
  | ((with_reducible apply VL.gLt); first | exact ov_lt | exact ov_ltO)
  | ((with_reducible apply VL.gLe); first | exact ov_le | exact ov_leO)
  | ((with_reducible apply VL.gGt); first | exact ov_gt | exact ov_gtO)
  | ((with_reducible apply VL.gGe); exact ov_ge)
  | ((with_reducible apply VL.gIs); first | exact ov_isO | exact ov_isU | exact ov_isX)
  | ((with_reducible apply VL.gIsN); first | exact ov_isNO | exact ov_isNU | exact ov_isNX)
  | ((with_reducible apply VL.gIx); first | exact ov_ix20 | exact ov_ix21 | exact ov_ix30 | exact ov_ix31 | exact ov_ix32 | ((refine ov_ixLG (by walk_at "lv") ?_); (walk_at "sd")) | ((refine ov_ixTG ?_); (walk_at "sd"))))
local macro_rules | `(tactic| walk_at "cv") => `(tactic| first
  | ((with_reducible apply VL.gLen); first | exact cv_lenT | exact cv_lenL (by walk_at "lv"))
  | ((with_reducible apply VL.gInt); first | exact cv_int | exact cv_intB)
  | ((with_reducible apply VL.gAbs); exact cv_abs)
  | ((with_reducible apply VL.gMin); exact cv_min2)
  | ((with_reducible apply VL.gMax); exact cv_max2)
  | ((with_reducible apply VL.gList); first | exact cv_listT | exact cv_listL (by walk_at "lv"))
  | ((with_reducible apply VL.gTuple); first | exact cv_tupleT | exact cv_tupleL (by walk_at "lv"))
  | ((with_reducible apply VL.gIsi); first | exact cv_isi rfl | exact cv_isiP rfl rfl))
local macro_rules | `(tactic| walk_at "all") => `(tactic| repeat (first | exact AllD.nil | refine AllD.d ?_))
local macro_rules | `(tactic| walk_at "e") => `(tactic| first
  | ((with_reducible apply VL.gVar); first | exact er_d rfl | exact er_p rfl)
  | ((with_reducible apply VL.gC); first | exact er_int | exact er_bl | exact er_str | exact er_non | exact er_ty | assumption)
  | ((with_reducible apply er_op); (walk_at "e"); (walk_at "e"); (walk_at "ov"))
  | ((with_reducible apply er_cb); (walk_at "e"); (walk_at "cv"))
  | ((with_reducible apply VL.gENil); exact ea_nil)
  | ((with_reducible apply ea_cons); (walk_at "e"); (walk_at "e"))
  | ((with_reducible apply VL.gPop); (refine er_popG rfl rfl ?_); (walk_at "sd"))
  | ((with_reducible apply et_v); (walk_at "e"))
  | ((with_reducible apply er_ix); (walk_at "e"); (walk_at "e"); (walk_at "ov"))
  | ((with_reducible apply er_andV); (walk_at "e"); (intro hb_; (try simp only [decide_eq_true_eq] at hb_); (walk_at "e")))
  | ((with_reducible apply er_orV); (walk_at "e"); (intro hb_; (try simp only [decide_eq_false_iff_not] at hb_); (walk_at "e")))
  | ((with_reducible apply er_notV); (walk_at "e"))
  | ((with_reducible apply et_and); (walk_at "e"); (intro hb_; (try simp only [decide_eq_true_eq] at hb_); (walk_at "e")))
  | ((with_reducible apply et_or); (walk_at "e"); (intro hb_; (try simp only [decide_eq_false_iff_not] at hb_); (walk_at "e")))
  | ((with_reducible apply et_not); (walk_at "e"))
  | ((with_reducible apply VL.gTru); (apply et_truB); (walk_at "e"))
  | ((with_reducible apply er_bits); (walk_at "e"))
  | ((with_reducible apply er_neg); (walk_at "e"))
  | (with_reducible exact er_make0)
  | ((with_reducible apply er_t2); (walk_at "e"); done)
  | ((with_reducible apply er_t3); (walk_at "e"); done)
  | (walk_at "in")
  | (walk_at "call"))
local macro_rules | `(tactic| walk_at "in") => `(tactic| first
  | ((with_reducible apply VL.gIn); first | exact er_inT (by walk_at "e") (by walk_at "e") | exact er_inL (by walk_at "e") (by walk_at "e") (by walk_at "lv"))
  | ((with_reducible apply VL.gNotIn); first | exact er_notinT (by walk_at "e") (by walk_at "e") | exact er_notinL (by walk_at "e") (by walk_at "e") (by walk_at "lv")))
section
variable {P : Program} {K : Fg} {mg : Str → Option Value} {c : Cx0} {s s1 : List Slot} {o o1 os : List Cont} {E : XK} {ta : TA}
theorem lgN_eq {n : Int} (h : 1 ≤ n) : lgN n = lg n := by
  unfold lgN
  split
  · have : n = 1 := by omega
    subst this; rfl
  · rfl
theorem ei_rng2n {lo hi : Int} {n : Nat} (h : EA K c ta s o s1 o1 [.d lo, .d hi]) (hn : -(2 ^ 62) ≤ lo ∧ lo < 2 ^ 62 ∧ -(2 ^ 62) ≤ hi ∧ hi < 2 ^ 62) (e : (hi - lo).toNat = n) : EI K c (iRng2 ta) s o s1 o1 (rngl lo n) (fun _ => True) := e ▸ ei_rng2 h hn
theorem ov_ixLO {xs : List (Option Int)} {j : Int} {r : Slot} (L : LView o r xs) (h : (atI xs j).isSome = true) : OV K c (rIx K) s o r (.d j) s o (.d ((atI xs j).getD default)) := ov_ixL L (some_getD h)
end
local macro_rules | `(tactic| walk_at "call") => `(tactic| first
  | ((with_reducible apply c_draw); (walk_at "e"); exact rfl; exact Nat.le_of_ble_eq_true rfl; (first | decide | walk_at "sd"))
  | ((with_reducible apply c_log); (walk_at "e"); (walk_at "sd")))
section
variable {P : Program} {K : Fg} {mg : Str → Option Value}
theorem run__law_due (T : Txt P K mg) (c : Cx0) (ss : List Slot) (os : List Cont) (Q : VK) (E : XK) (hM : c.M.length = os.length) (h : F__law_due ss os (Rc K c Q) (Xc K c E)) : Run K c (t__law_due K E) { nx := fun _ H' => Q .non H', rt := Q } (ss ++ List.replicate (5 - ss.length) .u) os := by
  obtain ⟨kind, many, strength, rfl, rfl, hm1, hm2, hs, h⟩ := h
  show Run K c _ _ [.d kind, .d many, .d strength, .u, .u] []
  have hM : c.M.length = 0 := hM
  unfold t__law_due
  have hl : lgN many = lg many := lgN_eq hm1
  have d3 : EA K c (tCons (tC (.str "first")) (tCons (tC (.str "last")) (tCons (tC (.str "ends")) tNil))) [.d kind, .d many, .d strength, .u, .u] [] [.d kind, .d many, .d strength, .u, .u] [] [.d ("first" : Str), .d ("last" : Str), .d ("ends" : Str)] := by walk_at "e"
  have d2 : EA K c (tCons (tC (.str "list")) (tCons (tC (.str "bag")) tNil)) [.d kind, .d many, .d strength, .u, .u] [] [.d kind, .d many, .d strength, .u, .u] [] [.d ("list" : Str), .d ("bag" : Str)] := by walk_at "e"
  refine q_when (et_v (er_inT (α := Str) (xs := ["first", "last", "ends"]) (er_d rfl) (er_tupA d3 (by walk_at "all") (Nat.le_of_ble_eq_true rfl)))) (fun e => ?_) (fun e => ?_)
  · have hv : dueV kind many strength = some (strength - 1) := by unfold dueV; rw [if_pos (by simpa using e)]
    rw [hv] at h
    exact s_ret (er_some (by walk_at "e")) (ret_d h OsW.nil (by rw [hM]; exact Nat.le_refl _) rfl rfl)
  have n1 : kind ∉ (["first", "last", "ends"] : List Str) := by simpa using e
  refine q_when (et_and (b := decide (many = 1)) (d := decide (kind ∈ (["list", "bag"] : List Str))) (et_v (er_op (er_d rfl) er_int ov_eq)) (fun _ => et_v (er_inT (α := Str) (xs := ["list", "bag"]) (er_d rfl) (er_tupA d2 (by walk_at "all") (Nat.le_of_ble_eq_true rfl))))) (fun e => ?_) (fun e => ?_)
  · have e2 : many = 1 ∧ kind ∈ (["list", "bag"] : List Str) := by simpa using e
    have hv : dueV kind many strength = (if strength = 1 then some 0 else none) := by unfold dueV; rw [if_neg n1, if_pos e2]
    rw [hv] at h
    have dl : ER K c (tLst (tCons (tC .non) (tCons (tC (.int 0)) tNil))) [.d kind, .d many, .d strength, .u, .u] [] [.d kind, .d many, .d strength, .u, .u] [] (.d ([none, some 0] : List (Option Int))) :=
      er_lstAD (rs := [.d (), .d (0 : Int)]) (ea_cons er_non (ea_cons er_int ea_nil)) (.cons (fun _ _ _ _ h => h) (.cons (fun _ _ _ _ h => h) .nil)) (Nat.le_of_ble_eq_true rfl)
    by_cases q : strength = 1
    · rw [if_pos q] at h
      have ix : ER K c (tCB uInt (tCons (tOp (uEq K) (tVar 2) (tC (.int 1))) tNil)) [.d kind, .d many, .d strength, .u, .u] [] [.d kind, .d many, .d strength, .u, .u] [] (.d (1 : Int)) := er_is (er_cb (ea_cons (er_op (er_d rfl) er_int ov_eq) ea_nil) cv_intB) (by rw [decide_eq_true q]; rfl)
      exact s_ret (er_ix dl ix (ov_ixL lv_d (x := some 0) rfl)) (ret_d h OsW.nil (by rw [hM]; exact Nat.le_refl _) rfl rfl)
    · rw [if_neg q] at h
      have ix : ER K c (tCB uInt (tCons (tOp (uEq K) (tVar 2) (tC (.int 1))) tNil)) [.d kind, .d many, .d strength, .u, .u] [] [.d kind, .d many, .d strength, .u, .u] [] (.d (0 : Int)) := er_is (er_cb (ea_cons (er_op (er_d rfl) er_int ov_eq) ea_nil) cv_intB) (by rw [decide_eq_false q]; rfl)
      exact s_ret (er_ix dl ix (ov_ixL lv_d (x := none) rfl)) (ret_d h OsW.nil (by rw [hM]; exact Nat.le_refl _) rfl rfl)
  have n2 : ¬ (many = 1 ∧ kind ∈ (["list", "bag"] : List Str)) := by simpa using e
  apply q_when
  · walk_at "e"
  · intro e
    have e : strength - 1 > lg many := by rw [← hl]; simpa using e
    have hv : dueV kind many strength = some (many + strength - 2 - lgN many) := by unfold dueV; rw [if_neg n1, if_neg n2, if_pos e, hl]
    rw [hv] at h
    exact s_ret (er_some (by walk_at "e")) (ret_d h OsW.nil (by rw [hM]; exact Nat.le_refl _) rfl rfl)
  intro e
  have e : ¬ strength - 1 > lg many := by rw [← hl]; simpa using e
  have hv : dueV kind many strength = some (many - many / 2 ^ (strength - 1).toNat) := by unfold dueV; rw [if_neg n1, if_neg n2, if_neg e]
  rw [hv] at h
  have hlg : lg many < 300 := lg_lt (n := 300) (by omega) hm1
  refine q_asg (by walk_at "e") (Nat.le_of_ble_eq_true rfl) ?_
  refine q_for (α := Int) (I := fun k (x : Int) => x = many / 2 ^ k) (f := fun x => [.d kind, .d many, .d strength, .d x, .u]) (g := fun _ => []) (f' := fun x y => [.d kind, .d many, .d strength, .d x, .d y]) (ei_rng1 (n := strength - 1) (by walk_at "e") ⟨by omega, by omega⟩) many (by simp) (SlW.refl _) rfl rfl rfl (fun _ _ _ => trivial) (fun _ _ => eg_name (Nat.le_of_ble_eq_true rfl)) ?_ ?_
  · intro c' hc hM' k x y hy hx
    refine s_asg (by walk_at "e") (Nat.le_of_ble_eq_true rfl) ?_
    refine go_at (x / 2) ?_ ⟨.inr rfl, .inr rfl, .inr rfl, .inr rfl, .inl rfl, trivial⟩ OsW.nil (Nat.le_of_eq hM') rfl rfl
    rw [hx, Int.ediv_ediv_of_nonneg (Int.le_of_lt (Int.pow_pos (by decide))), Int.pow_succ]
  · intro x hx
    rw [rngl_len] at hx
    rw [← hx] at h
    exact s_ret (er_some (by walk_at "e")) (ret_d h OsW.nil (by rw [hM]; exact Nat.le_refl _) rfl rfl)
theorem drop_get {α : Type} {xs : List α} {k : Nat} {x : α} (h : xs[k]? = some x) : xs.drop k = x :: xs.drop (k + 1) := by
  obtain ⟨hk, e⟩ := List.getElem?_eq_some_iff.mp h
  rw [List.drop_eq_getElem_cons hk, e]
theorem bestGo_n {costs ps : List Int} {size strength p : Int} : bestGo costs size strength (p :: ps) none = bestGo costs size strength ps (some ((atI costs (size - p)).getD default + p - 1 + max 0 (strength - 1 - lgN p))) := rfl
theorem bestGo_s {costs ps : List Int} {size strength p b : Int} : bestGo costs size strength (p :: ps) (some b) = bestGo costs size strength ps (if (atI costs (size - p)).getD default + p - 1 + max 0 (strength - 1 - lgN p) < b then some ((atI costs (size - p)).getD default + p - 1 + max 0 (strength - 1 - lgN p)) else some b) := rfl
theorem costsGo_c {strength size : Int} {r cs : List Int} : costsGo strength (size :: r) cs = costsGo strength r (cs ++ [(bestGo cs size strength (rngl 1 size.toNat) none).getD 0]) := rfl
theorem bestGo_some (costs : List Int) (size strength : Int) : ∀ (ps : List Int) (b : Option Int), (b.isSome ∨ ps ≠ []) → (bestGo costs size strength ps b).isSome := by
  intro ps
  induction ps with
  | nil => intro b h; rcases h with h | h; exact h; exact absurd rfl h
  | cons p ps ih =>
    intro b _
    unfold bestGo
    refine ih _ (.inl ?_)
    cases b with
    | none => rfl
    | some x => dsimp only; split <;> rfl
theorem run__law_least (T : Txt P K mg) (c : Cx0) (ss : List Slot) (os : List Cont) (Q : VK) (E : XK) (hM : c.M.length = os.length) (h : F__law_least ss os (Rc K c Q) (Xc K c E)) : Run K c (t__law_least K E) { nx := fun _ H' => Q .non H', rt := Q } (ss ++ List.replicate (7 - ss.length) .u) os := by
  obtain ⟨many, strength, rfl, rfl, h0, h1, h⟩ := h
  show Run K c _ _ [.d many, .d strength, .u, .u, .u, .u, .u] []
  have hM : c.M.length = 0 := hM
  unfold t__law_least
  refine q_asg (er_lst (xs := [(0 : Int)]) (ea_cons er_int ea_nil) (Nat.le_of_ble_eq_true rfl)) (Nat.le_of_ble_eq_true rfl) ?_
  refine q_for (α := Int) (I := fun k (w : List Int) => costsGo strength ((rngl 1 many.toNat).drop k) w = costsGo strength (rngl 1 many.toNat) [0] ∧ w.length = k + 1) (f := fun _ => [.d many, .d strength, .p 0, .u, .u, .u, .u]) (g := fun w => [.lst w]) (f' := fun _ x => [.d many, .d strength, .p 0, .d x, .u, .u, .u])
    (ei_rng2n (lo := 1) (hi := many + 1) (n := many.toNat) (by walk_at "e") ⟨by omega, by omega, by omega, by omega⟩ (by omega)) [0] ⟨rfl, rfl⟩ (SlW.refl _) rfl rfl rfl (fun _ _ _ => trivial) (fun _ _ => eg_name (Nat.le_of_ble_eq_true rfl)) ?_ ?_
  · intro c' hc hM' k w x hx hw
    obtain ⟨hw1, hw2⟩ := hw
    rw [drop_get hx] at hw1
    obtain ⟨hk, hx⟩ := rngl_get.mp hx
    have hk : k < 100 := by omega
    have hM' : c'.M.length = 1 := hM'
    refine q_asg (er_none (α := Int) er_non) (Nat.le_of_ble_eq_true rfl) ?_
    have hxn : x.toNat = k + 1 := by omega
    refine q_for (α := Int) (I := fun j (b : Option Int) => bestGo w x strength ((rngl 1 x.toNat).drop j) b = bestGo w x strength (rngl 1 x.toNat) none) (f := fun b => [.d many, .d strength, .p 0, .d x, .d b, .u, .u]) (g := fun _ => [.lst w]) (f' := fun b y => [.d many, .d strength, .p 0, .d x, .d b, .d y, .u])
      (ei_rng2n (lo := 1) (hi := x + 1) (n := x.toNat) (by walk_at "e") ⟨by omega, by omega, by omega, by omega⟩ (by omega)) none rfl (SlW.refl _) rfl rfl rfl (fun _ _ _ => trivial) (fun _ _ => eg_name (Nat.le_of_ble_eq_true rfl)) ?_ ?_
    · intro c2 hc2 hM2 j b y hy hb
      rw [drop_get hy] at hb
      obtain ⟨hj, hy⟩ := rngl_get.mp hy
      have sm : (atI w (x - y)).isSome = true := atI_some w (by omega) (by omega)
      refine q_asg (er_op (er_op (er_op (er_ix (er_p rfl) (er_op (er_d rfl) (er_d rfl) ov_sub) (ov_ixLG (lv_p rfl) sm)) (er_d rfl) ov_add) er_int ov_sub) (er_cb (ea_cons er_int (ea_cons (er_op (er_op (er_d rfl) er_int ov_sub) (c_log (n := y) (ea_cons (er_d rfl) ea_nil) (by omega)) ov_sub) ea_nil)) cv_max2) ov_add) (Nat.le_of_ble_eq_true rfl) ?_
      cases b with
      | none =>
        rw [bestGo_n] at hb
        generalize (atI w (x - y)).getD default + y - 1 + max 0 (strength - 1 - lgN y) = cost at hb ⊢
        refine s_when (b := true) (et_is (et_or (b := true) (d := false) (et_v (er_op (er_d rfl) er_non ov_isO)) (fun z => by cases z)) rfl) (fun _ => ?_) (fun z => by cases z)
        refine s_asg (er_some (er_d rfl)) (Nat.le_of_ble_eq_true rfl) ?_
        exact go_at (some cost) hb ⟨.inr rfl, .inr rfl, .inr rfl, .inr rfl, .inr rfl, .inl rfl, .inl rfl, trivial⟩ (OsW.refl _) (Nat.le_of_eq hM2) rfl rfl
      | some best =>
        rw [bestGo_s] at hb
        generalize (atI w (x - y)).getD default + y - 1 + max 0 (strength - 1 - lgN y) = cost at hb ⊢
        refine s_when (et_or (b := false) (d := decide (cost < best)) (et_v (er_op (er_d rfl) er_non ov_isO)) (fun _ => et_v (er_op (er_d rfl) (er_d rfl) ov_ltO))) (fun e => ?_) (fun e => ?_)
        · have e : cost < best := by simpa using e
          rw [if_pos e] at hb
          refine s_asg (er_some (er_d rfl)) (Nat.le_of_ble_eq_true rfl) ?_
          exact go_at (some cost) hb ⟨.inr rfl, .inr rfl, .inr rfl, .inr rfl, .inr rfl, .inl rfl, .inl rfl, trivial⟩ (OsW.refl _) (Nat.le_of_eq hM2) rfl rfl
        · have e : ¬ cost < best := by simpa using e
          rw [if_neg e] at hb
          exact go_at (some best) hb ⟨.inr rfl, .inr rfl, .inr rfl, .inr rfl, .inr rfl, .inl rfl, .inl rfl, trivial⟩ (OsW.refl _) (Nat.le_of_eq hM2) rfl rfl
    · intro b hb
      rw [List.drop_of_length_le (by rw [rngl_len]; exact Nat.le_refl _)] at hb
      have hb : b = bestGo w x strength (rngl 1 x.toNat) none := hb
      have sm := bestGo_some w x strength (rngl 1 x.toNat) none (.inr (by intro z; have := congrArg List.length z; rw [rngl_len, hxn] at this; simp at this))
      rw [← hb] at sm
      obtain ⟨best, rfl⟩ := Option.isSome_iff_exists.mp sm
      refine s_append (x := best) (xs := w) (k := 0) rfl (er_unsome (er_d rfl)) rfl ⟨_, _, _, rfl⟩ (by rw [szl]; omega) ?_
      refine go_at (w ++ [best]) ⟨?_, by simp [hw2]⟩ ⟨.inr rfl, .inr rfl, .inr rfl, .inl rfl, .inl rfl, .inl rfl, .inl rfl, trivial⟩ (OsW.refl _) (Nat.le_of_eq hM') rfl rfl
      rw [← hw1]
      rw [costsGo_c, ← hb]; rfl
  · intro w hw
    obtain ⟨hw1, hw2⟩ := hw
    rw [rngl_len] at hw1 hw2
    rw [List.drop_of_length_le (by rw [rngl_len]; exact Nat.le_refl _)] at hw1
    have hw1 : w = costsGo strength (rngl 1 many.toNat) [0] := hw1
    unfold leastV at h
    rw [← hw1] at h
    exact s_ret (er_ix (er_p rfl) (er_d rfl) (ov_ixLG (lv_p rfl) (atI_some w (by omega) (by omega)))) (ret_d h OsW.nil (by rw [hM]; exact Nat.le_refl _) rfl rfl)
end
end Z20

set_option maxHeartbeats 4000000
namespace Z20
open PySem PySem.Spec PyProof.Rows L2 VL
/-! ### plain laws -/
abbrev outer3 : List Str := ["first", "last", "ends"]
abbrev lb : List Str := ["list", "bag"]
theorem kinds_all : ∀ k ∈ names8, (kcls k).isSome = true ∧ (decide (k ∈ fulls) = !decide (k ∈ outer3)) ∧ (idem k = !decide (k ∈ lb)) ∧ (decide (k ∈ lb) = true → decide (k ∈ fulls) = true) := by decide +kernel
theorem k_some {k : Str} (h : k ∈ names8) : (kcls k).isSome = true := (kinds_all k h).1
theorem k_full {k : Str} (h : k ∈ names8) : k ∈ fulls ↔ k ∉ outer3 := by
  have z := (kinds_all k h).2.1
  by_cases a : k ∈ fulls <;> by_cases b : k ∈ outer3 <;> simp [a, b] at z ⊢
theorem k_ns {k : Str} (h : k ∈ names8) (w : Int) : nsV k w = true ↔ (w = 1 ∧ k ∈ lb) := by
  obtain ⟨_, _, h3, h4⟩ := kinds_all k h
  unfold nsV
  rw [h3]
  by_cases a : k ∈ lb
  · have b := h4 (by simpa using a)
    simp only [b, a]; simp
  · simp only [a]; simp
theorem lg_spec {w : Int} (h : 1 ≤ w) : ∃ m : Nat, lg w = m ∧ (2 : Int) ^ m ≤ w ∧ w < 2 ^ (m + 1) := by
  refine ⟨w.natAbs.log2, rfl, ?_, ?_⟩
  · have := Nat.log2_self_le (n := w.natAbs) (by omega)
    have c : ((2 ^ w.natAbs.log2 : Nat) : Int) ≤ w := by omega
    push_cast at c; exact c
  · have := Nat.lt_log2_self (n := w.natAbs)
    have c : w < ((2 ^ (w.natAbs.log2 + 1) : Nat) : Int) := by omega
    push_cast at c; exact c
theorem pw (m : Nat) : (0 : Int) < 2 ^ m := Int.pow_pos (by decide)
theorem pow_mono {m n : Nat} (h : m ≤ n) : (2 : Int) ^ m ≤ 2 ^ n := by
  have : 2 ^ m ≤ 2 ^ n := Nat.pow_le_pow_right (by decide) h
  exact_mod_cast this
theorem pow_lt' {m n : Nat} (h : (2 : Int) ^ m < 2 ^ n) : m < n := by
  by_cases q : m < n
  · exact q
  · have := pow_mono (show n ≤ m by omega); omega
theorem price_due {k : Str} (h : k ∈ names8) {w n : Int} : priceV k w n = dueV k w n := by
  unfold priceV dueV
  by_cases a : k ∈ outer3
  · have b : k ∉ fulls := fun z => (k_full h).mp z a
    have c : ¬ nsV k w = true := fun z => by
      have := (k_ns h w).mp z
      have h4 := (kinds_all k h).2.2.2 (by simpa using this.2)
      exact b (by simpa using h4)
    rw [if_neg c, if_pos b, if_pos a]
  · have b : k ∈ fulls := (k_full h).mpr a
    rw [if_neg a]
    by_cases c : w = 1 ∧ k ∈ lb
    · rw [if_pos ((k_ns h w).mpr c), if_pos c]
    · rw [if_neg (fun z => c ((k_ns h w).mp z)), if_neg c, if_neg (fun z => z b)]
      by_cases d : n - 1 ≤ lg w
      · rw [if_pos d, if_neg (by omega)]
      · rw [if_neg d, if_pos (by omega)]
theorem lg_nonneg' (w : Int) : 0 ≤ lg w := by unfold lg; exact Int.natCast_nonneg _
theorem most_pos {k : Str} {w m : Int} (hw : 1 ≤ w) (hm : 0 ≤ m) : 1 ≤ mostV k w m := by
  unfold mostV
  split
  · omega
  split
  · omega
  have := lg_nonneg' w
  split
  · have := lg_nonneg' (w / (w - m)); omega
  · omega
theorem most_ok {k : Str} (h : k ∈ names8) {w m : Int} (hw : 1 ≤ w) (hm : 0 ≤ m) :
    ∃ l, dueV k w (mostV k w m) = some l ∧ l ≤ m ∧ ∀ x, dueV k w (mostV k w m + 1) = some x → m < x := by
  by_cases a : k ∈ outer3
  · have b : k ∉ fulls := fun z => (k_full h).mp z a
    have c : ¬ nsV k w = true := fun z => by
      have := (k_ns h w).mp z
      have h4 := (kinds_all k h).2.2.2 (by simpa using this.2)
      exact b (by simpa using h4)
    have e : mostV k w m = m + 1 := by unfold mostV; rw [if_neg c, if_pos b]
    rw [e]
    unfold dueV
    rw [if_pos a, if_pos a]
    exact ⟨_, rfl, by omega, fun x hx => by have := Option.some.inj hx; omega⟩
  have b : k ∈ fulls := (k_full h).mpr a
  by_cases c : w = 1 ∧ k ∈ lb
  · have e : mostV k w m = 1 := by unfold mostV; rw [if_pos ((k_ns h w).mpr c)]
    rw [e]
    unfold dueV
    rw [if_neg a, if_neg a, if_pos c, if_pos c, if_pos rfl, if_neg (by decide)]
    exact ⟨0, rfl, hm, fun x hx => by cases hx⟩
  have c' : ¬ nsV k w = true := fun z => c ((k_ns h w).mp z)
  have due : ∀ n : Int, dueV k w n = if n - 1 > lg w then some (w + n - 2 - lg w) else some (w - w / 2 ^ (n - 1).toNat) := fun n => by unfold dueV; rw [if_neg a, if_neg c]
  obtain ⟨L, eL, l1, l2⟩ := lg_spec hw
  by_cases d : m < w - 1
  · have e : mostV k w m = lg (w / (w - m)) + 1 := by unfold mostV; rw [if_neg c', if_neg (fun z => z b), if_pos d]
    have r2 : 2 ≤ w - m := by omega
    generalize hr : w - m = r at e r2
    have q1 : 1 ≤ w / r := by rw [Int.le_ediv_iff_mul_le (by omega)]; omega
    obtain ⟨M, eM, m1, m2⟩ := lg_spec q1
    rw [e, eM]
    have k1 : (2 : Int) ^ M * r ≤ w := (Int.le_ediv_iff_mul_le (by omega)).mp m1
    have k2 : w < 2 ^ (M + 1) * r := (Int.ediv_lt_iff_lt_mul (by omega)).mp m2
    have ML : M ≤ L := by
      have : (2 : Int) ^ M < 2 ^ (L + 1) := by
        have : (2 : Int) ^ M * 1 ≤ 2 ^ M * r := Int.mul_le_mul_of_nonneg_left (by omega) (Int.le_of_lt (pw M))
        omega
      have := pow_lt' this; omega
    rw [due, due, eL]
    rw [if_neg (by omega)]
    refine ⟨_, rfl, ?_, fun x hx => ?_⟩
    · have t : ((M : Int) + 1 - 1).toNat = M := by omega
      rw [t]
      have : r ≤ w / 2 ^ M := by rw [Int.le_ediv_iff_mul_le (pw M)]; rw [Int.mul_comm]; exact k1
      omega
    · by_cases f : (M : Int) + 1 + 1 - 1 > L
      · rw [if_pos f] at hx
        have := Option.some.inj hx
        have : M = L := by omega
        omega
      · rw [if_neg f] at hx
        have t : ((M : Int) + 1 + 1 - 1).toNat = M + 1 := by omega
        rw [t] at hx
        have hx := Option.some.inj hx
        have : w / 2 ^ (M + 1) < r := by rw [Int.ediv_lt_iff_lt_mul (pw _)]; rw [Int.mul_comm]; exact k2
        omega
  · have e : mostV k w m = lg w + 1 + m - (w - 1) := by unfold mostV; rw [if_neg c', if_neg (fun z => z b), if_neg d]
    rw [e, due, due, eL]
    by_cases f : (L : Int) + 1 + m - (w - 1) - 1 > L
    · rw [if_pos f, if_pos (by omega)]
      exact ⟨_, rfl, by omega, fun x hx => by have := Option.some.inj hx; omega⟩
    · rw [if_neg f, if_pos (by omega)]
      refine ⟨_, rfl, ?_, fun x hx => by have := Option.some.inj hx; omega⟩
      have t : ((L : Int) + 1 + m - (w - 1) - 1).toNat = L := by omega
      rw [t]
      have : 1 ≤ w / 2 ^ L := by rw [Int.le_ediv_iff_mul_le (pw L)]; omega
      omega
def pf (w n : Int) : Int := if n - 1 ≤ lg w then w - w / 2 ^ (n - 1).toNat else w + n - 2 - lg w
theorem least_tab : ∀ s < 12, ∀ w < 39, leastV ((w : Nat) + 2 : Int) ((s : Nat) + 1 : Int) = pf (w + 2) (s + 1) := by decide +kernel
theorem least_ok {k : Str} (h : k ∈ fulls) {w n : Int} (h1 : 1 < w) (h2 : w ≤ 40) (h3 : 1 ≤ n) (h4 : n ≤ 12) : priceV k w n = some (leastV w n) := by
  have e := least_tab (n.toNat - 1) (by omega) (w.toNat - 2) (by omega)
  rw [show (((w.toNat - 2 : Nat) : Int) + 2) = w by omega, show (((n.toNat - 1 : Nat) : Int) + 1) = n by omega] at e
  rw [e]
  have c : ¬ nsV k w = true := fun z => by
    unfold nsV at z
    rw [Bool.and_eq_true] at z
    have := of_decide_eq_true z.1; omega
  unfold priceV pf
  rw [if_neg c, if_neg (fun z => z h)]
  split <;> rfl
end Z20

set_option maxHeartbeats 4000000
namespace Z20
open PySem PySem.Spec PyProof.Rows L2 VL
local macro_rules | `(tactic| walk_at "side") => `(tactic| first | assumption | rfl | omega | decide)
local macro_rules | `(tactic| walk_at "sd") => `(tactic| first | assumption | omega | rotate_left 1)
local macro_rules | `(tactic| walk_at "lv") => `(tactic| first | exact lv_d | exact lv_p rfl | exact dv_d | exact dv_p rfl)
local macro_rules | `(tactic| walk_at "ov") => `(tactic| first
  | ((with_reducible apply VL.gAdd); (first | exact ov_add))
  | ((with_reducible apply VL.gSub); exact ov_sub)
  | ((with_reducible apply VL.gMul); (refine ov_mul ?_); (first | (refine Or.inl ⟨?_, ?_⟩ <;> decide) | (refine Or.inr ⟨?_, ?_⟩ <;> decide) | walk_at "sd"))
  | ((with_reducible apply VL.gDiv); (refine ov_div ?_); (first | (refine ⟨?_, ?_⟩ <;> decide) | walk_at "sd"))
  | ((with_reducible apply VL.gMod); (refine ov_mod ?_); (first | decide | walk_at "sd"))
  | ((with_reducible apply VL.gPow); (refine ov_pow ?_); (first | (refine ⟨?_, ?_, ?_⟩ <;> decide) | walk_at "sd"))
  | ((with_reducible apply VL.gEq); first | exact ov_eq | exact ov_eqO | exact ov_eqOs | exact ov_eqss | exact ov_eqOO)
  | ((with_reducible apply VL.gNe); first | exact ov_ne)
  | ((with_reducible apply VL.gLt); first | exact ov_lt | exact ov_ltO)
  | ((with_reducible apply VL.gLe); first | exact ov_le | exact ov_leO)
  | ((with_reducible apply VL.gGt); first | exact ov_gt | exact ov_gtO)
  | ((with_reducible apply VL.gGe); exact ov_ge)
  | ((with_reducible apply VL.gIs); first | exact ov_isO | exact ov_isU | exact ov_isX)
  | ((with_reducible apply VL.gIsN); first | exact ov_isNO | exact ov_isNU | exact ov_isNX)
  | ((with_reducible apply VL.gIx); first | exact ov_ix20 | exact ov_ix21 | exact ov_ix30 | exact ov_ix31 | exact ov_ix32 | ((refine ov_ixLG (by walk_at "lv") ?_); (walk_at "sd")) | ((refine ov_ixTG ?_); (walk_at "sd"))))
local macro_rules | `(tactic| walk_at "cv") => `(tactic| first
  | ((with_reducible apply VL.gLen); first | exact cv_lenT | exact cv_lenL (by walk_at "lv"))
  | ((with_reducible apply VL.gInt); first | exact cv_int | exact cv_intB)
  | ((with_reducible apply VL.gAbs); exact cv_abs)
  | ((with_reducible apply VL.gMin); exact cv_min2)
  | ((with_reducible apply VL.gMax); exact cv_max2)
  | ((with_reducible apply VL.gList); first | exact cv_listT | exact cv_listL (by walk_at "lv"))
  | ((with_reducible apply VL.gTuple); first | exact cv_tupleT | exact cv_tupleL (by walk_at "lv"))
  | ((with_reducible apply VL.gIsi); first | exact cv_isi rfl | exact cv_isiP rfl rfl))
local macro_rules | `(tactic| walk_at "all") => `(tactic| repeat (first | exact AllD.nil | refine AllD.d ?_))
local macro_rules | `(tactic| walk_at "e") => `(tactic| first
  | ((with_reducible apply VL.gVar); first | exact er_d rfl | exact er_p rfl)
  | ((with_reducible apply VL.gC); first | exact er_int | exact er_bl | exact er_str | exact er_non | exact er_ty | assumption)
  | ((with_reducible apply er_op); (walk_at "e"); (walk_at "e"); (walk_at "ov"))
  | ((with_reducible apply er_cb); (walk_at "e"); (walk_at "cv"))
  | ((with_reducible apply VL.gENil); exact ea_nil)
  | ((with_reducible apply ea_cons); (walk_at "e"); (walk_at "e"))
  | ((with_reducible apply VL.gPop); (refine er_popG rfl rfl ?_); (walk_at "sd"))
  | ((with_reducible apply et_v); (walk_at "e"))
  | ((with_reducible apply er_ix); (walk_at "e"); (walk_at "e"); (walk_at "ov"))
  | ((with_reducible apply er_andV); (walk_at "e"); (intro hb_; (try simp only [decide_eq_true_eq] at hb_); (walk_at "e")))
  | ((with_reducible apply er_orV); (walk_at "e"); (intro hb_; (try simp only [decide_eq_false_iff_not] at hb_); (walk_at "e")))
  | ((with_reducible apply er_notV); (walk_at "e"))
  | ((with_reducible apply et_and); (walk_at "e"); (intro hb_; (try simp only [decide_eq_true_eq] at hb_); (walk_at "e")))
  | ((with_reducible apply et_or); (walk_at "e"); (intro hb_; (try simp only [decide_eq_false_iff_not] at hb_); (walk_at "e")))
  | ((with_reducible apply et_not); (walk_at "e"))
  | ((with_reducible apply VL.gTru); (apply et_truB); (walk_at "e"))
  | ((with_reducible apply er_bits); (walk_at "e"))
  | ((with_reducible apply er_neg); (walk_at "e"))
  | (with_reducible exact er_make0)
  | ((with_reducible apply er_t2); (walk_at "e"); done)
  | ((with_reducible apply er_t3); (walk_at "e"); done)
  | (walk_at "in")
  | (walk_at "call"))
local macro_rules | `(tactic| walk_at "in") => `(tactic| first
  | ((with_reducible apply VL.gIn); first | exact er_inT (by walk_at "e") (by walk_at "e") | exact er_inL (by walk_at "e") (by walk_at "e") (by walk_at "lv"))
  | ((with_reducible apply VL.gNotIn); first | exact er_notinT (by walk_at "e") (by walk_at "e") | exact er_notinL (by walk_at "e") (by walk_at "e") (by walk_at "lv")))
section
variable {P : Program} {K : Fg} {mg : Str → Option Value} {c : Cx0} {s s1 : List Slot} {o o1 os : List Cont} {E : XK} {ta : TA}
theorem ea_conv {rs rs' : List Slot} (h : EA K c ta s o s1 o1 rs) (k : ∀ as G vs, VsOk K as G vs rs → VsOk K as G vs rs') : EA K c ta s o s1 o1 rs' := fun as G σ H A Q q => h as G σ H A _ fun vs as1 G1 H1 p l A1 h1 => q vs as1 G1 H1 p l A1 (k _ _ _ h1)
theorem c_same {a b : Option Int} (h : EA K c ta s o s1 o1 [.d a, .d b]) : ER K c (tCall (spOf K F__law_same) [] E ta) s o s1 o1 (.d (decide (a = b))) := er_callD h fun R X q => ⟨a, b, rfl, rfl, q⟩
theorem c_sameI {a : Option Int} {b : Int} (h : EA K c ta s o s1 o1 [.d a, .d b]) : ER K c (tCall (spOf K F__law_same) [] E ta) s o s1 o1 (.d (decide (a = some b))) :=
  c_same (ea_conv h fun as G vs hv => by cases hv with | cons x t => cases t with | cons y t => exact .cons x (.cons y t))
theorem c_sameII {a b : Int} (h : EA K c ta s o s1 o1 [.d a, .d b]) : ER K c (tCall (spOf K F__law_same) [] E ta) s o s1 o1 (.d (decide (some a = some b))) :=
  c_same (ea_conv h fun as G vs hv => by cases hv with | cons x t => cases t with | cons y t => exact .cons x (.cons y t))
theorem c_due {kind : Str} {w n : Int} (h : EA K c ta s o s1 o1 [.d kind, .d w, .d n]) (hw : 1 ≤ w) (hz : w < 2 ^ 300) (hn : 1 ≤ n) : ER K c (tCall (spOf K F__law_due) [] E ta) s o s1 o1 (.d (dueV kind w n)) := er_callD h fun R X q => ⟨kind, w, n, rfl, rfl, hw, hz, hn, q⟩
theorem c_least {w n : Int} (h : EA K c ta s o s1 o1 [.d w, .d n]) (h0 : 0 ≤ w) (h1 : w ≤ 100) : ER K c (tCall (spOf K F__law_least) [] E ta) s o s1 o1 (.d (leastV w n)) := er_callD h fun R X q => ⟨w, n, rfl, rfl, h0, h1, q⟩
theorem c_lawmost {kind : Str} {w n : Int} (h : EA K c ta s o s1 o1 [.d kind, .d w, .d n]) (hk : kind ∈ names8) (hw : 1 ≤ w) (hz : w < 2 ^ 299) (hn : 0 ≤ n) : ER K c (tCall (spOf K F__law_most) [] E ta) s o s1 o1 (.d true) := er_callD h fun R X q => ⟨kind, w, n, rfl, rfl, hk, hw, hz, hn, q⟩
theorem c_refused {kind : Str} {a w n b : Int} (h : EA K c ta s o s1 o1 [.d a, .d kind, .d w, .d n, .d b]) (hz : w.natAbs < 2 ^ 500) : ER K c (tCall (spOf K F__law_refused) [] E ta) s o s1 o1 (.d (refusedV a kind w n b)) := er_callD h fun R X q => ⟨a, kind, w, n, b, rfl, rfl, hz, q⟩
theorem c_lawkind {xs : List Int} {k : Nat} (h : EA K c ta s o s1 o1 [.p k]) (hct : cget o1 k = .lst xs) (hk : k < o1.length) : ER K c (tCall (spOf K F__law_kind) [] E ta) s o s1 (o1.set k (.lst xs.dropLast)) (.d ((atI names8 (drawV xs 8)).getD default)) :=
  er_callD1 (rs := [.p 0]) h (fun R X q => ⟨xs, rfl, rfl, q⟩) hk hct rfl rfl rfl rfl
theorem c_long {xs : List Int} {g : Int} {k : Nat} (h : EA K c ta s o s1 o1 [.p k, .d g]) (hct : cget o1 k = .lst xs) (hk : k < o1.length) (h0 : 0 ≤ g) (h1 : g < 1000) : ER K c (tCall (spOf K F__law_long) [] E ta) s o s1 (o1.set k (.lst (longV xs g).2)) (.d (longV xs g).1) :=
  er_callD1 (rs := [.p 0, .d g]) h (fun R X q => ⟨xs, g, rfl, rfl, h0, h1, q⟩) hk hct rfl rfl rfl rfl
theorem c_faults {xs : List Int} {kind : Str} {k : Nat} (h : EA K c ta s o s1 o1 [.p k, .d kind]) (hct : cget o1 k = .lst xs) (hk : k < o1.length) (hn : kind ∈ names8) : ER K c (tCall (spOf K F__law_faults) [] E ta) s o s1 (o1.set k (.lst xs.dropLast.dropLast.dropLast)) (.d true) :=
  er_callD1 (rs := [.p 0, .d kind]) h (fun R X q => ⟨xs, kind, rfl, rfl, hn, q⟩) hk hct rfl rfl rfl rfl
end
local macro_rules | `(tactic| walk_at "call") => `(tactic| first
  | ((with_reducible apply c_draw); (walk_at "e"); exact rfl; exact Nat.le_of_ble_eq_true rfl; (first | decide | walk_at "sd"))
  | ((with_reducible apply c_log); (walk_at "e"); (walk_at "sd"))
  | ((with_reducible apply c_due); (walk_at "e"); (walk_at "sd"); (walk_at "sd"); (walk_at "sd")))
section
variable {P : Program} {K : Fg} {mg : Str → Option Value}
theorem big_of {w : Int} (h1 : 1 ≤ w) (h2 : w < 2 ^ 300) : w.natAbs < 2 ^ 500 := by omega
theorem run__law_most (T : Txt P K mg) (c : Cx0) (ss : List Slot) (os : List Cont) (Q : VK) (E : XK) (hM : c.M.length = os.length) (h : F__law_most ss os (Rc K c Q) (Xc K c E)) : Run K c (t__law_most K E) { nx := fun _ H' => Q .non H', rt := Q } (ss ++ List.replicate (6 - ss.length) .u) os := by
  obtain ⟨kind, many, merges, rfl, rfl, hk, hw, hz, hm, h⟩ := h
  show Run K c _ _ [.d kind, .d many, .d merges, .u, .u, .u] []
  have hM : c.M.length = 0 := hM
  unfold t__law_most
  have hz2 : many < 2 ^ 300 := by omega
  have tp := most_pos (k := kind) hw hm
  obtain ⟨l, e1, e2, e3⟩ := most_ok hk hw hm
  refine q_asg (c_most (kind := kind) (w := many) (n := merges) (by walk_at "e") (k_some hk) hw hm (big_of hw hz2)) (Nat.le_of_ble_eq_true rfl) ?_
  generalize mostV kind many merges = told at e1 e2 e3 tp ⊢
  have tst : ET K c (tOr (tNot (uTru K (tCB (rIsi K) (tCons (tVar 3) (tCons (tC (.ty "int")) tNil))))) (tOr (uTru K (tCB (rIsi K) (tCons (tVar 3) (tCons (tC (.ty "bool")) tNil)))) (tB (tOp uLt (tVar 3) (tC (.int 1)))))) [.d kind, .d many, .d merges, .d told, .u, .u] [] [.d kind, .d many, .d merges, .d told, .u, .u] [] false := by
    have t1 : decide (told < 1) = false := decide_eq_false (by omega)
    exact et_or (b := false) (d := false) (et_not (b := true) (et_truB (er_cb (ea_cons (er_d rfl) (ea_cons er_ty ea_nil)) (cv_isi rfl)))) (fun _ => et_or (b := false) (d := false) (et_truB (er_cb (ea_cons (er_d rfl) (ea_cons er_ty ea_nil)) (cv_isi rfl))) (fun _ => et_is (et_v (er_op (er_d rfl) er_int ov_lt)) t1))
  refine q_when tst (fun z => by cases z) (fun _ => ?_)
  refine q_asg (by walk_at "e") (Nat.le_of_ble_eq_true rfl) ?_
  refine q_asg (by walk_at "e") (Nat.le_of_ble_eq_true rfl) ?_
  rw [e1]
  cases e4 : dueV kind many (told + 1) with
  | none => exact s_ret (er_is (er_andV (er_op (er_d rfl) er_non ov_isNO) (fun _ => er_andV (er_op (er_d rfl) (er_d rfl) ov_leO) (fun _ => er_orV (d := false) (er_op (er_d rfl) er_non ov_isO) (fun z => by cases z)))) (by simp [e2])) (ret_d h OsW.nil (by rw [hM]; exact Nat.le_refl _) rfl rfl)
  | some x => exact s_ret (er_is (er_andV (er_op (er_d rfl) er_non ov_isNO) (fun _ => er_andV (er_op (er_d rfl) (er_d rfl) ov_leO) (fun _ => er_orV (er_op (er_d rfl) er_non ov_isO) (fun _ => er_op (er_d rfl) (er_d rfl) ov_gtO)))) (by simp [e2, e3 x e4])) (ret_d h OsW.nil (by rw [hM]; exact Nat.le_refl _) rfl rfl)
theorem run__law_refused (T : Txt P K mg) (c : Cx0) (ss : List Slot) (os : List Cont) (Q : VK) (E : XK) (hM : c.M.length = os.length) (h : F__law_refused ss os (Rc K c Q) (Xc K c E)) : Run K c (t__law_refused K E) { nx := fun _ H' => Q .non H', rt := Q } (ss ++ List.replicate (7 - ss.length) .u) os := by
  obtain ⟨which, kind, many, number, other, rfl, rfl, hz, h⟩ := h
  show Run K c _ _ [.d which, .d kind, .d many, .d number, .d other, .u, .u] []
  have hM : c.M.length = 0 := hM
  unfold t__law_refused
  refine q_asg (r := .d (⟨"fine", .inl 0⟩ : Wd)) (er_t2 (ea_cons er_str (ea_cons (er_inl er_int) ea_nil))) (Nat.le_of_ble_eq_true rfl) ?_
  have fin : ∀ w : Wd, Rc K c Q (.d w) [] → Run K c (tRet (tVar 5)) { nx := fun _ H' => Q .non H', rt := Q } [.d which, .d kind, .d many, .d number, .d other, .d w, .u] [] := fun w hw =>
    s_ret (er_d rfl) (ret_d hw OsW.nil (by rw [hM]; exact Nat.le_refl _) rfl rfl)
  refine run_seq (s_try ?_)
  generalize hD : ({ nx := tRet (tVar 5) { nx := fun _ H' => Q .non H', rt := Q }, rt := ({ nx := fun _ H' => Q .non H', rt := Q } : Ends).rt, bk := ({ nx := fun _ H' => Q .non H', rt := Q } : Ends).bk, ct := ({ nx := fun _ H' => Q .non H', rt := Q } : Ends).ct } : Ends) = D
  have finD : ∀ w : Wd, Rc K c Q (.d w) [] → Go K c D.nx [.d which, .d kind, .d many, .d number, .d other, .d w, .u] [] := fun w hw => by rw [← hD]; exact fin w hw
  have su : ∀ (cls f tag : Str) {α : Type} [Rp α] (x : α) (y : Sum Int Str), (∀ K as G v, VOk K as G v (.d x) → VOk K as G v (.d y)) → Rc K c Q (.d (⟨tag, y⟩ : Wd)) [] → ∀ a dd : Addr,
      Run K c (tAsg (tTup (tCons (tC (.str tag)) (tCons (tByX (He.ga K cls) f a (.ref (He.ga K cls)) (some dd) (tVar 6)) tNil))) (gName 5))
        { nx := fun σ' H' => D.nx (σ'.set 6 none) H', rt := D.rt, bk := fun σ' H' => D.bk (σ'.set 6 none) H', ct := fun σ' H' => D.ct (σ'.set 6 none) H' }
        (([.d which, .d kind, .d many, .d number, .d other, .d (⟨"fine", .inl 0⟩ : Wd), .u] : List Slot).set 6 (.d (Exv.mk (f := f) a dd x))) [] := fun cls f tag α _ x y conv hw a dd => by
    have ev : ER K c (tByX (He.ga K cls) f a (.ref (He.ga K cls)) (some dd) (tVar 6)) (([.d which, .d kind, .d many, .d number, .d other, .d (⟨"fine", .inl 0⟩ : Wd), .u] : List Slot).set 6 (.d (Exv.mk (f := f) a dd x))) [] (([.d which, .d kind, .d many, .d number, .d other, .d (⟨"fine", .inl 0⟩ : Wd), .u] : List Slot).set 6 (.d (Exv.mk (f := f) a dd x))) [] (.d x) := er_byX (er_d rfl)
    have ev2 : ER K c (tByX (He.ga K cls) f a (.ref (He.ga K cls)) (some dd) (tVar 6)) (([.d which, .d kind, .d many, .d number, .d other, .d (⟨"fine", .inl 0⟩ : Wd), .u] : List Slot).set 6 (.d (Exv.mk (f := f) a dd x))) [] (([.d which, .d kind, .d many, .d number, .d other, .d (⟨"fine", .inl 0⟩ : Wd), .u] : List Slot).set 6 (.d (Exv.mk (f := f) a dd x))) [] (.d y) := fun as G σ H A Q q => ev as G σ H A Q fun v as1 G1 H1 p l A1 hv => q v as1 G1 H1 p l A1 (conv _ _ _ _ hv)
    exact s_asg (er_t2 (x := tag) (y := y) (ea_cons er_str (ea_cons ev2 ea_nil))) (Nat.le_of_ble_eq_true rfl) (go_unset (finD _ hw))
  have ci : ∀ (x : Int) (K : Fg) as G v, VOk K as G v (.d x) → VOk K as G v (.d (Sum.inl x : Sum Int Str)) := fun x K as G v h => h
  have cs : ∀ (x : Str) (K : Fg) as G v, VOk K as G v (.d x) → VOk K as G v (.d (Sum.inr x : Sum Int Str)) := fun x K as G v h => h
  have a3 : EA K c (tCons (tVar 1) (tCons (tVar 2) (tCons (tVar 3) tNil))) [.d which, .d kind, .d many, .d number, .d other, .d (⟨"fine", .inl 0⟩ : Wd), .u] [] [.d which, .d kind, .d many, .d number, .d other, .d (⟨"fine", .inl 0⟩ : Wd), .u] [] [.d kind, .d many, .d number] := by walk_at "e"
  have a4 : EA K c (tCons (tVar 1) (tCons (tVar 2) (tCons (tVar 3) (tCons (tVar 4) tNil)))) [.d which, .d kind, .d many, .d number, .d other, .d (⟨"fine", .inl 0⟩ : Wd), .u] [] [.d which, .d kind, .d many, .d number, .d other, .d (⟨"fine", .inl 0⟩ : Wd), .u] [] [.d kind, .d many, .d number, .d other] := by walk_at "e"
  unfold refusedV at h
  have w0 : ET K c (tB (tOp (uEq K) (tVar 0) (tC (.int 0)))) [.d which, .d kind, .d many, .d number, .d other, .d (⟨"fine", .inl 0⟩ : Wd), .u] [] [.d which, .d kind, .d many, .d number, .d other, .d (⟨"fine", .inl 0⟩ : Wd), .u] [] (decide (which = 0)) := by walk_at "e"
  have w1 : ET K c (tB (tOp (uEq K) (tVar 0) (tC (.int 1)))) [.d which, .d kind, .d many, .d number, .d other, .d (⟨"fine", .inl 0⟩ : Wd), .u] [] [.d which, .d kind, .d many, .d number, .d other, .d (⟨"fine", .inl 0⟩ : Wd), .u] [] (decide (which = 1)) := by walk_at "e"
  by_cases hk : (kcls kind).isNone
  · rw [if_pos hk] at h
    refine s_if w0 (fun _ => ?_) (fun _ => s_if w1 (fun _ => ?_) (fun _ => ?_))
    · exact s_dropZ (ez_callS (cls := "BadKind") (fs := [("name", .d kind)]) a3 rfl (fun R X x => ⟨kind, many, number, rfl, rfl, hz, by rw [if_pos hk]; exact x⟩) (xm_yes T.x_BadKind_BadKind (Nat.le_of_ble_eq_true rfl) (su _ _ _ kind _ (cs kind) h)) (by simp) rfl)
    · exact s_dropZ (ez_callS (cls := "BadKind") (fs := [("name", .d kind)]) a3 rfl (fun R X x => ⟨kind, many, number, rfl, rfl, hz, by rw [if_pos hk]; exact x⟩) (xm_yes T.x_BadKind_BadKind (Nat.le_of_ble_eq_true rfl) (su _ _ _ kind _ (cs kind) h)) (by simp) rfl)
    · exact s_dropZ (ez_callS (cls := "BadKind") (fs := [("name", .d kind)]) a4 rfl (fun R X x => ⟨kind, many, number, other, rfl, rfl, hz, by rw [if_pos hk]; exact x⟩) (xm_yes T.x_BadKind_BadKind (Nat.le_of_ble_eq_true rfl) (su _ _ _ kind _ (cs kind) h)) (by simp) rfl)
  rw [if_neg hk] at h
  by_cases hw : many < 1
  · rw [if_pos hw] at h
    refine s_if w0 (fun _ => ?_) (fun _ => s_if w1 (fun _ => ?_) (fun _ => ?_))
    · exact s_dropZ (ez_callS (cls := "BadWidth") (fs := [("width", .d many)]) a3 rfl (fun R X x => ⟨kind, many, number, rfl, rfl, hz, by rw [if_neg hk, if_pos hw]; exact x⟩) (xm_no T.x_BadWidth_BadKind (xm_yes T.x_BadWidth_BadWidth (Nat.le_of_ble_eq_true rfl) (su _ _ _ many _ (ci many) h))) (by simp) rfl)
    · exact s_dropZ (ez_callS (cls := "BadWidth") (fs := [("width", .d many)]) a3 rfl (fun R X x => ⟨kind, many, number, rfl, rfl, hz, by rw [if_neg hk, if_pos hw]; exact x⟩) (xm_no T.x_BadWidth_BadKind (xm_yes T.x_BadWidth_BadWidth (Nat.le_of_ble_eq_true rfl) (su _ _ _ many _ (ci many) h))) (by simp) rfl)
    · exact s_dropZ (ez_callS (cls := "BadWidth") (fs := [("width", .d many)]) a4 rfl (fun R X x => ⟨kind, many, number, other, rfl, rfl, hz, by rw [if_neg hk, if_pos hw]; exact x⟩) (xm_no T.x_BadWidth_BadKind (xm_yes T.x_BadWidth_BadWidth (Nat.le_of_ble_eq_true rfl) (su _ _ _ many _ (ci many) h))) (by simp) rfl)
  rw [if_neg hw] at h
  refine s_if w0 (fun e => ?_) (fun e => s_if w1 (fun e2 => ?_) (fun e2 => ?_))
  · have e : which = 0 := by simpa using e
    rw [if_pos e] at h
    by_cases hn : number < 1
    · rw [if_pos hn] at h
      exact s_dropZ (ez_callS (cls := "BadCount") (fs := [("number", .d number)]) a3 rfl (fun R X x => ⟨kind, many, number, rfl, rfl, hz, by rw [if_neg hk, if_neg hw, if_pos hn]; exact x⟩) (xm_no T.x_BadCount_BadKind (xm_no T.x_BadCount_BadWidth (xm_yes T.x_BadCount_BadCount (Nat.le_of_ble_eq_true rfl) (su _ _ _ number _ (ci number) h)))) (by simp) rfl)
    · rw [if_neg hn] at h
      exact s_drop (er_callSD (x := priceV kind many number) a3 (fun R X x => ⟨kind, many, number, rfl, rfl, hz, by rw [if_neg hk, if_neg hw, if_neg hn]; exact x⟩)) (finD _ h)
  · have e : ¬ which = 0 := by simpa using e
    have e2 : which = 1 := by simpa using e2
    rw [if_neg e, if_pos e2] at h
    by_cases hn : number < 0
    · rw [if_pos hn] at h
      exact s_dropZ (ez_callS (cls := "BadLength") (fs := [("length", .d number)]) a3 rfl (fun R X x => ⟨kind, many, number, rfl, rfl, hz, by rw [if_neg hk, if_neg hw, if_pos hn]; exact x⟩) (xm_no T.x_BadLength_BadKind (xm_no T.x_BadLength_BadWidth (xm_no T.x_BadLength_BadCount (xm_yes T.x_BadLength_BadLength (Nat.le_of_ble_eq_true rfl) (su _ _ _ number _ (ci number) h))))) (by simp) rfl)
    · rw [if_neg hn] at h
      exact s_drop (er_callSD (x := mostV kind many number) a3 (fun R X x => ⟨kind, many, number, rfl, rfl, hz, by rw [if_neg hk, if_neg hw, if_neg hn]; exact x⟩)) (finD _ h)
  · have e : ¬ which = 0 := by simpa using e
    have e2 : ¬ which = 1 := by simpa using e2
    rw [if_neg e, if_neg e2] at h
    cases hn : firstBad [number, other] with
    | some n =>
      rw [hn] at h
      exact s_dropZ (ez_callS (cls := "BadLosses") (fs := [("lacks", .d n)]) a4 rfl (fun R X x => ⟨kind, many, number, other, rfl, rfl, hz, by rw [if_neg hk, if_neg hw, hn]; exact x⟩) (xm_no T.x_BadLosses_BadKind (xm_no T.x_BadLosses_BadWidth (xm_no T.x_BadLosses_BadCount (xm_no T.x_BadLosses_BadLength (xm_yes T.x_BadLosses_BadLosses (Nat.le_of_ble_eq_true rfl) (su _ _ _ n _ (ci n) h)))))) (by simp) rfl)
    | none =>
      rw [hn] at h
      exact s_drop (er_callSD (x := priceV kind many (number + 2 * other + 1)) a4 (fun R X x => ⟨kind, many, number, other, rfl, rfl, hz, by rw [if_neg hk, if_neg hw, hn]; exact x⟩)) (finD _ h)
end
end Z20

set_option maxHeartbeats 4000000
namespace Z20
open PySem PySem.Spec PyProof.Rows L2 VL
local macro_rules | `(tactic| walk_at "side") => `(tactic| first | assumption | rfl | omega | decide)
local macro_rules | `(tactic| walk_at "sd") => `(tactic| first | assumption | omega | rotate_left 1)
local macro_rules | `(tactic| walk_at "lv") => `(tactic| first | exact lv_d | exact lv_p rfl | exact dv_d | exact dv_p rfl)
local macro_rules | `(tactic| walk_at "ov") => `(tactic| first
  | ((with_reducible apply VL.gAdd); (first | exact ov_add))
  | ((with_reducible apply VL.gSub); exact ov_sub)
  | ((with_reducible apply VL.gMul); (refine ov_mul ?_); (first | (refine Or.inl ⟨?_, ?_⟩ <;> decide) | (refine Or.inr ⟨?_, ?_⟩ <;> decide) | walk_at "sd"))
  | ((with_reducible apply VL.gDiv); (refine ov_div ?_); (first | (refine ⟨?_, ?_⟩ <;> decide) | walk_at "sd"))
  | ((with_reducible apply VL.gMod); (refine ov_mod ?_); (first | decide | walk_at "sd"))
  | ((with_reducible apply VL.gPow); (refine ov_pow ?_); (first | (refine ⟨?_, ?_, ?_⟩ <;> decide) | walk_at "sd"))
  | ((with_reducible apply VL.gEq); first | exact ov_eq | exact ov_eqO | exact ov_eqOs | exact ov_eqss | exact ov_eqOO)
  | ((with_reducible apply VL.gNe); first | exact ov_ne)
  | ((with_reducible apply VL.gLt); first | exact ov_lt | exact ov_ltO)
  | ((with_reducible apply VL.gLe); first | exact ov_le | exact ov_leO)
  | ((with_reducible apply VL.gGt); first | exact ov_gt | exact ov_gtO)
  | ((with_reducible apply VL.gGe); exact ov_ge)
  | ((with_reducible apply VL.gIs); first | exact ov_isO | exact ov_isU | exact ov_isX)
  | ((with_reducible apply VL.gIsN); first | exact ov_isNO | exact ov_isNU | exact ov_isNX)
  | ((with_reducible apply VL.gIx); first | exact ov_ix20 | exact ov_ix21 | exact ov_ix30 | exact ov_ix31 | exact ov_ix32 | ((refine ov_ixLG (by walk_at "lv") ?_); (walk_at "sd")) | ((refine ov_ixTG ?_); (walk_at "sd"))))
local macro_rules | `(tactic| walk_at "cv") => `(tactic| first
  | ((with_reducible apply VL.gLen); first | exact cv_lenT | exact cv_lenL (by walk_at "lv"))
  | ((with_reducible apply VL.gInt); first | exact cv_int | exact cv_intB)
  | ((with_reducible apply VL.gAbs); exact cv_abs)
  | ((with_reducible apply VL.gMin); exact cv_min2)
  | ((with_reducible apply VL.gMax); exact cv_max2)
  | ((with_reducible apply VL.gList); first | exact cv_listT | exact cv_listL (by walk_at "lv"))
  | ((with_reducible apply VL.gTuple); first | exact cv_tupleT | exact cv_tupleL (by walk_at "lv"))
  | ((with_reducible apply VL.gIsi); first | exact cv_isi rfl | exact cv_isiP rfl rfl))
local macro_rules | `(tactic| walk_at "all") => `(tactic| repeat (first | exact AllD.nil | refine AllD.d ?_))
local macro_rules | `(tactic| walk_at "e") => `(tactic| first
  | ((with_reducible apply VL.gVar); first | exact er_d rfl | exact er_p rfl)
  | ((with_reducible apply VL.gC); first | exact er_int | exact er_bl | exact er_str | exact er_non | exact er_ty | assumption)
  | ((with_reducible apply er_op); (walk_at "e"); (walk_at "e"); (walk_at "ov"))
  | ((with_reducible apply er_cb); (walk_at "e"); (walk_at "cv"))
  | ((with_reducible apply VL.gENil); exact ea_nil)
  | ((with_reducible apply ea_cons); (walk_at "e"); (walk_at "e"))
  | ((with_reducible apply VL.gPop); (refine er_popG rfl rfl ?_); (walk_at "sd"))
  | ((with_reducible apply et_v); (walk_at "e"))
  | ((with_reducible apply er_ix); (walk_at "e"); (walk_at "e"); (walk_at "ov"))
  | ((with_reducible apply er_andV); (walk_at "e"); (intro hb_; (try simp only [decide_eq_true_eq] at hb_); (walk_at "e")))
  | ((with_reducible apply er_orV); (walk_at "e"); (intro hb_; (try simp only [decide_eq_false_iff_not] at hb_); (walk_at "e")))
  | ((with_reducible apply er_notV); (walk_at "e"))
  | ((with_reducible apply et_and); (walk_at "e"); (intro hb_; (try simp only [decide_eq_true_eq] at hb_); (walk_at "e")))
  | ((with_reducible apply et_or); (walk_at "e"); (intro hb_; (try simp only [decide_eq_false_iff_not] at hb_); (walk_at "e")))
  | ((with_reducible apply et_not); (walk_at "e"))
  | ((with_reducible apply VL.gTru); (apply et_truB); (walk_at "e"))
  | ((with_reducible apply er_bits); (walk_at "e"))
  | ((with_reducible apply er_neg); (walk_at "e"))
  | (with_reducible exact er_make0)
  | ((with_reducible apply er_t2); (walk_at "e"); done)
  | ((with_reducible apply er_t3); (walk_at "e"); done)
  | (walk_at "in")
  | (walk_at "call"))
local macro_rules | `(tactic| walk_at "in") => `(tactic| first
  | ((with_reducible apply VL.gIn); first | exact er_inT (by walk_at "e") (by walk_at "e") | exact er_inL (by walk_at "e") (by walk_at "e") (by walk_at "lv"))
  | ((with_reducible apply VL.gNotIn); first | exact er_notinT (by walk_at "e") (by walk_at "e") | exact er_notinL (by walk_at "e") (by walk_at "e") (by walk_at "lv")))
section
variable {P : Program} {K : Fg} {mg : Str → Option Value} {c : Cx0} {s s1 : List Slot} {o o1 os : List Cont} {E : XK} {ta : TA} {D : Ends} {u : TS} {i : Nat}
theorem sh_i {t : Str} {n : Int} (ht : PyData.strOk t = true) : SeqAt.shaped (.tuple [.str t, .int n]) = true := by simp [SeqAt.shaped, PyData.canLay0, PyData.canLayAll0, PyData.depth, PyData.depthAll, ht]
theorem sh_s {t n : Str} (ht : PyData.strOk t = true) (hn : PyData.strOk n = true) : SeqAt.shaped (.tuple [.str t, .str n]) = true := by simp [SeqAt.shaped, PyData.canLay0, PyData.canLayAll0, PyData.depth, PyData.depthAll, ht, hn]
theorem ne_i {t : Str} {n : Int} (ht : PyData.strOk t = true) : OV K c (uNe K) s o (.d (⟨t, .inl n⟩ : Wd)) (.d (⟨t, n⟩ : T2 Str Int)) s o (.d false) := ov_neD (α := Wd) (β := T2 Str Int) (sh_i ht) (sh_i ht) (by
  show (!PyData.eqv (.tuple [.str t, .int n]) (.tuple [.str t, .int n])) = false
  simp [PyData.eqv, PyData.eqvAll])
theorem ne_s {t n : Str} (ht : PyData.strOk t = true) (hn : PyData.strOk n = true) : OV K c (uNe K) s o (.d (⟨t, .inr n⟩ : Wd)) (.d (⟨t, n⟩ : T2 Str Str)) s o (.d false) := ov_neD (α := Wd) (β := T2 Str Str) (sh_s ht hn) (sh_s ht hn) (by
  show (!PyData.eqv (.tuple [.str t, .str n]) (.tuple [.str t, .str n])) = false
  simp [PyData.eqv, PyData.eqvAll])
theorem eq_i {t : Str} {n : Int} (ht : PyData.strOk t = true) : OV K c (uEq K) s o (.d (⟨t, .inl n⟩ : Wd)) (.d (⟨t, n⟩ : T2 Str Int)) s o (.d true) := ov_eqD (α := Wd) (β := T2 Str Int) (sh_i ht) (sh_i ht) (by
  show PyData.eqv (.tuple [.str t, .int n]) (.tuple [.str t, .int n]) = true
  simp [PyData.eqv, PyData.eqvAll])
/-- a draw, then the rest -/
theorem q_draw {i0 : Nat} {n : Int} {xs : List Int} (hs : sget s i0 = .p 0) (hn : 0 < n) (hi : i < s.length) (k : ∀ (v : Int) (ys : List Int), 0 ≤ v → v < n → Run K c u D (s.set i (.d v)) [.lst ys]) :
    Run K c (tSeq (tAsg (tCall (spOf K F__law_draw) [] E (tCons (tVar i0) (tCons (tC (.int n)) tNil))) (gName i)) u) D s [.lst xs] :=
  q_asg (c_draw (k := 0) (ea_cons (er_p hs) (ea_cons er_int ea_nil)) rfl (Nat.le_of_ble_eq_true rfl) hn) hi (k _ _ (drawV_range xs hn).1 (drawV_range xs hn).2)
theorem q_draw1 {i0 : Nat} {n : Int} {xs : List Int} (hs : sget s i0 = .p 0) (hn : 0 < n) (hi : i < s.length) (k : ∀ (v : Int) (ys : List Int), 1 ≤ v → v ≤ n → Run K c u D (s.set i (.d v)) [.lst ys]) :
    Run K c (tSeq (tAsg (tOp (uAdd K) (tC (.int 1)) (tCall (spOf K F__law_draw) [] E (tCons (tVar i0) (tCons (tC (.int n)) tNil)))) (gName i)) u) D s [.lst xs] :=
  q_asg (er_op er_int (c_draw (k := 0) (ea_cons (er_p hs) (ea_cons er_int ea_nil)) rfl (Nat.le_of_ble_eq_true rfl) hn) ov_add) hi (k _ _ (by have := (drawV_range xs hn).1; omega) (by have := (drawV_range xs hn).2; omega))
end
section
variable {P : Program} {K : Fg} {mg : Str → Option Value}
theorem kcls_Bag : (kcls "Bag").isNone = true := by decide +kernel
theorem run__law_faults (T : Txt P K mg) (c : Cx0) (ss : List Slot) (os : List Cont) (Q : VK) (E : XK) (hM : c.M.length = os.length) (h : F__law_faults ss os (Rc K c Q) (Xc K c E)) : Run K c (t__law_faults K E) { nx := fun _ H' => Q .non H', rt := Q } (ss ++ List.replicate (6 - ss.length) .u) os := by
  obtain ⟨xs, kind, rfl, rfl, hk, h⟩ := h
  show Run K c _ _ [.p 0, .d kind, .u, .u, .u, .u] [.lst xs]
  have hM : c.M.length = 1 := hM
  unfold t__law_faults
  have r1 := drawV_range xs (n := 3) (by decide)
  have r2 := drawV_range xs.dropLast (n := 3) (by decide)
  have r3 := drawV_range xs.dropLast.dropLast (n := 3) (by decide)
  have hks : ¬ (kcls kind).isNone = true := by have := k_some hk; cases e : kcls kind <;> simp_all
  refine q_asg (c_draw (k := 0) (by walk_at "e") rfl (Nat.le_of_ble_eq_true rfl) (by decide)) (Nat.le_of_ble_eq_true rfl) ?_
  generalize drawV xs 3 = which at r1 ⊢
  refine run_os (o1 := [.lst xs.dropLast]) ?_ rfl
  refine q_asg (er_op er_int (c_draw (k := 0) (xs := xs.dropLast) (by walk_at "e") rfl (Nat.le_of_ble_eq_true rfl) (by decide)) ov_sub) (Nat.le_of_ble_eq_true rfl) ?_
  obtain ⟨few, hf⟩ : ∃ few, few = 0 - drawV xs.dropLast 3 := ⟨_, rfl⟩
  rw [← hf]
  refine run_os (o1 := [.lst xs.dropLast.dropLast]) ?_ rfl
  refine q_asg (er_op (er_op er_int er_int ov_sub) (c_draw (k := 0) (xs := xs.dropLast.dropLast) (by walk_at "e") rfl (Nat.le_of_ble_eq_true rfl) (by decide)) ov_sub) (Nat.le_of_ble_eq_true rfl) ?_
  obtain ⟨number, hn⟩ : ∃ number, number = 0 - 1 - drawV xs.dropLast.dropLast 3 := ⟨_, rfl⟩
  rw [← hn]
  refine run_os (o1 := [.lst xs.dropLast.dropLast.dropLast]) ?_ rfl
  refine run_sl (s1 := [.p 0, .d kind, .d which, .d few, .d number, .u]) ?_ rfl
  have f1 : ∀ a n b : Int, refusedV a "Bag" few n b = ⟨"kind", .inr "Bag"⟩ := fun a n b => by unfold refusedV; rw [if_pos kcls_Bag]
  have f2 : ∀ a n b : Int, refusedV a kind few n b = ⟨"width", .inl few⟩ := fun a n b => by unfold refusedV; rw [if_neg hks, if_pos (by omega)]
  have nb : few.natAbs < 2 ^ 500 := by omega
  refine q_when (et_v (er_op (er_is (c_refused (a := which) (kind := "Bag") (w := few) (n := number) (b := number) (by walk_at "e") nb) (f1 _ _ _)) (er_t2 (ea_cons er_str (ea_cons er_str ea_nil))) (ne_s (by decide +kernel) (by decide +kernel)))) (fun z => by cases z) (fun _ => ?_)
  refine q_when (et_v (er_op (er_is (c_refused (a := which) (kind := kind) (w := few) (n := number) (b := number) (by walk_at "e") nb) (f2 _ _ _)) (er_t2 (ea_cons er_str (ea_cons (er_d rfl) ea_nil))) (ne_i (by decide +kernel)))) (fun z => by cases z) (fun _ => ?_)
  have tup : ∀ t : Str, ER K c (tTup (tCons (tC (.str t)) (tCons (tVar 4) tNil))) [.p 0, .d kind, .d which, .d few, .d number, .u] [.lst xs.dropLast.dropLast.dropLast] [.p 0, .d kind, .d which, .d few, .d number, .u] [.lst xs.dropLast.dropLast.dropLast] (.d (⟨t, number⟩ : T2 Str Int)) := fun t => er_t2 (ea_cons er_str (ea_cons (er_d rfl) ea_nil))
  have dl := er_lstAD (xs := ([⟨"count", number⟩, ⟨"length", number⟩, ⟨"losses", number⟩] : List (T2 Str Int))) (ea_cons (tup "count") (ea_cons (tup "length") (ea_cons (tup "losses") ea_nil))) (.d (.d (.d .nil))) (Nat.le_of_ble_eq_true rfl)
  have f3 : ∃ t : Str, PyData.strOk t = true ∧ refusedV which kind 3 number (number - 1) = ⟨t, .inl number⟩ ∧ atI ([⟨"count", number⟩, ⟨"length", number⟩, ⟨"losses", number⟩] : List (T2 Str Int)) which = some ⟨t, number⟩ := by
    unfold refusedV
    rw [if_neg hks, if_neg (by decide)]
    rcases (by omega : which = 0 ∨ which = 1 ∨ which = 2) with rfl | rfl | rfl
    · rw [if_pos rfl, if_pos (by omega)]; exact ⟨_, by decide +kernel, rfl, rfl⟩
    · rw [if_neg (by decide), if_pos rfl, if_pos (by omega)]; exact ⟨_, by decide +kernel, rfl, rfl⟩
    · rw [if_neg (by decide), if_neg (by decide)]
      have e : firstBad [number, number - 1] = some number := by unfold firstBad; rw [List.find?_cons_of_pos (by simpa using (by omega : number < 0))]
      rw [e]; exact ⟨_, by decide +kernel, rfl, rfl⟩
  obtain ⟨t, ht, f3, f4⟩ := f3
  refine q_asg (er_ix dl (er_d rfl) (ov_ixL lv_d f4)) (Nat.le_of_ble_eq_true rfl) ?_
  refine run_sl (s1 := [.p 0, .d kind, .d which, .d few, .d number, .d (⟨t, number⟩ : T2 Str Int)]) ?_ rfl
  refine q_when (et_v (er_op (er_is (c_refused (a := which) (kind := kind) (w := 3) (n := number) (b := number - 1) (by walk_at "e") (by decide)) f3) (er_d rfl) (ne_i ht))) (fun z => by cases z) (fun _ => ?_)
  have f5 : refusedV 0 kind 3 0 0 = ⟨"count", .inl 0⟩ := by unfold refusedV; rw [if_neg hks, if_neg (by decide), if_pos rfl, if_pos (by decide)]
  have f6 : refusedV 1 kind 1 0 0 = ⟨"fine", .inl 0⟩ := by unfold refusedV; rw [if_neg hks, if_neg (by decide), if_neg (by decide), if_pos rfl, if_neg (by decide)]
  have f7 : refusedV 2 kind 1 0 number = ⟨"losses", .inl number⟩ := by
    unfold refusedV; rw [if_neg hks, if_neg (by decide), if_neg (by decide), if_neg (by decide)]
    have e : firstBad [0, number] = some number := by unfold firstBad; rw [List.find?_cons_of_neg (by decide), List.find?_cons_of_pos (by simpa using (by omega : number < 0))]
    rw [e]
  have f8 : refusedV 2 kind 1 0 0 = ⟨"fine", .inl 0⟩ := by
    unfold refusedV; rw [if_neg hks, if_neg (by decide), if_neg (by decide), if_neg (by decide)]; rfl
  refine q_when (b := false) (et_or (b := false) (d := false) (et_v (er_op (er_is (c_refused (a := 0) (kind := kind) (w := 3) (n := 0) (b := 0) (by walk_at "e") (by decide)) f5) (er_t2 (ea_cons er_str (ea_cons er_int ea_nil))) (ne_i (by decide +kernel)))) (fun _ => et_v (er_op (er_is (c_refused (a := 1) (kind := kind) (w := 1) (n := 0) (b := 0) (by walk_at "e") (by decide)) f6) (er_t2 (ea_cons er_str (ea_cons er_int ea_nil))) (ne_i (by decide +kernel))))) (fun z => by cases z) (fun _ => ?_)
  refine s_ret (er_andV (b := true) (d := true) (er_op (er_is (c_refused (a := 2) (kind := kind) (w := 1) (n := 0) (b := number) (by walk_at "e") (by decide)) f7) (er_t2 (ea_cons er_str (ea_cons (er_d rfl) ea_nil))) (eq_i (by decide +kernel))) (fun _ => er_op (er_is (c_refused (a := 2) (kind := kind) (w := 1) (n := 0) (b := 0) (by walk_at "e") (by decide)) f8) (er_t2 (ea_cons er_str (ea_cons er_int ea_nil))) (eq_i (by decide +kernel)))) ?_
  exact ret_d h (OsW.refl _) (by rw [hM]; exact Nat.le_refl _) rfl rfl
end
end Z20

set_option maxHeartbeats 4000000
namespace Z20
open PySem PySem.Spec PyProof.Rows L2 VL
local macro_rules | `(tactic| walk_at "side") => `(tactic| first | assumption | rfl | omega | decide)
local macro_rules | `(tactic| walk_at "sd") => `(tactic| first | assumption | omega | rotate_left 1)
local macro_rules | `(tactic| walk_at "lv") => `(tactic| first | exact lv_d | exact lv_p rfl | exact dv_d | exact dv_p rfl)
local macro_rules | `(tactic| walk_at "ov") => `(tactic| first
  | ((with_reducible apply VL.gAdd); (first | exact ov_add))
  | ((with_reducible apply VL.gSub); exact ov_sub)
  | ((with_reducible apply VL.gMul); (refine ov_mul ?_); (first | (refine Or.inl ⟨?_, ?_⟩ <;> decide) | (refine Or.inr ⟨?_, ?_⟩ <;> decide) | walk_at "sd"))
  | ((with_reducible apply VL.gDiv); (refine ov_div ?_); (first | (refine ⟨?_, ?_⟩ <;> decide) | walk_at "sd"))
  | ((with_reducible apply VL.gMod); (refine ov_mod ?_); (first | decide | walk_at "sd"))
  | ((with_reducible apply VL.gPow); (refine ov_pow ?_); (first | (refine ⟨?_, ?_, ?_⟩ <;> decide) | walk_at "sd"))
  | ((with_reducible apply VL.gEq); first | exact ov_eq | exact ov_eqO | exact ov_eqOs | exact ov_eqss | exact ov_eqOO)
  | ((with_reducible apply VL.gNe); first | exact ov_ne)
  | ((with_reducible apply VL.gLt); first | exact ov_lt | exact ov_ltO)
  | ((with_reducible apply VL.gLe); first | exact ov_le | exact ov_leO)
  | ((with_reducible apply VL.gGt); first | exact ov_gt | exact ov_gtO)
  | ((with_reducible apply VL.gGe); exact ov_ge)
  | ((with_reducible apply VL.gIs); first | exact ov_isO | exact ov_isU | exact ov_isX)
  | ((with_reducible apply VL.gIsN); first | exact ov_isNO | exact ov_isNU | exact ov_isNX)
  | ((with_reducible apply VL.gIx); first | exact ov_ix20 | exact ov_ix21 | exact ov_ix30 | exact ov_ix31 | exact ov_ix32 | ((refine ov_ixLG (by walk_at "lv") ?_); (walk_at "sd")) | ((refine ov_ixTG ?_); (walk_at "sd"))))
local macro_rules | `(tactic| walk_at "cv") => `(tactic| first
  | ((with_reducible apply VL.gLen); first | exact cv_lenT | exact cv_lenL (by walk_at "lv"))
  | ((with_reducible apply VL.gInt); first | exact cv_int | exact cv_intB)
  | ((with_reducible apply VL.gAbs); exact cv_abs)
  | ((with_reducible apply VL.gMin); exact cv_min2)
  | ((with_reducible apply VL.gMax); exact cv_max2)
  | ((with_reducible apply VL.gList); first | exact cv_listT | exact cv_listL (by walk_at "lv"))
  | ((with_reducible apply VL.gTuple); first | exact cv_tupleT | exact cv_tupleL (by walk_at "lv"))
  | ((with_reducible apply VL.gIsi); first | exact cv_isi rfl | exact cv_isiP rfl rfl))
local macro_rules | `(tactic| walk_at "all") => `(tactic| repeat (first | exact AllD.nil | refine AllD.d ?_))
local macro_rules | `(tactic| walk_at "e") => `(tactic| first
  | ((with_reducible apply VL.gVar); first | exact er_d rfl | exact er_p rfl)
  | ((with_reducible apply VL.gC); first | exact er_int | exact er_bl | exact er_str | exact er_non | exact er_ty | assumption)
  | ((with_reducible apply er_op); (walk_at "e"); (walk_at "e"); (walk_at "ov"))
  | ((with_reducible apply er_cb); (walk_at "e"); (walk_at "cv"))
  | ((with_reducible apply VL.gENil); exact ea_nil)
  | ((with_reducible apply ea_cons); (walk_at "e"); (walk_at "e"))
  | ((with_reducible apply VL.gPop); (refine er_popG rfl rfl ?_); (walk_at "sd"))
  | ((with_reducible apply et_v); (walk_at "e"))
  | ((with_reducible apply er_ix); (walk_at "e"); (walk_at "e"); (walk_at "ov"))
  | ((with_reducible apply er_andV); (walk_at "e"); (intro hb_; (try simp only [decide_eq_true_eq] at hb_); (walk_at "e")))
  | ((with_reducible apply er_orV); (walk_at "e"); (intro hb_; (try simp only [decide_eq_false_iff_not] at hb_); (walk_at "e")))
  | ((with_reducible apply er_notV); (walk_at "e"))
  | ((with_reducible apply et_and); (walk_at "e"); (intro hb_; (try simp only [decide_eq_true_eq] at hb_); (walk_at "e")))
  | ((with_reducible apply et_or); (walk_at "e"); (intro hb_; (try simp only [decide_eq_false_iff_not] at hb_); (walk_at "e")))
  | ((with_reducible apply et_not); (walk_at "e"))
  | ((with_reducible apply VL.gTru); (apply et_truB); (walk_at "e"))
  | ((with_reducible apply er_bits); (walk_at "e"))
  | ((with_reducible apply er_neg); (walk_at "e"))
  | (with_reducible exact er_make0)
  | ((with_reducible apply er_t2); (walk_at "e"); done)
  | ((with_reducible apply er_t3); (walk_at "e"); done)
  | (walk_at "in")
  | (walk_at "call"))
local macro_rules | `(tactic| walk_at "in") => `(tactic| first
  | ((with_reducible apply VL.gIn); first | exact er_inT (by walk_at "e") (by walk_at "e") | exact er_inL (by walk_at "e") (by walk_at "e") (by walk_at "lv"))
  | ((with_reducible apply VL.gNotIn); first | exact er_notinT (by walk_at "e") (by walk_at "e") | exact er_notinL (by walk_at "e") (by walk_at "e") (by walk_at "lv")))
section
variable {K : Fg} {c : Cx0} {s s1 : List Slot} {o o1 os : List Cont} {D : Ends} {t u : TS} {tt tt2 : TT}
theorem q_pass (h : ET K c tt s o s1 o1 false) (k : Run K c u D s1 o1) : Run K c (tSeq (tIfS tt t tNext) u) D s o := q_when h (fun z => by cases z) fun _ => k
theorem s_pass (h : ET K c tt s o s1 o1 false) (k : Go K c D.nx s1 o1) : Run K c (tIfS tt t tNext) D s o := s_when h (fun z => by cases z) fun _ => k
theorem q_guard {b : Bool} (h : ET K c tt s o s o b) (h2 : b = true → ET K c tt2 s o s o false) (k : Run K c u D s o) : Run K c (tSeq (tIfS tt (tIfS tt2 t tNext) tNext) u) D s o := q_when h (fun e => s_pass (h2 e) fun as G σ H A => k as G σ H A) fun _ => k
end
section
variable {P : Program} {K : Fg} {mg : Str → Option Value}
theorem longGo_range : ∀ (n : Nat) (xs : List Int) (a : Int), 0 ≤ a → 0 ≤ (longGo n xs a).1 ∧ (longGo n xs a).1 < (a + 1) * 1000 ^ n := by
  intro n
  induction n with
  | zero => intro xs a h; simp [longGo]; omega
  | succ n ih =>
    intro xs a h
    have r := drawV_range xs (n := 1000) (by decide)
    obtain ⟨h1, h2⟩ := ih xs.dropLast (a * 1000 + drawV xs 1000) (by omega)
    refine ⟨h1, Int.lt_of_lt_of_le h2 ?_⟩
    rw [Int.pow_succ, Int.mul_comm (1000 ^ n) 1000, ← Int.mul_assoc]
    exact Int.mul_le_mul_of_nonneg_right (by omega) (Int.le_of_lt (Int.pow_pos (by decide)))
theorem longV_range (xs : List Int) : 0 ≤ (longV xs 19).1 ∧ (longV xs 19).1 < 1000 ^ 19 := by
  unfold longV
  have r := drawV_range xs (n := 19 + 1) (by decide)
  obtain ⟨h1, h2⟩ := longGo_range (drawV xs (19 + 1)).toNat xs.dropLast 0 (by decide)
  refine ⟨h1, ?_⟩
  have : (1000 : Int) ^ (drawV xs (19 + 1)).toNat ≤ 1000 ^ 19 := by
    have : 1000 ^ (drawV xs (19 + 1)).toNat ≤ 1000 ^ 19 := Nat.pow_le_pow_right (by decide) (by omega)
    exact_mod_cast this
  omega
theorem name_in (xs : List Int) : (atI names8 (drawV xs 8)).getD default ∈ names8 := by
  have r := drawV_range xs (n := 8) (by decide)
  have z := atI_some names8 r.1 r.2
  generalize drawV xs 8 = i at r z ⊢
  obtain ⟨k, rfl⟩ : ∃ k : Nat, i = k := ⟨i.toNat, by omega⟩
  rw [atI_nat] at z ⊢
  rw [List.getElem?_eq_getElem (by have := r.2; simp [names8]; omega)]
  exact List.getElem_mem _
theorem ns_fulls : ∀ k ∈ names8, k ∈ (["list", "bag", "set", "heads", "tails"] : List Str) → k ∈ fulls := fun _ _ h => h
theorem lsm1 : (1000 : Int) ^ 19 < 2 ^ 298 := by decide
theorem run_law (T : Txt P K mg) (c : Cx0) (ss : List Slot) (os : List Cont) (Q : VK) (E : XK) (hM : c.M.length = os.length) (h : F_law ss os (Rc K c Q) (Xc K c E)) : Run K c (t_law K E) { nx := fun _ H' => Q .non H', rt := Q } (ss ++ List.replicate (15 - ss.length) .u) os := by
  obtain ⟨xs, rfl, rfl, hl, h⟩ := h
  show Run K c _ _ [.d xs, .u, .u, .u, .u, .u, .u, .u, .u, .u, .u, .u, .u, .u, .u] []
  have hM : c.M.length = 0 := hM
  unfold t_law
  refine q_asgF (ω := List Int) (P := fun _ => True) (erf_call (rs := [.d xs]) (os := fun ys => [.lst ys]) (r := fun _ => .p 0) (by walk_at "e") (fun R X q => ⟨xs, rfl, rfl, fun ys => q ys trivial⟩) rfl (fun _ => rfl)) (fun _ => Nat.le_of_ble_eq_true rfl) fun ys _ => ?_
  refine run_os (o1 := [.lst ys]) ?_ rfl
  refine q_asg (c_lawkind (k := 0) (xs := ys) (ea_cons (er_p rfl) ea_nil) rfl (Nat.le_of_ble_eq_true rfl)) (Nat.le_of_ble_eq_true rfl) ?_
  have hk := name_in ys
  generalize (atI names8 (drawV ys 8)).getD default = kind at hk ⊢
  refine run_os (o1 := [.lst ys.dropLast]) ?_ rfl
  generalize ys.dropLast = ys
  refine q_draw1 rfl (by decide) (Nat.le_of_ble_eq_true rfl) fun many ys m1 m2 => ?_
  refine q_draw1 rfl (by decide) (Nat.le_of_ble_eq_true rfl) fun strength ys s1 s2 => ?_
  refine run_sl (s1 := [.d xs, .p 0, .d kind, .d many, .d strength, .u, .u, .u, .u, .u, .u, .u, .u, .u, .u]) ?_ rfl
  have nm : many.natAbs < 2 ^ 500 := by omega
  have ks := k_some hk
  have z5 : EA K c (tCons (tC (.str "list")) (tCons (tC (.str "bag")) (tCons (tC (.str "set")) (tCons (tC (.str "heads")) (tCons (tC (.str "tails")) tNil))))) [.d xs, .p 0, .d kind, .d many, .d strength, .u, .u, .u, .u, .u, .u, .u, .u, .u, .u] [.lst ys] [.d xs, .p 0, .d kind, .d many, .d strength, .u, .u, .u, .u, .u, .u, .u, .u, .u, .u] [.lst ys] [.d ("list" : Str), .d ("bag" : Str), .d ("set" : Str), .d ("heads" : Str), .d ("tails" : Str)] := by walk_at "e"
  refine q_guard (et_and (b := decide (kind ∈ fulls)) (d := decide (1 < many)) (et_v (er_inT (α := Str) (xs := fulls) (er_d rfl) (er_tupA z5 (by walk_at "all") (Nat.le_of_ble_eq_true rfl)))) (fun _ => et_v (er_op (er_d rfl) er_int ov_gt))) (fun e => ?_) ?_
  · have e : kind ∈ fulls ∧ 1 < many := by simpa using e
    exact et_not (b := true) (et_truB (er_is (c_sameI (ea_cons (c_price (kind := kind) (w := many) (n := strength) (by walk_at "e") ks (by omega) (by omega) nm) (ea_cons (c_least (w := many) (n := strength) (by walk_at "e") (by omega) (by omega)) ea_nil))) (decide_eq_true (least_ok e.1 e.2 m2 s1 s2))))
  have same_due : ∀ (s : List Slot) (i j k : Nat) (w n : Int), sget s i = .d kind → sget s j = .d w → sget s k = .d n → 1 ≤ w → w < 2 ^ 299 → 1 ≤ n → ∀ (o : List Cont) (c' : Cx0), ET K c' (tNot (uTru K (tCall (spOf K F__law_same) [] E (tCons (tCall (spOf K F_price) [] E (tCons (tVar i) (tCons (tVar j) (tCons (tVar k) tNil)))) (tCons (tCall (spOf K F__law_due) [] E (tCons (tVar i) (tCons (tVar j) (tCons (tVar k) tNil)))) tNil))))) s o s o false := fun s i j k w n h1 h2 h3 h4 h5 h6 o c' =>
    et_not (b := true) (et_truB (er_is (c_same (ea_cons (c_price (kind := kind) (w := w) (n := n) (ea_cons (er_d h1) (ea_cons (er_d h2) (ea_cons (er_d h3) ea_nil))) ks h4 h6 (by omega)) (ea_cons (c_due (kind := kind) (w := w) (n := n) (ea_cons (er_d h1) (ea_cons (er_d h2) (ea_cons (er_d h3) ea_nil))) h4 (by omega) h6) ea_nil))) (decide_eq_true (price_due hk))))
  refine q_for (α := Int) (I := fun _ (_ : Unit) => True) (f := fun _ => [.d xs, .p 0, .d kind, .d many, .d strength, .u, .u, .u, .u, .u, .u, .u, .u, .u, .u]) (g := fun _ => [.lst ys]) (f' := fun _ x => [.d xs, .p 0, .d kind, .d many, .d strength, .d x, .u, .u, .u, .u, .u, .u, .u, .u, .u])
    (ei_seqT (er_tupA (xs := [1, 2, 3, 4, many, 2 * many]) (by walk_at "e") (by walk_at "all") (Nat.le_of_ble_eq_true rfl))) () trivial (SlW.refl _) rfl rfl rfl (fun _ _ _ => trivial) (fun _ _ => eg_name (Nat.le_of_ble_eq_true rfl)) (fun c' hc hM' k _ x hx _ => ?_) (fun _ _ => ?_)
  · have hx : 1 ≤ x ∧ x ≤ 80 := by
      have := List.mem_of_getElem? hx
      simp at this
      omega
    refine s_for (α := Int) (I := fun _ (_ : Unit) => True) (f := fun _ => [.d xs, .p 0, .d kind, .d many, .d strength, .d x, .u, .u, .u, .u, .u, .u, .u, .u, .u]) (g := fun _ => [.lst ys]) (f' := fun _ y => [.d xs, .p 0, .d kind, .d many, .d strength, .d x, .d y, .u, .u, .u, .u, .u, .u, .u, .u])
      (ei_seqT (er_tupA (xs := [1, 2, 3, strength]) (by walk_at "e") (by walk_at "all") (Nat.le_of_ble_eq_true rfl))) () trivial (SlW.refl _) rfl rfl rfl (fun _ _ _ => trivial) (fun _ _ => eg_name (Nat.le_of_ble_eq_true rfl)) (fun c2 hc2 hM2 j _ y hy _ => ?_) (fun _ _ => ?_)
    · have hy : 1 ≤ y := by
        have := List.mem_of_getElem? hy
        simp at this
        omega
      exact s_pass (same_due _ 2 5 6 x y rfl rfl rfl hx.1 (by omega) hy _ _) (go_at () trivial ⟨.inr rfl, .inr rfl, .inr rfl, .inr rfl, .inr rfl, .inr rfl, .inl rfl, .inr rfl, .inr rfl, .inr rfl, .inr rfl, .inr rfl, .inr rfl, .inr rfl, .inr rfl, trivial⟩ (OsW.refl _) (Nat.le_of_eq hM2) rfl rfl)
    · exact go_at () trivial ⟨.inr rfl, .inr rfl, .inr rfl, .inr rfl, .inr rfl, .inl rfl, .inr rfl, .inr rfl, .inr rfl, .inr rfl, .inr rfl, .inr rfl, .inr rfl, .inr rfl, .inr rfl, trivial⟩ (OsW.refl _) (Nat.le_of_eq hM') rfl rfl
  refine q_draw rfl (by decide) (Nat.le_of_ble_eq_true rfl) fun merges ys g1 g2 => ?_
  have most : ∀ (s : List Slot) (te1 te2 : TE) (w n : Int) (o : List Cont) (c' : Cx0), sget s 2 = .d kind → ER K c' te1 s o s o (.d w) → ER K c' te2 s o s o (.d n) → 1 ≤ w → w < 2 ^ 299 → 0 ≤ n → ET K c' (tNot (uTru K (tCall (spOf K F__law_most) [] E (tCons (tVar 2) (tCons te1 (tCons te2 tNil)))))) s o s o false := fun s te1 te2 w n o c' h1 h2 h3 h4 h5 h6 =>
    et_not (b := true) (et_truB (c_lawmost (kind := kind) (ea_cons (er_d h1) (ea_cons h2 (ea_cons h3 ea_nil))) hk h4 h5 h6))
  refine q_for (α := Int) (I := fun _ (_ : Unit) => True) (f := fun _ => [.d xs, .p 0, .d kind, .d many, .d strength, .u, .u, .d merges, .u, .u, .u, .u, .u, .u, .u]) (g := fun _ => [.lst ys]) (f' := fun _ x => [.d xs, .p 0, .d kind, .d many, .d strength, .u, .u, .d merges, .d x, .u, .u, .u, .u, .u, .u])
    (ei_seqT (er_tupA (xs := [0, 1, many - 2, many - 1, many, merges]) (by walk_at "e") (by walk_at "all") (Nat.le_of_ble_eq_true rfl))) () trivial (SlW.refl _) rfl rfl rfl (fun _ _ _ => trivial) (fun _ _ => eg_name (Nat.le_of_ble_eq_true rfl)) (fun c' hc hM' k _ x hx _ => ?_) (fun _ _ => ?_)
  · by_cases hx0 : 0 ≤ x
    · exact s_pass (et_is (et_and (b := decide (0 ≤ x)) (d := false) (et_v (er_op (er_d rfl) er_int ov_ge)) (fun _ => most _ _ _ many x _ _ rfl (er_d rfl) (er_d rfl) m1 (by omega) hx0)) (by simp)) (go_at () trivial ⟨.inr rfl, .inr rfl, .inr rfl, .inr rfl, .inr rfl, .inr rfl, .inr rfl, .inr rfl, .inl rfl, .inr rfl, .inr rfl, .inr rfl, .inr rfl, .inr rfl, .inr rfl, trivial⟩ (OsW.refl _) (Nat.le_of_eq hM') rfl rfl)
    · exact s_pass (et_is (et_and (b := decide (0 ≤ x)) (d := false) (et_v (er_op (er_d rfl) er_int ov_ge)) (fun z => absurd (of_decide_eq_true z) hx0)) (by simp)) (go_at () trivial ⟨.inr rfl, .inr rfl, .inr rfl, .inr rfl, .inr rfl, .inr rfl, .inr rfl, .inr rfl, .inl rfl, .inr rfl, .inr rfl, .inr rfl, .inr rfl, .inr rfl, .inr rfl, trivial⟩ (OsW.refl _) (Nat.le_of_eq hM') rfl rfl)
  refine q_pass (et_or (b := false) (d := false) (most _ _ _ 1 merges _ _ rfl er_int (er_d rfl) (by decide) (by decide) g1) (fun _ => most _ _ _ 2 merges _ _ rfl er_int (er_d rfl) (by decide) (by decide) g1)) ?_
  refine q_draw rfl (by decide) (Nat.le_of_ble_eq_true rfl) fun lacks ys a1 a2 => ?_
  refine q_draw rfl (by decide) (Nat.le_of_ble_eq_true rfl) fun wrong ys b1 b2 => ?_
  refine run_sl (s1 := [.d xs, .p 0, .d kind, .d many, .d strength, .u, .u, .d merges, .u, .d lacks, .d wrong, .u, .u, .u, .u]) ?_ rfl
  refine q_pass (et_not (b := true) (et_truB (er_is (c_same (ea_cons (c_errors (kind := kind) (w := many) (a := lacks) (b := wrong) (by walk_at "e") ks m1 a1 b1 nm) (ea_cons (c_due (kind := kind) (w := many) (n := lacks + 2 * wrong + 1) (by walk_at "e") m1 (by omega) (by omega)) ea_nil))) (decide_eq_true (price_due hk))))) ?_
  refine q_asg (er_op (er_op (er_d rfl) er_int ov_sub) (c_draw (k := 0) (xs := ys) (by walk_at "e") rfl (Nat.le_of_ble_eq_true rfl) (by decide)) ov_add) (Nat.le_of_ble_eq_true rfl) ?_
  generalize many - 1 + drawV ys 9 = more
  refine run_os (o1 := [.lst ys.dropLast]) ?_ rfl
  generalize ys.dropLast = ys
  refine run_sl (s1 := [.d xs, .p 0, .d kind, .d many, .d strength, .u, .u, .d merges, .u, .d lacks, .d wrong, .d more, .u, .u, .u]) ?_ rfl
  refine q_pass (et_not (b := true) (et_truB (er_is (c_sameII (ea_cons (c_part_bound (l := many) (m := more) (by walk_at "e") m1) (ea_cons (er_op (er_op (er_op (c_log (n := many) (by walk_at "e") (by omega)) er_int ov_add) (er_d rfl) ov_add) (er_op (er_d rfl) er_int ov_sub) ov_sub) ea_nil))) (decide_eq_true (by rw [lgN_eq m1]))))) ?_
  refine q_asg (er_op er_int (c_long (k := 0) (xs := ys) (g := 19) (by walk_at "e") rfl (Nat.le_of_ble_eq_true rfl) (by decide) (by decide)) ov_add) (Nat.le_of_ble_eq_true rfl) ?_
  have lg1 := longV_range ys
  have big := lsm1
  obtain ⟨great, hg⟩ : ∃ great, great = 1 + (longV ys 19).1 := ⟨_, rfl⟩
  rw [← hg]
  refine run_os (o1 := [.lst (longV ys 19).2]) ?_ rfl
  generalize (longV ys 19).2 = ys2
  refine q_asg (er_op er_int (c_long (k := 0) (xs := ys2) (g := 19) (by walk_at "e") rfl (Nat.le_of_ble_eq_true rfl) (by decide) (by decide)) ov_add) (Nat.le_of_ble_eq_true rfl) ?_
  have lg2 := longV_range ys2
  obtain ⟨far, hf⟩ : ∃ far, far = 1 + (longV ys2 19).1 := ⟨_, rfl⟩
  rw [← hf]
  refine run_os (o1 := [.lst (longV ys2 19).2]) ?_ rfl
  generalize (longV ys2 19).2 = ys3
  refine q_draw1 rfl (by decide) (Nat.le_of_ble_eq_true rfl) fun near ys n1 n2 => ?_
  refine run_sl (s1 := [.d xs, .p 0, .d kind, .d many, .d strength, .u, .u, .d merges, .u, .d lacks, .d wrong, .d more, .d great, .d far, .d near]) ?_ rfl
  have gr : 1 ≤ great ∧ great < 2 ^ 299 := ⟨by omega, by omega⟩
  have fr : 1 ≤ far := by omega
  refine q_pass (same_due _ 2 12 14 great near rfl rfl rfl gr.1 gr.2 n1 _ _) ?_
  refine q_pass (et_is (et_and (b := decide (200 < far)) (d := false) (et_v (er_op (er_d rfl) er_int ov_gt)) (fun _ => same_due _ 2 3 13 many far rfl rfl rfl m1 (by omega) fr _ _)) (by simp)) ?_
  refine q_pass (most _ _ _ great far _ _ rfl (er_d rfl) (er_d rfl) gr.1 gr.2 (by omega)) ?_
  refine s_ret (c_faults (k := 0) (xs := ys) (kind := kind) (by walk_at "e") rfl (Nat.le_of_ble_eq_true rfl) hk) ?_
  exact ret_d h OsW.nil (by rw [hM]; exact Nat.le_refl _) rfl rfl
end
end Z20

set_option maxHeartbeats 4000000
namespace Z20
open PySem PySem.Spec PyProof.Rows L2 VL
open Txt
section
variable {P : Program} {w : World} {K : Fg} {mg : Str → Option Value} {base : Heap}
theorem good_kind_named (T : Txt P K mg) : Good P w K mg base "kind_named" L_kind_named ["name"] F_kind_named := ok_kind_named T  (fun c ss os Q E hM h => run_kind_named T c ss os Q E hM h) (fun ss os R X h => by first | (obtain ⟨_, rfl, _⟩ := h; rfl) | (obtain ⟨_, _, rfl, _⟩ := h; rfl) | (obtain ⟨_, _, _, rfl, _⟩ := h; rfl) | (obtain ⟨_, _, _, _, rfl, _⟩ := h; rfl) | (obtain ⟨_, _, _, _, _, rfl, _⟩ := h; rfl) | (obtain ⟨_, _, _, _, _, _, rfl, _⟩ := h; rfl))
theorem good_floor_log2 (T : Txt P K mg) : Good P w K mg base "floor_log2" L_floor_log2 ["k"] F_floor_log2 := ok_floor_log2 T  (fun c ss os Q E hM h => run_floor_log2 T c ss os Q E hM h) (fun ss os R X h => by first | (obtain ⟨_, rfl, _⟩ := h; rfl) | (obtain ⟨_, _, rfl, _⟩ := h; rfl) | (obtain ⟨_, _, _, rfl, _⟩ := h; rfl) | (obtain ⟨_, _, _, _, rfl, _⟩ := h; rfl) | (obtain ⟨_, _, _, _, _, rfl, _⟩ := h; rfl) | (obtain ⟨_, _, _, _, _, _, rfl, _⟩ := h; rfl))
theorem good_check_numbers (T : Txt P K mg) : Good P w K mg base "check_numbers" L_check_numbers ["numbers"] F_check_numbers := ok_check_numbers T  (fun c ss os Q E hM h => run_check_numbers T c ss os Q E hM h) (fun ss os R X h => by first | (obtain ⟨_, rfl, _⟩ := h; rfl) | (obtain ⟨_, _, rfl, _⟩ := h; rfl) | (obtain ⟨_, _, _, rfl, _⟩ := h; rfl) | (obtain ⟨_, _, _, _, rfl, _⟩ := h; rfl) | (obtain ⟨_, _, _, _, _, rfl, _⟩ := h; rfl) | (obtain ⟨_, _, _, _, _, _, rfl, _⟩ := h; rfl))
theorem good_check_sizes (T : Txt P K mg) : Good P w K mg base "check_sizes" L_check_sizes ["kind", "width"] F_check_sizes := ok_check_sizes T (good_kind_named T) (fun c ss os Q E hM h => run_check_sizes T c ss os Q E hM h) (fun ss os R X h => by first | (obtain ⟨_, rfl, _⟩ := h; rfl) | (obtain ⟨_, _, rfl, _⟩ := h; rfl) | (obtain ⟨_, _, _, rfl, _⟩ := h; rfl) | (obtain ⟨_, _, _, _, rfl, _⟩ := h; rfl) | (obtain ⟨_, _, _, _, _, rfl, _⟩ := h; rfl) | (obtain ⟨_, _, _, _, _, _, rfl, _⟩ := h; rfl))
theorem good_halved (T : Txt P K mg) : Good P w K mg base "halved" L_halved ["width", "turns"] F_halved := ok_halved T  (fun c ss os Q E hM h => run_halved T c ss os Q E hM h) (fun ss os R X h => by first | (obtain ⟨_, rfl, _⟩ := h; rfl) | (obtain ⟨_, _, rfl, _⟩ := h; rfl) | (obtain ⟨_, _, _, rfl, _⟩ := h; rfl) | (obtain ⟨_, _, _, _, rfl, _⟩ := h; rfl) | (obtain ⟨_, _, _, _, _, rfl, _⟩ := h; rfl) | (obtain ⟨_, _, _, _, _, _, rfl, _⟩ := h; rfl))
theorem good_never_stronger (T : Txt P K mg) : Good P w K mg base "never_stronger" L_never_stronger ["kind", "width"] F_never_stronger := ok_never_stronger T (good_kind_named T) (fun c ss os Q E hM h => run_never_stronger T c ss os Q E hM h) (fun ss os R X h => by first | (obtain ⟨_, rfl, _⟩ := h; rfl) | (obtain ⟨_, _, rfl, _⟩ := h; rfl) | (obtain ⟨_, _, _, rfl, _⟩ := h; rfl) | (obtain ⟨_, _, _, _, rfl, _⟩ := h; rfl) | (obtain ⟨_, _, _, _, _, rfl, _⟩ := h; rfl) | (obtain ⟨_, _, _, _, _, _, rfl, _⟩ := h; rfl))
theorem good_price (T : Txt P K mg) : Good P w K mg base "price" L_price ["kind", "width", "strength"] F_price := ok_price T (good_check_sizes T) (good_floor_log2 T) (good_halved T) (good_never_stronger T) (fun c ss os Q E hM h => run_price T c ss os Q E hM h) (fun ss os R X h => by first | (obtain ⟨_, rfl, _⟩ := h; rfl) | (obtain ⟨_, _, rfl, _⟩ := h; rfl) | (obtain ⟨_, _, _, rfl, _⟩ := h; rfl) | (obtain ⟨_, _, _, _, rfl, _⟩ := h; rfl) | (obtain ⟨_, _, _, _, _, rfl, _⟩ := h; rfl) | (obtain ⟨_, _, _, _, _, _, rfl, _⟩ := h; rfl))
theorem good_most_strength (T : Txt P K mg) : Good P w K mg base "most_strength" L_most_strength ["kind", "width", "merges"] F_most_strength := ok_most_strength T (good_check_sizes T) (good_floor_log2 T) (good_never_stronger T) (fun c ss os Q E hM h => run_most_strength T c ss os Q E hM h) (fun ss os R X h => by first | (obtain ⟨_, rfl, _⟩ := h; rfl) | (obtain ⟨_, _, rfl, _⟩ := h; rfl) | (obtain ⟨_, _, _, rfl, _⟩ := h; rfl) | (obtain ⟨_, _, _, _, rfl, _⟩ := h; rfl) | (obtain ⟨_, _, _, _, _, rfl, _⟩ := h; rfl) | (obtain ⟨_, _, _, _, _, _, rfl, _⟩ := h; rfl))
theorem good_price_of_errors (T : Txt P K mg) : Good P w K mg base "price_of_errors" L_price_of_errors ["kind", "width", "lacks", "wrong"] F_price_of_errors := ok_price_of_errors T (good_check_numbers T) (good_check_sizes T) (good_price T) (fun c ss os Q E hM h => run_price_of_errors T c ss os Q E hM h) (fun ss os R X h => by first | (obtain ⟨_, rfl, _⟩ := h; rfl) | (obtain ⟨_, _, rfl, _⟩ := h; rfl) | (obtain ⟨_, _, _, rfl, _⟩ := h; rfl) | (obtain ⟨_, _, _, _, rfl, _⟩ := h; rfl) | (obtain ⟨_, _, _, _, _, rfl, _⟩ := h; rfl) | (obtain ⟨_, _, _, _, _, _, rfl, _⟩ := h; rfl))
theorem good_part_bound (T : Txt P K mg) : Good P w K mg base "part_bound" L_part_bound ["letters", "merges"] F_part_bound := ok_part_bound T (good_floor_log2 T) (fun c ss os Q E hM h => run_part_bound T c ss os Q E hM h) (fun ss os R X h => by first | (obtain ⟨_, rfl, _⟩ := h; rfl) | (obtain ⟨_, _, rfl, _⟩ := h; rfl) | (obtain ⟨_, _, _, rfl, _⟩ := h; rfl) | (obtain ⟨_, _, _, _, rfl, _⟩ := h; rfl) | (obtain ⟨_, _, _, _, _, rfl, _⟩ := h; rfl) | (obtain ⟨_, _, _, _, _, _, rfl, _⟩ := h; rfl))
theorem good__law_stream (T : Txt P K mg) : Good P w K mg base "_law_stream" L__law_stream ["script"] F__law_stream := ok__law_stream T  (fun c ss os Q E hM h => run__law_stream T c ss os Q E hM h) (fun ss os R X h => by first | (obtain ⟨_, rfl, _⟩ := h; rfl) | (obtain ⟨_, _, rfl, _⟩ := h; rfl) | (obtain ⟨_, _, _, rfl, _⟩ := h; rfl) | (obtain ⟨_, _, _, _, rfl, _⟩ := h; rfl) | (obtain ⟨_, _, _, _, _, rfl, _⟩ := h; rfl) | (obtain ⟨_, _, _, _, _, _, rfl, _⟩ := h; rfl))
theorem good__law_draw (T : Txt P K mg) : Good P w K mg base "_law_draw" L__law_draw ["stream", "many"] F__law_draw := ok__law_draw T  (fun c ss os Q E hM h => run__law_draw T c ss os Q E hM h) (fun ss os R X h => by first | (obtain ⟨_, rfl, _⟩ := h; rfl) | (obtain ⟨_, _, rfl, _⟩ := h; rfl) | (obtain ⟨_, _, _, rfl, _⟩ := h; rfl) | (obtain ⟨_, _, _, _, rfl, _⟩ := h; rfl) | (obtain ⟨_, _, _, _, _, rfl, _⟩ := h; rfl) | (obtain ⟨_, _, _, _, _, _, rfl, _⟩ := h; rfl))
theorem good__law_kind (T : Txt P K mg) : Good P w K mg base "_law_kind" L__law_kind ["stream"] F__law_kind := ok__law_kind T (good__law_draw T) (fun c ss os Q E hM h => run__law_kind T c ss os Q E hM h) (fun ss os R X h => by first | (obtain ⟨_, rfl, _⟩ := h; rfl) | (obtain ⟨_, _, rfl, _⟩ := h; rfl) | (obtain ⟨_, _, _, rfl, _⟩ := h; rfl) | (obtain ⟨_, _, _, _, rfl, _⟩ := h; rfl) | (obtain ⟨_, _, _, _, _, rfl, _⟩ := h; rfl) | (obtain ⟨_, _, _, _, _, _, rfl, _⟩ := h; rfl))
theorem good__law_log (T : Txt P K mg) : Good P w K mg base "_law_log" L__law_log ["number"] F__law_log := ok__law_log T  (fun c ss os Q E hM h => run__law_log T c ss os Q E hM h) (fun ss os R X h => by first | (obtain ⟨_, rfl, _⟩ := h; rfl) | (obtain ⟨_, _, rfl, _⟩ := h; rfl) | (obtain ⟨_, _, _, rfl, _⟩ := h; rfl) | (obtain ⟨_, _, _, _, rfl, _⟩ := h; rfl) | (obtain ⟨_, _, _, _, _, rfl, _⟩ := h; rfl) | (obtain ⟨_, _, _, _, _, _, rfl, _⟩ := h; rfl))
theorem good__law_least (T : Txt P K mg) : Good P w K mg base "_law_least" L__law_least ["many", "strength"] F__law_least := ok__law_least T (good__law_log T) (fun c ss os Q E hM h => run__law_least T c ss os Q E hM h) (fun ss os R X h => by first | (obtain ⟨_, rfl, _⟩ := h; rfl) | (obtain ⟨_, _, rfl, _⟩ := h; rfl) | (obtain ⟨_, _, _, rfl, _⟩ := h; rfl) | (obtain ⟨_, _, _, _, rfl, _⟩ := h; rfl) | (obtain ⟨_, _, _, _, _, rfl, _⟩ := h; rfl) | (obtain ⟨_, _, _, _, _, _, rfl, _⟩ := h; rfl))
theorem good__law_due (T : Txt P K mg) : Good P w K mg base "_law_due" L__law_due ["kind", "many", "strength"] F__law_due := ok__law_due T (good__law_log T) (fun c ss os Q E hM h => run__law_due T c ss os Q E hM h) (fun ss os R X h => by first | (obtain ⟨_, rfl, _⟩ := h; rfl) | (obtain ⟨_, _, rfl, _⟩ := h; rfl) | (obtain ⟨_, _, _, rfl, _⟩ := h; rfl) | (obtain ⟨_, _, _, _, rfl, _⟩ := h; rfl) | (obtain ⟨_, _, _, _, _, rfl, _⟩ := h; rfl) | (obtain ⟨_, _, _, _, _, _, rfl, _⟩ := h; rfl))
theorem good__law_same (T : Txt P K mg) : Good P w K mg base "_law_same" L__law_same ["told", "due"] F__law_same := ok__law_same T  (fun c ss os Q E hM h => run__law_same T c ss os Q E hM h) (fun ss os R X h => by first | (obtain ⟨_, rfl, _⟩ := h; rfl) | (obtain ⟨_, _, rfl, _⟩ := h; rfl) | (obtain ⟨_, _, _, rfl, _⟩ := h; rfl) | (obtain ⟨_, _, _, _, rfl, _⟩ := h; rfl) | (obtain ⟨_, _, _, _, _, rfl, _⟩ := h; rfl) | (obtain ⟨_, _, _, _, _, _, rfl, _⟩ := h; rfl))
theorem good__law_long (T : Txt P K mg) : Good P w K mg base "_law_long" L__law_long ["stream", "groups"] F__law_long := ok__law_long T (good__law_draw T) (fun c ss os Q E hM h => run__law_long T c ss os Q E hM h) (fun ss os R X h => by first | (obtain ⟨_, rfl, _⟩ := h; rfl) | (obtain ⟨_, _, rfl, _⟩ := h; rfl) | (obtain ⟨_, _, _, rfl, _⟩ := h; rfl) | (obtain ⟨_, _, _, _, rfl, _⟩ := h; rfl) | (obtain ⟨_, _, _, _, _, rfl, _⟩ := h; rfl) | (obtain ⟨_, _, _, _, _, _, rfl, _⟩ := h; rfl))
theorem good__law_most (T : Txt P K mg) : Good P w K mg base "_law_most" L__law_most ["kind", "many", "merges"] F__law_most := ok__law_most T (good__law_due T) (good_most_strength T) (fun c ss os Q E hM h => run__law_most T c ss os Q E hM h) (fun ss os R X h => by first | (obtain ⟨_, rfl, _⟩ := h; rfl) | (obtain ⟨_, _, rfl, _⟩ := h; rfl) | (obtain ⟨_, _, _, rfl, _⟩ := h; rfl) | (obtain ⟨_, _, _, _, rfl, _⟩ := h; rfl) | (obtain ⟨_, _, _, _, _, rfl, _⟩ := h; rfl) | (obtain ⟨_, _, _, _, _, _, rfl, _⟩ := h; rfl))
theorem good__law_refused (T : Txt P K mg) : Good P w K mg base "_law_refused" L__law_refused ["which", "kind", "many", "number", "other"] F__law_refused := ok__law_refused T (good_most_strength T) (good_price T) (good_price_of_errors T) (fun c ss os Q E hM h => run__law_refused T c ss os Q E hM h) (fun ss os R X h => by first | (obtain ⟨_, rfl, _⟩ := h; rfl) | (obtain ⟨_, _, rfl, _⟩ := h; rfl) | (obtain ⟨_, _, _, rfl, _⟩ := h; rfl) | (obtain ⟨_, _, _, _, rfl, _⟩ := h; rfl) | (obtain ⟨_, _, _, _, _, rfl, _⟩ := h; rfl) | (obtain ⟨_, _, _, _, _, _, rfl, _⟩ := h; rfl))
theorem good__law_faults (T : Txt P K mg) : Good P w K mg base "_law_faults" L__law_faults ["stream", "kind"] F__law_faults := ok__law_faults T (good__law_draw T) (good__law_refused T) (fun c ss os Q E hM h => run__law_faults T c ss os Q E hM h) (fun ss os R X h => by first | (obtain ⟨_, rfl, _⟩ := h; rfl) | (obtain ⟨_, _, rfl, _⟩ := h; rfl) | (obtain ⟨_, _, _, rfl, _⟩ := h; rfl) | (obtain ⟨_, _, _, _, rfl, _⟩ := h; rfl) | (obtain ⟨_, _, _, _, _, rfl, _⟩ := h; rfl) | (obtain ⟨_, _, _, _, _, _, rfl, _⟩ := h; rfl))
theorem fn_law_ok {fd : FuncData} (FD : FunD K "law" "law" (defArgs s_law) (defBody s_law) (defScope s_law) [] [] (He.ga K "law") fd) (T : Txt P K mg) : FnOk P w K mg base (L2.CX P w) L_law (He.ga K "law") fd ["script"] (spOf K F_law) := okf_law FD T (good__law_draw T) (good__law_due T) (good__law_faults T) (good__law_kind T) (good__law_least T) (good__law_log T) (good__law_long T) (good__law_most T) (good__law_same T) (good__law_stream T) (good_part_bound T) (good_price T) (good_price_of_errors T) (fun c ss os Q E hM h => run_law T c ss os Q E hM h) (fun ss os R X h => by obtain ⟨_, rfl, _⟩ := h; rfl)
theorem the_law {P : Program} {w : World} {K : Fg} {h : Heap} {mg : Str → Option Value} {fa0 : Addr} (hP : P.main.file = mainFile) (hsup : (P.main.scope.names.lookup ("super" : Str)).isSome = false) (X : K.In h) (G : h.Ns mainGlobals mg) (hfa : mg ("law" : Str) = some (.ref fa0)) (c : HV.SaysV fa fn sx ex K) :
    ∃ (fd : FuncData), (∀ (s : Shared) (u : Value), BindsTo s fd ⟨[u], []⟩ [("script", u)]) ∧ ∀ base : Heap, K.In base → base.Ns mainGlobals mg → FnOk P w K mg base (L2.CX P w) L_law fa0 fd ["script"] (spOf K F_law) := by
  have T := txt (P := P) hP hsup X G c
  obtain ⟨fd, FD⟩ := T.fn_law
  have e := hfa.symm.trans T.m_law
  cases e
  have b := FunD.bindsA (ps := ["script"]) FD fun _ _ _ _ _ _ us hl => match us, hl with | [_], _ => rfl
  exact ⟨fd, fun s u => b s [u] rfl, fun base _ _ => fn_law_ok FD T⟩
end
end Z20
open PySem PySem.W PySem.Calls PyProof.Rows
theorem PySem.Challenge.cw_foldsunseen_k20_prices_holds : PySem.Challenge.rw_foldsunseen_k20_prices.Holds := by
  w_on; o_law
  refine HandSHeadRun.head_any (r := OpenLaw.row PySem.Challenge.rw_foldsunseen_k20_prices) (q := view (OpenLaw.row PySem.Challenge.rw_foldsunseen_k20_prices).prog [43]) (H := Z20.hk) (ob := Z20.ob) (M := 6000) (loose := Z20.names) (d := HandSHeadRun.topDef (OpenLaw.row PySem.Challenge.rw_foldsunseen_k20_prices).prog 43) (kwd := []) Z20.ob_eq
    (by kernel_rfl) (fun s => by kernel_rfl) Z20.run (by kernel_rfl) (by kernel_rfl) (by kernel_rfl) (by rfl) (by first | assumption | decide +kernel) (by decide +kernel) ⟨rfl, rfl, rfl, rfl, rfl, by decide +kernel⟩ ?hw ?hc
  case hw => w_witness2
  case hc =>
    refine VL.walk_ofV (l := PySem.Challenge.rw_foldsunseen_k20_prices) (n := 63) (k := Z20.L_law) (x := "script") rfl (by decide) (by kernel_rfl) ⟨rfl, by decide, by decide⟩ ?F
    intro w mg fa0 h Y G hmg0
    obtain ⟨K, KX, c⟩ := Y
    have hmg : mg ("law" : PySem.Str) = some (.ref fa0) := by
      have e : (HandSHeadRun.topDef (OpenLaw.row PySem.Challenge.rw_foldsunseen_k20_prices).prog 43).name = ("law" : PySem.Str) := by kernel_rfl
      rw [← e]
      exact hmg0
    obtain ⟨fd, hb, hF⟩ := Z20.the_law (P := (PySem.Challenge.rw_foldsunseen_k20_prices).prog) (w := w) (by kernel_rfl) (by kernel_rfl) KX G hmg c
    exact ⟨K, fd, VL.spOf K Z20.F_law, KX, hb, fun H a ns hl _ hS => VL.law_sp (fun ns R X hl q => ⟨ns, rfl, rfl, hl, q⟩) hl hS, hF⟩

