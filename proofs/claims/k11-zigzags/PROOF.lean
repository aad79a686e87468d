import PyProof.Rows.All
import Wide.All
import OpenK.AllK
import Wide.FinOn
import HandS.ForMost
import HandS.ForExc
import HandS.HeadHook2
import HandS.HeadHook3
import HandS.Head2
import HandS.HeadEnd
import HandS.Flow
import HandS.Steps
import HandS.DictComp
import HandS.SetKeys
import HandS.SortRule
import HandS.SortKw
import HandS.TupSets
import HandS.Strs
import HandS.IsInst
import HandS.Wide
import HandS.WideBits
import HandS.Defaults
import HandS.Style
import KE.KExcSuper
import HandS.HeadHook4
import HandS.New0
import HandS.CallSlots
import HandS.SortInts
import HandS.Conv
import HandS.SetFor
import PySem.Challenge.RW_foldsunseen_k11_zigzags
set_option Elab.async false
set_option linter.all false
set_option maxRecDepth 100000
set_option exponentiation.threshold 2000
set_option maxHeartbeats 4000000
/-! THE VALUE LAYER: data by type, an owned store, frames of slots. -/
namespace VL
open PySem PySem.Spec PyProof.Rows L2

abbrev Fg := PySem.W.Frag

/-! ### heaps -/
def Le (G H : Hp) : Prop := ∀ b o, G b = some o → H b = some o
theorem Le.refl (H : Hp) : Le H H := fun _ _ h => h
theorem Le.trans {G H I : Hp} (a : Le G H) (b : Le H I) : Le G I := fun x o h => b x o (a x o h)
theorem Le.free {G H : Hp} (a : Le G H) {b : Addr} (h : H b = none) : G b = none := by
  cases q : G b with
  | none => rfl
  | some o => rw [a b o q] at h; cases h
theorem Le.upd {H : Hp} {p : Addr} {o : HO} (h : H p = none) : Le H (upd H p o) := fun b u e => by
  rw [upd_ne (ne_of_none e h)]; exact e
theorem Le.upd2 {G H : Hp} {p : Addr} {o : HO} (a : Le G H) (h : G p = none) : Le G (L2.upd H p o) := fun b u e => by
  rw [upd_ne (ne_of_none e h)]; exact a b u e
theorem Le.both {G H : Hp} {p : Addr} {o : HO} (a : Le G H) : Le (L2.upd G p o) (L2.upd H p o) := fun b u e => by
  by_cases q : b = p
  · subst q; rw [upd_same] at e ⊢; exact e
  · rw [upd_ne q] at e ⊢; exact a b u e
theorem Le.rd {G H : Hp} {a : Addr} {u : HO} (l : Le G H) (r : Rd G a u) : Rd H a u := by
  rcases r with r | ⟨o, r⟩
  · exact .inl (l _ _ r)
  · exact .inr ⟨o, l _ _ r⟩
theorem Le.sqL {K : Fg} {G H : Hp} {a : Addr} {xs : List V} (l : Le G H) (r : SqL K G a xs) : SqL K H a xs := r.imp l.rd id
theorem Le.sqT {K : Fg} {G H : Hp} {a : Addr} {xs : List V} (l : Le G H) (r : SqT K G a xs) : SqT K H a xs := r.imp l.rd id

/-! ### pairs of lists -/
section
variable {α β : Type} {F G : α → β → Prop}
theorem pr_len : ∀ {l : List α} {m : List β}, Paired F l m → l.length = m.length
  | _, _, .nil => rfl
  | _, _, .cons _ t => congrArg Nat.succ (pr_len t)
theorem pr_mono (h : ∀ a b, F a b → G a b) : ∀ {l : List α} {m : List β}, Paired F l m → Paired G l m
  | _, _, .nil => .nil
  | _, _, .cons r t => .cons (h _ _ r) (pr_mono h t)
theorem pr_get : ∀ {l : List α} {m : List β} {i : Nat} {x : β}, Paired F l m → m[i]? = some x → ∃ v, l[i]? = some v ∧ F v x
  | _, _, _, _, .nil, e => by simp at e
  | _, _, 0, _, .cons r _, e => by simp at e; subst e; exact ⟨_, rfl, r⟩
  | _, _, i + 1, x, .cons _ t, e => by
    obtain ⟨u, h1, h2⟩ := pr_get (i := i) (x := x) t (by simpa using e)
    exact ⟨u, by simpa using h1, h2⟩
theorem pr_getL : ∀ {l : List α} {m : List β} {i : Nat} {v : α}, Paired F l m → l[i]? = some v → ∃ x, m[i]? = some x ∧ F v x
  | _, _, _, _, .nil, e => by simp at e
  | _, _, 0, _, .cons r _, e => by simp at e; subst e; exact ⟨_, rfl, r⟩
  | _, _, i + 1, x, .cons _ t, e => by
    obtain ⟨u, h1, h2⟩ := pr_getL (i := i) (v := x) t (by simpa using e)
    exact ⟨u, by simpa using h1, h2⟩
theorem pr_app : ∀ {l l' : List α} {m m' : List β}, Paired F l m → Paired F l' m' → Paired F (l ++ l') (m ++ m')
  | _, _, _, _, .nil, s => s
  | _, _, _, _, .cons r t, s => .cons r (pr_app t s)
theorem pr_one {a : α} {b : β} (h : F a b) : Paired F [a] [b] := .cons h .nil
theorem pr_take : ∀ {l : List α} {m : List β} (n : Nat), Paired F l m → Paired F (l.take n) (m.take n)
  | _, _, 0, _ => .nil
  | _, _, _ + 1, .nil => .nil
  | _, _, n + 1, .cons r t => .cons r (pr_take n t)
theorem pr_drop : ∀ {l : List α} {m : List β} (n : Nat), Paired F l m → Paired F (l.drop n) (m.drop n)
  | _, _, 0, r => r
  | _, _, _ + 1, .nil => .nil
  | _, _, n + 1, .cons _ t => pr_drop n t
theorem pr_set {x : α} {u : β} (r : F x u) : ∀ {xs : List α} {us : List β} (i : Nat), Paired F xs us → Paired F (xs.set i x) (us.set i u)
  | _, _, _, .nil => .nil
  | _, _, 0, .cons _ t => .cons r t
  | _, _, i + 1, .cons q t => .cons q (pr_set r i t)
theorem pr_rev {l : List α} {m : List β} (h : Paired F l m) : Paired F l.reverse m.reverse := by
  induction h with
  | nil => exact .nil
  | cons r _ ih => rw [List.reverse_cons, List.reverse_cons]; exact pr_app ih (pr_one r)
theorem pr_dropLast {l : List α} {m : List β} (h : Paired F l m) : Paired F l.dropLast m.dropLast := by
  rw [List.dropLast_eq_take, List.dropLast_eq_take, pr_len h]; exact pr_take _ h
theorem pr_of {l : List α} {m : List β} (hl : l.length = m.length) (h : ∀ (i : Nat) (v : α) (x : β), l[i]? = some v → m[i]? = some x → F v x) : Paired F l m := by
  induction l generalizing m with
  | nil => cases m with
    | nil => exact .nil
    | cons _ _ => simp at hl
  | cons a l ih => cases m with
    | nil => simp at hl
    | cons b m =>
      refine .cons (h 0 a b rfl rfl) (ih (by simpa using hl) fun i v x h1 h2 => h (i + 1) v x (by simpa using h1) (by simpa using h2))
theorem pr_map {γ δ : Type} {G : γ → δ → Prop} (f : α → γ) (g : β → δ) (h : ∀ a b, F a b → G (f a) (g b)) : ∀ {l : List α} {m : List β}, Paired F l m → Paired G (l.map f) (m.map g)
  | _, _, .nil => .nil
  | _, _, .cons r t => .cons (h _ _ r) (pr_map f g h t)
end

/-! ### data -/
class Rp (α : Type) where
  rep : Fg → Hp → V → α → Prop
  mono : ∀ {K : Fg} {G G' : Hp} {v : V} {x : α}, Le G G' → rep K G v x → rep K G' v x
abbrev Reps {α : Type} [Rp α] (K : Fg) (G : Hp) : List V → List α → Prop := Paired (Rp.rep K G)
theorem Reps.mono {α : Type} [Rp α] {K : Fg} {G G' : Hp} (l : Le G G') {vs : List V} {xs : List α} (h : Reps K G vs xs) : Reps K G' vs xs := pr_mono (fun _ _ => Rp.mono l) h
instance : Rp Int := ⟨fun _ _ v x => v = .int x, fun _ h => h⟩
instance : Rp Bool := ⟨fun _ _ v x => v = .bl x, fun _ h => h⟩
instance : Rp Str := ⟨fun _ _ v x => v = .str x, fun _ h => h⟩
instance : Rp Unit := ⟨fun _ _ v _ => v = .non, fun _ h => h⟩
instance {α : Type} [Rp α] : Rp (Option α) := ⟨fun K G v o => match o with
  | none => v = .non
  | some x => Rp.rep K G v x, fun {K G G' v o} l h => by
    cases o with
    | none => exact h
    | some x => exact Rp.mono l h⟩
instance {α β : Type} [Rp α] [Rp β] : Rp (Sum α β) := ⟨fun K G v o => match o with
  | .inl x => Rp.rep K G v x
  | .inr x => Rp.rep K G v x, fun {K G G' v o} l h => by
    cases o with
    | inl x => exact Rp.mono l (x := x) h
    | inr x => exact Rp.mono l (x := x) h⟩
/-- a list; a tuple of any length; tuples of two, three, four -/
instance {α : Type} [Rp α] : Rp (List α) := ⟨fun K G v xs => ∃ a vs, v = .ref a ∧ SqL K G a vs ∧ Reps K G vs xs, fun l ⟨a, vs, e, s, r⟩ => ⟨a, vs, e, l.sqL s, Reps.mono l r⟩⟩
structure Tup (α : Type) where
  l : List α
  deriving DecidableEq
instance {α : Type} [Rp α] : Rp (Tup α) := ⟨fun K G v xs => ∃ a vs, v = .ref a ∧ SqT K G a vs ∧ Reps K G vs xs.l, fun l ⟨a, vs, e, s, r⟩ => ⟨a, vs, e, l.sqT s, Reps.mono l r⟩⟩
structure T2 (α β : Type) where
  a : α
  b : β
  deriving DecidableEq
structure T3 (α β γ : Type) where
  a : α
  b : β
  c : γ
  deriving DecidableEq
instance {α β : Type} [Rp α] [Rp β] : Rp (T2 α β) := ⟨fun K G v x => ∃ t v1 v2, v = .ref t ∧ SqT K G t [v1, v2] ∧ Rp.rep K G v1 x.a ∧ Rp.rep K G v2 x.b,
  fun l ⟨t, v1, v2, e, s, r1, r2⟩ => ⟨t, v1, v2, e, l.sqT s, Rp.mono l r1, Rp.mono l r2⟩⟩
instance {α β γ : Type} [Rp α] [Rp β] [Rp γ] : Rp (T3 α β γ) := ⟨fun K G v x => ∃ t v1 v2 v3, v = .ref t ∧ SqT K G t [v1, v2, v3] ∧ Rp.rep K G v1 x.a ∧ Rp.rep K G v2 x.b ∧ Rp.rep K G v3 x.c,
  fun l ⟨t, v1, v2, v3, e, s, r1, r2, r3⟩ => ⟨t, v1, v2, v3, e, l.sqT s, Rp.mono l r1, Rp.mono l r2, Rp.mono l r3⟩⟩
/-- keys of dicts -/
class KeyT (κ : Type) where
  key : κ → Key
  inj : ∀ a b, key a = key b → a = b
instance : KeyT Int := ⟨Sum.inl, fun _ _ h => Sum.inl.inj h⟩
instance : KeyT Str := ⟨Sum.inr, fun _ _ h => Sum.inr.inj h⟩
class KeyR (κ : Type) [KeyT κ] [Rp κ] : Prop where
  to : ∀ (K : Fg) (G : Hp) (v : V) (k : κ), Rp.rep K G v k → v = kV (KeyT.key k)
  of : ∀ (K : Fg) (G : Hp) (k : κ), Rp.rep K G (kV (KeyT.key k)) k
instance : KeyR Int := ⟨fun _ _ _ _ h => h, fun _ _ _ => rfl⟩
instance : KeyR Str := ⟨fun _ _ _ _ h => h, fun _ _ _ => rfl⟩
structure Dct (κ α : Type) where
  l : List (κ × α)
abbrev KvOk {κ α : Type} [KeyT κ] [Rp α] (K : Fg) (G : Hp) : List (Key × V) → List (κ × α) → Prop := Paired fun p q => p.1 = KeyT.key q.1 ∧ Rp.rep K G p.2 q.2
theorem KvOk.mono {κ α : Type} [KeyT κ] [Rp α] {K : Fg} {G G' : Hp} (l : Le G G') {vs : List (Key × V)} {xs : List (κ × α)} (h : KvOk K G vs xs) : KvOk K G' vs xs := pr_mono (fun _ _ q => ⟨q.1, Rp.mono l q.2⟩) h
instance {κ α : Type} [KeyT κ] [Rp α] : Rp (Dct κ α) := ⟨fun K G v d => ∃ a kvs, v = .ref a ∧ Rd G a (.dK kvs) ∧ KvOk K G kvs d.l, fun l ⟨a, vs, e, s, r⟩ => ⟨a, vs, e, l.rd s, KvOk.mono l r⟩⟩

/-! ### slots, containers -/
inductive Slot : Type 1
  | u
  | d {α : Type} [i : Rp α] (x : α)
  | p (k : Nat)
inductive Cont : Type 1
  | gone
  | lst {α : Type} [i : Rp α] (xs : List α)
  | dct {κ α : Type} [j : KeyT κ] [i : Rp α] (kvs : List (κ × α))
  | obj (C : Str) (fs : List (Str × Slot))

/-- a value is what the slot says -/
def VOk (K : Fg) (as : List Addr) (G : Hp) (v : V) : Slot → Prop
  | .u => True
  | @Slot.d α i x => @Rp.rep α i K G v x
  | .p k => ∃ a, as[k]? = some a ∧ v = .ref a
def FOk (K : Fg) (as : List Addr) (G : Hp) (y : Option (Option V)) : Slot → Prop
  | .u => True
  | @Slot.d α i x => ∃ v, y = some (some v) ∧ @Rp.rep α i K G v x
  | .p k => ∃ a, as[k]? = some a ∧ y = some (some (.ref a))
def FldsOk (K : Fg) (as : List Addr) (G : Hp) : List (Str × V) → List (Str × Slot) → Prop
  | [], [] => True
  | (f, v) :: l, (g, s) :: m => f = g ∧ VOk K as G v s ∧ FldsOk K as G l m
  | _, _ => False
def COk (K : Fg) (as : List Addr) (G : Hp) (ob : Option HO) : Cont → Prop
  | .gone => True
  | @Cont.lst α i xs => ∃ vs, ob = some (.lst vs) ∧ @Reps α i K G vs xs
  | @Cont.dct κ α j i kvs => ∃ vs, ob = some (.dK vs) ∧ @KvOk κ α j i K G vs kvs
  | .obj C fs => ∃ dx fvs, ob = some (.ins (He.ga K C) dx fvs) ∧ FldsOk K as G fvs fs

def Pre (as as' : List Addr) : Prop := ∃ more, as' = as ++ more
theorem Pre.refl (as : List Addr) : Pre as as := ⟨[], by simp⟩
theorem Pre.trans {a b c : List Addr} (x : Pre a b) (y : Pre b c) : Pre a c := by
  obtain ⟨m, rfl⟩ := x
  obtain ⟨n, rfl⟩ := y
  exact ⟨m ++ n, by simp⟩
theorem Pre.get {as as' : List Addr} (x : Pre as as') {k : Nat} {a : Addr} (h : as[k]? = some a) : as'[k]? = some a := by
  obtain ⟨m, rfl⟩ := x
  have hk := (List.getElem?_eq_some_iff.mp h).1
  rw [List.getElem?_append_left hk]; exact h

theorem VOk.mono {K : Fg} {as as' : List Addr} {G G' : Hp} {v : V} {s : Slot} (p : Pre as as') (l : Le G G') (h : VOk K as G v s) : VOk K as' G' v s := by
  cases s with
  | u => trivial
  | d x => exact Rp.mono (x := x) l (show Rp.rep K G v x from h)
  | p k => obtain ⟨a, h1, h2⟩ := h; exact ⟨a, p.get h1, h2⟩
theorem FOk.mono {K : Fg} {as as' : List Addr} {G G' : Hp} {y : Option (Option V)} {s : Slot} (p : Pre as as') (l : Le G G') (h : FOk K as G y s) : FOk K as' G' y s := by
  cases s with
  | u => trivial
  | d x => obtain ⟨v, h1, h2⟩ := h; exact ⟨v, h1, Rp.mono l h2⟩
  | p k => obtain ⟨a, h1, h2⟩ := h; exact ⟨a, p.get h1, h2⟩
theorem FOk.of {K : Fg} {as : List Addr} {G : Hp} {v : V} {s : Slot} (h : VOk K as G v s) : FOk K as G (some (some v)) s := by
  cases s with
  | u => trivial
  | d x => exact ⟨v, rfl, h⟩
  | p k => obtain ⟨a, h1, rfl⟩ := h; exact ⟨a, h1, rfl⟩
theorem FldsOk.mono {K : Fg} {as as' : List Addr} {G G' : Hp} (p : Pre as as') (l : Le G G') : ∀ {fvs : List (Str × V)} {fs : List (Str × Slot)}, FldsOk K as G fvs fs → FldsOk K as' G' fvs fs
  | [], [], _ => trivial
  | (_, _) :: _, (_, _) :: _, ⟨e, h, t⟩ => ⟨e, h.mono p l, FldsOk.mono p l t⟩
theorem COk.mono {K : Fg} {as as' : List Addr} {G G' : Hp} {ob : Option HO} {c : Cont} (p : Pre as as') (l : Le G G') (h : COk K as G ob c) : COk K as' G' ob c := by
  cases c with
  | gone => trivial
  | lst xs => obtain ⟨vs, e, r⟩ := h; exact ⟨vs, e, Reps.mono l r⟩
  | dct xs => obtain ⟨vs, e, r⟩ := h; exact ⟨vs, e, KvOk.mono l r⟩
  | obj C fs => obtain ⟨dx, fvs, e, r⟩ := h; exact ⟨dx, fvs, e, r.mono p l⟩

/-! ### the state -/
/-- a def's entry: its heap, the data that its arguments lean on, the addresses of the containers that it was handed -/
structure Cx0 where
  H : Hp
  G : Hp
  M : List Addr
def sget (sds : List Slot) (i : Nat) : Slot := sds.getD i .u
def cget (os : List Cont) (k : Nat) : Cont := os.getD k .gone
def Cont.live : Cont → Prop
  | .gone => False
  | _ => True
structure Abs (K : Fg) (c : Cx0) (as : List Addr) (G : Hp) (σ : L2.St) (H : Hp) (sds : List Slot) (os : List Cont) : Prop where
  sub : Le G H
  g0 : Le c.G G
  old : ∀ b o, c.H b = some o → b ∉ c.M → H b = some o
  new : ∀ b o, G b = some o → c.G b = some o ∨ c.H b = none
  pre : Pre c.M as
  nd : as.Nodup
  asz : as.length = os.length
  asf : ∀ a ∈ as, H a ≠ none ∧ (a ∈ c.M ∨ c.H a = none)
  lv : ∀ (k : Nat) (a : Addr), as[k]? = some a → (cget os k).live → G a = none
  fr : ∀ i, FOk K as G (σ[i]?) (sget sds i)
  st : ∀ (k : Nat) (a : Addr), as[k]? = some a → COk K as G (H a) (cget os k)
  len : σ.length = sds.length

/-! ### small facts of lists -/
theorem sget_set (sds : List Slot) (i j : Nat) (s : Slot) (h : i < sds.length) : sget (sds.set i s) j = if j = i then s else sget sds j := by
  unfold sget
  rw [List.getD_eq_getElem?_getD, List.getD_eq_getElem?_getD, List.getElem?_set]
  by_cases e : i = j
  · subst e; rw [if_pos rfl, if_pos h, if_pos rfl]; rfl
  · rw [if_neg e, if_neg (fun z => e z.symm)]
theorem cget_set (os : List Cont) (i j : Nat) (s : Cont) (h : i < os.length) : cget (os.set i s) j = if j = i then s else cget os j := by
  unfold cget
  rw [List.getD_eq_getElem?_getD, List.getD_eq_getElem?_getD, List.getElem?_set]
  by_cases e : i = j
  · subst e; rw [if_pos rfl, if_pos h, if_pos rfl]; rfl
  · rw [if_neg e, if_neg (fun z => e z.symm)]
theorem cget_app (os : List Cont) (c : Cont) (j : Nat) : cget (os ++ [c]) j = if j = os.length then c else cget os j := by
  unfold cget
  rw [List.getD_eq_getElem?_getD, List.getD_eq_getElem?_getD]
  by_cases e : j = os.length
  · subst e; rw [if_pos rfl, List.getElem?_concat_length]; rfl
  · rw [if_neg e]
    by_cases h : j < os.length
    · rw [List.getElem?_append_left h]
    · rw [List.getElem?_eq_none (by simp; omega), List.getElem?_eq_none (by omega)]
theorem sget_ge {sds : List Slot} {i : Nat} (h : sds.length ≤ i) : sget sds i = .u := by
  unfold sget; rw [List.getD_eq_getElem?_getD, List.getElem?_eq_none h]; rfl
theorem nd_get {as : List Addr} (h : as.Nodup) {i j : Nat} {a : Addr} (hi : as[i]? = some a) (hj : as[j]? = some a) : i = j := nd_ix h hi hj

/-! ### what changes a state -/
section
variable {K : Fg} {c : Cx0} {as : List Addr} {G H : Hp} {σ : L2.St} {sds : List Slot} {os : List Cont}
theorem Abs.notin (A : Abs K c as G σ H sds os) {p : Addr} (h : H p = none) : p ∉ as := fun m => (A.asf p m).1 h
theorem Abs.hfree (A : Abs K c as G σ H sds os) {p : Addr} (h : H p = none) : c.H p = none ∨ p ∈ c.M := by
  by_cases m : p ∈ c.M
  · exact .inr m
  · refine .inl ?_
    cases q : c.H p with
    | none => rfl
    | some o => rw [A.old p o q m] at h; cases h
theorem Abs.hfree' (A : Abs K c as G σ H sds os) {p : Addr} (h : H p = none) : c.H p = none := by
  rcases A.hfree h with q | q
  · exact q
  · obtain ⟨m, e⟩ := A.pre
    exact absurd (show p ∈ as by rw [e]; exact List.mem_append_left _ q) (A.notin h)
/-- the store's heap is untouched by a new address -/
theorem Abs.newD (A : Abs K c as G σ H sds os) {p : Addr} {o : HO} (h : H p = none) : Abs K c as (upd G p o) σ (upd H p o) sds os := by
  have hG : G p = none := A.sub.free h
  have hl : Le G (upd G p o) := Le.upd hG
  refine ⟨A.sub.both, A.g0.trans hl, fun b u e m => ?_, fun b u e => ?_, A.pre, A.nd, A.asz, fun a m => ?_, fun k a e l => ?_, fun i => (A.fr i).mono (Pre.refl _) hl, fun k a e => ?_, A.len⟩
  · rw [upd_ne (ne_of_none (A.old b u e m) h)]; exact A.old b u e m
  · by_cases q : b = p
    · subst q; exact .inr (A.hfree' h)
    · rw [upd_ne q] at e; exact A.new b u e
  · have np : a ≠ p := fun z => A.notin h (z ▸ m)
    rw [upd_ne np]; exact A.asf a m
  · have np : a ≠ p := fun z => A.notin h (z ▸ List.mem_of_getElem? e)
    rw [upd_ne np]; exact A.lv k a e l
  · have np : a ≠ p := fun z => A.notin h (z ▸ List.mem_of_getElem? e)
    rw [upd_ne np]; exact (A.st k a e).mono (Pre.refl _) hl
/-- a new container -/
theorem Abs.newP (A : Abs K c as G σ H sds os) {p : Addr} {o : HO} {ct : Cont} (h : H p = none) (hc : COk K as G (some o) ct) : Abs K c (as ++ [p]) G σ (upd H p o) sds (os ++ [ct]) := by
  have hG : G p = none := A.sub.free h
  have hp : Pre as (as ++ [p]) := ⟨[p], rfl⟩
  have gt : ∀ {k : Nat} {a : Addr}, (as ++ [p])[k]? = some a → (k = as.length ∧ a = p) ∨ (k ≠ as.length ∧ as[k]? = some a) := fun {k a} e => by
    by_cases q : k < as.length
    · rw [List.getElem?_append_left q] at e; exact .inr ⟨by omega, e⟩
    · have hk := (List.getElem?_eq_some_iff.mp e).1
      rw [List.length_append, List.length_singleton] at hk
      have ek : k = as.length := by omega
      subst ek
      rw [List.getElem?_concat_length] at e
      exact .inl ⟨rfl, (Option.some.inj e).symm⟩
  refine ⟨A.sub.upd2 hG, A.g0, fun b u e m => ?_, A.new, A.pre.trans hp, ?_, by simp [A.asz], fun a m => ?_, fun k a e l => ?_, fun i => (A.fr i).mono hp (Le.refl _), fun k a e => ?_, A.len⟩
  · rw [upd_ne (ne_of_none (A.old b u e m) h)]; exact A.old b u e m
  · exact List.nodup_append.mpr ⟨A.nd, by simp, fun a ha b hb => by
      have eb : b = p := by simpa using hb
      subst eb
      exact fun z => A.notin h (z ▸ ha)⟩
  · rcases List.mem_append.mp m with m | m
    · have np : a ≠ p := fun z => A.notin h (z ▸ m)
      rw [upd_ne np]; exact A.asf a m
    · have ea : a = p := by simpa using m
      subst ea
      rw [upd_same]; exact ⟨by simp, .inr (A.hfree' h)⟩
  · rcases gt e with ⟨ek, ea⟩ | ⟨ek, ea⟩
    · rw [ea]; exact hG
    · rw [cget_app, if_neg (by rw [← A.asz]; exact ek)] at l
      exact A.lv k a ea l
  · rcases gt e with ⟨ek, ea⟩ | ⟨ek, ea⟩
    · rw [ea, upd_same, cget_app, if_pos (by rw [← A.asz]; exact ek)]
      exact hc.mono hp (Le.refl _)
    · have np : a ≠ p := fun z => A.notin h (z ▸ List.mem_of_getElem? ea)
      rw [upd_ne np, cget_app, if_neg (by rw [← A.asz]; exact ek)]
      exact (A.st k a ea).mono hp (Le.refl _)
/-- a container is changed in its place -/
theorem Abs.put (A : Abs K c as G σ H sds os) {k : Nat} {a : Addr} {o : HO} {ct : Cont} (ha : as[k]? = some a) (hl : (cget os k).live) (hc : COk K as G (some o) ct) : Abs K c as G σ (upd H a o) sds (os.set k ct) := by
  have hG : G a = none := A.lv k a ha hl
  have hm : a ∈ as := List.mem_of_getElem? ha
  have hk : k < os.length := by rw [← A.asz]; exact (List.getElem?_eq_some_iff.mp ha).1
  refine ⟨A.sub.upd2 hG, A.g0, fun b u e m => ?_, A.new, A.pre, A.nd, by simp [A.asz], fun b m => ?_, fun j b e l => ?_, A.fr, fun j b e => ?_, A.len⟩
  · have nb : b ≠ a := fun z => by
      subst z
      rcases (A.asf b hm).2 with q | q
      · exact m q
      · rw [q] at e; cases e
    rw [upd_ne nb]; exact A.old b u e m
  · by_cases q : b = a
    · subst q; rw [upd_same]; exact ⟨by simp, (A.asf b hm).2⟩
    · rw [upd_ne q]; exact A.asf b m
  · rw [cget_set _ _ _ _ hk] at l
    by_cases q : j = k
    · subst q
      have eb : b = a := Option.some.inj (e.symm.trans ha)
      rw [eb]; exact hG
    · rw [if_neg q] at l; exact A.lv j b e l
  · rw [cget_set _ _ _ _ hk]
    by_cases q : j = k
    · subst q
      have eb : b = a := Option.some.inj (e.symm.trans ha)
      rw [eb, upd_same, if_pos rfl]; exact hc
    · have nb : b ≠ a := fun z => q (nd_get A.nd e (z ▸ ha))
      rw [upd_ne nb, if_neg q]; exact A.st j b e
/-- a container of the def's own is frozen: it is data from now on -/
theorem Abs.frz (A : Abs K c as G σ H sds os) {k : Nat} {a : Addr} {o : HO} (ha : as[k]? = some a) (hk0 : c.M.length ≤ k) (ho : H a = some o) : Abs K c as (upd G a o) σ H sds (os.set k .gone) ∧ Le G (upd G a o) := by
  have hm : a ∈ as := List.mem_of_getElem? ha
  have hk : k < os.length := by rw [← A.asz]; exact (List.getElem?_eq_some_iff.mp ha).1
  have hl : Le G (upd G a o) := fun b u e => by
    by_cases q : b = a
    · subst q; rw [upd_same, ← ho]; exact A.sub b u e
    · rw [upd_ne q]; exact e
  have nM : a ∉ c.M := fun m => by
    obtain ⟨more, e⟩ := A.pre
    obtain ⟨j, hj, ej⟩ := List.mem_iff_getElem.mp m
    have e2 : as[j]? = some a := by rw [e, List.getElem?_append_left hj, List.getElem?_eq_getElem hj, ej]
    have := nd_get A.nd e2 ha
    omega
  have hH : c.H a = none := (A.asf a hm).2.resolve_left nM
  refine ⟨⟨fun b u e => ?_, A.g0.trans hl, A.old, fun b u e => ?_, A.pre, A.nd, by simp [A.asz], A.asf, fun j b e l => ?_, fun i => (A.fr i).mono (Pre.refl _) hl, fun j b e => ?_, A.len⟩, hl⟩
  · by_cases q : b = a
    · subst q; rw [upd_same] at e; rw [ho]; exact e
    · rw [upd_ne q] at e; exact A.sub b u e
  · by_cases q : b = a
    · subst q; exact .inr hH
    · rw [upd_ne q] at e; exact A.new b u e
  · rw [cget_set _ _ _ _ hk] at l
    by_cases q : j = k
    · rw [if_pos q] at l; exact l.elim
    · rw [if_neg q] at l
      have nb : b ≠ a := fun z => q (nd_get A.nd e (z ▸ ha))
      rw [upd_ne nb]; exact A.lv j b e l
  · rw [cget_set _ _ _ _ hk]
    by_cases q : j = k
    · rw [if_pos q]; trivial
    · rw [if_neg q]; exact (A.st j b e).mono (Pre.refl _) hl
/-- a slot is set -/
theorem Abs.set (A : Abs K c as G σ H sds os) {i : Nat} {v : V} {s : Slot} (hi : i < sds.length) (h : VOk K as G v s) : Abs K c as G (σ.set i (some v)) H (sds.set i s) os := by
  refine ⟨A.sub, A.g0, A.old, A.new, A.pre, A.nd, A.asz, A.asf, A.lv, fun j => ?_, A.st, by simp [A.len]⟩
  rw [sget_set _ _ _ _ hi, List.getElem?_set]
  by_cases q : i = j
  · subst q
    rw [if_pos rfl, if_pos rfl, if_pos (by rw [A.len]; exact hi)]
    exact FOk.of h
  · rw [if_neg q, if_neg (fun z => q z.symm)]; exact A.fr j
/-- slots may be forgotten, or read otherwise -/
theorem Abs.slots (A : Abs K c as G σ H sds os) {sds' : List Slot} (hl : sds'.length = sds.length) (h : ∀ i y, FOk K as G y (sget sds i) → FOk K as G y (sget sds' i)) : Abs K c as G σ H sds' os :=
  ⟨A.sub, A.g0, A.old, A.new, A.pre, A.nd, A.asz, A.asf, A.lv, fun j => h j _ (A.fr j), A.st, by rw [hl]; exact A.len⟩
/-- the store's tail is let go -/
theorem Abs.trim (A : Abs K c as G σ H sds os) (n : Nat) (hn : c.M.length ≤ n) (hs : ∀ i k, sget sds i = .p k → k < n) (hc : ∀ j, j < n → ∀ C fs, cget os j = .obj C fs → ∀ q ∈ fs, ∀ k, q.2 = .p k → k < n) :
    Abs K c (as.take n) G σ H sds (os.take n) := by
  have gt : ∀ {k : Nat} {a : Addr}, (as.take n)[k]? = some a → k < n ∧ as[k]? = some a := fun {k a} e => by
    have hk := (List.getElem?_eq_some_iff.mp e).1
    rw [List.length_take] at hk
    rw [List.getElem?_take_of_lt (by omega)] at e
    exact ⟨by omega, e⟩
  have cg : ∀ k, k < n → cget (os.take n) k = cget os k := fun k hk => by
    unfold cget
    rw [List.getD_eq_getElem?_getD, List.getD_eq_getElem?_getD, List.getElem?_take_of_lt hk]
  have keepP : ∀ {k : Nat} {a : Addr}, k < n → as[k]? = some a → (as.take n)[k]? = some a := fun {k a} hk e => by
    rw [List.getElem?_take_of_lt hk]; exact e
  have flds : ∀ {fvs : List (Str × V)} {fs : List (Str × Slot)}, (∀ q ∈ fs, ∀ k, q.2 = .p k → k < n) → FldsOk K as G fvs fs → FldsOk K (as.take n) G fvs fs := by
    intro fvs
    induction fvs with
    | nil => intro fs _ h; cases fs <;> first | exact h | exact h.elim
    | cons p fvs ih =>
      intro fs hq h
      cases fs with
      | nil => exact h.elim
      | cons q fs =>
        obtain ⟨f, v⟩ := p
        obtain ⟨g, s⟩ := q
        obtain ⟨h1, h2, h3⟩ := h
        refine ⟨h1, ?_, ih (fun q hm => hq q (List.mem_cons_of_mem _ hm)) h3⟩
        cases s with
        | u => trivial
        | d x => exact h2
        | p k =>
          obtain ⟨a, e1, e2⟩ := h2
          exact ⟨a, keepP (hq _ (List.mem_cons_self ..) k rfl) e1, e2⟩
  refine ⟨A.sub, A.g0, A.old, A.new, ?_, A.nd.sublist (List.take_sublist _ _), by simp [A.asz], fun a m => A.asf a (List.mem_of_mem_take m), fun k a e l => ?_, fun i => ?_, fun k a e => ?_, A.len⟩
  · obtain ⟨more, e⟩ := A.pre
    refine ⟨more.take (n - c.M.length), ?_⟩
    rw [e, List.take_append, List.take_of_length_le hn]
  · obtain ⟨hk, e'⟩ := gt e
    rw [cg k hk] at l; exact A.lv k a e' l
  · have f := A.fr i
    cases q : sget sds i with
    | u => trivial
    | d x => rw [q] at f; exact f
    | p k =>
      rw [q] at f
      obtain ⟨a, e1, e2⟩ := f
      exact ⟨a, keepP (hs i k q) e1, e2⟩
  · obtain ⟨hk, e'⟩ := gt e
    rw [cg k hk]
    have f := A.st k a e'
    cases q : cget os k with
    | gone => trivial
    | lst xs => rw [q] at f; exact f
    | dct xs => rw [q] at f; exact f
    | obj C fs =>
      rw [q] at f
      obtain ⟨dx, fvs, e1, e2⟩ := f
      exact ⟨dx, fvs, e1, flds (hc k hk C fs q) e2⟩
/-- no frame at all -/
theorem Abs.bare (A : Abs K c as G σ H sds os) : Abs K c as G [] H [] os :=
  ⟨A.sub, A.g0, A.old, A.new, A.pre, A.nd, A.asz, A.asf, A.lv, fun j => trivial, A.st, rfl⟩
end
end VL

set_option maxHeartbeats 4000000
/-! THE VALUE LAYER 1: operators for all kinds at once; what an expression is worth. -/
namespace VL
open PySem PySem.Spec PyProof.Rows L2

/-! ### operators, whatever the kinds -/
section
variable {X : Cx}
def uAdd (K : Fg) : R2 := fun x y H Q => rI0 (fun i j => .int (i + j)) x y H Q ∨ rCat x y H Q ∨ rCatT K x y H Q
theorem op_uAdd : OpR X (binaryOp .Add) (uAdd X.K) := op_add.or (op_cat.or op_catT)
def uSub : R2 := rI0 fun i j => .int (i - j)
theorem op_uSub : OpR X (binaryOp .Sub) uSub := op_sub
def uMul : R2 := fun x y H Q => rI CMul (fun i j => .int (i * j)) x y H Q ∨ rI CMulW (fun i j => .int (i * j)) x y H Q ∨ rRep x y H Q
theorem op_uMul : OpR X (binaryOp .Mult) uMul := op_mul.or (op_mulW.or op_rep)
def uDiv : R2 := fun x y H Q => rI CDiv (fun i j => .int (i / j)) x y H Q ∨ rI CDivW (fun i j => .int (i / j)) x y H Q
theorem op_uDiv : OpR X (binaryOp .FloorDiv) uDiv := op_fdiv.or op_fdivW
def uMod : R2 := rI (fun _ j => 0 < j) fun i j => .int (i % j)
theorem op_uMod : OpR X (binaryOp .Mod) uMod := op_mod
def uPow : R2 := rI CPow fun i j => .int (i ^ j.toNat)
theorem op_uPow : OpR X (binaryOp .Pow) uPow := op_pow
def uEq (K : Fg) : R2 := fun x y H Q => rEq x y H Q ∨ rEqD K x y H Q
theorem op_uEq (hu : X.A.units + 64 < cLine) : OpR X (compareOp .Eq) (uEq X.K) := op_eq.or (op_eqD hu)
def uNe (K : Fg) : R2 := fun x y H Q => rNe x y H Q ∨ rNeD K x y H Q
theorem op_uNe (hu : X.A.units + 64 < cLine) : OpR X (compareOp .NotEq) (uNe X.K) := op_ne.or (op_neD hu)
def uLt : R2 := rI0 fun i j => .bl (decide (i < j))
def uLe : R2 := rI0 fun i j => .bl (decide (i ≤ j))
def uGt : R2 := rI0 fun i j => .bl (decide (j < i))
def uGe : R2 := rI0 fun i j => .bl (decide (j ≤ i))
theorem op_uLt : OpR X (compareOp .Lt) uLt := op_lt
theorem op_uLe : OpR X (compareOp .LtE) uLe := op_le
theorem op_uGt : OpR X (compareOp .Gt) uGt := op_gt
theorem op_uGe : OpR X (compareOp .GtE) uGe := op_ge
def uIs : R2 := fun x y H Q => y = .non ∧ Q (.bl (decide (x = .non))) H
def uIsN : R2 := fun x y H Q => y = .non ∧ Q (.bl (!decide (x = .non))) H
theorem op_uIs : OpR X (compareOp .Is) uIs := op_isN
theorem op_uIsN : OpR X (compareOp .IsNot) uIsN := op_notN
/-- a comparison's rule -/
theorem pc_of {op : CmpOp} {r : R2} {a b : Expr} {ta tb : TE} (ho : OpR X (compareOp op) r) (ha : PE X a ta) (hb : PE X b tb) : PC X op a b (tOp r ta tb) :=
  ⟨fun pins s σ H Q I h => binT ha hb I h fun v u s2 x y H2 I2 rx ry q => ho pins s2 σ H2 x y v u Q I2 rx ry q⟩
theorem pc_or {op : CmpOp} {a b : Expr} {t t' : TE} (h : PC X op a b t) (h' : PC X op a b t') : PC X op a b (fun σ H Q => t σ H Q ∨ t' σ H Q) :=
  ⟨fun pins s σ H Q I q => q.elim (h.run pins s σ H Q I) (h'.run pins s σ H Q I)⟩
theorem pe_or {e : Expr} {t t' : TE} (h : PE X e t) (h' : PE X e t') : PE X e (fun σ H Q => t σ H Q ∨ t' σ H Q) :=
  ⟨fun pins s σ H Q I q => q.elim (h.run pins s σ H Q I) (h'.run pins s σ H Q I)⟩
def uIn (K : Fg) (ta tb : TE) : TE := fun σ H Q => tOp (rIn K false) ta tb σ H Q ∨ tDIn ta tb σ H Q
def uNotIn (K : Fg) (ta tb : TE) : TE := fun σ H Q => tOp (rIn K true) ta tb σ H Q ∨ tDNotIn ta tb σ H Q
theorem pc_uIn {a b : Expr} {ta tb : TE} (hu : X.A.units + 1 < cLine) (ha : PE X a ta) (hb : PE X b tb) : PC X .In a b (uIn X.K ta tb) := pc_or (pc_of op_in_seq ha hb) (pc_din hu ha hb)
theorem pc_uNotIn {a b : Expr} {ta tb : TE} (hu : X.A.units + 1 < cLine) (ha : PE X a ta) (hb : PE X b tb) : PC X .NotIn a b (uNotIn X.K ta tb) := pc_or (pc_of op_notIn_seq ha hb) (pc_dnotin hu ha hb)
/-- a[i] -/
def uIx (K : Fg) (ta tb : TE) : TE := fun σ H Q => tOp (rIx K) ta tb σ H Q ∨ tDGet ta tb σ H Q
theorem pe_uIx {a b : Expr} {ta tb : TE} {pos : Pos} (hu : X.A.units + 1 < cLine) (ha : PE X a ta) (hb : PE X b tb) (hs : PlainIx b) : PE X (.Subscript a b pos) (uIx X.K ta tb) := pe_or (pe_ix ix_seq ha hb hs) (pe_dget hu ha hb hs)
theorem sl_uSl : SlR X (fun x lo hi H Q => rSlL X.K x lo hi H Q ∨ rSlT X.K x lo hi H Q) := sl_list.or sl_tup
def uSl (K : Fg) : V → Option Int → Option Int → Hp → VK → Prop := fun x lo hi H Q => rSlL K x lo hi H Q ∨ rSlT K x lo hi H Q
/-- truth of any value -/
def uTru (K : Fg) (ta : TE) : TT := fun σ H Q => ta σ H fun x H' => ∃ k, TruV K x H' k ∧ Q k H'
end

/-! ### judgements -/
section
variable (K : Fg) (c : Cx0)
def ER (te : TE) (s : List Slot) (o : List Cont) (s' : List Slot) (o' : List Cont) (r : Slot) : Prop :=
  ∀ as G σ H, Abs K c as G σ H s o → ∀ Q : VK, (∀ v as' G' H', Pre as as' → Le G G' → Abs K c as' G' σ H' s' o' → VOk K as' G' v r → Q v H') → te σ H Q
def ET (tt : TT) (s : List Slot) (o : List Cont) (s' : List Slot) (o' : List Cont) (b : Bool) : Prop :=
  ∀ as G σ H, Abs K c as G σ H s o → ∀ Q : Bool → Hp → Prop, (∀ as' G' H', Pre as as' → Le G G' → Abs K c as' G' σ H' s' o' → Q b H') → tt σ H Q
inductive VsOk (as : List Addr) (G : Hp) : List V → List Slot → Prop
  | nil : VsOk as G [] []
  | cons {v : V} {r : Slot} {vs : List V} {rs : List Slot} (h : VOk K as G v r) (t : VsOk as G vs rs) : VsOk as G (v :: vs) (r :: rs)
def EA (ta : TA) (s : List Slot) (o : List Cont) (s' : List Slot) (o' : List Cont) (rs : List Slot) : Prop :=
  ∀ as G σ H, Abs K c as G σ H s o → ∀ Q : List V → Hp → Prop, (∀ vs as' G' H', Pre as as' → Le G G' → Abs K c as' G' σ H' s' o' → VsOk K as' G' vs rs → Q vs H') → ta σ H Q
/-- an optional part of a slice -/
def EO (to : TO) (s : List Slot) (o : List Cont) (s' : List Slot) (o' : List Cont) (i : Option Int) : Prop :=
  ∀ as G σ H, Abs K c as G σ H s o → ∀ Q : Option Int → Hp → Prop, (∀ as' G' H', Pre as as' → Le G G' → Abs K c as' G' σ H' s' o' → Q i H') → to σ H Q
/-- a two-place operation on values; a call on values -/
def OV (rr : R2) (s : List Slot) (o : List Cont) (r1 r2 : Slot) (s' : List Slot) (o' : List Cont) (r : Slot) : Prop :=
  ∀ as G σ H x y, Abs K c as G σ H s o → VOk K as G x r1 → VOk K as G y r2 → ∀ Q : VK, (∀ v as' G' H', Pre as as' → Le G G' → Abs K c as' G' σ H' s' o' → VOk K as' G' v r → Q v H') → rr x y H Q
def CV (rc : List V → Hp → VK → Prop) (s : List Slot) (o : List Cont) (rs : List Slot) (s' : List Slot) (o' : List Cont) (r : Slot) : Prop :=
  ∀ as G σ H xs, Abs K c as G σ H s o → VsOk K as G xs rs → ∀ Q : VK, (∀ v as' G' H', Pre as as' → Le G G' → Abs K c as' G' σ H' s' o' → VOk K as' G' v r → Q v H') → rc xs H Q
end

section
variable {K : Fg} {c : Cx0} {s s1 s2 s3 s' : List Slot} {o o1 o2 o3 o' : List Cont} {r r1 r2 : Slot} {rs : List Slot} {ta tb te : TE} {rr : R2} {tt tu : TT}

/-! ### names, constants -/
theorem er_d {α : Type} [Rp α] {x : α} {i : Nat} (h : sget s i = .d x) : ER K c (tVar i) s o s o (.d x) := fun as G σ H A Q q => by
  have f := A.fr i
  rw [h] at f
  obtain ⟨v, e, hv⟩ := f
  exact ⟨v, e, q v as G H (Pre.refl _) (Le.refl _) A hv⟩
theorem er_p {i k : Nat} (h : sget s i = .p k) : ER K c (tVar i) s o s o (.p k) := fun as G σ H A Q q => by
  have f := A.fr i
  rw [h] at f
  obtain ⟨a, e, hv⟩ := f
  exact ⟨_, hv, q _ as G H (Pre.refl _) (Le.refl _) A ⟨a, e, rfl⟩⟩
theorem er_v {v : V} (h : ∀ as G, VOk K as G v r) : ER K c (tC v) s o s o r := fun as G σ H A Q q => q v as G H (Pre.refl _) (Le.refl _) A (h as G)
theorem er_int {i : Int} : ER K c (tC (.int i)) s o s o (.d i) := er_v fun _ _ => rfl
theorem er_bl {b : Bool} : ER K c (tC (.bl b)) s o s o (.d b) := er_v fun _ _ => rfl
theorem er_str {x : Str} : ER K c (tC (.str x)) s o s o (.d x) := er_v fun _ _ => rfl
theorem er_non : ER K c (tC .non) s o s o (.d ()) := er_v fun _ _ => rfl
/-! ### operators -/
theorem er_op (ha : ER K c ta s o s1 o1 r1) (hb : ER K c tb s1 o1 s2 o2 r2) (hr : OV K c rr s2 o2 r1 r2 s3 o3 r) : ER K c (tOp rr ta tb) s o s3 o3 r := fun as G σ H A Q q =>
  ha as G σ H A _ fun x as1 G1 H1 p1 l1 A1 h1 => hb as1 G1 σ H1 A1 _ fun y as2 G2 H2 p2 l2 A2 h2 =>
    hr as2 G2 σ H2 x y A2 (h1.mono p2 l2) h2 Q fun v as3 G3 H3 p3 l3 A3 h3 => q v as3 G3 H3 ((p1.trans p2).trans p3) ((l1.trans l2).trans l3) A3 h3
theorem ov_of (h : ∀ as G H x y, Le G H → VOk K as G x r1 → VOk K as G y r2 → ∀ Q : VK, (∀ v, VOk K as G v r → Q v H) → rr x y H Q) : OV K c rr s o r1 r2 s o r := fun as G σ H x y A h1 h2 Q q =>
  h as G H x y A.sub h1 h2 Q fun v hv => q v as G H (Pre.refl _) (Le.refl _) A hv
theorem ov_add {i j : Int} : OV K c (uAdd K) s o (.d i) (.d j) s o (.d (i + j)) := ov_of fun as G H x y _ h1 h2 Q q => .inl ⟨i, j, h1, h2, q _ rfl⟩
theorem ov_sub {i j : Int} : OV K c uSub s o (.d i) (.d j) s o (.d (i - j)) := ov_of fun as G H x y _ h1 h2 Q q => ⟨i, j, h1, h2, q _ rfl⟩
theorem ov_mul {i j : Int} (h : CMul i j) : OV K c uMul s o (.d i) (.d j) s o (.d (i * j)) := ov_of fun as G H x y _ h1 h2 Q q => .inl ⟨i, j, h1, h2, h, q _ rfl⟩
theorem ov_mulW {i j : Int} (h : CMulW i j) : OV K c uMul s o (.d i) (.d j) s o (.d (i * j)) := ov_of fun as G H x y _ h1 h2 Q q => .inr (.inl ⟨i, j, h1, h2, h, q _ rfl⟩)
theorem ov_div {i j : Int} (h : CDiv i j) : OV K c uDiv s o (.d i) (.d j) s o (.d (i / j)) := ov_of fun as G H x y _ h1 h2 Q q => .inl ⟨i, j, h1, h2, h, q _ rfl⟩
theorem ov_divW {i j : Int} (h : CDivW i j) : OV K c uDiv s o (.d i) (.d j) s o (.d (i / j)) := ov_of fun as G H x y _ h1 h2 Q q => .inr ⟨i, j, h1, h2, h, q _ rfl⟩
theorem ov_mod {i j : Int} (h : 0 < j) : OV K c uMod s o (.d i) (.d j) s o (.d (i % j)) := ov_of fun as G H x y _ h1 h2 Q q => ⟨i, j, h1, h2, h, q _ rfl⟩
theorem ov_pow {i j : Int} (h : CPow i j) : OV K c uPow s o (.d i) (.d j) s o (.d (i ^ j.toNat)) := ov_of fun as G H x y _ h1 h2 Q q => ⟨i, j, h1, h2, h, q _ rfl⟩
theorem ov_lt {i j : Int} : OV K c uLt s o (.d i) (.d j) s o (.d (decide (i < j))) := ov_of fun as G H x y _ h1 h2 Q q => ⟨i, j, h1, h2, q _ rfl⟩
theorem ov_le {i j : Int} : OV K c uLe s o (.d i) (.d j) s o (.d (decide (i ≤ j))) := ov_of fun as G H x y _ h1 h2 Q q => ⟨i, j, h1, h2, q _ rfl⟩
theorem ov_gt {i j : Int} : OV K c uGt s o (.d i) (.d j) s o (.d (decide (j < i))) := ov_of fun as G H x y _ h1 h2 Q q => ⟨i, j, h1, h2, q _ rfl⟩
theorem ov_ge {i j : Int} : OV K c uGe s o (.d i) (.d j) s o (.d (decide (j ≤ i))) := ov_of fun as G H x y _ h1 h2 Q q => ⟨i, j, h1, h2, q _ rfl⟩
/-- scalars that are told apart as data: what == gives -/
class Scal (α : Type) extends Rp α where
  to : α → V
  ok : ∀ (K : Fg) (G : Hp) (v : V) (x : α), Rp.rep K G v x → v = to x
  inj : ∀ x y : α, to x = to y → x = y
  self : ∀ x y : α, scal (to x) (to y) = true
instance : Scal Int where
  to := V.int
  ok := fun _ _ _ _ h => h
  inj := fun _ _ h => V.int.inj h
  self := fun _ _ => rfl
instance : Scal Bool where
  to := V.bl
  ok := fun _ _ _ _ h => h
  inj := fun _ _ h => V.bl.inj h
  self := fun _ _ => rfl
instance : Scal Str where
  to := V.str
  ok := fun _ _ _ _ h => h
  inj := fun _ _ h => V.str.inj h
  self := fun _ _ => rfl
theorem scal_dec {α : Type} [Scal α] [DecidableEq α] (x y : α) : decide (Scal.to x = Scal.to y) = decide (x = y) := by
  by_cases h : x = y
  · rw [h]; simp
  · rw [decide_eq_false h, decide_eq_false fun z => h (Scal.inj _ _ z)]
theorem ov_eq {α : Type} [Scal α] [DecidableEq α] {x y : α} : OV K c (uEq K) s o (.d x) (.d y) s o (.d (decide (x = y))) := ov_of fun as G H u v _ h1 h2 Q q => by
  rw [Scal.ok K G u x h1, Scal.ok K G v y h2]
  exact .inl ⟨Scal.self x y, q _ (congrArg V.bl (scal_dec x y))⟩
theorem ov_ne {α : Type} [Scal α] [DecidableEq α] {x y : α} : OV K c (uNe K) s o (.d x) (.d y) s o (.d (!decide (x = y))) := ov_of fun as G H u v _ h1 h2 Q q => by
  rw [Scal.ok K G u x h1, Scal.ok K G v y h2]
  exact .inl ⟨Scal.self x y, q _ (congrArg V.bl (congrArg not (scal_dec x y)))⟩
/-- == of a value that may be None with an int: Option Int -/
theorem ov_eqO {x : Option Int} {y : Int} : OV K c (uEq K) s o (.d x) (.d y) s o (.d (decide (x = some y))) := ov_of fun as G H u v _ h1 h2 Q q => by
  cases x with
  | none =>
    have e1 : u = .non := h1
    have e2 : v = .int y := h2
    rw [e1, e2]
    exact .inl ⟨rfl, q _ (by show V.bl _ = V.bl _; simp)⟩
  | some x =>
    have e1 : u = .int x := h1
    have e2 : v = .int y := h2
    rw [e1, e2]
    exact .inl ⟨rfl, q _ (by show V.bl _ = V.bl _; simp)⟩
/-- what is never None -/
class NN (α : Type) [Rp α] : Prop where
  nn : ∀ (K : Fg) (G : Hp) (v : V) (x : α), Rp.rep K G v x → v ≠ .non
instance : NN Int := ⟨fun _ _ v x h z => by rw [show v = .int x from h] at z; cases z⟩
instance : NN Bool := ⟨fun _ _ v x h z => by rw [show v = .bl x from h] at z; cases z⟩
instance : NN Str := ⟨fun _ _ v x h z => by rw [show v = .str x from h] at z; cases z⟩
instance {α : Type} [Rp α] : NN (List α) := ⟨fun _ _ v x ⟨a, vs, e, _⟩ z => by rw [e] at z; cases z⟩
instance {α : Type} [Rp α] : NN (Tup α) := ⟨fun _ _ v x ⟨a, vs, e, _⟩ z => by rw [e] at z; cases z⟩
instance {α β : Type} [Rp α] [Rp β] : NN (T2 α β) := ⟨fun _ _ v x ⟨a, _, _, e, _⟩ z => by rw [e] at z; cases z⟩
instance {α β γ : Type} [Rp α] [Rp β] [Rp γ] : NN (T3 α β γ) := ⟨fun _ _ v x ⟨a, _, _, _, e, _⟩ z => by rw [e] at z; cases z⟩
theorem ov_isO {α : Type} [Rp α] [NN α] {x : Option α} : OV K c uIs s o (.d x) (.d ()) s o (.d (!x.isSome)) := ov_of fun as G H u v _ h1 h2 Q q => by
  refine ⟨h2, q _ ?_⟩
  cases x with
  | none => have e1 : u = .non := h1; show V.bl _ = V.bl _; rw [e1]; rfl
  | some x => show V.bl _ = V.bl _; rw [decide_eq_false (NN.nn K G u x h1)]; rfl
theorem ov_isNO {α : Type} [Rp α] [NN α] {x : Option α} : OV K c uIsN s o (.d x) (.d ()) s o (.d x.isSome) := ov_of fun as G H u v _ h1 h2 Q q => by
  refine ⟨h2, q _ ?_⟩
  cases x with
  | none => have e1 : u = .non := h1; show V.bl _ = V.bl _; rw [e1]; rfl
  | some x => show V.bl _ = V.bl _; rw [decide_eq_false (NN.nn K G u x h1)]; rfl
theorem ov_isU : OV K c uIs s o (.d ()) (.d ()) s o (.d true) := ov_of fun as G H u v _ h1 h2 Q q => ⟨h2, q _ (by have e1 : u = .non := h1; show V.bl _ = V.bl _; rw [e1]; rfl)⟩
theorem ov_isNU : OV K c uIsN s o (.d ()) (.d ()) s o (.d false) := ov_of fun as G H u v _ h1 h2 Q q => ⟨h2, q _ (by have e1 : u = .non := h1; show V.bl _ = V.bl _; rw [e1]; rfl)⟩
theorem ov_isX {α : Type} [Rp α] [NN α] {x : α} : OV K c uIs s o (.d x) (.d ()) s o (.d false) := ov_of fun as G H u v _ h1 h2 Q q => ⟨h2, q _ (by show V.bl _ = V.bl _; rw [decide_eq_false (NN.nn K G u x h1)])⟩
theorem ov_isNX {α : Type} [Rp α] [NN α] {x : α} : OV K c uIsN s o (.d x) (.d ()) s o (.d true) := ov_of fun as G H u v _ h1 h2 Q q => ⟨h2, q _ (by show V.bl _ = V.bl _; rw [decide_eq_false (NN.nn K G u x h1)]; rfl)⟩
theorem er_neg {i : Int} (ha : ER K c ta s o s1 o1 (.d i)) : ER K c (tUn (rU fun i => .int (-i)) ta) s o s1 o1 (.d (-i)) := fun as G σ H A Q q =>
  ha as G σ H A _ fun x as1 G1 H1 p1 l1 A1 h1 => ⟨i, h1, q _ as1 G1 H1 p1 l1 A1 rfl⟩

/-! ### tests -/
theorem et_v {b : Bool} (h : ER K c te s o s1 o1 (.d b)) : ET K c (tB te) s o s1 o1 b := fun as G σ H A Q q => h as G σ H A _ fun v as1 G1 H1 p1 l1 A1 hv => ⟨b, hv, q as1 G1 H1 p1 l1 A1⟩
theorem et_truB {b : Bool} (h : ER K c te s o s1 o1 (.d b)) : ET K c (uTru K te) s o s1 o1 b := fun as G σ H A Q q => h as G σ H A _ fun v as1 G1 H1 p1 l1 A1 hv => ⟨b, by rw [show v = .bl b from hv]; rfl, q as1 G1 H1 p1 l1 A1⟩
theorem et_not {b : Bool} (h : ET K c tt s o s1 o1 b) : ET K c (tNot tt) s o s1 o1 (!b) := fun as G σ H A Q q => h as G σ H A _ fun as1 G1 H1 p1 l1 A1 => q as1 G1 H1 p1 l1 A1
/-- and, or: where the second test changes nothing -/
theorem et_and {b d : Bool} (h : ET K c tt s o s1 o1 b) (h2 : b = true → ET K c tu s1 o1 s1 o1 d) : ET K c (tAnd tt tu) s o s1 o1 (b && d) := fun as G σ H A Q q => h as G σ H A _ fun as1 G1 H1 p1 l1 A1 => by
  cases b with
  | true => rw [if_pos rfl]; exact h2 rfl as1 G1 σ H1 A1 _ fun as2 G2 H2 p2 l2 A2 => q as2 G2 H2 (p1.trans p2) (l1.trans l2) A2
  | false => rw [if_neg Bool.false_ne_true]; exact q as1 G1 H1 p1 l1 A1
theorem et_or {b d : Bool} (h : ET K c tt s o s1 o1 b) (h2 : b = false → ET K c tu s1 o1 s1 o1 d) : ET K c (tOr tt tu) s o s1 o1 (b || d) := fun as G σ H A Q q => h as G σ H A _ fun as1 G1 H1 p1 l1 A1 => by
  cases b with
  | true => rw [if_pos rfl]; exact q as1 G1 H1 p1 l1 A1
  | false => rw [if_neg Bool.false_ne_true]; exact h2 rfl as1 G1 σ H1 A1 _ fun as2 G2 H2 p2 l2 A2 => q as2 G2 H2 (p1.trans p2) (l1.trans l2) A2
theorem et_is {b d : Bool} (h : ET K c tt s o s1 o1 b) (e : b = d) : ET K c tt s o s1 o1 d := e ▸ h
theorem er_is {α : Type} [Rp α] {x y : α} (h : ER K c te s o s1 o1 (.d x)) (e : x = y) : ER K c te s o s1 o1 (.d y) := e ▸ h
theorem er_andV {b d : Bool} (h : ER K c ta s o s1 o1 (.d b)) (h2 : b = true → ER K c tb s1 o1 s1 o1 (.d d)) : ER K c (tAndV ta tb) s o s1 o1 (.d (b && d)) := fun as G σ H A Q q => h as G σ H A _ fun v as1 G1 H1 p1 l1 A1 hv => ⟨b, hv, by
  cases b with
  | true => rw [if_pos rfl]; exact h2 rfl as1 G1 σ H1 A1 _ fun v as2 G2 H2 p2 l2 A2 h3 => q v as2 G2 H2 (p1.trans p2) (l1.trans l2) A2 h3
  | false => rw [if_neg Bool.false_ne_true]; exact q _ as1 G1 H1 p1 l1 A1 rfl⟩
theorem er_orV {b d : Bool} (h : ER K c ta s o s1 o1 (.d b)) (h2 : b = false → ER K c tb s1 o1 s1 o1 (.d d)) : ER K c (tOrV ta tb) s o s1 o1 (.d (b || d)) := fun as G σ H A Q q => h as G σ H A _ fun v as1 G1 H1 p1 l1 A1 hv => ⟨b, hv, by
  cases b with
  | true => rw [if_pos rfl]; exact q _ as1 G1 H1 p1 l1 A1 rfl
  | false => rw [if_neg Bool.false_ne_true]; exact h2 rfl as1 G1 σ H1 A1 _ fun v as2 G2 H2 p2 l2 A2 h3 => q v as2 G2 H2 (p1.trans p2) (l1.trans l2) A2 h3⟩
theorem er_notV {b : Bool} (h : ER K c ta s o s1 o1 (.d b)) : ER K c (tNotV ta) s o s1 o1 (.d (!b)) := fun as G σ H A Q q => h as G σ H A _ fun v as1 G1 H1 p1 l1 A1 hv => ⟨b, hv, q _ as1 G1 H1 p1 l1 A1 rfl⟩
theorem er_if {b : Bool} (h : ET K c tt s o s1 o1 b) (h1 : b = true → ER K c ta s1 o1 s2 o2 r) (h2 : b = false → ER K c tb s1 o1 s2 o2 r) : ER K c (tIf tt ta tb) s o s2 o2 r := fun as G σ H A Q q => h as G σ H A _ fun as1 G1 H1 p1 l1 A1 => by
  cases b with
  | true => rw [if_pos rfl]; exact h1 rfl as1 G1 σ H1 A1 _ fun v as2 G2 H2 p2 l2 A2 h3 => q v as2 G2 H2 (p1.trans p2) (l1.trans l2) A2 h3
  | false => rw [if_neg Bool.false_ne_true]; exact h2 rfl as1 G1 σ H1 A1 _ fun v as2 G2 H2 p2 l2 A2 h3 => q v as2 G2 H2 (p1.trans p2) (l1.trans l2) A2 h3

/-! ### argument lists -/
theorem ea_nil : EA K c tNil s o s o [] := fun as G σ H A Q q => q [] as G H (Pre.refl _) (Le.refl _) A .nil
theorem ea_cons {tr : TA} (h : ER K c te s o s1 o1 r) (hr : EA K c tr s1 o1 s2 o2 rs) : EA K c (tCons te tr) s o s2 o2 (r :: rs) := fun as G σ H A Q q =>
  h as G σ H A _ fun v as1 G1 H1 p1 l1 A1 h1 => hr as1 G1 σ H1 A1 _ fun vs as2 G2 H2 p2 l2 A2 h2 => q _ as2 G2 H2 (p1.trans p2) (l1.trans l2) A2 (.cons (h1.mono p2 l2) h2)
theorem er_cb {ta : TA} {rc : List V → Hp → VK → Prop} (h : EA K c ta s o s1 o1 rs) (hr : CV K c rc s1 o1 rs s2 o2 r) : ER K c (tCB rc ta) s o s2 o2 r := fun as G σ H A Q q =>
  h as G σ H A _ fun vs as1 G1 H1 p1 l1 A1 h1 => hr as1 G1 σ H1 vs A1 h1 Q fun v as2 G2 H2 p2 l2 A2 h2 => q v as2 G2 H2 (p1.trans p2) (l1.trans l2) A2 h2
theorem VsOk.one {as : List Addr} {G : Hp} {xs : List V} {r : Slot} (h : VsOk K as G xs [r]) : ∃ x, xs = [x] ∧ VOk K as G x r := by
  cases h with | cons a b => cases b; exact ⟨_, rfl, a⟩
theorem VsOk.two {as : List Addr} {G : Hp} {xs : List V} {r1 r2 : Slot} (h : VsOk K as G xs [r1, r2]) : ∃ x y, xs = [x, y] ∧ VOk K as G x r1 ∧ VOk K as G y r2 := by
  cases h with | cons a b => obtain ⟨y, rfl, hy⟩ := VsOk.one b; exact ⟨_, y, rfl, a, hy⟩
theorem VsOk.three {as : List Addr} {G : Hp} {xs : List V} {r1 r2 r3 : Slot} (h : VsOk K as G xs [r1, r2, r3]) : ∃ x y z, xs = [x, y, z] ∧ VOk K as G x r1 ∧ VOk K as G y r2 ∧ VOk K as G z r3 := by
  cases h with | cons a b => obtain ⟨y, z, rfl, hy, hz⟩ := VsOk.two b; exact ⟨_, y, z, rfl, a, hy, hz⟩

/-! ### tuples and lists that are made -/
theorem er_t2 {α β : Type} [Rp α] [Rp β] {x : α} {y : β} {ta : TA} (h : EA K c ta s o s1 o1 [.d x, .d y]) : ER K c (tTup ta) s o s1 o1 (.d (T2.mk x y)) := fun as G σ H A Q q =>
  h as G σ H A _ fun vs as1 G1 H1 p1 l1 A1 h1 => by
    obtain ⟨v, w, rfl, hv, hw⟩ := VsOk.two h1
    refine ⟨by show 2 ≤ sizeLine; decide, fun p hp => ?_⟩
    have A2 := A1.newD (o := .tup [v, w]) hp
    have l2 : Le G1 (upd G1 p (.tup [v, w])) := Le.upd (A1.sub.free hp)
    exact q _ as1 _ _ p1 (l1.trans l2) A2 ⟨p, v, w, rfl, SqT.of upd_same, Rp.mono l2 (show Rp.rep K G1 v x from hv), Rp.mono l2 (show Rp.rep K G1 w y from hw)⟩
theorem er_t3 {α β γ : Type} [Rp α] [Rp β] [Rp γ] {x : α} {y : β} {z : γ} {ta : TA} (h : EA K c ta s o s1 o1 [.d x, .d y, .d z]) : ER K c (tTup ta) s o s1 o1 (.d (T3.mk x y z)) := fun as G σ H A Q q =>
  h as G σ H A _ fun vs as1 G1 H1 p1 l1 A1 h1 => by
    obtain ⟨v, w, u, rfl, hv, hw, hu⟩ := VsOk.three h1
    refine ⟨by show 3 ≤ sizeLine; decide, fun p hp => ?_⟩
    have A2 := A1.newD (o := .tup [v, w, u]) hp
    have l2 : Le G1 (upd G1 p (.tup [v, w, u])) := Le.upd (A1.sub.free hp)
    exact q _ as1 _ _ p1 (l1.trans l2) A2 ⟨p, v, w, u, rfl, SqT.of upd_same, Rp.mono l2 (show Rp.rep K G1 v x from hv), Rp.mono l2 (show Rp.rep K G1 w y from hw), Rp.mono l2 (show Rp.rep K G1 u z from hu)⟩
/-- slots of one type -/
def sl {α : Type} [Rp α] (xs : List α) : List Slot := xs.map fun x => .d x
theorem reps_of {α : Type} [Rp α] {as : List Addr} {G : Hp} : ∀ {xs : List α} {vs : List V}, VsOk K as G vs (sl xs) → Reps K G vs xs := by
  intro xs
  induction xs with
  | nil => intro vs h; cases h; exact .nil
  | cons x xs ih => intro vs h; cases h with | cons a b => exact .cons a (ih b)
theorem er_tup {α : Type} [Rp α] {xs : List α} {ta : TA} (h : EA K c ta s o s1 o1 (sl xs)) (hl : xs.length ≤ sizeLine) : ER K c (tTup ta) s o s1 o1 (.d (Tup.mk xs)) := fun as G σ H A Q q =>
  h as G σ H A _ fun vs as1 G1 H1 p1 l1 A1 h1 => by
    have hr := reps_of h1
    refine ⟨by rw [pr_len hr]; exact hl, fun p hp => ?_⟩
    have A2 := A1.newD (o := .tup vs) hp
    have l2 : Le G1 (upd G1 p (.tup vs)) := Le.upd (A1.sub.free hp)
    exact q _ as1 _ _ p1 (l1.trans l2) A2 ⟨p, vs, rfl, SqT.of upd_same, Reps.mono l2 hr⟩
/-- a new list, the def's own -/
theorem er_lst {α : Type} [Rp α] {xs : List α} {ta : TA} (h : EA K c ta s o s1 o1 (sl xs)) (hl : xs.length ≤ sizeLine) : ER K c (tLst ta) s o s1 (o1 ++ [.lst xs]) (.p o1.length) := fun as G σ H A Q q =>
  h as G σ H A _ fun vs as1 G1 H1 p1 l1 A1 h1 => by
    have hr := reps_of h1
    refine ⟨by rw [pr_len hr]; exact hl, fun p hp => ?_⟩
    have A2 := A1.newP (o := .lst vs) (ct := .lst xs) hp ⟨vs, rfl, hr⟩
    exact q _ _ _ _ (p1.trans ⟨[p], rfl⟩) l1 A2 ⟨p, by rw [← A1.asz, List.getElem?_concat_length], rfl⟩
/-- a new list as data -/
theorem er_lstD {α : Type} [Rp α] {xs : List α} {ta : TA} (h : EA K c ta s o s1 o1 (sl xs)) (hl : xs.length ≤ sizeLine) : ER K c (tLst ta) s o s1 o1 (.d xs) := fun as G σ H A Q q =>
  h as G σ H A _ fun vs as1 G1 H1 p1 l1 A1 h1 => by
    have hr := reps_of h1
    refine ⟨by rw [pr_len hr]; exact hl, fun p hp => ?_⟩
    have A2 := A1.newD (o := .lst vs) hp
    have l2 : Le G1 (upd G1 p (.lst vs)) := Le.upd (A1.sub.free hp)
    exact q _ as1 _ _ p1 (l1.trans l2) A2 ⟨p, vs, rfl, SqL.of upd_same, Reps.mono l2 hr⟩

/-! ### lists that are read: data, or one in the store -/
def LView {α : Type} [Rp α] (o : List Cont) (r : Slot) (xs : List α) : Prop := r = .d xs ∨ ∃ k, r = .p k ∧ cget o k = .lst xs
theorem LView.at_ {α : Type} [Rp α] {as : List Addr} {G H : Hp} {σ : L2.St} {xs : List α} {v : V} (L : LView o r xs) (A : Abs K c as G σ H s o) (h : VOk K as G v r) : ∃ p vs, v = .ref p ∧ SqL K H p vs ∧ Reps K G vs xs := by
  rcases L with rfl | ⟨k, rfl, e⟩
  · obtain ⟨p, vs, e, q, hr⟩ := (show Rp.rep K G v xs from h)
    exact ⟨p, vs, e, A.sub.sqL q, hr⟩
  · obtain ⟨a, ha, rfl⟩ := h
    have f := A.st k a ha
    rw [e] at f
    obtain ⟨vs, e1, hr⟩ := f
    exact ⟨a, vs, rfl, SqL.of e1, hr⟩
theorem cv_of {rc : List V → Hp → VK → Prop} (h : ∀ as G σ H xs, Abs K c as G σ H s o → VsOk K as G xs rs → ∀ Q : VK, (∀ v, VOk K as G v r → Q v H) → rc xs H Q) : CV K c rc s o rs s o r := fun as G σ H xs A h1 Q q =>
  h as G σ H xs A h1 Q fun v hv => q v as G H (Pre.refl _) (Le.refl _) A hv
end
end VL

set_option maxHeartbeats 4000000
/-! THE VALUE LAYER 2: promises over values, calls, statements. -/
namespace VL
open PySem PySem.Spec PyProof.Rows L2

/-! ### promises -/
abbrev RT := Slot → List Cont → Prop
abbrev XT := Str → List (Str × Slot) → List Cont → Prop
/-- a promise over values: the arguments' slots, the containers that they point at; what is wanted of the answer and the containers behind; what is wanted of an exception (its class, its fields) -/
abbrev FS := List Slot → List Cont → RT → XT → Prop
def Rc (K : Fg) (c : Cx0) (Q : VK) : RT := fun r os => ∀ w as G σ H sds, Abs K c as G σ H sds os → VOk K as G w r → Q w H
def Xc (K : Fg) (c : Cx0) (E : XK) : XT := fun cls fs os => ∀ as G σ H sds, Abs K c as G σ H sds os →
  (fs = [] → E (.ref (He.ga K cls)) none H) ∧ ∀ dx fvs, G dx = some (.xd fvs) → FldsOk K as G fvs fs → E (.ref (He.ga K cls)) (some dx) H
def spOf (K : Fg) (F : FS) : Sp := fun vs H Q E => ∃ (c : Cx0) (ss : List Slot) (os : List Cont), c.H = H ∧ Abs K c c.M c.G (vs.map some) H ss os ∧ F ss os (Rc K c Q) (Xc K c E)
theorem spOf.len {K : Fg} {F : FS} {n : Nat} (h : ∀ ss os R X, F ss os R X → ss.length = n) (vs : List V) (H : Hp) (Q : VK) (E : XK) (q : spOf K F vs H Q E) : vs.length = n := by
  obtain ⟨c, ss, os, _, A, f⟩ := q
  have e := A.len
  rw [List.length_map] at e
  rw [e, h _ _ _ _ f]

/-! ### a call is over: the caller's state -/
def Cont.flat : Cont → Bool
  | .obj _ fs => fs.all fun q => match q.2 with
    | .p _ => false
    | _ => true
  | _ => true
theorem flds_flat {K : Fg} {as as' : List Addr} {G : Hp} : ∀ {fvs : List (Str × V)} {fs : List (Str × Slot)}, (fs.all fun q => match q.2 with | .p _ => false | _ => true) = true → FldsOk K as G fvs fs → FldsOk K as' G fvs fs
  | [], [], _, _ => trivial
  | (_, _) :: _, (_, s) :: _, e, ⟨h1, h2, h3⟩ => by
    rw [List.all_cons, Bool.and_eq_true] at e
    refine ⟨h1, ?_, flds_flat e.2 h3⟩
    cases s with
    | u => trivial
    | d x => exact h2
    | p k => exact absurd e.1 Bool.false_ne_true
theorem COk.flat {K : Fg} {as as' : List Addr} {G : Hp} {ob : Option HO} {ct : Cont} (e : ct.flat = true) (h : COk K as G ob ct) : COk K as' G ob ct := by
  cases ct with
  | gone => trivial
  | lst xs => exact h
  | dct xs => exact h
  | obj C fs => obtain ⟨dx, fvs, e1, e2⟩ := h; exact ⟨dx, fvs, e1, flds_flat e e2⟩
/-- the caller's store behind a call: the containers at ks are told anew, further ones stand behind -/
def cput (o : List Cont) (ks : List Nat) (os : List Cont) : List Cont := ((List.range o.length).map fun k => match ks.findIdx? (· == k) with
  | some j => cget os j
  | none => cget o k) ++ os.drop ks.length
def rmap (n : Nat) (ks : List Nat) : Slot → Slot
  | .p j => if h : j < ks.length then .p ks[j] else .p (n + (j - ks.length))
  | s => s
theorem cput_len {o : List Cont} {ks : List Nat} {os : List Cont} : (cput o ks os).length = o.length + (os.length - ks.length) := by simp [cput]
theorem cput_lo {o : List Cont} {ks : List Nat} {os : List Cont} {k : Nat} (h : k < o.length) : cget (cput o ks os) k = match ks.findIdx? (· == k) with
  | some j => cget os j
  | none => cget o k := by
  unfold cget cput
  rw [List.getD_eq_getElem?_getD, List.getElem?_append_left (by simpa using h), List.getElem?_map, List.getElem?_range h]
  rfl
theorem cput_hi {o : List Cont} {ks : List Nat} {os : List Cont} {k : Nat} : cget (cput o ks os) (o.length + k) = cget os (ks.length + k) := by
  unfold cget cput
  rw [List.getD_eq_getElem?_getD, List.getD_eq_getElem?_getD, List.getElem?_append_right (by simp), List.getElem?_drop]
  simp
theorem findIdx_some {ks : List Nat} {k j : Nat} (h : ks.findIdx? (· == k) = some j) : ks[j]? = some k := by
  obtain ⟨hj, e, _⟩ := List.findIdx?_eq_some_iff_getElem.mp h
  rw [List.getElem?_eq_getElem hj, beq_iff_eq.mp e]
theorem findIdx_none {ks : List Nat} {k : Nat} (h : ks.findIdx? (· == k) = none) : k ∉ ks := fun m => by
  have := List.findIdx?_eq_none_iff.mp h k m
  simp at this

section
variable {K : Fg} {c : Cx0} {as asF more : List Addr} {G GF H H' : Hp} {σ σF : L2.St} {s sF : List Slot} {o oF : List Cont} {ks : List Nat}
/-- the callee's entry -/
def cx1 (H G : Hp) (M : List Addr) : Cx0 := ⟨H, G, M⟩
theorem Abs.into (A : Abs K c as G σ H s o) {M : List Addr} {ss : List Slot} {os : List Cont} {vs : List V} (hM : M.length = os.length) (hks : ks.length = M.length) (hnd : ks.Nodup)
    (hm : ∀ (j k : Nat), ks[j]? = some k → ∃ a, M[j]? = some a ∧ as[k]? = some a ∧ cget os j = cget o k ∧ (cget o k).flat = true)
    (hv : VsOk K M G vs ss) : Abs K (cx1 H G M) M G (vs.map some) H ss os := by
  have inM : ∀ {j : Nat} {a : Addr}, M[j]? = some a → ∃ k, ks[j]? = some k ∧ as[k]? = some a ∧ cget os j = cget o k ∧ (cget o k).flat = true := fun {j a} e => by
    have hj := (List.getElem?_eq_some_iff.mp e).1
    have hk : j < ks.length := by omega
    obtain ⟨b, e1, e2, e3, e4⟩ := hm j ks[j] (List.getElem?_eq_getElem hk)
    have eb : b = a := Option.some.inj (e1.symm.trans e)
    subst eb
    exact ⟨_, List.getElem?_eq_getElem hk, e2, e3, e4⟩
  refine ⟨A.sub, Le.refl _, fun b u e _ => e, fun b u e => .inl e, Pre.refl _, ?_, hM, fun a m => ?_, fun j a e l => ?_, fun i => ?_, fun j a e => ?_, ?_⟩
  · rw [List.nodup_iff_pairwise_ne, List.pairwise_iff_getElem]
    intro i j hi hj hlt e
    obtain ⟨k1, a1, b1, _⟩ := inM (List.getElem?_eq_getElem hi)
    obtain ⟨k2, a2, b2, _⟩ := inM (List.getElem?_eq_getElem hj)
    rw [e] at b1
    have ek := nd_get A.nd b1 b2
    subst ek
    have := nd_ix hnd a1 a2
    omega
  · obtain ⟨j, hj, e⟩ := List.mem_iff_getElem.mp m
    obtain ⟨k, _, b1, _⟩ := inM (show M[j]? = some a by rw [List.getElem?_eq_getElem hj, e])
    exact ⟨(A.asf a (List.mem_of_getElem? b1)).1, .inl m⟩
  · obtain ⟨k, _, b1, b2, _⟩ := inM e
    rw [b2] at l
    exact A.lv k a b1 l
  · have gen : ∀ {vs : List V} {ss : List Slot}, VsOk K M G vs ss → ∀ i, FOk K M G ((vs.map some)[i]?) (sget ss i) := by
      intro vs ss h
      induction h with
      | nil => intro i; trivial
      | cons h t ih =>
        intro i
        cases i with
        | zero => exact FOk.of h
        | succ i => exact ih i
    exact gen hv i
  · obtain ⟨k, _, b1, b2, b3⟩ := inM e
    rw [b2]
    exact (A.st k a b1).flat b3
  · rw [List.length_map]
    have gl : ∀ {vs : List V} {ss : List Slot}, VsOk K M G vs ss → vs.length = ss.length := by
      intro vs ss h
      induction h with
      | nil => rfl
      | cons h t ih => simp [ih]
    exact gl hv
/-- behind the call -/
theorem Abs.back (A : Abs K c as G σ H s o) {M : List Addr} (B : Abs K (cx1 H G M) asF GF σF H' sF oF) (hks : ks.length = M.length) (hnd : ks.Nodup) (hm : ∀ (j k : Nat), ks[j]? = some k → ∃ a, M[j]? = some a ∧ as[k]? = some a)
    (hfl : ∀ j, (cget oF j).flat = true) : ∃ as', Pre as as' ∧ Abs K c as' GF σ H' s (cput o ks oF) ∧ ∀ w r, VOk K asF GF w r → VOk K as' GF w (rmap o.length ks r) := by
  obtain ⟨more, eM⟩ := B.pre
  have eM' : asF = M ++ more := eM
  have lenM : M.length ≤ oF.length := by rw [← B.asz, eM']; simp
  have inM : ∀ {a : Addr}, a ∈ M → ∃ (j k : Nat), M[j]? = some a ∧ ks[j]? = some k ∧ as[k]? = some a := fun {a} m => by
    obtain ⟨j, hj, e⟩ := List.mem_iff_getElem.mp m
    have hk : j < ks.length := by omega
    obtain ⟨b, e1, e2⟩ := hm j ks[j] (List.getElem?_eq_getElem hk)
    have eb : b = a := Option.some.inj (e1.symm.trans (by rw [List.getElem?_eq_getElem hj, e]))
    subst eb
    exact ⟨j, _, e1, List.getElem?_eq_getElem hk, e2⟩
  have moreH : ∀ {a : Addr}, a ∈ more → H a = none := fun {a} m => by
    have h1 := (B.asf a (by rw [eM']; exact List.mem_append_right _ m)).2
    rcases h1 with h1 | h1
    · have := B.nd
      rw [eM'] at this
      exact absurd rfl ((List.nodup_append.mp this).2.2 a h1 a m)
    · exact h1
  have keep : ∀ {b : Addr} {u : HO}, H b = some u → b ∉ M → H' b = some u := fun {b u} e m => B.old b u e m
  have aLo : ∀ {k : Nat} {a : Addr}, k < as.length → (as ++ more)[k]? = some a → as[k]? = some a := fun {k a} h e => by rw [List.getElem?_append_left h] at e; exact e
  have mAt : ∀ {i : Nat} {a : Addr}, more[i]? = some a → asF[M.length + i]? = some a := fun {i a} e => by rw [eM', List.getElem?_append_right (by omega)]; simpa using e
  have GFn : ∀ {a : Addr}, H a ≠ none → G a = none → GF a = none := fun {a} h1 h2 => by
    cases q : GF a with
    | none => rfl
    | some u =>
      rcases B.new a u q with z | z
      · rw [show (cx1 H G M).G a = G a from rfl, h2] at z; cases z
      · exact absurd z h1
  have jOf : ∀ {k j : Nat} {a : Addr}, ks.findIdx? (· == k) = some j → as[k]? = some a → asF[j]? = some a := fun {k j a} e1 e2 => by
    obtain ⟨b, e3, e4⟩ := hm j k (findIdx_some e1)
    have eb : b = a := Option.some.inj (e4.symm.trans e2)
    subst eb
    rw [eM', List.getElem?_append_left (List.getElem?_eq_some_iff.mp e3).1]; exact e3
  refine ⟨as ++ more, ⟨more, rfl⟩, ⟨B.sub, A.g0.trans B.g0, fun b u e m => ?_, fun b u e => ?_, A.pre.trans ⟨more, rfl⟩, ?_, ?_, fun a m => ?_, fun k a e l => ?_, fun i => (A.fr i).mono ⟨more, rfl⟩ B.g0, fun k a e => ?_, A.len⟩, fun w r h => ?_⟩
  · refine keep (A.old b u e m) fun z => ?_
    obtain ⟨j, k, _, _, ek⟩ := inM z
    rcases (A.asf b (List.mem_of_getElem? ek)).2 with y | y
    · exact m y
    · rw [y] at e; cases e
  · rcases B.new b u e with z | z
    · exact A.new b u z
    · exact .inr (A.hfree' z)
  · refine List.nodup_append.mpr ⟨A.nd, ?_, fun a ha b hb z => ?_⟩
    · have := B.nd
      rw [eM'] at this
      exact (List.nodup_append.mp this).2.1
    · subst z
      exact (A.asf a ha).1 (moreH hb)
  · rw [cput_len, List.length_append, A.asz, hks, ← B.asz, eM', List.length_append]; omega
  · rcases List.mem_append.mp m with m | m
    · refine ⟨?_, (A.asf a m).2⟩
      by_cases z : a ∈ M
      · exact (B.asf a (by rw [eM']; exact List.mem_append_left _ z)).1
      · cases q : H a with
        | none => exact absurd q (A.asf a m).1
        | some u => rw [keep q z]; simp
    · exact ⟨(B.asf a (by rw [eM']; exact List.mem_append_right _ m)).1, .inr (A.hfree' (moreH m))⟩
  · by_cases hk : k < as.length
    · have e' := aLo hk e
      rw [cput_lo (by rw [← A.asz]; exact hk)] at l
      cases q : ks.findIdx? (· == k) with
      | some j => rw [q] at l; exact B.lv j a (jOf q e') l
      | none => rw [q] at l; exact GFn (A.asf a (List.mem_of_getElem? e')).1 (A.lv k a e' l)
    · rw [List.getElem?_append_right (by omega)] at e
      have e2 := mAt e
      obtain ⟨i, rfl⟩ : ∃ i, k = o.length + i := ⟨k - o.length, by have := A.asz; omega⟩
      rw [cput_hi] at l
      rw [show o.length + i - as.length = i by have := A.asz; omega, ← hks] at e2
      exact B.lv _ a e2 l
  · by_cases hk : k < as.length
    · have e' := aLo hk e
      rw [cput_lo (by rw [← A.asz]; exact hk)]
      cases q : ks.findIdx? (· == k) with
      | some j => exact (B.st j a (jOf q e')).flat (hfl j)
      | none =>
        have nM : a ∉ M := fun z => by
          obtain ⟨j, k', _, e2, e3⟩ := inM z
          have := nd_get A.nd e' e3
          subst this
          exact findIdx_none q (List.mem_of_getElem? e2)
        cases q2 : H a with
        | none => exact absurd q2 (A.asf a (List.mem_of_getElem? e')).1
        | some u =>
          rw [keep q2 nM, ← q2]
          exact (A.st k a e').mono ⟨more, rfl⟩ B.g0
    · rw [List.getElem?_append_right (by omega)] at e
      have e2 := mAt e
      obtain ⟨i, rfl⟩ : ∃ i, k = o.length + i := ⟨k - o.length, by have := A.asz; omega⟩
      rw [cput_hi]
      rw [show o.length + i - as.length = i by have := A.asz; omega, ← hks] at e2
      exact (B.st _ a e2).flat (hfl _)
  · cases r with
    | u => trivial
    | d x => exact h
    | p j =>
      obtain ⟨a, e1, e2⟩ := h
      show VOk K (as ++ more) GF w (dite (j < ks.length) (fun h => Slot.p ks[j]) (fun _ => Slot.p (o.length + (j - ks.length))))
      by_cases hj : j < ks.length
      · rw [dif_pos hj]
        obtain ⟨b, e3, e4⟩ := hm j ks[j] (List.getElem?_eq_getElem hj)
        have eb : a = b := by
          rw [eM', List.getElem?_append_left (by omega)] at e1
          exact Option.some.inj (e1.symm.trans e3)
        subst eb
        exact ⟨a, Pre.get ⟨more, rfl⟩ e4, e2⟩
      · rw [dif_neg hj]
        refine ⟨a, ?_, e2⟩
        rw [eM', List.getElem?_append_right (by omega)] at e1
        rw [List.getElem?_append_right (by rw [A.asz]; omega)]
        rw [show o.length + (j - ks.length) - as.length = j - M.length by rw [A.asz]; omega]
        exact e1
theorem cput0 {o os : List Cont} : cput o [] os = o ++ os := by
  unfold cput
  have e : ((List.range o.length).map fun k => match ([] : List Nat).findIdx? (· == k) with
    | some j => cget os j
    | none => cget o k) = o := by
    apply List.ext_getElem?
    intro i
    by_cases h : i < o.length
    · rw [List.getElem?_map, List.getElem?_range h]
      show some (cget o i) = _
      unfold cget
      rw [List.getD_eq_getElem?_getD, List.getElem?_eq_getElem h]; rfl
    · rw [List.getElem?_eq_none (by simpa using h), List.getElem?_eq_none (by omega)]
  rw [e]; rfl
theorem cput1 {o os : List Cont} {k : Nat} {ct : Cont} : cput o [k] (ct :: os) = o.set k ct ++ os := by
  unfold cput
  have e : ((List.range o.length).map fun i => match ([k] : List Nat).findIdx? (· == i) with
    | some j => cget (ct :: os) j
    | none => cget o i) = o.set k ct := by
    apply List.ext_getElem?
    intro i
    by_cases h : i < o.length
    · rw [List.getElem?_map, List.getElem?_range h, List.getElem?_set]
      by_cases q : k = i
      · subst q
        simp [h, cget]
      · have e2 : (k == i) = false := by simpa using q
        simp [e2, q, cget, h]
    · rw [List.getElem?_eq_none (by simpa using h), List.getElem?_eq_none (by simp; omega)]
  rw [e]; rfl
end

/-! ### the call of a def -/
section
variable {K : Fg} {c : Cx0} {s s1 s' : List Slot} {o o1 os : List Cont} {r : Slot} {rs : List Slot} {ta : TA} {F : FS} {E : XK}
/-- all arguments are data -/
theorem er_call (h : EA K c ta s o s1 o1 rs) (hF : ∀ (R : RT) (X : XT), R r os → F rs [] R X) (hd : rs.all (fun q => match q with | .p _ => false | _ => true) = true) (hfl : os.all Cont.flat = true) :
    ER K c (tCall (spOf K F) [] E ta) s o s1 (o1 ++ os) (rmap o1.length [] r) := fun as G σ H A Q q =>
  h as G σ H A _ fun vs as1 G1 H1 p1 l1 A1 h1 => by
    have hv : ∀ {vs : List V} {rs : List Slot}, VsOk K as1 G1 vs rs → rs.all (fun q => match q with | .p _ => false | _ => true) = true → VsOk K [] G1 vs rs := by
      intro vs rs h
      induction h with
      | nil => intro _; exact .nil
      | @cons v r vs rs h t ih =>
        intro e
        rw [List.all_cons, Bool.and_eq_true] at e
        refine .cons ?_ (ih e.2)
        cases r with
        | u => trivial
        | d x => exact h
        | p k => exact absurd e.1 Bool.false_ne_true
    have B := A1.into (ks := []) (M := []) (os := []) (vs := vs) rfl rfl (by simp) (fun j k e => by simp at e) (hv h1 hd)
    rw [List.append_nil]
    refine ⟨cx1 H1 G1 [], rs, [], rfl, B, hF _ _ ?_⟩
    intro w asF GF σF HF sF BF hw
    obtain ⟨as', pp, A2, hr⟩ := A1.back (ks := []) BF rfl (by simp) (fun j k e => by simp at e) (fun j => by
      unfold cget
      rw [List.getD_eq_getElem?_getD]
      cases e : os[j]? with
      | none => rfl
      | some ct => exact List.all_eq_true.mp hfl ct (List.mem_of_getElem? e))
    rw [cput0] at A2
    exact q w as' GF HF (p1.trans pp) (l1.trans BF.g0) A2 (hr w r hw)
/-- slots handed on: the caller's container k is the callee's first -/
def slotK (k : Nat) : Slot → Slot
  | .p 0 => .p k
  | q => q
theorem er_call1 {k : Nat} {ct ct' : Cont} {rs' : List Slot} (h : EA K c ta s o s1 o1 rs') (hF : ∀ (R : RT) (X : XT), R r (ct' :: os) → F rs [ct] R X) (hk : k < o1.length) (hct : cget o1 k = ct) (hl : ct.flat = true) (hfl : (ct' :: os).all Cont.flat = true)
    (hrs : rs' = rs.map (slotK k)) (hp : rs.all (fun q => match q with | .p 0 => true | .p _ => false | _ => true) = true) :
    ER K c (tCall (spOf K F) [] E ta) s o s1 (o1.set k ct' ++ os) (rmap o1.length [k] r) := fun as G σ H A Q q =>
  h as G σ H A _ fun vs as1 G1 H1 p1 l1 A1 h1 => by
    have hka : k < as1.length := by rw [A1.asz]; exact hk
    have hv : ∀ {rs : List Slot} {vs : List V}, VsOk K as1 G1 vs (rs.map (slotK k)) → rs.all (fun q => match q with | .p 0 => true | .p _ => false | _ => true) = true → VsOk K [as1[k]] G1 vs rs := by
      intro rs
      induction rs with
      | nil => intro vs h _; cases h; exact .nil
      | cons r rs ih =>
        intro vs h e
        rw [List.all_cons, Bool.and_eq_true] at e
        cases h with
        | cons h t =>
          refine .cons ?_ (ih t e.2)
          cases r with
          | u => trivial
          | d x => exact h
          | p j =>
            cases j with
            | zero =>
              obtain ⟨a, e1, e2⟩ := (show ∃ a, as1[k]? = some a ∧ _ = V.ref a from h)
              rw [List.getElem?_eq_getElem hka] at e1
              exact ⟨a, by rw [← Option.some.inj e1]; rfl, e2⟩
            | succ j => exact absurd e.1 Bool.false_ne_true
    have one : ∀ (j i : Nat), ([k] : List Nat)[j]? = some i → j = 0 ∧ i = k := fun j i e => by
      cases j with
      | zero => exact ⟨rfl, (Option.some.inj e).symm⟩
      | succ j => simp at e
    have B := A1.into (ks := [k]) (M := [as1[k]]) (os := [ct]) (vs := vs) rfl rfl (by simp) (fun j i e => by
      obtain ⟨rfl, rfl⟩ := one j i e
      exact ⟨as1[i], rfl, List.getElem?_eq_getElem hka, hct.symm, by rw [hct]; exact hl⟩) (hv (hrs ▸ h1) hp)
    rw [List.append_nil]
    refine ⟨cx1 H1 G1 [as1[k]], rs, [ct], rfl, B, hF _ _ ?_⟩
    intro w asF GF σF HF sF BF hw
    obtain ⟨as', pp, A2, hr⟩ := A1.back (ks := [k]) BF rfl (by simp) (fun j i e => by
      obtain ⟨rfl, rfl⟩ := one j i e
      exact ⟨as1[i], rfl, List.getElem?_eq_getElem hka⟩) (fun j => by
      unfold cget
      rw [List.getD_eq_getElem?_getD]
      cases e : (ct' :: os)[j]? with
      | none => rfl
      | some ct => exact List.all_eq_true.mp hfl ct (List.mem_of_getElem? e))
    rw [cput1] at A2
    exact q w as' GF HF (p1.trans pp) (l1.trans BF.g0) A2 (hr w r hw)
end

/-! ### statements -/
section
variable (K : Fg) (c : Cx0)
def Run (t : TS) (D : Ends) (s : List Slot) (o : List Cont) : Prop := ∀ as G σ H, Abs K c as G σ H s o → t D σ H
def Go (P : L2.St → Hp → Prop) (s : List Slot) (o : List Cont) : Prop := ∀ as G σ H, Abs K c as G σ H s o → P σ H
def RetOk (D : Ends) (o : List Cont) (s : List Slot) (r : Slot) : Prop := ∀ v as G σ H, Abs K c as G σ H s o → VOk K as G v r → D.rt v H
end
section
variable {K : Fg} {c : Cx0} {s s1 s2 s' : List Slot} {o o1 o2 o' : List Cont} {r r1 r2 : Slot} {rs : List Slot} {ta tb te : TE} {tt : TT} {t u w : TS} {D : Ends} {i : Nat}
theorem q_asg (h : ER K c te s o s1 o1 r) (hi : i < s1.length) (k : Run K c u D (s1.set i r) o1) : Run K c (tSeq (tAsg te (gName i)) u) D s o := fun as G σ H A =>
  h as G σ H A _ fun v as1 G1 H1 _ _ A1 h1 => k as1 G1 _ H1 (A1.set hi h1)
theorem s_asg (h : ER K c te s o s1 o1 r) (hi : i < s1.length) (k : Go K c D.nx (s1.set i r) o1) : Run K c (tAsg te (gName i)) D s o := fun as G σ H A =>
  h as G σ H A _ fun v as1 G1 H1 _ _ A1 h1 => k as1 G1 _ H1 (A1.set hi h1)
theorem q_drop (h : ER K c te s o s1 o1 r) (k : Run K c u D s1 o1) : Run K c (tSeq (tDrop te) u) D s o := fun as G σ H A => h as G σ H A _ fun v as1 G1 H1 _ _ A1 h1 => k as1 G1 _ H1 A1
theorem s_drop (h : ER K c te s o s1 o1 r) (k : Go K c D.nx s1 o1) : Run K c (tDrop te) D s o := fun as G σ H A => h as G σ H A _ fun v as1 G1 H1 _ _ A1 h1 => k as1 G1 _ H1 A1
theorem q_if {b : Bool} (h : ET K c tt s o s1 o1 b) (h1 : b = true → Run K c t { D with nx := u D } s1 o1) (h2 : b = false → Run K c w { D with nx := u D } s1 o1) : Run K c (tSeq (tIfS tt t w) u) D s o := fun as G σ H A =>
  h as G σ H A _ fun as1 G1 H1 _ _ A1 => by
    cases b with
    | true => rw [if_pos rfl]; exact h1 rfl as1 G1 σ H1 A1
    | false => rw [if_neg Bool.false_ne_true]; exact h2 rfl as1 G1 σ H1 A1
theorem s_if {b : Bool} (h : ET K c tt s o s1 o1 b) (h1 : b = true → Run K c t D s1 o1) (h2 : b = false → Run K c w D s1 o1) : Run K c (tIfS tt t w) D s o := fun as G σ H A =>
  h as G σ H A _ fun as1 G1 H1 _ _ A1 => by
    cases b with
    | true => rw [if_pos rfl]; exact h1 rfl as1 G1 σ H1 A1
    | false => rw [if_neg Bool.false_ne_true]; exact h2 rfl as1 G1 σ H1 A1
theorem q_when {b : Bool} (h : ET K c tt s o s1 o1 b) (h1 : b = true → Run K c t { D with nx := u D } s1 o1) (h2 : b = false → Run K c u D s1 o1) : Run K c (tSeq (tIfS tt t tNext) u) D s o := q_if h h1 fun e as G σ H A => h2 e as G σ H A
theorem s_when {b : Bool} (h : ET K c tt s o s1 o1 b) (h1 : b = true → Run K c t D s1 o1) (h2 : b = false → Go K c D.nx s1 o1) : Run K c (tIfS tt t tNext) D s o := s_if h h1 fun e as G σ H A => h2 e as G σ H A
theorem s_ret (h : ER K c te s o s1 o1 r) (k : RetOk K c D o1 s1 r) : Run K c (tRet te) D s o := fun as G σ H A => h as G σ H A _ fun v as1 G1 H1 _ _ A1 h1 => k v as1 G1 σ H1 A1 h1
theorem s_retN (k : RetOk K c D o s (.d ())) : Run K c tRetN D s o := fun as G σ H A => k .non as G σ H A rfl
theorem s_next (k : Go K c D.nx s o) : Run K c tNext D s o := k
theorem s_break (k : Go K c D.bk s o) : Run K c tBreak D s o := k
theorem s_cont (k : Go K c D.ct s o) : Run K c tCont D s o := k
theorem go_run (k : Run K c u D s o) : Go K c (u D) s o := k
/-- x += e at a name -/
theorem q_augA {x j : Int} (hx : sget s i = .d x) (h : ER K c te s o s1 o1 (.d j)) (hi : i < s1.length) (k : Run K c u D (s1.set i (.d (x + j))) o1) : Run K c (tSeq (tAug i te (ipI fun i j => i + j)) u) D s o := fun as G σ H A => by
  have f := A.fr i
  rw [hx] at f
  obtain ⟨v, e, hv⟩ := f
  exact ⟨v, e, h as G σ H A _ fun y as1 G1 H1 _ _ A1 h1 => ⟨x, j, hv, h1, k as1 G1 _ H1 (A1.set hi (show VOk K as1 G1 (.int (x + j)) (.d (x + j)) from rfl))⟩⟩
theorem s_augA {x j : Int} (hx : sget s i = .d x) (h : ER K c te s o s1 o1 (.d j)) (hi : i < s1.length) (k : Go K c D.nx (s1.set i (.d (x + j))) o1) : Run K c (tAug i te (ipI fun i j => i + j)) D s o := fun as G σ H A => by
  have f := A.fr i
  rw [hx] at f
  obtain ⟨v, e, hv⟩ := f
  exact ⟨v, e, h as G σ H A _ fun y as1 G1 H1 _ _ A1 h1 => ⟨x, j, hv, h1, k as1 G1 _ H1 (A1.set hi (show VOk K as1 G1 (.int (x + j)) (.d (x + j)) from rfl))⟩⟩

/-! ### weaker: slots forgotten, containers let go -/
def SlW : List Slot → List Slot → Prop
  | [], [] => True
  | a :: s, b :: t => (b = .u ∨ a = b) ∧ SlW s t
  | _, _ => False
def OsW : List Cont → List Cont → Prop
  | _, [] => True
  | [], _ :: _ => False
  | a :: o, b :: p => (b = .gone ∨ a = b) ∧ OsW o p
def ptS (n : Nat) : Slot → Bool
  | .p k => decide (k < n)
  | _ => true
def ptC (n : Nat) : Cont → Bool
  | .obj _ fs => fs.all fun q => ptS n q.2
  | _ => true
theorem SlW.refl : ∀ s : List Slot, SlW s s
  | [] => trivial
  | _ :: s => ⟨.inr rfl, SlW.refl s⟩
theorem OsW.refl : ∀ s : List Cont, OsW s s
  | [] => trivial
  | _ :: s => ⟨.inr rfl, OsW.refl s⟩
theorem SlW.len : ∀ {s t : List Slot}, SlW s t → t.length = s.length
  | [], [], _ => rfl
  | _ :: _, _ :: _, ⟨_, h⟩ => congrArg Nat.succ h.len
theorem SlW.get : ∀ {s t : List Slot}, SlW s t → ∀ i, sget t i = .u ∨ sget t i = sget s i
  | [], [], _, _ => .inr rfl
  | _ :: _, _ :: _, ⟨e, _⟩, 0 => e.imp id Eq.symm
  | _ :: _, _ :: _, ⟨_, h⟩, i + 1 => h.get i
theorem OsW.get : ∀ {o p : List Cont}, OsW o p → ∀ k, cget p k = .gone ∨ cget p k = cget o k
  | _, [], _, k => .inl (by unfold cget; rw [List.getD_eq_getElem?_getD]; simp)
  | _ :: _, _ :: _, ⟨e, _⟩, 0 => e.imp id Eq.symm
  | _ :: _, _ :: _, ⟨_, h⟩, i + 1 => h.get i
theorem OsW.le : ∀ {o p : List Cont}, OsW o p → p.length ≤ o.length
  | _, [], _ => Nat.zero_le _
  | _ :: _, _ :: _, ⟨_, h⟩ => Nat.succ_le_succ h.le
theorem flds_pre {K : Fg} {as : List Addr} {n : Nat} {G : Hp} : ∀ {fvs : List (Str × V)} {fs : List (Str × Slot)}, (fs.all fun q => ptS n q.2) = true → FldsOk K as G fvs fs → FldsOk K (as.take n) G fvs fs
  | [], [], _, _ => trivial
  | (_, _) :: _, (_, s) :: _, e, ⟨h1, h2, h3⟩ => by
    rw [List.all_cons, Bool.and_eq_true] at e
    refine ⟨h1, ?_, flds_pre e.2 h3⟩
    cases s with
    | u => trivial
    | d x => exact h2
    | p k =>
      obtain ⟨a, e1, e2⟩ := h2
      exact ⟨a, by rw [List.getElem?_take_of_lt (of_decide_eq_true e.1)]; exact e1, e2⟩
theorem Abs.weak {K : Fg} {c : Cx0} {as : List Addr} {G H : Hp} {σ : L2.St} {s t : List Slot} {o p : List Cont} (A : Abs K c as G σ H s o) (hs : SlW s t) (ho : OsW o p) (hm : c.M.length ≤ p.length)
    (h1 : t.all (ptS p.length) = true) (h2 : p.all (ptC p.length) = true) : Abs K c (as.take p.length) G σ H t p := by
  have gt : ∀ {k : Nat} {a : Addr}, (as.take p.length)[k]? = some a → k < p.length ∧ as[k]? = some a := fun {k a} e => by
    have hk := (List.getElem?_eq_some_iff.mp e).1
    rw [List.length_take] at hk
    rw [List.getElem?_take_of_lt (by omega)] at e
    exact ⟨by omega, e⟩
  have sp : ∀ i k, sget t i = .p k → k < p.length := fun i k e => by
    have hi : i < t.length := by
      by_cases q : i < t.length
      · exact q
      · rw [sget_ge (by omega)] at e; cases e
    have m : sget t i ∈ t := by
      unfold sget; rw [List.getD_eq_getElem?_getD, List.getElem?_eq_getElem hi]; exact List.getElem_mem hi
    have := List.all_eq_true.mp h1 _ m
    rw [e] at this
    exact of_decide_eq_true this
  refine ⟨A.sub, A.g0, A.old, A.new, ?_, A.nd.sublist (List.take_sublist _ _), by rw [List.length_take, A.asz]; have := ho.le; omega, fun a m => A.asf a (List.mem_of_mem_take m), fun k a e l => ?_, fun i => ?_, fun k a e => ?_, ?_⟩
  · obtain ⟨more, e⟩ := A.pre
    refine ⟨more.take (p.length - c.M.length), ?_⟩
    rw [e, List.take_append, List.take_of_length_le hm]
  · obtain ⟨hk, e'⟩ := gt e
    rcases ho.get k with q | q
    · rw [q] at l; exact l.elim
    · rw [q] at l; exact A.lv k a e' l
  · have f := A.fr i
    rcases hs.get i with q | q
    · rw [q]; trivial
    · cases z : sget t i with
      | u => trivial
      | d x => rw [← q, z] at f; exact f
      | p k =>
        rw [← q, z] at f
        obtain ⟨a, e1, e2⟩ := f
        exact ⟨a, by rw [List.getElem?_take_of_lt (sp i k z)]; exact e1, e2⟩
  · obtain ⟨hk, e'⟩ := gt e
    have f := A.st k a e'
    have m : cget p k ∈ p := by
      unfold cget; rw [List.getD_eq_getElem?_getD, List.getElem?_eq_getElem hk]; exact List.getElem_mem hk
    have hc := List.all_eq_true.mp h2 _ m
    rcases ho.get k with q | q
    · rw [q]; trivial
    · rw [← q] at f
      cases z : cget p k with
      | gone => trivial
      | lst xs => rw [z] at f; exact f
      | dct xs => rw [z] at f; exact f
      | obj C fs =>
        rw [z] at f hc
        obtain ⟨dx, fvs, e1, e2⟩ := f
        exact ⟨dx, fvs, e1, flds_pre hc e2⟩
  · rw [A.len, hs.len]

/-! ### what is handed back -/
/-- data, beside the containers that came in -/
theorem ret_d {α : Type} [Rp α] {x : α} {Q : VK} {os : List Cont} (h : Rc K c Q (.d x) os) (ho : OsW o os) (hm : c.M.length ≤ os.length) (h2 : os.all (ptC os.length) = true) (hD : D.rt = Q) : RetOk K c D o s (.d x) := fun v as G σ H A hv => by
  rw [hD]
  have A2 := A.bare.weak (t := []) trivial ho hm rfl h2
  exact h v _ G [] H [] A2 hv
/-- a new container -/
theorem Abs.pick {as : List Addr} {G H : Hp} {σ : L2.St} {os : List Cont} {k : Nat} (A : Abs K c as G σ H s o) (ho : OsW o os) (hm : c.M.length ≤ os.length) (h2 : os.all (ptC os.length) = true) (hk : os.length ≤ k) (hko : k < o.length) (hf : (cget o k).flat = true) :
    ∃ as', Abs K c as' G [] H [] (os ++ [cget o k]) ∧ ∃ a, as[k]? = some a ∧ as'[os.length]? = some a := by
  have B := A.bare.weak (t := []) trivial ho hm rfl h2
  have hka : k < as.length := by rw [A.asz]; exact hko
  have ha : as[k]? = some as[k] := List.getElem?_eq_getElem hka
  have lt : (as.take os.length).length = os.length := B.asz
  have nin : as[k] ∉ as.take os.length := fun m => by
    obtain ⟨j, hj, e⟩ := List.mem_iff_getElem.mp m
    have e2 : as[j]? = some as[k] := by
      have q := List.getElem?_eq_getElem hj
      rw [e, List.getElem?_take_of_lt (by omega)] at q
      exact q
    have := nd_get A.nd e2 ha
    omega
  have nM : as[k] ∉ c.M := fun m => by
    obtain ⟨more, e⟩ := B.pre
    exact nin (by rw [e]; exact List.mem_append_left _ m)
  have gt : ∀ {j : Nat} {a : Addr}, (as.take os.length ++ [as[k]])[j]? = some a → (j = os.length ∧ a = as[k]) ∨ (j ≠ os.length ∧ (as.take os.length)[j]? = some a) := fun {j a} e => by
    by_cases q : j < os.length
    · rw [List.getElem?_append_left (by omega)] at e; exact .inr ⟨by omega, e⟩
    · have hj := (List.getElem?_eq_some_iff.mp e).1
      rw [List.length_append, List.length_singleton] at hj
      have ej : j = (as.take os.length).length := by omega
      subst ej
      rw [List.getElem?_concat_length] at e
      exact .inl ⟨lt, (Option.some.inj e).symm⟩
  refine ⟨as.take os.length ++ [as[k]], ⟨B.sub, B.g0, B.old, B.new, B.pre.trans ⟨_, rfl⟩, ?_, by simp [lt], fun a m => ?_, fun j a e l => ?_, fun j => trivial, fun j a e => ?_, rfl⟩, as[k], ha, ?_⟩
  · exact List.nodup_append.mpr ⟨B.nd, by simp, fun a ha b hb z => nin ((show b = as[k] by simpa using hb) ▸ z ▸ ha)⟩
  · rcases List.mem_append.mp m with m | m
    · exact B.asf a m
    · have ea : a = as[k] := by simpa using m
      subst ea
      exact A.asf _ (List.mem_of_getElem? ha)
  · rcases gt e with ⟨ej, ea⟩ | ⟨ej, ea⟩
    · rw [ej, cget_app, if_pos rfl] at l
      rw [ea]; exact A.lv k _ ha l
    · rw [cget_app, if_neg ej] at l
      exact B.lv j a ea l
  · rcases gt e with ⟨ej, ea⟩ | ⟨ej, ea⟩
    · rw [ej, cget_app, if_pos rfl, ea]
      exact (A.st k _ ha).flat hf
    · rw [cget_app, if_neg ej]
      exact (B.st j a ea).mono ⟨_, rfl⟩ (Le.refl _)
  · rw [List.getElem?_append_right (by omega), lt]; simp
theorem ret_p {Q : VK} {os : List Cont} {k n : Nat} {ct : Cont} (h : Rc K c Q (.p n) (os ++ [ct])) (hn : n = os.length) (ho : OsW o os) (hm : c.M.length ≤ os.length) (h2 : os.all (ptC os.length) = true) (hk : os.length ≤ k) (hko : k < o.length) (hc : cget o k = ct) (hf : ct.flat = true) (hD : D.rt = Q) :
    RetOk K c D o s (.p k) := fun v as G σ H A hv => by
  subst hn
  rw [hD]
  obtain ⟨as', A2, a, e1, e2⟩ := A.pick ho hm h2 hk hko (by rw [hc]; exact hf)
  rw [hc] at A2
  obtain ⟨b, e3, e4⟩ := hv
  have eb : b = a := Option.some.inj (e3.symm.trans e1)
  subst eb
  exact h v as' G [] H [] A2 ⟨b, e2, e4⟩
/-- the entry -/
theorem enter {F : FS} {N : List Str} {vs : List V} {H : Hp} {Q : VK} {E : XK} (h : spOf K F vs H Q E) (k : ∀ (c : Cx0) (ss : List Slot) (os : List Cont), c.M.length = os.length → F ss os (Rc K c Q) (Xc K c E) →
    Run K c t { nx := fun _ H' => Q .non H', rt := Q } (ss ++ List.replicate (N.length - ss.length) .u) os) : t { nx := fun _ H' => Q .non H', rt := Q } (L2.start N vs) H := by
  obtain ⟨c, ss, os, rfl, A, f⟩ := h
  have hl := A.len
  rw [List.length_map] at hl
  refine k c ss os A.asz f c.M c.G (L2.start N vs) c.H ⟨A.sub, A.g0, A.old, A.new, A.pre, A.nd, A.asz, A.asf, A.lv, fun i => ?_, A.st, ?_⟩
  · unfold L2.start
    by_cases hi : i < vs.length
    · rw [List.getElem?_append_left (by simpa using hi)]
      have f := A.fr i
      have e : sget (ss ++ List.replicate (N.length - ss.length) .u) i = sget ss i := by
        unfold sget
        rw [List.getD_eq_getElem?_getD, List.getD_eq_getElem?_getD, List.getElem?_append_left (by omega)]
      rw [e]; exact f
    · have e : sget (ss ++ List.replicate (N.length - ss.length) .u) i = .u := by
        unfold sget
        rw [List.getD_eq_getElem?_getD, List.getElem?_append_right (by omega), List.getElem?_replicate]
        split <;> rfl
      rw [e]; trivial
  · unfold L2.start
    rw [List.length_append, List.length_append, List.length_map, List.length_replicate, List.length_replicate, hl]
theorem s_end {Q : VK} (h : RetOk K c ⟨fun _ H' => Q .non H', Q, fun _ _ => False, fun _ _ => False⟩ o s (.d ())) : Go K c (fun _ H' => Q .non H') s o := fun as G σ H A => h .non as G σ H A rfl
end
end VL

set_option maxHeartbeats 4000000
/-! THE VALUE LAYER 3: what is walked, loops, comprehensions, the containers' operations. -/
namespace VL
open PySem PySem.Spec PyProof.Rows L2

/-! ### typed dicts -/
section
variable {κ α : Type} [DecidableEq κ]
def dget (kvs : List (κ × α)) (k : κ) : Option α := (kvs.find? fun p => decide (p.1 = k)).map (·.2)
def dput (kvs : List (κ × α)) (k : κ) (x : α) : List (κ × α) := if (kvs.any fun p => decide (p.1 = k)) = true then kvs.map (fun p => if p.1 = k then (p.1, x) else p) else kvs ++ [(k, x)]
def ddrop (kvs : List (κ × α)) (k : κ) : List (κ × α) := kvs.filter fun p => decide (p.1 ≠ k)
theorem dget_nil {k : κ} : dget ([] : List (κ × α)) k = none := rfl
theorem dget_cons {p : κ × α} {l : List (κ × α)} {k : κ} : dget (p :: l) k = if p.1 = k then some p.2 else dget l k := by
  unfold dget; rw [List.find?_cons]
  by_cases h : p.1 = k <;> simp [h]
theorem dput_len (kvs : List (κ × α)) (k : κ) (x : α) : (dput kvs k x).length ≤ kvs.length + 1 := by
  unfold dput; split <;> simp
end
section
variable {κ α : Type} [DecidableEq κ] [KeyT κ] [Rp α] {K : Fg} {G : Hp}
theorem key_iff {a b : κ} : KeyT.key a = KeyT.key b ↔ a = b := ⟨KeyT.inj a b, fun h => h ▸ rfl⟩
theorem kv_get {vs : List (Key × V)} {kvs : List (κ × α)} (h : KvOk K G vs kvs) (k : κ) : (dget kvs k = none ∧ valV vs (KeyT.key k) = none) ∨ ∃ v x, dget kvs k = some x ∧ valV vs (KeyT.key k) = some v ∧ Rp.rep K G v x := by
  induction h with
  | nil => exact .inl ⟨rfl, rfl⟩
  | @cons p q l m r t ih =>
    obtain ⟨r1, r2⟩ := r
    rw [dget_cons]
    by_cases e : q.1 = k
    · refine .inr ⟨p.2, q.2, by rw [if_pos e], valV_pos (by rw [r1, e]), r2⟩
    · rw [if_neg e, valV_neg (fun z => e (KeyT.inj _ _ (r1.symm.trans z)))]
      exact ih
theorem kv_some {vs : List (Key × V)} {kvs : List (κ × α)} (h : KvOk K G vs kvs) {k : κ} {x : α} (e : dget kvs k = some x) : ∃ v, valV vs (KeyT.key k) = some v ∧ Rp.rep K G v x := by
  rcases kv_get h k with ⟨e1, _⟩ | ⟨v, y, e1, e2, e3⟩
  · rw [e1] at e; cases e
  · rw [e1] at e; cases e; exact ⟨v, e2, e3⟩
theorem kv_is {vs : List (Key × V)} {kvs : List (κ × α)} (h : KvOk K G vs kvs) (k : κ) : (valV vs (KeyT.key k)).isSome = (dget kvs k).isSome := by
  rcases kv_get h k with ⟨e1, e2⟩ | ⟨v, y, e1, e2, e3⟩ <;> rw [e1, e2] <;> rfl
theorem kv_any {vs : List (Key × V)} {kvs : List (κ × α)} (h : KvOk K G vs kvs) (k : κ) : (vs.any fun p => decide (p.1 = KeyT.key k)) = kvs.any fun p => decide (p.1 = k) := by
  induction h with
  | nil => rfl
  | @cons p q l m r t ih =>
    rw [List.any_cons, List.any_cons, ih, r.1]
    congr 1
    exact decide_eq_decide.mpr key_iff
theorem kv_put {vs : List (Key × V)} {kvs : List (κ × α)} (h : KvOk K G vs kvs) {k : κ} {v : V} {x : α} (r : Rp.rep K G v x) : KvOk K G (putK vs (KeyT.key k) v) (dput kvs k x) := by
  unfold putK dput
  rw [kv_any h k]
  by_cases a : (kvs.any fun p => decide (p.1 = k)) = true
  · rw [if_pos a, if_pos a]
    refine pr_map _ _ (fun p q e => ?_) h
    by_cases z : q.1 = k
    · rw [if_pos z, if_pos (by rw [e.1, z])]; exact ⟨e.1, r⟩
    · rw [if_neg z, if_neg (by rw [e.1]; exact fun y => z (KeyT.inj _ _ y))]; exact e
  · rw [if_neg a, if_neg a]
    exact pr_app h (pr_one ⟨rfl, r⟩)
theorem kv_drop {vs : List (Key × V)} {kvs : List (κ × α)} (h : KvOk K G vs kvs) (k : κ) : KvOk K G (dropK vs (KeyT.key k)) (ddrop kvs k) := by
  unfold dropK ddrop
  induction h with
  | nil => exact .nil
  | @cons p q l m r t ih =>
    rw [List.filter_cons, List.filter_cons]
    by_cases z : q.1 = k
    · have z' : p.1 = KeyT.key k := by rw [r.1, z]
      simp only [z, z', ne_eq, not_true, decide_false, Bool.false_eq_true, if_false]; exact ih
    · have z' : ¬ p.1 = KeyT.key k := by rw [r.1]; exact fun y => z (KeyT.inj _ _ y)
      simp only [z, z', ne_eq, not_false_eq_true, decide_true, if_true]; exact .cons r ih
end

/-! ### a deeper entry: what stood stays where it is -/
def CLe (K : Fg) (c c' : Cx0) : Prop := ∀ as G σ H s o, Abs K c' as G σ H s o → Abs K c as G σ H s o
theorem CLe.refl (K : Fg) (c : Cx0) : CLe K c c := fun _ _ _ _ _ _ A => A
theorem CLe.trans {K : Fg} {a b c : Cx0} (x : CLe K a b) (y : CLe K b c) : CLe K a c := fun _ _ _ _ _ _ A => x _ _ _ _ _ _ (y _ _ _ _ _ _ A)
section
variable {K : Fg} {c c' : Cx0} {as : List Addr} {G H : Hp} {σ : L2.St} {s s1 s2 s' : List Slot} {o o1 o2 o' : List Cont} {r : Slot} {D : Ends} {t u : TS}
theorem Abs.deep (A : Abs K c as G σ H s o) : Abs K ⟨c.H, G, as⟩ as G σ H s o ∧ CLe K c ⟨c.H, G, as⟩ := by
  have inM : ∀ {a : Addr}, a ∈ as → a ∈ c.M ∨ c.H a = none := fun m => (A.asf _ m).2
  refine ⟨⟨A.sub, Le.refl _, fun b u e m => ?_, fun b u e => .inl e, Pre.refl _, A.nd, A.asz, fun a m => ⟨(A.asf a m).1, .inl m⟩, A.lv, A.fr, A.st, A.len⟩, fun as' G' σ' H' s' o' B => ?_⟩
  · refine A.old b u e fun z => m ?_
    obtain ⟨more, e⟩ := A.pre
    rw [e]; exact List.mem_append_left _ z
  · refine ⟨B.sub, A.g0.trans B.g0, fun b u e m => ?_, fun b u e => ?_, A.pre.trans B.pre, B.nd, B.asz, fun a m => ⟨(B.asf a m).1, ?_⟩, B.lv, B.fr, B.st, B.len⟩
    · refine B.old b u e fun z => ?_
      rcases inM z with y | y
      · exact m y
      · rw [y] at e; cases e
    · rcases B.new b u e with z | z
      · exact A.new b u z
      · exact .inr z
    · rcases (B.asf a m).2 with y | y
      · exact inM y
      · exact .inr y
theorem Run.up (h : CLe K c c') (k : Run K c t D s o) : Run K c' t D s o := fun as G σ H A => k as G σ H (h _ _ _ _ _ _ A)
theorem Go.up {P : L2.St → Hp → Prop} (h : CLe K c c') (k : Go K c P s o) : Go K c' P s o := fun as G σ H A => k as G σ H (h _ _ _ _ _ _ A)
theorem RetOk.up (h : CLe K c c') (k : RetOk K c D o s r) : RetOk K c' D o s r := fun v as G σ H A => k v as G σ H (h _ _ _ _ _ _ A)

/-! ### what is walked -/
/-- J yields the things xs, one by one, as long as P holds of the store -/
def Yl {α : Type} [Rp α] (K : Fg) (c0 : Cx0) (J : It) (xs : List α) (P : List Cont → Prop) : Prop := ∀ c : Cx0, CLe K c0 c → ∀ (i : Nat) (as : List Addr) (G : Hp) (σ : L2.St) (H : Hp) (s : List Slot) (o : List Cont), Abs K c as G σ H s o → P o →
  (i = xs.length → J.stop i H) ∧ ∀ y, xs[i]? = some y → J.go i H ∧ ∀ x H', J.yld i H x H' → ∃ G', Le G G' ∧ Abs K c as G' σ H' s o ∧ Rp.rep K G' x y
def EI {α : Type} [Rp α] (K : Fg) (c : Cx0) (wi : TI) (s : List Slot) (o : List Cont) (s' : List Slot) (o' : List Cont) (xs : List α) (P : List Cont → Prop) : Prop :=
  ∀ as G σ H, Abs K c as G σ H s o → ∀ R : It → Hp → Prop, (∀ c' J as1 G1 H1, CLe K c c' → c'.M.length = o'.length → Pre as as1 → Le G G1 → Abs K c' as1 G1 σ H1 s' o' → Yl K c' J xs P → R J H1) → wi σ H R
theorem ei_data {α : Type} [Rp α] {xs : List α} {te : TE} (h : ER K c te s o s1 o1 (.d xs)) : EI K c (iList K te) s o s1 o1 xs (fun _ => True) := fun as G σ H A R q =>
  h as G σ H A _ fun v as1 G1 H1 p1 l1 A1 hv => by
    obtain ⟨a, vs, rfl, hs, hr⟩ := (show Rp.rep K G1 v xs from hv)
    obtain ⟨A2, hc⟩ := A1.deep
    refine ⟨a, rfl, ⟨vs, A1.sub.sqL hs⟩, q _ _ as1 G1 H1 hc A1.asz p1 l1 A2 fun c1 hc1 i as2 G2 σ2 H2 s2 o2 B _ => ⟨fun e => ⟨vs, ((hc1 _ _ _ _ _ _ B).g0.trans B.sub).sqL hs, by rw [pr_len hr]; omega⟩, fun y e => ?_⟩⟩
    obtain ⟨v, hv, rv⟩ := pr_get hr e
    have hs2 := ((hc1 _ _ _ _ _ _ B).g0.trans B.sub).sqL hs
    exact ⟨⟨vs, v, hs2, hv⟩, fun x H' ⟨e1, e2⟩ => by
      subst e1
      have ex := e2 vs hs2
      rw [hv] at ex
      cases ex
      exact ⟨G2, Le.refl _, B, Rp.mono (hc1 _ _ _ _ _ _ B).g0 rv⟩⟩
theorem ei_store {α : Type} [Rp α] {xs : List α} {te : TE} {k : Nat} (h : ER K c te s o s1 o1 (.p k)) (hk : cget o1 k = .lst xs) : EI K c (iList K te) s o s1 o1 xs (fun o => cget o k = .lst xs) := fun as G σ H A R q =>
  h as G σ H A _ fun v as1 G1 H1 p1 l1 A1 hv => by
    obtain ⟨a, ha, rfl⟩ := hv
    obtain ⟨A2, hc⟩ := A1.deep
    have f := A1.st k a ha
    rw [hk] at f
    obtain ⟨vs0, e0, _⟩ := f
    refine ⟨a, rfl, ⟨vs0, SqL.of e0⟩, q _ _ as1 G1 H1 hc A1.asz p1 l1 A2 fun c1 hc1 i as2 G2 σ2 H2 s2 o2 B hP => ?_⟩
    have ha2 : as2[k]? = some a := (hc1 _ _ _ _ _ _ B).pre.get ha
    have f := B.st k a ha2
    rw [hP] at f
    obtain ⟨vs, e1, hr⟩ := f
    refine ⟨fun e => ⟨vs, SqL.of e1, by rw [pr_len hr]; omega⟩, fun y e => ?_⟩
    obtain ⟨v, hv, rv⟩ := pr_get hr e
    exact ⟨⟨vs, v, SqL.of e1, hv⟩, fun x H' ⟨e2, e3⟩ => by
      subst e2
      have ex := e3 vs (SqL.of e1)
      rw [hv] at ex
      cases ex
      exact ⟨G2, Le.refl _, B, rv⟩⟩
/-- a range, as rngl -/
def rngl (lo : Int) (n : Nat) : List Int := (List.range n).map fun (i : Nat) => lo + (i : Int)
theorem rngl_get {lo : Int} {n i : Nat} {y : Int} : (rngl lo n)[i]? = some y ↔ i < n ∧ y = lo + (i : Int) := by
  unfold rngl
  by_cases h : i < n
  · rw [List.getElem?_map, List.getElem?_range h]; simp [h, eq_comm]
  · rw [List.getElem?_eq_none (by simp; omega)]; simp [h]
theorem rngl_len {lo : Int} {n : Nat} : (rngl lo n).length = n := by simp [rngl]
theorem yl_range {lo : Int} {n : Nat} : Yl K c (Itr lo n) (rngl lo n) (fun _ => True) := fun _ _ i as G σ H s o A _ => ⟨fun e => by rw [rngl_len] at e; exact Nat.le_of_eq e.symm, fun y e => by
  obtain ⟨h1, h2⟩ := rngl_get.mp e
  exact ⟨h1, fun x H' ⟨e1, e2⟩ => by subst e1; exact ⟨G, Le.refl _, A, by rw [e2, ← h2]; rfl⟩⟩⟩
theorem ei_rng1 {ta : TA} {n : Int} (h : EA K c ta s o s1 o1 [.d n]) (hn : -(2 ^ 62) ≤ n ∧ n < 2 ^ 62) : EI K c (iRng1 ta) s o s1 o1 (rngl 0 n.toNat) (fun _ => True) := fun as G σ H A R q =>
  h as G σ H A _ fun vs as1 G1 H1 p1 l1 A1 h1 => by
    obtain ⟨x, rfl, hx⟩ := VsOk.one h1
    obtain ⟨A2, hc⟩ := A1.deep
    exact ⟨n, by rw [show x = .int n from hx], hn.1, hn.2, q _ _ as1 G1 H1 hc A1.asz p1 l1 A2 yl_range⟩
theorem ei_rng2 {ta : TA} {lo hi : Int} (h : EA K c ta s o s1 o1 [.d lo, .d hi]) (hn : -(2 ^ 62) ≤ lo ∧ lo < 2 ^ 62 ∧ -(2 ^ 62) ≤ hi ∧ hi < 2 ^ 62) : EI K c (iRng2 ta) s o s1 o1 (rngl lo (hi - lo).toNat) (fun _ => True) := fun as G σ H A R q =>
  h as G σ H A _ fun vs as1 G1 H1 p1 l1 A1 h1 => by
    obtain ⟨x, y, rfl, hx, hy⟩ := VsOk.two h1
    obtain ⟨A2, hc⟩ := A1.deep
    exact ⟨lo, hi, by rw [show x = .int lo from hx, show y = .int hi from hy], hn, q _ _ as1 G1 H1 hc A1.asz p1 l1 A2 yl_range⟩
/-- a tuple of any length, data -/
theorem ei_tup {α : Type} [Rp α] {xs : List α} {te : TE} (h : ER K c te s o s1 o1 (.d (Tup.mk xs))) : EI K c (iTup K te) s o s1 o1 xs (fun _ => True) := fun as G σ H A R q =>
  h as G σ H A _ fun v as1 G1 H1 p1 l1 A1 hv => by
    obtain ⟨a, vs, rfl, hs, hr⟩ := (show Rp.rep K G1 v (Tup.mk xs) from hv)
    obtain ⟨A2, hc⟩ := A1.deep
    refine ⟨a, rfl, ⟨vs, A1.sub.sqT hs⟩, q _ _ as1 G1 H1 hc A1.asz p1 l1 A2 fun c1 hc1 i as2 G2 σ2 H2 s2 o2 B _ => ⟨fun e => ⟨vs, ((hc1 _ _ _ _ _ _ B).g0.trans B.sub).sqT hs, by rw [pr_len hr]; show xs.length ≤ i; omega⟩, fun y e => ?_⟩⟩
    obtain ⟨v, hv, rv⟩ := pr_get hr e
    have hs2 := ((hc1 _ _ _ _ _ _ B).g0.trans B.sub).sqT hs
    exact ⟨⟨vs, v, hs2, hv⟩, fun x H' ⟨e1, e2⟩ => by
      subst e1
      have ex := e2 vs hs2
      rw [hv] at ex
      cases ex
      exact ⟨G2, Le.refl _, B, Rp.mono (hc1 _ _ _ _ _ _ B).g0 rv⟩⟩

/-! ### targets -/
def EG (K : Fg) (tg : TG) (r : Slot) (s s' : List Slot) : Prop := ∀ c as G σ H o v, Abs K c as G σ H s o → VOk K as G v r → ∀ P : L2.St → Hp → Prop, (∀ σ', Abs K c as G σ' H s' o → P σ' H) → tg v σ H P
def EGs (K : Fg) (tg : TGs) (rs : List Slot) (s s' : List Slot) : Prop := ∀ c as G σ H o vs, Abs K c as G σ H s o → VsOk K as G vs rs → ∀ P : L2.St → Hp → Prop, (∀ σ', Abs K c as G σ' H s' o → P σ' H) → tg vs σ H P
theorem eg_name {i : Nat} (hi : i < s.length) : EG K (gName i) r s (s.set i r) := fun c as G σ H o v A hv P k => k _ (A.set hi hv)
theorem egs_nil : EGs K gNil [] s s := fun c as G σ H o vs A hv P k => by cases hv; exact ⟨rfl, k σ A⟩
theorem egs_cons {t : TG} {w : TGs} {rs : List Slot} (h : EG K t r s s1) (h2 : EGs K w rs s1 s2) : EGs K (gCons t w) (r :: rs) s s2 := fun c as G σ H o vs A hv P k => by
  cases hv with
  | cons a b => exact ⟨_, _, rfl, h c as G σ H o _ A a _ fun σ1 A1 => h2 c as G σ1 H o _ A1 b P k⟩
theorem eg_t2 {α β : Type} [Rp α] [Rp β] {x : T2 α β} {w : TGs} (h : EGs K w [.d x.a, .d x.b] s s1) : EG K (gTup K 2 w) (.d x) s s1 := fun c as G σ H o v A hv P k => by
  obtain ⟨t, v1, v2, rfl, hs, r1, r2⟩ := (show Rp.rep K G v x from hv)
  exact ⟨t, [v1, v2], rfl, A.sub.sqT hs, rfl, h c as G σ H o _ A (.cons r1 (.cons r2 .nil)) P k⟩
theorem eg_t3 {α β γ : Type} [Rp α] [Rp β] [Rp γ] {x : T3 α β γ} {w : TGs} (h : EGs K w [.d x.a, .d x.b, .d x.c] s s1) : EG K (gTup K 3 w) (.d x) s s1 := fun c as G σ H o v A hv P k => by
  obtain ⟨t, v1, v2, v3, rfl, hs, r1, r2, r3⟩ := (show Rp.rep K G v x from hv)
  exact ⟨t, [v1, v2, v3], rfl, A.sub.sqT hs, rfl, h c as G σ H o _ A (.cons r1 (.cons r2 (.cons r3 .nil))) P k⟩
/-- x, y = e -/
theorem s_asgG {te : TE} {g : TG} (h : ER K c te s o s1 o1 r) (hg : EG K g r s1 s2) (k : Go K c D.nx s2 o1) : Run K c (tAsg te g) D s o := fun as G σ H A =>
  h as G σ H A _ fun v as1 G1 H1 _ _ A1 h1 => hg c as1 G1 σ H1 o1 v A1 h1 _ fun σ2 A2 => k as1 G1 σ2 H1 A2

/-! ### loops -/
theorem run_seq (h : Run K c t { D with nx := u D } s o) : Run K c (tSeq t u) D s o := h
/-- what holds at a turn: the slots and the store by a datum -/
def At {ω : Type} (K : Fg) (c : Cx0) (I : ω → Prop) (f : ω → List Slot) (g : ω → List Cont) : L2.St → Hp → Prop := fun σ H => ∃ w, I w ∧ ∃ as G, Abs K c as G σ H (f w) (g w)
theorem go_at {ω : Type} {I : ω → Prop} {f : ω → List Slot} {g : ω → List Cont} (w : ω) (h : I w) (hs : SlW s (f w)) (ho : OsW o (g w)) (hm : c.M.length ≤ (g w).length) (h1 : (f w).all (ptS (g w).length) = true) (h2 : (g w).all (ptC (g w).length) = true) : Go K c (At K c I f g) s o := fun as G σ H A =>
  ⟨w, h, _, G, A.weak hs ho hm h1 h2⟩
theorem s_for {α ω : Type} [Rp α] {wi : TI} {tg : TG} {xs : List α} {P : List Cont → Prop} (I : Nat → ω → Prop) (f : ω → List Slot) (g : ω → List Cont) (f' : ω → α → List Slot) (h : EI K c wi s o s1 o1 xs P) (w0 : ω) (h0 : I 0 w0) (e1 : SlW s1 (f w0)) (e2 : o1 = g w0) (h1 : (f w0).all (ptS (g w0).length) = true) (h2 : (g w0).all (ptC (g w0).length) = true)
    (hP : ∀ k w, I k w → P (g w)) (hg : ∀ w x, EG K tg (.d x) (f w) (f' w x))
    (hs : ∀ c', CLe K c c' → c'.M.length = o1.length → ∀ (k : Nat) (w : ω) (x : α), xs[k]? = some x → I k w → Run K c' t { D with nx := At K c' (I (k + 1)) f g, ct := At K c' (I (k + 1)) f g, bk := D.nx } (f' w x) (g w))
    (hd : ∀ w, I xs.length w → Go K c D.nx (f w) (g w)) : Run K c (tFor wi tg t) D s o := fun as G σ H A =>
  h as G σ H A _ fun c' J as1 G1 H1 hc hM p1 l1 A1 Y => by
    have A1' : Abs K c' (as1.take (g w0).length) G1 σ H1 (f w0) (g w0) := A1.weak e1 (e2 ▸ OsW.refl _) (by rw [hM, e2]; exact Nat.le_refl _) h1 h2
    refine ⟨fun i m σ H => m = xs.length - i ∧ i ≤ xs.length ∧ At K c' (I i) f g σ H, ⟨xs.length, by simp, Nat.zero_le _, w0, h0, _, G1, A1'⟩, ?_⟩
    rintro i m σ2 H2 ⟨rfl, hi, w, iw, as2, G2, A2⟩
    obtain ⟨y1, y2⟩ := Y c' (CLe.refl K c') i as2 G2 σ2 H2 (f w) (g w) A2 (hP i w iw)
    by_cases hlt : i < xs.length
    · obtain ⟨go, yl⟩ := y2 xs[i] (List.getElem?_eq_getElem hlt)
      refine .inr ⟨go, At K c' (I (i + 1)) f g, fun σ' H' p' => ⟨xs.length - (i + 1), by omega, rfl, hlt, p'⟩, fun x H' y => ?_⟩
      obtain ⟨G3, l3, A3, rx⟩ := yl x H' y
      exact hg w xs[i] c' as2 G3 σ2 H' (g w) x A3 rx _ fun σ4 A4 => hs c' hc hM i w xs[i] (List.getElem?_eq_getElem hlt) iw as2 G3 σ4 H' A4
    · have e : i = xs.length := by omega
      subst e
      exact .inl ⟨y1 rfl, hd w iw as2 G2 σ2 H2 (hc _ _ _ _ _ _ A2)⟩
theorem s_while {ω : Type} {tt : TT} (I : ω → Prop) (μ : ω → Nat) (b : ω → Bool) (f : ω → List Slot) (g : ω → List Cont) (w0 : ω) (h0 : I w0) (e1 : SlW s (f w0)) (e2 : OsW o (g w0)) (hm : c.M.length ≤ (g w0).length) (h1 : (f w0).all (ptS (g w0).length) = true) (h2 : (g w0).all (ptC (g w0).length) = true)
    (hb : ∀ w, I w → ET K c tt (f w) (g w) (f w) (g w) (b w))
    (hs : ∀ w, I w → b w = true → Run K c t { D with nx := At K c (fun w' => I w' ∧ μ w' < μ w) f g, ct := At K c (fun w' => I w' ∧ μ w' < μ w) f g, bk := D.nx } (f w) (g w))
    (hd : ∀ w, I w → b w = false → Go K c D.nx (f w) (g w)) : Run K c (tWhile tt t) D s o := fun as G σ H A => by
  refine ⟨fun m σ H => ∃ w, m = μ w ∧ I w ∧ ∃ as G, Abs K c as G σ H (f w) (g w), ⟨μ w0, w0, rfl, h0, _, G, A.weak e1 e2 hm h1 h2⟩, ?_⟩
  rintro m σ2 H2 ⟨w, rfl, iw, as2, G2, A2⟩
  refine hb w iw as2 G2 σ2 H2 A2 _ fun as3 G3 H3 _ _ A3 => ?_
  cases e : b w with
  | true =>
    rw [if_pos rfl]
    exact ⟨_, fun σ' H' ⟨w', ⟨i1, i2⟩, as', G', A'⟩ => ⟨μ w', i2, w', rfl, i1, as', G', A'⟩, hs w iw e as3 G3 σ2 H3 A3⟩
  | false => rw [if_neg Bool.false_ne_true]; exact hd w iw e as3 G3 σ2 H3 A3
end
end VL

set_option maxHeartbeats 4000000
/-! THE VALUE LAYER 4: operations of containers, built-ins, comprehensions. -/
namespace VL
open PySem PySem.Spec PyProof.Rows L2
section
variable {K : Fg} {c c' : Cx0} {as : List Addr} {G H : Hp} {σ : L2.St} {s s1 s2 s' : List Slot} {o o1 o2 o' : List Cont} {r r1 r2 : Slot} {rs : List Slot} {D : Ends} {t u : TS} {te ta tb : TE} {i k : Nat}

/-! ### a slot of the store: its list stands there -/
theorem at_list {α : Type} [Rp α] {xs : List α} (A : Abs K c as G σ H s o) {a : Addr} (ha : as[k]? = some a) (hk : cget o k = .lst xs) : ∃ vs, H a = some (.lst vs) ∧ Reps K G vs xs := by
  have f := A.st k a ha; rw [hk] at f; exact f
theorem at_dct {κ α : Type} [KeyT κ] [Rp α] {xs : List (κ × α)} (A : Abs K c as G σ H s o) {a : Addr} (ha : as[k]? = some a) (hk : cget o k = .dct xs) : ∃ vs, H a = some (.dK vs) ∧ KvOk K G vs xs := by
  have f := A.st k a ha; rw [hk] at f; exact f
/-- data of the def's own is frozen where it is used -/
theorem er_frz {α : Type} [Rp α] {xs : List α} (h : ER K c te s o s1 o1 (.p k)) (hk : cget o1 k = .lst xs) (hm : c.M.length ≤ k) : ER K c te s o s1 (o1.set k .gone) (.d xs) := fun as G σ H A Q q =>
  h as G σ H A _ fun v as1 G1 H1 p1 l1 A1 hv => by
    obtain ⟨a, ha, rfl⟩ := hv
    obtain ⟨vs, e, hr⟩ := at_list A1 ha hk
    obtain ⟨A2, l2⟩ := A1.frz ha hm e
    exact q _ as1 _ H1 p1 (l1.trans l2) A2 ⟨a, vs, rfl, SqL.of upd_same, Reps.mono l2 hr⟩
theorem er_frzD {κ α : Type} [KeyT κ] [Rp α] {xs : List (κ × α)} (h : ER K c te s o s1 o1 (.p k)) (hk : cget o1 k = .dct xs) (hm : c.M.length ≤ k) : ER K c te s o s1 (o1.set k .gone) (.d (Dct.mk xs)) := fun as G σ H A Q q =>
  h as G σ H A _ fun v as1 G1 H1 p1 l1 A1 hv => by
    obtain ⟨a, ha, rfl⟩ := hv
    obtain ⟨vs, e, hr⟩ := at_dct A1 ha hk
    obtain ⟨A2, l2⟩ := A1.frz ha hm e
    exact q _ as1 _ H1 p1 (l1.trans l2) A2 ⟨a, vs, rfl, .of upd_same, KvOk.mono l2 hr⟩

/-! ### lists: pop, append, items -/
theorem er_pop {α : Type} [Rp α] {xs : List α} {x : α} (hs : sget s i = .p k) (hk : cget o k = .lst xs) (hx : xs[xs.length - 1]? = some x) : ER K c (tBM0 K "list" rPop (tVar i)) s o s (o.set k (.lst xs.dropLast)) (.d x) := fun as G σ H A Q q =>
  er_p hs as G σ H A _ fun v as1 G1 H1 p1 l1 A1 hv => by
    obtain ⟨a, ha, rfl⟩ := hv
    obtain ⟨vs, e, hr⟩ := at_list A1 ha hk
    obtain ⟨v, hv, rv⟩ := pr_get hr hx
    refine ⟨Or.inl ⟨rfl, vs, SqL.of e⟩, a, vs, v, rfl, rfl, e, by rw [pr_len hr]; exact hv, ?_⟩
    exact q v as1 G1 _ p1 l1 (A1.put ha (by rw [hk]; trivial) ⟨_, rfl, pr_dropLast hr⟩) rv
theorem s_append {α : Type} [Rp α] {xs : List α} {x : α} (hs : sget s i = .p k) (h : ER K c te s o s1 o1 (.d x)) (hk : cget o1 k = .lst xs) (hk0 : ∃ (β : Type) (j : Rp β) (ys : List β), cget o k = @Cont.lst β j ys) (hz : xs.length < sizeLine) (q : Go K c D.nx s1 (o1.set k (.lst (xs ++ [x])))) :
    Run K c (tDrop (tBM K "list" rAppend (tVar i) (tCons te tNil))) D s o := fun as G σ H A => by
    refine er_p hs as G σ H A (fun x H1 => tyV K "list" x H1 ∧ (tCons te tNil) σ H1 fun xs H2 => rAppend x xs H2 fun _ H3 => D.nx σ H3) fun v as1 G1 H1 p1 l1 A1 hv => ?_
    obtain ⟨a, ha, rfl⟩ := hv
    obtain ⟨β, j, ys, hk0⟩ := hk0
    obtain ⟨ws, e0, _⟩ := @at_list K c as1 G1 H1 σ s o k β j ys A1 a ha hk0
    refine ⟨Or.inl ⟨rfl, ws, SqL.of e0⟩, h as1 G1 σ H1 A1 _ fun w as2 G2 H2 p2 l2 A2 hw => ?_⟩
    have ha2 := p2.get ha
    obtain ⟨vs, e, hr⟩ := at_list A2 ha2 hk
    refine ⟨a, vs, w, rfl, rfl, e, by rw [pr_len hr]; exact hz, ?_⟩
    exact q as2 G2 σ _ (A2.put ha2 (by rw [hk]; trivial) ⟨_, rfl, pr_app hr (pr_one hw)⟩)
theorem at_of_reps {α : Type} [Rp α] {vs : List V} {xs : List α} {G : Hp} {j : Int} {x : α} (hr : Reps K G vs xs) (h : atI xs j = some x) : ∃ v, atI vs j = some v ∧ Rp.rep K G v x := by
  unfold atI at h ⊢
  rw [pr_len hr]
  cases e : ixN xs.length j with
  | none => rw [e] at h; cases h
  | some n =>
    rw [e] at h
    exact pr_get hr h
theorem ov_ixL {α : Type} [Rp α] {xs : List α} {j : Int} {x : α} (L : LView o r xs) (h : atI xs j = some x) : OV K c (rIx K) s o r (.d j) s o (.d x) := fun as G σ H u w A h1 h2 Q q => by
  obtain ⟨p, vs, rfl, hs, hr⟩ := L.at_ A h1
  obtain ⟨v, hv, rv⟩ := at_of_reps hr h
  exact .inl ⟨p, vs, j, v, rfl, h2, hs, hv, q v as G H (Pre.refl _) (Le.refl _) A rv⟩
theorem ov_ixT {α : Type} [Rp α] {xs : List α} {j : Int} {x : α} (h : atI xs j = some x) : OV K c (rIx K) s o (.d (Tup.mk xs)) (.d j) s o (.d x) := fun as G σ H u w A h1 h2 Q q => by
  obtain ⟨p, vs, rfl, hs, hr⟩ := (show Rp.rep K G u (Tup.mk xs) from h1)
  obtain ⟨v, hv, rv⟩ := at_of_reps hr h
  exact .inr (.inl ⟨p, vs, j, v, rfl, h2, A.sub.sqT hs, hv, q v as G H (Pre.refl _) (Le.refl _) A rv⟩)
theorem ov_ix20 {α β : Type} [Rp α] [Rp β] {x : T2 α β} : OV K c (rIx K) s o (.d x) (.d (0 : Int)) s o (.d x.a) := fun as G σ H u w A h1 h2 Q q => by
  obtain ⟨p, v1, v2, rfl, hs, r1, r2⟩ := (show Rp.rep K G u x from h1)
  exact .inr (.inl ⟨p, _, 0, v1, rfl, h2, A.sub.sqT hs, rfl, q v1 as G H (Pre.refl _) (Le.refl _) A r1⟩)
theorem ov_ix21 {α β : Type} [Rp α] [Rp β] {x : T2 α β} : OV K c (rIx K) s o (.d x) (.d (1 : Int)) s o (.d x.b) := fun as G σ H u w A h1 h2 Q q => by
  obtain ⟨p, v1, v2, rfl, hs, r1, r2⟩ := (show Rp.rep K G u x from h1)
  exact .inr (.inl ⟨p, _, 1, v2, rfl, h2, A.sub.sqT hs, rfl, q v2 as G H (Pre.refl _) (Le.refl _) A r2⟩)
theorem ov_ix30 {α β γ : Type} [Rp α] [Rp β] [Rp γ] {x : T3 α β γ} : OV K c (rIx K) s o (.d x) (.d (0 : Int)) s o (.d x.a) := fun as G σ H u w A h1 h2 Q q => by
  obtain ⟨p, v1, v2, v3, rfl, hs, r1, r2, r3⟩ := (show Rp.rep K G u x from h1)
  exact .inr (.inl ⟨p, _, 0, v1, rfl, h2, A.sub.sqT hs, rfl, q v1 as G H (Pre.refl _) (Le.refl _) A r1⟩)
theorem ov_ix31 {α β γ : Type} [Rp α] [Rp β] [Rp γ] {x : T3 α β γ} : OV K c (rIx K) s o (.d x) (.d (1 : Int)) s o (.d x.b) := fun as G σ H u w A h1 h2 Q q => by
  obtain ⟨p, v1, v2, v3, rfl, hs, r1, r2, r3⟩ := (show Rp.rep K G u x from h1)
  exact .inr (.inl ⟨p, _, 1, v2, rfl, h2, A.sub.sqT hs, rfl, q v2 as G H (Pre.refl _) (Le.refl _) A r2⟩)
theorem ov_ix32 {α β γ : Type} [Rp α] [Rp β] [Rp γ] {x : T3 α β γ} : OV K c (rIx K) s o (.d x) (.d (2 : Int)) s o (.d x.c) := fun as G σ H u w A h1 h2 Q q => by
  obtain ⟨p, v1, v2, v3, rfl, hs, r1, r2, r3⟩ := (show Rp.rep K G u x from h1)
  exact .inr (.inl ⟨p, _, 2, v3, rfl, h2, A.sub.sqT hs, rfl, q v3 as G H (Pre.refl _) (Le.refl _) A r3⟩)
/-- a[i] of the universal kind -/
theorem er_ix (h1 : ER K c ta s o s1 o1 r1) (h2 : ER K c tb s1 o1 s2 o2 r2) (h : OV K c (rIx K) s2 o2 r1 r2 s2 o2 r) : ER K c (uIx K ta tb) s o s2 o2 r := fun as G σ H A Q q => .inl (er_op h1 h2 h as G σ H A Q q)
/-! dicts that are read -/
def DView {κ α : Type} [KeyT κ] [Rp α] (o : List Cont) (r : Slot) (xs : List (κ × α)) : Prop := r = .d (Dct.mk xs) ∨ ∃ k, r = .p k ∧ cget o k = .dct xs
theorem DView.at_ {κ α : Type} [KeyT κ] [Rp α] {xs : List (κ × α)} {v : V} (L : DView o r xs) (A : Abs K c as G σ H s o) (h : VOk K as G v r) : ∃ p vs, v = .ref p ∧ Rd H p (.dK vs) ∧ KvOk K G vs xs := by
  rcases L with rfl | ⟨k, rfl, e⟩
  · obtain ⟨p, vs, e, q, hr⟩ := (show Rp.rep K G v (Dct.mk xs) from h)
    exact ⟨p, vs, e, A.sub.rd q, hr⟩
  · obtain ⟨a, ha, rfl⟩ := h
    obtain ⟨vs, e1, hr⟩ := at_dct A ha e
    exact ⟨a, vs, rfl, .of e1, hr⟩
theorem er_dget {κ α : Type} [DecidableEq κ] [KeyT κ] [Rp κ] [KeyR κ] [Rp α] {xs : List (κ × α)} {y : κ} {x : α} (h1 : ER K c ta s o s1 o1 r1) (h2 : ER K c tb s1 o1 s2 o2 (.d y)) (L : DView o2 r1 xs) (hx : dget xs y = some x) : ER K c (uIx K ta tb) s o s2 o2 (.d x) := fun as G σ H A Q q => .inr (
  h1 as G σ H A _ fun v as1 G1 H1 p1 l1 A1 hv => h2 as1 G1 σ H1 A1 _ fun w as2 G2 H2 p2 l2 A2 hw => by
    obtain ⟨p, vs, rfl, hd, hr⟩ := L.at_ A2 (hv.mono p2 l2)
    obtain ⟨z, e1, e2⟩ := kv_some hr hx
    exact ⟨p, z, rfl, .inl ⟨vs, KeyT.key y, hd, KeyR.to K G2 w y hw, e1.symm⟩, q z as2 G2 H2 (p1.trans p2) (l1.trans l2) A2 e2⟩)
theorem er_din {κ α : Type} [DecidableEq κ] [KeyT κ] [Rp κ] [KeyR κ] [Rp α] {xs : List (κ × α)} {y : κ} (h1 : ER K c ta s o s1 o1 (.d y)) (h2 : ER K c tb s1 o1 s2 o2 r2) (L : DView o2 r2 xs) : ER K c (uIn K ta tb) s o s2 o2 (.d (dget xs y).isSome) := fun as G σ H A Q q => .inr (
  h1 as G σ H A _ fun v as1 G1 H1 p1 l1 A1 hv => h2 as1 G1 σ H1 A1 _ fun w as2 G2 H2 p2 l2 A2 hw => by
    obtain ⟨p, vs, rfl, hd, hr⟩ := L.at_ A2 hw
    exact ⟨p, _, rfl, .inl ⟨vs, KeyT.key y, hd, KeyR.to K G1 v y hv, rfl⟩, q _ as2 G2 H2 (p1.trans p2) (l1.trans l2) A2 (by show V.bl _ = V.bl _; rw [kv_is hr])⟩)
theorem er_dnotin {κ α : Type} [DecidableEq κ] [KeyT κ] [Rp κ] [KeyR κ] [Rp α] {xs : List (κ × α)} {y : κ} (h1 : ER K c ta s o s1 o1 (.d y)) (h2 : ER K c tb s1 o1 s2 o2 r2) (L : DView o2 r2 xs) : ER K c (uNotIn K ta tb) s o s2 o2 (.d (!(dget xs y).isSome)) := fun as G σ H A Q q => .inr (
  h1 as G σ H A _ fun v as1 G1 H1 p1 l1 A1 hv => h2 as1 G1 σ H1 A1 _ fun w as2 G2 H2 p2 l2 A2 hw => by
    obtain ⟨p, vs, rfl, hd, hr⟩ := L.at_ A2 hw
    exact ⟨p, _, rfl, .inl ⟨vs, KeyT.key y, hd, KeyR.to K G1 v y hv, rfl⟩, q _ as2 G2 H2 (p1.trans p2) (l1.trans l2) A2 (by show V.bl _ = V.bl _; rw [kv_is hr])⟩)
/-- d[k] = v, d in slot i -/
theorem s_dput {κ α : Type} [DecidableEq κ] [KeyT κ] [Rp κ] [KeyR κ] [Rp α] {xs : List (κ × α)} {y : κ} {x : α} (hv : ER K c te s o s1 o1 (.d x)) (hs : sget s1 i = .p k) (hy : ER K c tb s1 o1 s2 o2 (.d y)) (hk : cget o2 k = .dct xs) (hz : xs.length < sizeLine)
    (q : Go K c D.nx s2 (o2.set k (.dct (dput xs y x)))) : Run K c (sDPut (tVar i) tb te) D s o := fun as G σ H A =>
  hv as G σ H A _ fun v as1 G1 H1 p1 l1 A1 hv => er_p hs as1 G1 σ H1 A1 _ fun w as2 G2 H2 p2 l2 A2 hw => hy as2 G2 σ H2 A2 _ fun z as3 G3 H3 p3 l3 A3 hz2 => by
    obtain ⟨a, ha, rfl⟩ := hw
    have ha3 := p3.get ha
    obtain ⟨vs, e, hr⟩ := at_dct A3 ha3 hk
    refine ⟨a, _, rfl, .inl ⟨vs, KeyT.key y, e, KeyR.to K G3 z y hz2, by rw [pr_len hr]; exact hz, rfl⟩, ?_⟩
    exact q as3 G3 σ _ (A3.put ha3 (by rw [hk]; trivial) ⟨_, rfl, kv_put hr (Rp.mono (l2.trans l3) (show Rp.rep K G1 v x from hv))⟩)
/-- del d[k] -/
theorem s_ddel {κ α : Type} [DecidableEq κ] [KeyT κ] [Rp κ] [KeyR κ] [Rp α] {xs : List (κ × α)} {y : κ} (hs : sget s i = .p k) (hy : ER K c tb s o s1 o1 (.d y)) (hk : cget o1 k = .dct xs) (hx : (dget xs y).isSome = true) (q : Go K c D.nx s1 (o1.set k (.dct (ddrop xs y)))) : Run K c (sDDel (tVar i) tb) D s o := fun as G σ H A =>
  er_p hs as G σ H A _ fun w as2 G2 H2 p2 l2 A2 hw => hy as2 G2 σ H2 A2 _ fun z as3 G3 H3 p3 l3 A3 hz2 => by
    obtain ⟨a, ha, rfl⟩ := hw
    have ha3 := p3.get ha
    obtain ⟨vs, e, hr⟩ := at_dct A3 ha3 hk
    refine ⟨a, vs, KeyT.key y, rfl, e, KeyR.to K G3 z y hz2, by rw [kv_is hr]; exact hx, ?_⟩
    exact q as3 G3 σ _ (A3.put ha3 (by rw [hk]; trivial) ⟨_, rfl, kv_drop hr y⟩)
/-- {} -/
theorem er_dnew {κ α : Type} [KeyT κ] [Rp α] : ER K c tDNewK s o s (o ++ [.dct ([] : List (κ × α))]) (.p o.length) := fun as G σ H A Q q p hp =>
  q _ _ _ _ ⟨[p], rfl⟩ (Le.refl _) (A.newP (o := .dK []) (ct := .dct ([] : List (κ × α))) hp ⟨[], rfl, .nil⟩) ⟨p, by rw [← A.asz, List.getElem?_concat_length], rfl⟩

/-! ### in a list or a tuple of flat things -/
class Flat (α : Type) extends Scal α where
  fl : ∀ x : α, flatV (Scal.to x) = true
  eqv : ∀ x y : α, eqV (Scal.to x) (Scal.to y) = true ↔ x = y
instance : Flat Int where
  fl := fun _ => rfl
  eqv := fun x y => by show (x == y) = true ↔ _; simp
instance : Flat Str where
  fl := fun _ => rfl
  eqv := fun x y => by show (x == y) = true ↔ _; simp
theorem flat_all {α : Type} [Flat α] {vs : List V} {xs : List α} (h : Reps K G vs xs) : vs.all flatV = true := by
  induction h with
  | nil => rfl
  | cons r t ih => rw [List.all_cons, ih, Scal.ok K G _ _ r, Flat.fl]; rfl
theorem flat_in {α : Type} [Flat α] [DecidableEq α] {vs : List V} {xs : List α} (h : Reps K G vs xs) (x : α) : inV (Scal.to x) vs = decide (x ∈ xs) := by
  unfold inV
  induction h with
  | nil => rfl
  | @cons a b l m r t ih =>
    rw [List.any_cons, ih, Scal.ok K G _ _ r]
    by_cases e : x = b
    · subst e
      rw [(Flat.eqv x x).mpr rfl]; simp
    · have e1 : eqV (Scal.to b) (Scal.to x) = false := by
        cases q : eqV (Scal.to b) (Scal.to x) with
        | false => rfl
        | true => exact absurd ((Flat.eqv b x).mp q).symm e
      rw [e1]; simp [e]
theorem er_inL {α : Type} [Flat α] [DecidableEq α] {xs : List α} {x : α} (h1 : ER K c ta s o s1 o1 (.d x)) (h2 : ER K c tb s1 o1 s2 o2 r2) (L : LView o2 r2 xs) : ER K c (uIn K ta tb) s o s2 o2 (.d (decide (x ∈ xs))) := fun as G σ H A Q q => .inl (
  h1 as G σ H A _ fun v as1 G1 H1 p1 l1 A1 hv => h2 as1 G1 σ H1 A1 _ fun w as2 G2 H2 p2 l2 A2 hw => by
    obtain ⟨p, vs, rfl, hd, hr⟩ := L.at_ A2 hw
    have ev := Scal.ok K G1 v x hv
    subst ev
    exact ⟨p, vs, rfl, .inl hd, Flat.fl x, flat_all hr, q _ as2 G2 H2 (p1.trans p2) (l1.trans l2) A2 (by show V.bl _ = V.bl _; rw [flat_in hr]; rfl)⟩)
theorem er_notinL {α : Type} [Flat α] [DecidableEq α] {xs : List α} {x : α} (h1 : ER K c ta s o s1 o1 (.d x)) (h2 : ER K c tb s1 o1 s2 o2 r2) (L : LView o2 r2 xs) : ER K c (uNotIn K ta tb) s o s2 o2 (.d (!decide (x ∈ xs))) := fun as G σ H A Q q => .inl (
  h1 as G σ H A _ fun v as1 G1 H1 p1 l1 A1 hv => h2 as1 G1 σ H1 A1 _ fun w as2 G2 H2 p2 l2 A2 hw => by
    obtain ⟨p, vs, rfl, hd, hr⟩ := L.at_ A2 hw
    have ev := Scal.ok K G1 v x hv
    subst ev
    exact ⟨p, vs, rfl, .inl hd, Flat.fl x, flat_all hr, q _ as2 G2 H2 (p1.trans p2) (l1.trans l2) A2 (by show V.bl _ = V.bl _; rw [flat_in hr]; rfl)⟩)
theorem er_inT {α : Type} [Flat α] [DecidableEq α] {xs : List α} {x : α} (h1 : ER K c ta s o s1 o1 (.d x)) (h2 : ER K c tb s1 o1 s2 o2 (.d (Tup.mk xs))) : ER K c (uIn K ta tb) s o s2 o2 (.d (decide (x ∈ xs))) := fun as G σ H A Q q => .inl (
  h1 as G σ H A _ fun v as1 G1 H1 p1 l1 A1 hv => h2 as1 G1 σ H1 A1 _ fun w as2 G2 H2 p2 l2 A2 hw => by
    obtain ⟨p, vs, rfl, hd, hr⟩ := (show Rp.rep K G2 w (Tup.mk xs) from hw)
    have ev := Scal.ok K G1 v x hv
    subst ev
    exact ⟨p, vs, rfl, .inr (A2.sub.sqT hd), Flat.fl x, flat_all hr, q _ as2 G2 H2 (p1.trans p2) (l1.trans l2) A2 (by show V.bl _ = V.bl _; rw [flat_in hr]; rfl)⟩)
theorem er_notinT {α : Type} [Flat α] [DecidableEq α] {xs : List α} {x : α} (h1 : ER K c ta s o s1 o1 (.d x)) (h2 : ER K c tb s1 o1 s2 o2 (.d (Tup.mk xs))) : ER K c (uNotIn K ta tb) s o s2 o2 (.d (!decide (x ∈ xs))) := fun as G σ H A Q q => .inl (
  h1 as G σ H A _ fun v as1 G1 H1 p1 l1 A1 hv => h2 as1 G1 σ H1 A1 _ fun w as2 G2 H2 p2 l2 A2 hw => by
    obtain ⟨p, vs, rfl, hd, hr⟩ := (show Rp.rep K G2 w (Tup.mk xs) from hw)
    have ev := Scal.ok K G1 v x hv
    subst ev
    exact ⟨p, vs, rfl, .inr (A2.sub.sqT hd), Flat.fl x, flat_all hr, q _ as2 G2 H2 (p1.trans p2) (l1.trans l2) A2 (by show V.bl _ = V.bl _; rw [flat_in hr]; rfl)⟩)

/-! ### built-ins -/
abbrev uLen (K : Fg) : List V → Hp → VK → Prop := fun xs H Q => ∃ p ys, xs = [.ref p] ∧ (SqL K H p ys ∨ SqT K H p ys) ∧ Q (.int ys.length) H
theorem cv_lenL {α : Type} [Rp α] {xs : List α} (L : LView o r xs) : CV K c (uLen K) s o [r] s o (.d (xs.length : Int)) := cv_of fun as G σ H vs A h Q q => by
  obtain ⟨v, rfl, hv⟩ := h.one
  obtain ⟨p, ws, rfl, hs, hr⟩ := L.at_ A hv
  exact ⟨p, ws, rfl, .inl hs, q _ (by show V.int _ = V.int _; rw [pr_len hr])⟩
theorem cv_lenT {α : Type} [Rp α] {xs : Tup α} : CV K c (uLen K) s o [.d xs] s o (.d (xs.l.length : Int)) := cv_of fun as G σ H vs A h Q q => by
  obtain ⟨v, rfl, hv⟩ := h.one
  obtain ⟨p, ws, rfl, hs, hr⟩ := (show Rp.rep K G v xs from hv)
  exact ⟨p, ws, rfl, .inr (A.sub.sqT hs), q _ (by show V.int _ = V.int _; rw [pr_len hr])⟩
abbrev uAbs : List V → Hp → VK → Prop := fun xs H Q => ∃ i, xs = [.int i] ∧ Q (.int (if i < 0 then -i else i)) H
theorem cv_abs {j : Int} : CV K c uAbs s o [.d j] s o (.d (if j < 0 then -j else j)) := cv_of fun as G σ H vs A h Q q => by
  obtain ⟨v, rfl, hv⟩ := h.one
  exact ⟨j, by rw [show v = .int j from hv], q _ rfl⟩
abbrev uMin2 : List V → Hp → VK → Prop := fun xs H Q => ∃ i j, xs = [.int i, .int j] ∧ Q (.int (if j < i then j else i)) H
abbrev uMax2 : List V → Hp → VK → Prop := fun xs H Q => ∃ i j, xs = [.int i, .int j] ∧ Q (.int (if j > i then j else i)) H
theorem cv_min2 {x y : Int} : CV K c uMin2 s o [.d x, .d y] s o (.d (min x y)) := cv_of fun as G σ H vs A h Q q => by
  obtain ⟨v, w, rfl, hv, hw⟩ := h.two
  refine ⟨x, y, by rw [show v = .int x from hv, show w = .int y from hw], q _ ?_⟩
  show V.int _ = V.int _
  rw [Int.min_def]; congr 1; split <;> split <;> omega
theorem cv_max2 {x y : Int} : CV K c uMax2 s o [.d x, .d y] s o (.d (max x y)) := cv_of fun as G σ H vs A h Q q => by
  obtain ⟨v, w, rfl, hv, hw⟩ := h.two
  refine ⟨x, y, by rw [show v = .int x from hv, show w = .int y from hw], q _ ?_⟩
  show V.int _ = V.int _
  rw [Int.max_def]; congr 1; split <;> split <;> omega
abbrev uInt : List V → Hp → VK → Prop := fun xs H Q => (∃ i, xs = [.int i] ∧ Q (.int i) H) ∨ ∃ k, xs = [.bl k] ∧ Q (.int (if k then 1 else 0)) H
theorem cv_int {x : Int} : CV K c uInt s o [.d x] s o (.d x) := cv_of fun as G σ H vs A h Q q => by
  obtain ⟨v, rfl, hv⟩ := h.one
  exact .inl ⟨x, by rw [show v = .int x from hv], q _ rfl⟩
theorem cv_intB {b : Bool} : CV K c uInt s o [.d b] s o (.d (if b then (1 : Int) else 0)) := cv_of fun as G σ H vs A h Q q => by
  obtain ⟨v, rfl, hv⟩ := h.one
  exact .inr ⟨b, by rw [show v = .bl b from hv], q _ rfl⟩
/-- list(x) of a list or a tuple: a new one -/
abbrev uList (K : Fg) : List V → Hp → VK → Prop := fun xs H Q => ∃ p ys, xs = [.ref p] ∧ (SqL K H p ys ∨ SqT K H p ys) ∧ ∀ l, H l = none → Q (.ref l) (upd H l (.lst ys))
theorem cv_listL {α : Type} [Rp α] {xs : List α} (L : LView o r xs) : CV K c (uList K) s o [r] s (o ++ [.lst xs]) (.p o.length) := fun as G σ H vs A h Q q => by
  obtain ⟨v, rfl, hv⟩ := h.one
  obtain ⟨p, ws, rfl, hs, hr⟩ := L.at_ A hv
  exact ⟨p, ws, rfl, .inl hs, fun l hl => q _ _ _ _ ⟨[l], rfl⟩ (Le.refl _) (A.newP (o := .lst ws) (ct := .lst xs) hl ⟨ws, rfl, hr⟩) ⟨l, by rw [← A.asz, List.getElem?_concat_length], rfl⟩⟩
theorem cv_listT {α : Type} [Rp α] {xs : Tup α} : CV K c (uList K) s o [.d xs] s (o ++ [.lst xs.l]) (.p o.length) := fun as G σ H vs A h Q q => by
  obtain ⟨v, rfl, hv⟩ := h.one
  obtain ⟨p, ws, rfl, hs, hr⟩ := (show Rp.rep K G v xs from hv)
  exact ⟨p, ws, rfl, .inr (A.sub.sqT hs), fun l hl => q _ _ _ _ ⟨[l], rfl⟩ (Le.refl _) (A.newP (o := .lst ws) (ct := .lst xs.l) hl ⟨ws, rfl, hr⟩) ⟨l, by rw [← A.asz, List.getElem?_concat_length], rfl⟩⟩
abbrev uTuple (K : Fg) : List V → Hp → VK → Prop := fun xs H Q => ∃ p ys, xs = [.ref p] ∧ ((SqL K H p ys ∧ ∀ l, H l = none → Q (.ref l) (upd H l (.tup ys))) ∨ (SqT K H p ys ∧ Q (.ref p) H))
theorem cv_tupleL {α : Type} [Rp α] {xs : List α} (L : LView o r xs) : CV K c (uTuple K) s o [r] s o (.d (Tup.mk xs)) := fun as G σ H vs A h Q q => by
  obtain ⟨v, rfl, hv⟩ := h.one
  obtain ⟨p, ws, rfl, hs, hr⟩ := L.at_ A hv
  refine ⟨p, ws, rfl, .inl ⟨hs, fun l hl => ?_⟩⟩
  have l2 : Le G (upd G l (.tup ws)) := Le.upd (A.sub.free hl)
  exact q _ as _ _ (Pre.refl _) l2 (A.newD (o := .tup ws) hl) ⟨l, ws, rfl, SqT.of upd_same, Reps.mono l2 hr⟩
theorem cv_tupleT {α : Type} [Rp α] {xs : Tup α} : CV K c (uTuple K) s o [.d xs] s o (.d xs) := cv_of fun as G σ H vs A h Q q => by
  obtain ⟨v, rfl, hv⟩ := h.one
  obtain ⟨p, ws, rfl, hs, hr⟩ := (show Rp.rep K G v xs from hv)
  exact ⟨p, ws, rfl, .inr ⟨A.sub.sqT hs, q _ ⟨p, ws, rfl, hs, hr⟩⟩⟩
/-- xs[::-1] -/
theorem er_revL {α : Type} [Rp α] {xs : List α} (h : ER K c te s o s1 o1 r) (L : LView o1 r xs) : ER K c (tRevL K te) s o s1 (o1 ++ [.lst xs.reverse]) (.p o1.length) := fun as G σ H A Q q =>
  h as G σ H A _ fun v as1 G1 H1 p1 l1 A1 hv => by
    obtain ⟨p, ws, rfl, hs, hr⟩ := L.at_ A1 hv
    exact ⟨p, ws, rfl, hs, fun l hl => q _ _ _ _ (p1.trans ⟨[l], rfl⟩) l1 (A1.newP (o := .lst ws.reverse) (ct := .lst xs.reverse) hl ⟨_, rfl, pr_rev hr⟩) ⟨l, by rw [← A1.asz, List.getElem?_concat_length], rfl⟩⟩
/-- slices of a list: a new one -/
theorem eo_none : EO K c tNoPart s o s o none := fun as G σ H A Q q => q as G H (Pre.refl _) (Le.refl _) A
theorem eo_some {j : Int} (h : ER K c te s o s1 o1 (.d j)) : EO K c (tPart te) s o s1 o1 (some j) := fun as G σ H A Q q => h as G σ H A _ fun v as1 G1 H1 p1 l1 A1 hv => ⟨j, hv, q as1 G1 H1 p1 l1 A1⟩
def cutA {α : Type} (xs : List α) (lo hi : Option Int) : List α := (xs.drop (HT.sIx xs.length 0 lo)).take (HT.sIx xs.length xs.length hi - HT.sIx xs.length 0 lo)
theorem cut_reps {α : Type} [Rp α] {vs : List V} {xs : List α} (hr : Reps K G vs xs) (lo hi : Option Int) : Reps K G (cutV vs lo hi) (cutA xs lo hi) := by
  unfold cutV cutA; rw [pr_len hr]; exact pr_take _ (pr_drop _ hr)
theorem er_sl {α : Type} [Rp α] {xs : List α} {tl th : TO} {lo hi : Option Int} {s3 : List Slot} {o3 : List Cont} (h : ER K c te s o s1 o1 r) (h1 : EO K c tl s1 o1 s2 o2 lo) (h2 : EO K c th s2 o2 s3 o3 hi) (L : LView o3 r xs) :
    ER K c (tSl (uSl K) te tl th) s o s3 (o3 ++ [.lst (cutA xs lo hi)]) (.p o3.length) := fun as G σ H A Q q =>
  h as G σ H A _ fun v as1 G1 H1 p1 l1 A1 hv => h1 as1 G1 σ H1 A1 _ fun as2 G2 H2 p2 l2 A2 => h2 as2 G2 σ H2 A2 _ fun as3 G3 H3 p3 l3 A3 => by
    obtain ⟨p, ws, rfl, hs, hr⟩ := L.at_ A3 (hv.mono (p2.trans p3) (l2.trans l3))
    exact .inl ⟨p, ws, rfl, hs, fun l hl => q _ _ _ _ (((p1.trans p2).trans p3).trans ⟨[l], rfl⟩) ((l1.trans l2).trans l3) (A3.newP (o := .lst _) (ct := .lst (cutA xs lo hi)) hl ⟨_, rfl, cut_reps hr lo hi⟩) ⟨l, by rw [← A3.asz, List.getElem?_concat_length], rfl⟩⟩
end
end VL

set_option maxHeartbeats 4000000
/-! THE VALUE LAYER 5: defs that keep their promise over values. -/
namespace VL
open PySem PySem.Spec PyProof.Rows L2

/-- the module's name x stands for a def that keeps the promise F, at most k calls deep -/
structure Good (P : Program) (w : World) (K : Fg) (mg : Str → Option Value) (base : Heap) (x : Str) (k : Nat) (ps : List Str) (F : FS) : Prop where
  ex : ∃ f fd, FnOk P w K mg base (L2.CX P w) k f fd ps (spOf K F) ∧ mg x = some (.ref f) ∧ PySem.W.keepIn K (.ref f) = true ∧ Binds K fd ps []
section
variable {X : Cx} {x : Str} {k k' : Nat} {ps : List Str} {F : FS} {E : XK} {p pos : Pos} {e : Expr} {es : List Expr} {t : TA}
theorem pe_good (g : Good X.prog X.w X.K X.mg X.base x k ps F) (hr : Room k' X.A) (hk : k ≤ k') (hg : Gl X x) (hx : Passes (L2.CX X.prog X.w) X E) (ha : PA X (e :: es) t) (hdb : (x == ("__debug__" : Str)) = false := by decide)
    (he : starEach (e :: es) X.env = (false, eval e X.env) :: starEach es X.env := by rfl) (hpl : (backTo pos (starEach es X.env)).any (·.1) = false := by rfl) : PE X (.Call (.Name x p) (e :: es) [] pos) (tCall (spOf X.K F) [] E t) := by
  obtain ⟨f, fd, h1, h2, h3, h4⟩ := g.ex
  exact pe_call h1 (hr.mono hk) hg h2 h3 h4 .nil hx ha hdb he hpl
theorem pe_good0 (g : Good X.prog X.w X.K X.mg X.base x k ps F) (hr : Room k' X.A) (hk : k ≤ k') (hg : Gl X x) (hx : Passes (L2.CX X.prog X.w) X E) (hdb : (x == ("__debug__" : Str)) = false := by decide) : PE X (.Call (.Name x p) [] [] pos) (tCall (spOf X.K F) [] E tNil) := by
  obtain ⟨f, fd, h1, h2, h3, h4⟩ := g.ex
  exact pe_call0 h1 (hr.mono hk) hg h2 h3 h4 .nil hx hdb
/-- a walk over a list or a tuple -/
def iSeq (K : Fg) (te : TE) : TI := fun σ H R => iList K te σ H R ∨ iTup K te σ H R
theorem pi_seq {tg l : Expr} {te : TE} (h : PE X l te) : PI X tg l (iSeq X.K te) :=
  ⟨fun pins s σ H R I q => q.elim ((pi_list h).run pins s σ H R I) ((pi_tup h).run pins s σ H R I)⟩
/-- d[k] = v of a dict, xs[i] = v of a list -/
def sPut (td ty tv : TE) : TS := fun D σ H => sDPut td ty tv D σ H ∨ tAsg tv (gSub td ty rSetL) D σ H
theorem ps_or {st : Stmt} {t t' : TS} (h : PS X st t) (h' : PS X st t') : PS X st (fun D σ H => t D σ H ∨ t' D σ H) :=
  ⟨fun pins s σ H D I q => q.elim (h.run pins s σ H D I) (h'.run pins s σ H D I)⟩
theorem passE {P : Program} {w : World} {K : Fg} {mg : Str → Option Value} {base : Heap} {N : List Str} {qual : Str} {scope : Scope} {f : Addr} {cd : Value} {A : Around} {outer : List Env} {s : Shared} {H : Hp} {E : XK}
    (hf : (envOfC qual scope s.heap.objs.size f cd).frame = some s.heap.objs.size := by rfl) : Passes (L2.CX P w) (cxOf (L2.CX P w) P w K mg base N qual scope f cd A outer s H E) E :=
  passes_call (W := fun cls d _ H => E cls d H) (takes_of rfl hf rfl rfl) fun _ _ _ _ h => h
end
section
variable {P : Program} {w : World} {K : Fg} {mg : Str → Option Value} {base : Heap}
theorem good_mk {x : Str} {st : Stmt} {N ps : List Str} {k : Nat} {F : FS} {f : Addr} (t : XK → TS) (FD : ∃ fd, FunD K x x (defArgs st) (defBody st) (defScope st) [] [] f fd) (hm : mg x = some (.ref f)) (S : FnScope N ps (defScope st))
    (len : ∀ ss os R X, F ss os R X → ss.length = ps.length)
    (hb : ∀ (kV doc pm : Value) (an : Option Addr) (cdv ct : Value) (us : List Value), us.length = ps.length → bindArgs (PySem.W.fnOf x x (defArgs st) (defBody st) (defScope st) .none kV doc pm an cdv ct) ⟨us, []⟩ = pure (ps.zip us))
    (body : ∀ (cdv : Value) (A : Around) (outer : List Env) (s : Shared) (H : Hp) (E : XK), Room k (A.deeper (envOfC x (defScope st) s.heap.objs.size f cdv)) → PSs (cxOf (L2.CX P w) P w K mg base N x (defScope st) f cdv A outer s H E) (defBody st) (t E))
    (run : ∀ (c : Cx0) (ss : List Slot) (os : List Cont) (Q : VK) (E : XK), c.M.length = os.length → F ss os (Rc K c Q) (Xc K c E) → Run K c (t E) { nx := fun _ H' => Q .non H', rt := Q } (ss ++ List.replicate (N.length - ss.length) .u) os) :
    Good P w K mg base x (k + 1) ps F := by
  obtain ⟨fd, FD⟩ := FD
  refine ⟨f, fd, ?_, hm, FD.kp, FD.bindsN hb⟩
  refine FD.ok S (fun vs H Q E h => spOf.len len vs H Q E h) (fun cdv A outer s H vs Q E hr h => ⟨t E, body cdv A outer s H E hr, ?_⟩)
  exact enter h fun c ss os hM hF => run c ss os Q E hM hF
end
end VL

set_option maxHeartbeats 4000000
/-! THE VALUE LAYER 6: guards, by the head of a reading. -/
namespace VL
open PySem PySem.Spec PyProof.Rows L2
section
variable {K : Fg} {c : Cx0} {s s' : List Slot} {o o' : List Cont} {r r1 r2 : Slot} {rs : List Slot} {ta tb te : TE} {rr : R2} {tt tu : TT} {t u w : TS} {D : Ends} {i : Nat} {b : Bool}
theorem gVar (h : ER K c (tVar i) s o s' o' r) : ER K c (tVar i) s o s' o' r := h
theorem gC {v : V} (h : ER K c (tC v) s o s' o' r) : ER K c (tC v) s o s' o' r := h
theorem gAdd (h : OV K c (uAdd K) s o r1 r2 s' o' r) : OV K c (uAdd K) s o r1 r2 s' o' r := h
theorem gSub (h : OV K c uSub s o r1 r2 s' o' r) : OV K c uSub s o r1 r2 s' o' r := h
theorem gMul (h : OV K c uMul s o r1 r2 s' o' r) : OV K c uMul s o r1 r2 s' o' r := h
theorem gDiv (h : OV K c uDiv s o r1 r2 s' o' r) : OV K c uDiv s o r1 r2 s' o' r := h
theorem gMod (h : OV K c uMod s o r1 r2 s' o' r) : OV K c uMod s o r1 r2 s' o' r := h
theorem gPow (h : OV K c uPow s o r1 r2 s' o' r) : OV K c uPow s o r1 r2 s' o' r := h
theorem gEq (h : OV K c (uEq K) s o r1 r2 s' o' r) : OV K c (uEq K) s o r1 r2 s' o' r := h
theorem gNe (h : OV K c (uNe K) s o r1 r2 s' o' r) : OV K c (uNe K) s o r1 r2 s' o' r := h
theorem gLt (h : OV K c uLt s o r1 r2 s' o' r) : OV K c uLt s o r1 r2 s' o' r := h
theorem gLe (h : OV K c uLe s o r1 r2 s' o' r) : OV K c uLe s o r1 r2 s' o' r := h
theorem gGt (h : OV K c uGt s o r1 r2 s' o' r) : OV K c uGt s o r1 r2 s' o' r := h
theorem gGe (h : OV K c uGe s o r1 r2 s' o' r) : OV K c uGe s o r1 r2 s' o' r := h
theorem gIs (h : OV K c uIs s o r1 r2 s' o' r) : OV K c uIs s o r1 r2 s' o' r := h
theorem gIsN (h : OV K c uIsN s o r1 r2 s' o' r) : OV K c uIsN s o r1 r2 s' o' r := h
theorem gIx (h : OV K c (rIx K) s o r1 r2 s' o' r) : OV K c (rIx K) s o r1 r2 s' o' r := h
theorem gLen (h : CV K c (uLen K) s o rs s' o' r) : CV K c (uLen K) s o rs s' o' r := h
theorem gInt (h : CV K c uInt s o rs s' o' r) : CV K c uInt s o rs s' o' r := h
theorem gAbs (h : CV K c uAbs s o rs s' o' r) : CV K c uAbs s o rs s' o' r := h
theorem gMin (h : CV K c uMin2 s o rs s' o' r) : CV K c uMin2 s o rs s' o' r := h
theorem gMax (h : CV K c uMax2 s o rs s' o' r) : CV K c uMax2 s o rs s' o' r := h
theorem gList (h : CV K c (uList K) s o rs s' o' r) : CV K c (uList K) s o rs s' o' r := h
theorem gTuple (h : CV K c (uTuple K) s o rs s' o' r) : CV K c (uTuple K) s o rs s' o' r := h
theorem gIsi (h : CV K c (rIsi K) s o rs s' o' r) : CV K c (rIsi K) s o rs s' o' r := h
theorem gPop (h : ER K c (tBM0 K "list" rPop (tVar i)) s o s' o' r) : ER K c (tBM0 K "list" rPop (tVar i)) s o s' o' r := h
theorem gIn (h : ER K c (uIn K ta tb) s o s' o' r) : ER K c (uIn K ta tb) s o s' o' r := h
theorem gNotIn (h : ER K c (uNotIn K ta tb) s o s' o' r) : ER K c (uNotIn K ta tb) s o s' o' r := h
theorem gUIx (h : ER K c (uIx K ta tb) s o s' o' r) : ER K c (uIx K ta tb) s o s' o' r := h
theorem gTB (h : ET K c (tB te) s o s' o' b) : ET K c (tB te) s o s' o' b := h
theorem gTru (h : ET K c (uTru K te) s o s' o' b) : ET K c (uTru K te) s o s' o' b := h
theorem last_get {α : Type} [Inhabited α] {xs : List α} (h : xs ≠ []) : xs[xs.length - 1]? = some (xs.getLastD default) := by
  rw [← List.getLast?_eq_getElem?, List.getLast?_eq_some_getLast h, List.getLastD_eq_getLast?, List.getLast?_eq_some_getLast h]; rfl
theorem er_popG {α : Type} [Rp α] [Inhabited α] {xs : List α} {k : Nat} (hs : sget s i = .p k) (hk : cget o k = .lst xs) (hx : xs ≠ []) : ER K c (tBM0 K "list" rPop (tVar i)) s o s (o.set k (.lst xs.dropLast)) (.d (xs.getLastD default)) := er_pop hs hk (last_get hx)
theorem some_getD {α : Type} [Inhabited α] {x : Option α} (h : x.isSome = true) : x = some (x.getD default) := by cases x with | none => cases h | some x => rfl
theorem ov_ixLG {α : Type} [Rp α] [Inhabited α] {xs : List α} {j : Int} (L : LView o r xs) (h : (atI xs j).isSome = true) : OV K c (rIx K) s o r (.d j) s o (.d ((atI xs j).getD default)) := ov_ixL L (some_getD h)
theorem ov_ixTG {α : Type} [Rp α] [Inhabited α] {xs : List α} {j : Int} (h : (atI xs j).isSome = true) : OV K c (rIx K) s o (.d (Tup.mk xs)) (.d j) s o (.d ((atI xs j).getD default)) := ov_ixT (some_getD h)
theorem er_dgetG {κ α : Type} [DecidableEq κ] [KeyT κ] [Rp κ] [KeyR κ] [Rp α] [Inhabited α] {s1 s2 : List Slot} {o1 o2 : List Cont} {xs : List (κ × α)} {y : κ} (h1 : ER K c ta s o s1 o1 r1) (h2 : ER K c tb s1 o1 s2 o2 (.d y)) (L : DView o2 r1 xs) (hx : (dget xs y).isSome = true) : ER K c (uIx K ta tb) s o s2 o2 (.d ((dget xs y).getD default)) := er_dget h1 h2 L (some_getD hx)
instance {α : Type} : Inhabited (Tup α) := ⟨⟨[]⟩⟩
instance {α β : Type} [Inhabited α] [Inhabited β] : Inhabited (T2 α β) := ⟨⟨default, default⟩⟩
instance {α β γ : Type} [Inhabited α] [Inhabited β] [Inhabited γ] : Inhabited (T3 α β γ) := ⟨⟨default, default, default⟩⟩
theorem lv_d {α : Type} [Rp α] {xs : List α} {o : List Cont} : LView o (.d xs) xs := .inl rfl
theorem lv_p {α : Type} [Rp α] {xs : List α} {o : List Cont} {k : Nat} (h : cget o k = .lst xs) : LView o (.p k) xs := .inr ⟨k, rfl, h⟩
theorem dv_d {κ α : Type} [KeyT κ] [Rp α] {xs : List (κ × α)} {o : List Cont} : DView o (.d (Dct.mk xs)) xs := .inl rfl
theorem dv_p {κ α : Type} [KeyT κ] [Rp α] {xs : List (κ × α)} {o : List Cont} {k : Nat} (h : cget o k = .dct xs) : DView o (.p k) xs := .inr ⟨k, rfl, h⟩
end
end VL

set_option maxHeartbeats 4000000
/-! OWN EXCEPTIONS over a chain of own classes that ends at ValueError; their __init__: super().__init__('text'); self.f = a. -/
namespace SX
open PySem PySem.W PySem.Calls PyProof.Rows PySem.HandSPX
/-- the text of such an __init__ -/
structure Shape where
  cls : Str
  m : Str
  f : Str
  a : Str
  qual : Str
  j : Nat
  p0 : Pos
  p1 : Pos
  p2 : Pos
  p3 : Pos
  p4 : Pos
  p5 : Pos
  q1 : Pos
  q2 : Pos
  q3 : Pos
  q4 : Pos
  params : Arguments
  scope : Scope
def Shape.sup (S : Shape) : Expr := .Call (.Attribute (.Call (.Name "super" S.p0) [] [] S.p1) "__init__" S.p2) [.Constant (.str S.m) S.j S.p3] [] S.p4
def Shape.body (S : Shape) : List Stmt := [.Expr S.sup S.p5, .Assign [.Attribute (.Name "self" S.q1) S.f S.q2] (.Name S.a S.q3) S.q4]
abbrev Shape.fd (S : Shape) (kV doc pm cdv ct : Value) (an : Option Addr) (cc : Addr) : FuncData := ksFn "__init__" S.qual S.params S.body S.scope .none kV doc pm an cdv ct cc
abbrev Shape.env (S : Shape) (kV doc pm cdv ct : Value) (an : Option Addr) (cc L fa : Addr) : Env := callEnv (S.fd kV doc pm cdv ct an cc) L fa
structure Ini (S : Shape) : Prop where
  arg : ∃ p, (S.params.posonlyargs ++ S.params.args).head? = some { arg := "self", annotation := none, pos := p }
  bnd : ∀ (kV doc pm cdv ct : Value) (an : Option Addr) (cc : Addr) (u v : Value), bindArgs (S.fd kV doc pm cdv ct an cc) ⟨[u, v], []⟩ = pure [(("self" : Str), u), (S.a, v)]
  eInt : ∀ (kV doc pm cdv ct : Value) (an : Option Addr) (cc L fa : Addr), interactive (S.env kV doc pm cdv ct an cc L fa) = false
  eSw : ∀ (kV doc pm cdv ct : Value) (an : Option Addr) (cc L fa : Addr), swapsWith S.sup none S.p5.line (S.env kV doc pm cdv ct an cc L fa) = pure false
  eSw2 : ∀ (kV doc pm cdv ct : Value) (an : Option Addr) (cc L fa : Addr), swapsWith (.Name S.a S.q3) (some (.Attribute (.Name "self" S.q1) S.f S.q2)) S.q4.line (S.env kV doc pm cdv ct an cc L fa) = pure false
  eCall : ∀ (kV doc pm cdv ct : Value) (an : Option Addr) (cc L fa : Addr), ∃ pl : Sem Bool, eval S.sup (S.env kV doc pm cdv ct an cc L fa) = (do
      let ov ← attributeBase (.Call (.Name "super" S.p0) [] [] S.p1) "__init__" (S.env kV doc pm cdv ct an cc L fa) (eval (.Call (.Name "super" S.p0) [] [] S.p1) (S.env kV doc pm cdv ct an cc L fa))
      standAt S.p2.atName
      let (f, first) ← holding [ov] (getMethod ov "__init__" pl)
      callWith S.p4 f first (backTo S.p4 (starEach [.Constant (.str S.m) S.j S.p3] (S.env kV doc pm cdv ct an cc L fa))) [])
  sSup : S.scope.names.lookup ("super" : Str) = some .globalImplicit
  sCls : S.scope.names.lookup ("__class__" : Str) = some .free
  sSelf : S.scope.names.lookup ("self" : Str) = some .local
  sArg : S.scope.names.lookup S.a = some .local
  ne : S.a ≠ "self"
  dbg : (S.a == ("__debug__" : Str)) = false
  cell : ∀ x ∈ S.scope.names, x.2 ≠ .cell
  kind : S.scope.kind = .function
  co : S.scope.isCoroutine = false
  gen : S.scope.isGenerator = false
/-- what the written part says of the class at C -/
structure Txt (prog : Program) (K : Frag) (C : Addr) (S : Shape) : Prop where
  txt : Ini S
  ini : excInitIn K C He.veBase "ValueError.__new__" = true
  cls : ∃ cd, clsIn K C = some cd ∧ refsVE cd.mro = true ∧ cd.hasDict = true
  sa : findIn K (.ref C) "__setattr__" = some (some (.builtin "object.__setattr__"))
  ga : findIn K (.ref C) "__getattribute__" = some (some (.builtin "BaseException.__getattribute__"))
  gg : findIn K (.ref C) "__getattr__" = some none
  noN : findIn K (.ref C) S.f = some none
  iC : findIn K (.ref C) "__init__" = some (some (.ref (He.ma K C "__init__")))
  tC : typeIn K (.ref (He.ma K C "__init__")) = some (.type "function")
  kC : keepIn K (.ref C) = true
  exC : subIn K (.ref C) (.type "BaseException") = some true
  tyC : typeIn K (.ref C) = some (.type "type")
  hdC : hasDictIn K C = true
  sup : ks_superIn K C C "__init__" = some (some (.builtin "ValueError.__init__"))
  sVE : subIn K (.ref C) (.type "ValueError") = some true
  self : mroIn K C (.ref C) = some true
  opq : nsIn K cStatics "thirdparty.any" = some none
  sg : nsIn K mainGlobals "super" = some none
  main : (prog.main.scope.names.lookup ("super" : Str)).isSome = false
  fn : ∃ (oc kV doc pm ct : Value) (od an : Option Addr) (cda cc : Addr) (osl : Array (Option Value)),
    K.lookup (He.ma K C "__init__") = some ⟨oc, od, .func (S.fd kV doc pm (.ref cda) ct an cc), osl⟩ ∧ codeIn K (.ref cda) S.qual = true ∧
      (∃ ccl cdd vs ccs file tf, K.lookup cda = some ⟨ccl, cdd, .fields vs, ccs⟩ ∧ vs[2]? = some (.str file tf) ∧ ((prog.main.file : Str) == file) = true) ∧
      ∃ cl cld csl, K.lookup cc = some ⟨cl, cld, .cell (some (.ref C)), csl⟩

section
variable {prog : Program} {w : World} {A : Around} {E : Value → Shared → Prop} {R : Result → Shared → Prop} {s : Shared} {K : Frag} {mg mb : Str → Option Value} {C : Addr} {S : Shape}
theorem one_size (v : Value) : [v].length ≤ sizeLine := by
  rw [sizeLine_eq]
  exact (by decide : 1 ≤ 16777216)
/-- ValueError.__init__ bound to the exception, called -/
theorem ve_call {u e t0 : Addr} {rest : List Value} {Q : Value → Shared → Prop} (X : K.In s.heap) (q : excInitIn K C He.veBase "ValueError.__new__" = true) (he : s.heap.get? e = some (excO C t0)) (hu : s.heap.get? u = some (kxs_mw "ValueError.__init__" e)) (hz : rest.length ≤ sizeLine)
    (hq : ∀ h' t1, (∀ b o, b ≠ e → s.heap.get? b = some o → h'.get? b = some o) → h'.get? e = some (excO C t1) → Q .none { s with heap := h' }) : wpAny (model prog w) A (call (.ref u) rest) Q E s := by
  obtain ⟨nm, N', qn, bs, bm, hdct, sn, sub, ab, col, dd, k0, k1, k2, k3, k5, hC, hT⟩ := excInit_of X q
  obtain ⟨hh, g, d, tk, os⟩ := s
  refine wpAny_call (codeAny_of_tree ?_)
  show wpAny _ A.in1 (callAny (.ref u) ⟨rest, []⟩) _ _ _
  simp only [callAny]
  refine wpAny_bind (wpAny_load hu ?_)
  simp only [kxs_mw, show (Value.type "method-wrapper" == Value.type "method" || Value.type "method-wrapper" == Value.type "builtin_function_or_method" || Value.type "method-wrapper" == Value.type "method-wrapper") = true by decide, if_true]
  refine KFB.if_so (by decide) ?_
  refine wpAny_bind (check_bound_init F.excBase_ValueError.toExcCallFacts hC he rfl ?_)
  refine wpAny_bind (wpAny_pure (wpAny_pure ?_))
  refine ⟨plainId_quiet F.excBase_ValueError.init.plain _, codeAny_builtin F.excBase_ValueError.initEntry ?_⟩
  exact exc_init_tree (cls := .ref C) (t0 := t0) (dv := none) (c2 := .none) (c3 := .none) (b4 := .bool false) he hz fun h' k e' _ => hq h' _ k e'

/-- what __init__ leaves of a fresh exception at x -/
structure InitEnd (h h' : Heap) (x C dx t1 : Addr) (f : Str) (v : Value) : Prop where
  keep : ∀ b o, b ≠ x → h.get? b = some o → h'.get? b = some o
  obj : h'.get? x = some { cls := .ref C, dict := some dx, data := .fields #[.ref t1, .none, .none, .none, .bool false, .none] }
  dbig : h.objs.size ≤ dx
  dne : dx ≠ x
  ns : h'.Ns1 dx (fun y => if y = f then some v else none)
theorem sx_init (T : Txt prog K C S) {x t0 : Addr} {v : Value} (X : K.In s.heap) (G : s.heap.Ns mainGlobals mg) (B : s.heap.Ns builtinsNs mb) (hb : mb "super" = some (.type "super")) (hlim : s.heap.NoLimit)
    (hx : s.heap.get? x = some (excO C t0)) (hnx : K.lookup x = none) (hroom : A.depth < recursionLimit)
    (hq : ∀ h' tk dx t1, InitEnd s.heap h' x C dx t1 S.f v → R (.ok (.ret .none)) { s with heap := h', toks := tk }) :
    codeAny (model prog w) A (.call (.ref (He.ma K C "__init__")) ⟨[.ref x, v], []⟩) R s := by
  obtain ⟨oc, kV, doc, pm, ct, od, an, cda, cc, osl, ho, hcd, ⟨ccl, cdd, vs, ccs, file, tf, hco, hvs, hfile⟩, cl, cld, csl, hcell⟩ := T.fn
  obtain ⟨pa, harg⟩ := T.txt.arg
  obtain ⟨cd, hcl, hmro, hhd⟩ := T.cls
  have Ti := T.txt
  obtain ⟨hp, gs, dr, tk0, os⟩ := s
  refine ks_codeAny_call_defAt (fd := S.fd kV doc pm (.ref cda) ct an cc) (body := S.body) (binds := [("self", .ref x), (S.a, v)]) hroom (X _ _ ho) rfl hlim (codeRec_of X hcd) rfl (.of_eq (Ti.bnd ..)) Ti.cell ?_ (fun h₁ hns hk₁ => ?_) Ti.co Ti.gen Ti.kind
  · intro y hy
    rcases List.mem_cons.mp hy with rfl | hy
    · exact Ti.sSelf
    · rcases List.mem_cons.mp hy with rfl | hy
      · exact Ti.sArg
      · cases hy
  have X₁ : K.In h₁ := X.keeps hk₁
  have hx₁ := hk₁ _ _ hx
  have lS : (([("self", .ref x), (S.a, v)] : List (Str × Value)).reverse).lookup ("self" : Str) = some (.ref x) := by
    have e : (("self" : Str) == S.a) = false := beq_eq_false_iff_ne.mpr fun z => Ti.ne z.symm
    show List.lookup ("self" : Str) [(S.a, v), ("self", .ref x)] = _
    simp [List.lookup, e]
  have lA : (([("self", .ref x), (S.a, v)] : List (Str × Value)).reverse).lookup S.a = some v := by
    show List.lookup S.a [(S.a, v), ("self", .ref x)] = _
    simp [List.lookup]
  have I₁ : InstAt h₁ x (excO C t0) C none := ⟨hx₁, rfl, rfl, trivial⟩
  obtain ⟨oD, hD1, hD2⟩ : ∃ oD, h₁.get? C = some oD ∧ oD.data = .cls cd := by
    unfold clsIn at hcl
    split at hcl
    · rename_i c d cd' sl ho
      cases hcl
      exact ⟨_, X₁ _ _ ho, rfl⟩
    · cases hcl
  obtain ⟨pl, heq⟩ := Ti.eCall kV doc pm (.ref cda) ct an cc hp.objs.size (He.ma K C "__init__")
  show _root_.PySem.wpAt _ _ (.func S.body (S.env kV doc pm (.ref cda) ct an cc hp.objs.size (He.ma K C "__init__"))) (execs S.body (S.env kV doc pm (.ref cda) ct an cc hp.objs.size (He.ma K C "__init__"))) _ _ _
  generalize henv : S.env kV doc pm (.ref cda) ct an cc hp.objs.size (He.ma K C "__init__") = env at heq ⊢
  have eI : interactive env = false := by rw [← henv]; exact Ti.eInt ..
  have eS : swapsWith S.sup none S.p5.line env = pure false := by rw [← henv]; exact Ti.eSw ..
  have eS2 : swapsWith (.Name S.a S.q3) (some (.Attribute (.Name "self" S.q1) S.f S.q2)) S.q4.line env = pure false := by rw [← henv]; exact Ti.eSw2 ..
  have eK : env.scope.kind = .function := by rw [← henv]; exact Ti.kind
  have kSup : env.kindOf "super" = some .globalImplicit := by rw [← henv]; exact Ti.sSup
  have kCls : env.kindOf "__class__" = some .free := by rw [← henv]; exact Ti.sCls
  have kSelf : env.kindOf "self" = some .local := by rw [← henv]; exact Ti.sSelf
  have kArg : env.kindOf S.a = some .local := by rw [← henv]; exact Ti.sArg
  have eL : env.locals = hp.objs.size := by rw [← henv]; rfl
  have hns : h₁.Ns env.locals (fun y => (([("self", .ref x), (S.a, v)] : List (Str × Value)).reverse).lookup y) := by rw [eL]; exact hns
  show _root_.PySem.wpAt _ _ _ (execs (.Expr S.sup S.p5 :: _) env) _ _ _
  refine ks_wpAt_execs_cons (ks_wpAt_Expr_any ?_ eI eS)
  refine ks_wpAt_MethodCall (pl := pl) ?_ heq
  refine ks_wpAt_super_base (f := He.ma K C "__init__") (cc := cda) kSup kCls (by decide) (by rw [← henv]; rfl) (X₁ _ _ ho) rfl harg (by rw [← henv]; rfl) (X₁ _ _ hco) rfl hvs hfile T.main ?_
  refine ks_loadName_global eK kSup (loadGlobal_builtin (env := env) (by rw [← henv]; exact G.keeps hk₁) (mg_none_of X G T.sg) (by rw [← henv]; exact B.keeps hk₁) hb ⟨rfl, ?_⟩)
  refine wpAny_loadName_free eK kCls (by rw [← henv]; rfl) ⟨_, X₁ _ _ hcell, rfl⟩ ?_
  refine wpAny_loadName_local eK kSelf hns lS ?_
  refine ks_wpAny_isType_cls hD1 hD2 ⟨rfl, ?_⟩
  refine ks_wpAny_call_super hD1 hD2 hx₁ rfl (fun c e => by cases e) (looks_mroIn X₁ T.self) (fun h₂ e2 k2 => ?_)
  have X₂ : K.In h₂ := X₁.keeps k2
  have I₂ : InstAt h₂ x (excO C t0) C none := ⟨k2 _ _ hx₁, rfl, rfl, trivial⟩
  refine kxs_getMethod kxs_ValueError e2 (looks_opaque X₂ T.opq) (l₀ := cd.mro) ?_ rfl X₂ ?_ (I₂.type.andThen (looks_subIn X₂ T.sVE)) (ks_ne X₂ I₂ hcl) (by decide) ?_
  · exact fun A Q E s k q => wpAny_bind ((looks_clsIn X₂ hcl) A _ E s k (wpAny_pure q))
  · have q := T.sup
    unfold ks_superIn at q
    rw [hcl] at q
    exact q
  have hx₂ : h₂.get? x = some (excO C t0) := I₂.at_
  have k₃ : ∀ b o, h₂.get? b = some o → (h₂.push (kxs_mw "ValueError.__init__" x)).get? b = some o := fun b o e => Heap.get?_push_of_some _ e
  refine kxs_callWith (i := "ValueError.__init__") (x := x) rfl ?_
  refine evalArgs_plain ?_
  show wpAny _ _ (spliced ((false, eval (.Constant (.str S.m) S.j S.p3) env) :: backTo S.p4 (starEach [] env))) _ _ _
  refine Calls.spliced_cons (wpAny_Constant_str ?_)
  refine Calls.spliced_nil ⟨Heap.get?_push_size _ rfl, ?_⟩
  refine ve_call (C := C) (e := x) (t0 := t0) (X₂.keeps k₃) T.ini (k₃ _ _ hx₂) (Heap.get?_push_size _ rfl) (one_size _) (fun h₄ t1 k₄ hx₄ => ?_)
  have xL : env.locals ≠ x := by rw [eL]; exact Nat.ne_of_gt (Heap.lt_size hx)
  have hns₄ := hns.at fun o q => k₄ _ o xL (k₃ _ o (k2 _ o q))
  have kC : ∀ b o, b ≠ x → hp.get? b = some o → h₄.get? b = some o := fun b o ne e => k₄ b o ne (k₃ _ _ (k2 _ _ (hk₁ _ _ e)))
  have X₄ : K.In h₄ := fun b o e => kC b o (fun z => by rw [z, hnx] at e; cases e) (X b o e)
  refine wpAt_of_wpAny ?_
  show wpAny _ _ (execs [.Assign [.Attribute (.Name "self" S.q1) S.f S.q2] (.Name S.a S.q3) S.q4] env) _ _ _
  refine wpAny_execs_cons (plainObj_wpAny_Assign_Attribute ?_ eS2)
  refine wpAny_Name (wpAny_loadName_local eK kArg hns₄ lA ?_) Ti.dbg
  refine wpAny_Name (wpAny_loadName_local eK kSelf hns₄ lS ?_) (by decide)
  refine set_plain X₄ (ox := excO C t1) (od := none) ⟨hx₄, rfl, rfl, trivial⟩ T.sa ?_
  refine exc_osa X₄ hx₄ hcl hmro hhd T.noN (fun h₅ tk₅ dx k₅ dn dne hx₅ hn₅ => ?_)
  refine wpAny_execs_nil (hq h₅ tk₅ dx t1 ⟨fun b o ne e => k₅ b o ne (kC b o ne e), hx₅, ?_, dne, hn₅⟩)
  have z : env.locals < h₄.objs.size := hns₄.lt
  rw [eL] at z
  exact Nat.le_of_lt (Nat.lt_of_lt_of_le z dn)
/-- a made exception -/
structure OwnMade (h h' : Heap) (e C d : Addr) (f : Str) (v : Value) : Prop where
  keep : ∀ b o, h.get? b = some o → h'.get? b = some o
  new : h.objs.size ≤ e
  obj : ∃ oe vs, h'.get? e = some oe ∧ oe.cls = .ref C ∧ oe.dict = some d ∧ oe.data = .fields vs ∧ vs[1]? = some .none
  dbig : h.objs.size ≤ d
  dne : d ≠ e
  ns : h'.Ns1 d (fun y => if y = f then some v else none)
theorem sx_made (T : Txt prog K C S) {v : Value} (X : K.In s.heap) (G : s.heap.Ns mainGlobals mg) (B : s.heap.Ns builtinsNs mb) (hb : mb "super" = some (.type "super")) (hlim : s.heap.NoLimit) (hroom : A.depth + 1 < recursionLimit)
    (hq : ∀ h' tk e d, OwnMade s.heap h' e C d S.f v → R (.ok (.ret (.ref e))) { s with heap := h', toks := tk }) :
    codeAny (model prog w) A (.call (.ref C) ⟨[v], []⟩) R s := by
  obtain ⟨nm, N', q, bs, bm, hdct, sn, sub, ab, col, dd, k0, k1, k2, k3, k5, hC, hT⟩ := excInit_of X T.ini
  obtain ⟨hp, g, dr, tk, os⟩ := s
  have k : ∀ b o, hp.get? b = some o → ((hp.push (kdv_tup [v])).push (excO C hp.objs.size)).get? b = some o := fun b o e => Heap.get?_push_of_some _ (Heap.get?_push_of_some _ e)
  have hget : ((hp.push (kdv_tup [v])).push (excO C hp.objs.size)).get? (hp.objs.size + 1) = some (excO C hp.objs.size) := by heap_get
  have hnx : K.lookup (hp.objs.size + 1) = none := by
    cases e : K.lookup (hp.objs.size + 1) with
    | none => rfl
    | some o =>
      have z : hp.get? (hp.objs.size + 1) = some o := X _ _ e
      exact absurd (Nat.lt_of_succ_lt (Heap.lt_size z)) (Nat.lt_irrefl _)
  refine call_own F.excBase_ValueError hT hC (looks_findIn X T.iC) (fun self => bind_fn X self T.tC) (one_size v) ?_
  refine sx_init (s := ⟨(hp.push (kdv_tup [v])).push (excO C hp.objs.size), g, dr, tk, os⟩) T (X.keeps k) (G.keeps k) (B.keeps k) hb (hlim.keeps k) hget hnx ?_ fun h' tk' dx t1 ⟨k', hx, dn, dne, hns⟩ => ?_
  · show A.depth + 1 < recursionLimit
    exact hroom
  · have old : ∀ b o, hp.get? b = some o → h'.get? b = some o := fun b o e => k' b o (Nat.ne_of_lt (Nat.lt_succ_of_lt (Heap.lt_size e))) (k b o e)
    have z : hp.objs.size + 1 + 1 ≤ dx := by
      first
        | (simpa only [Heap.size_push] using dn)
        | exact dn
        | (have q := dn; rw [Heap.size_push, Heap.size_push] at q; exact q)
    exact ⟨rfl, hq h' tk' (hp.objs.size + 1) dx ⟨old, Nat.le_succ _, ⟨_, _, hx, rfl, rfl, rfl, rfl⟩, Nat.le_trans (Nat.le_trans (Nat.le_succ _) (Nat.le_succ _)) z, dne, hns⟩⟩
end
end SX

namespace L2
open PySem PySem.Spec PyProof.Rows
section
variable {X : Cx} {C : Addr} {S : SX.Shape}
theorem relO_sx {f0 : Str} {v : V} {v' : Value} (r : RelV v v') (f : Str) : RelO (List.lookup f [(f0, v)]) (if f = f0 then some v' else none) := by
  by_cases hw : f = f0
  · subst hw
    rw [if_pos rfl]
    have q : List.lookup f [(f, v)] = some v := by simp [List.lookup]
    rw [q]
    exact r
  · rw [if_neg hw]
    have qw : (f == f0) = false := by simpa using hw
    have q2 : List.lookup f [(f0, v)] = none := by simp [List.lookup, qw]
    rw [q2]
    trivial
/-- C(e) -/
def tMkX (C : Addr) (f : Str) (ta : TA) : St → Hp → XK → Prop := fun σ H Q => ta σ H fun vs H1 => ∃ v, vs = [v] ∧ ∀ d, H1 d = none → Q (.ref C) (some d) (upd H1 d (.xd [(f, v)]))
theorem pmk_sx {x : Str} {a : Expr} {ta : TA} {p pos : Pos} {k : Nat} (T : SX.Txt X.prog X.K C S) (gC : X.mg x = some (.ref C)) (hr : Room k X.A) (ha : PA X [a] ta) (hg : Gl X x) (hdb : (x == ("__debug__" : Str)) = false := by decide)
    (he : starEach (a :: []) X.env = (false, eval a X.env) :: starEach [] X.env := by rfl) (hpl : (backTo pos (starEach [] X.env)).any (·.1) = false := by rfl) :
    PMk X (.Call (.Name x p) [a] [] pos) (tMkX C S.f ta) := by
  intro pins s σ H Q I h
  refine wpAny_Call_Name_kw (ld_glob I hg gC ?_ hdb)
  refine PySem.W.callWith_K (h₀ := X.base) I.ok.mod.kin T.kC (thn (ha.run pos pins s σ H _ I h) fun us s1 hh => ?_) he hpl
  obtain ⟨vs, H1, I1, r1, v, ev, q1⟩ := hh
  subst ev
  refine ⟨I1.kIn, ?_⟩
  cases r1 with
  | cons rv rn =>
    rename_i v' us'
    cases rn
    show wpAny _ _ (call (.ref C) [v']) _ _ _
    have hlim := I1.nolimit
    obtain ⟨mb, hb1, hb2⟩ := I1.mod.blt
    have G1 : s1.heap.Ns mainGlobals X.mg := I1.mod.glob.keeps I1.bk
    have B1 : s1.heap.Ns builtinsNs mb := hb1.keeps I1.bk
    obtain ⟨hp, g, dr, tk, os⟩ := s1
    refine wpAny_call (SX.sx_made T I1.kIn G1 B1 ((hb2 _ (by decide)).trans rfl) hlim (by have := hr.dp; omega) fun h' tk' e d M => ?_)
    show MkP X pins σ Q (.ref e) ⟨h', g, dr, tk', os⟩
    obtain ⟨oe, fv, hoe, hc, hd, hdat, h1⟩ := M.obj
    have hns := M.ns
    obtain ⟨G', g1, g2⟩ := restrict h' fun b => decide (b ≠ e)
    have gk : ∀ b, b ≠ e → G'.get? b = h'.get? b := fun b hb => g1 b (decide_eq_true hb)
    have ge : G'.get? e = none := g2 e (by simp)
    have old : ∀ b o, hp.get? b = some o → G'.get? b = some o := fun b o q => (gk b (Nat.ne_of_lt (Nat.lt_of_lt_of_le (Heap.lt_size q) M.new))).trans (M.keep b o q)
    have ob : ObjOk X.prog X.w (upd H1 d (.xd [(S.f, v)])) G' d (.xd [(S.f, v)]) :=
      ⟨_, hns.at (fun o q => (gk d M.dne).trans q), fun f => relO_sx rv f⟩
    have J : Inv X pins σ (upd H1 d (.xd [(S.f, v)])) ⟨G', g, dr, tk', os⟩ := I1.laid (t' := tk') old M.dbig ob
    refine ⟨e, oe, fv, ⟨G', g, dr, tk', os⟩, _, .ref C, some d, rfl, J, fun b o q => ?_, ge, hoe, ⟨hc, hd⟩, hdat, h1, ?_, rfl, I1.bare, raises_own T.exC T.tyC, q1 d (I1.hok.fresh M.dbig)⟩
    · by_cases hb : b = e
      · have q' : G'.get? b = some o := q
        rw [hb, ge] at q'; cases q'
      · exact (gk b hb).symm.trans q
    · rw [upd_ne (Ne.symm M.dne)]
      exact I1.hok.fresh M.new
/-- raise C(e) -/
def tRaiseX (C : Addr) (f : Str) (W : WX) (ta : TA) : TS := fun _ σ H => tMkX C f ta σ H fun cls d H' => W cls d σ H'
theorem ps_raiseX {x : Str} {a : Expr} {ta : TA} {W : WX} {p pos pos2 : Pos} {k : Nat} (hc : X.calm = true) (T : SX.Txt X.prog X.K C S) (gC : X.mg x = some (.ref C)) (hr : Room k X.A) (tk : Takes X W) (ha : PA X [a] ta) (hg : Gl X x) (hdb : (x == ("__debug__" : Str)) = false := by decide)
    (he : starEach (a :: []) X.env = (false, eval a X.env) :: starEach [] X.env := by rfl) (hpl : (backTo pos (starEach [] X.env)).any (·.1) = false := by rfl) :
    PS X (.Raise (some (.Call (.Name x p) [a] [] pos)) none pos2) (tRaiseX C S.f W ta) := ps_raise hc tk (pmk_sx T gC hr ha hg hdb he hpl)
/-- e.f, e the exception that the suite holds (at a; its class cls, its dict d) -/
def tByX (C : Addr) (f : Str) (a : Addr) (cls : Value) (d : Option Addr) (te : TE) : TE := fun σ H Q => te σ H fun x H1 => x = .ref a ∧ cls = .ref C ∧ ∃ (dd : Addr) (v : V), d = some dd ∧ H1 dd = some (.xd [(f, v)]) ∧ Q v H1
theorem pe_byX {a : Addr} {oe : Obj} {cls : Value} {d : Option Addr} {pn : List (Addr × Obj)} {e : Expr} {te : TE} {pos : Pos} (T : SX.Txt X.prog X.K C S) (hz : Zc cls d oe) (hf : ∃ vs, oe.data = .fields vs) (he : PE (X.suite a ((a, oe) :: pn)) e te)
    (hb : attributeBase e S.f X.env (eval e X.env) = eval e X.env) :
    PE (X.suite a ((a, oe) :: pn)) (.Attribute e S.f pos) (tByX C S.f a cls d te) := by
  refine ⟨fun pins s σ H Q I h => ?_⟩
  refine attr_of hb (thn (he.run pins s σ H _ I h) fun u s1 hh => ?_)
  obtain ⟨x, H1, I1, rx, ex, ec, dd, v, ed, ea, q⟩ := hh
  subst ex
  obtain rfl : u = Value.ref a := rx
  subst ec
  subst ed
  obtain ⟨ha, _⟩ := I1.pin (a, oe) (List.mem_append_left _ List.mem_cons_self)
  obtain ⟨vs, hd⟩ := hf
  have hx : ObjOk X.prog X.w H1 s1.heap dd (.xd [(S.f, v)]) := I1.hok dd _ ea
  obtain ⟨mA, hns, hr⟩ := hx
  obtain ⟨od, ho, hl⟩ := lookIn_ns hns
  have l : List.lookup S.f [(S.f, v)] = some v := by simp [List.lookup]
  obtain ⟨u, hu, ru⟩ := RelO.some_of (v := v) (o := mA S.f) (by rw [← l]; exact hr S.f)
  have J : PySem.W.InstAt s1.heap a oe C (some od) := ⟨ha, hz.1, by unfold PySem.W.notCls; rw [hd] <;> rfl, by rw [hz.2]; exact ho⟩
  exact HandSPX.exc_get I1.kIn J T.ga T.gg T.exC (PySem.W.findObj_own T.hdC T.noN rfl (by rw [hl, hu])) (handed_of ru) ⟨v, H1, I1.tok _, ru, q⟩
end
end L2

set_option maxHeartbeats 4000000
/-! several clauses 'except x as n'; match over texts; a class without __init__ called. -/
namespace L2
open PySem PySem.Spec PyProof.Rows
/-- what the clauses wish of an exception of the body, one after the other; slot i is the name's -/
def wManyAs (K : PySem.W.Frag) (Wout : WX) (D : Ends) : List (Value × Nat × (Addr → Value → Option Addr → TS)) → WX
  | [] => Wout
  | (c, i, ts) :: r => fun cls d σ H => ∃ b, PySem.W.exmOne K cls c = some b ∧ (b = true → ∀ a, H a = none → ts a cls d { nx := fun σ' H' => D.nx (σ'.set i none) H', rt := D.rt, bk := fun σ' H' => D.bk (σ'.set i none) H', ct := fun σ' H' => D.ct (σ'.set i none) H' } (σ.set i (some (.ref a))) H) ∧
    (b = false → wManyAs K Wout D r cls d σ H)
inductive HdsAs (X : Cx) : List ExceptHandler → List (Value × Nat × (Addr → Value → Option Addr → TS)) → Prop
  | nil : HdsAs X [] []
  | cons {x n : Str} {c : Value} {i : Nat} {ts : Addr → Value → Option Addr → TS} {b₀ : Stmt} {suite : List Stmt} {np pos' : Pos} {hds : List ExceptHandler} {l : List (Value × Nat × (Addr → Value → Option Addr → TS))} (hi : X.N[i]? = some n) (hln : X.env.kindOf n = some .local) (hc : Names X x c)
      (hsu : ∀ (a : Addr) (oe : Obj) (cls : Value) (d : Option Addr) (pn : List (Addr × Obj)), Zc cls d oe → (∃ vs, oe.data = .fields vs) → PSs (X.suite a ((a, oe) :: pn)) (b₀ :: suite) (ts a cls d)) (r : HdsAs X hds l) :
      HdsAs X (.ExceptHandler (some (.Name x np)) (some n) (b₀ :: suite) pos' :: hds) ((c, i, ts) :: l)
section
variable {X : Cx} {body : List Stmt} {h₀ : ExceptHandler} {hds : List ExceptHandler} {l : List (Value × Nat × (Addr → Value → Option Addr → TS))} {pos : Pos} {tb : WX → TS} {Wout : WX}
theorem ps_try_manyAs (hs : X.stack = X.env :: X.outer) (hf : X.env.frame = some X.env.locals) (hN : X.N.Nodup) (tk : Takes X Wout)
    (hb : ∀ (W : WX) (pn : List (Addr × Obj)) (xe : Value → Shared → Prop), Takes (X.tr pn xe) W → PassesOwn (model X.prog X.w) X.A X.env xe → PSs (X.tr pn xe) body (tb W))
    (hh : HdsAs X (h₀ :: hds) l) : PS X (.Try body (h₀ :: hds) [] [] pos) (fun D σ H => tb (wManyAs X.K Wout D l) D σ H) := by
  refine ⟨fun pins s σ H D I h => ?_⟩
  have ok := I.ok
  have hfr : X.A.frames = some (X.env :: X.outer) := by rw [ok.frames, hs]
  refine wpAny_Try_except ?_
  refine wpAny_mono ((hb (wManyAs X.K Wout D l) (X.pn ++ pins) (fun e s₁ => wpAny (model X.prog X.w) X.A (noteFrame e X.env) (fun _ s₂ => wpAny (model X.prog X.w) X.A (setFlight e none) (fun _ s₃ =>
    wpAny (model X.prog X.w) X.A (handleBy e X.env (h₀ :: hds)) (SP X pins D) X.xe s₃) X.xe s₂) X.xe s₁) (fun u s' xx => ?_) PassesOwn.looking).run [] s σ H D (I.toTry _) h) (fun f s1 hsp => ?_) (fun e s1 he => he)
  · obtain ⟨a, B, sI, pins', σ', H', cls, d, rfl, J', nb, up, sky, na, os, ag, w⟩ := xx
    have J : Inv X pins σ' H' sI := J'.ofTry ok
    have sky' : Sky B (X.env :: X.outer) a (Zc cls d) X.env.locals s'.heap := by rw [← hs]; exact sky
    show wpAny (model X.prog X.w) X.A (noteFrame (.ref a) X.env) _ _ _
    refine Sky.land Zc.steady hfr hf sky' fun h3 fl3 up3 => ?_
    have J3 : Inv X pins σ' H' { s' with heap := h3 } := J.landed nb fl3.1 (up.trans up3) os ag
    obtain ⟨oe3, vs3, he3, hz3, hd3⟩ := fl3.there
    have notFr : ∀ {h : Heap} {o : Obj} {vs : Array Value}, h.FunFrames B (X.env :: X.outer) → h.get? a = some o → o.data = .fields vs → a ∉ frs (X.env :: X.outer) := fun {h o vs} ff e dd hm => by
      obtain ⟨_, o', e', hnf⟩ := ff.mem hm
      rw [e] at e'; cases e'
      exact hnf _ dd
    have nfr := notFr fl3.2.2.1 he3 hd3
    have nL : a ≠ X.env.locals := fun z => nfr (List.mem_filterMap.mpr ⟨X.env, List.mem_cons_self, by rw [hf, z]⟩)
    have nF : a ∉ X.fs := fun hm => by
      obtain ⟨e, he, q⟩ := List.mem_filterMap.mp hm
      exact nfr (List.mem_filterMap.mpr ⟨e, List.mem_cons_of_mem _ he, q⟩)
    have S3 := J3.suite he3 hd3 na nL nF
    have go : ∀ {hds' : List ExceptHandler} {l' : List (Value × Nat × (Addr → Value → Option Addr → TS))}, HdsAs X hds' l' → wManyAs X.K Wout D l' cls d σ' H' →
        wpAny (model X.prog X.w) X.A (handleBy (.ref a) X.env hds') (SP X pins D) X.xe { s' with heap := h3 } := by
      intro hds' l' hk
      induction hk with
      | nil =>
        intro w
        refine wpAny_handleBy_nil ?_
        obtain ⟨k1, k2, k3, oe, vs, T, oT, ts', he, hz, hd, h1, hr⟩ := id fl3
        unfold PySem.passOn
        refine wpAny_bind (wpAny_field he hd h1 ?_)
        rw [if_neg (show ¬ ((Value.ref T == Value.none) = true) from by simp)]
        have fin : wpAny (model X.prog X.w) X.A (setFlight (.ref a) X.env.frame) (fun _ s4 => wpAny (model X.prog X.w) X.A (throw (.ref a) : Sem Flow) (SP X pins D) X.xe s4) X.xe { s' with heap := h3 } := by
          rw [hf]
          refine HandSPX.setFlight_upZ fl3 fun h4 hh4 up4 => wpAny_throw (tk _ _ ?_)
          exact ⟨a, B, sI, pins, σ', H', cls, d, rfl, J, nb, (up.trans up3).trans up4, .inr (.inr (by rw [hs]; exact hh4)), na, os, ag, w⟩
        first
          | exact wpAny_bind (wpAny_pure (wpAny_bind fin))
          | exact wpAny_bind fin
      | @cons x n c i ts b₀ suite np pos' hds2 l2 hi hln hc hsu r ih =>
        intro w
        obtain ⟨b, hb1, hyes, hno⟩ := w
        have hloc : Loc X.env.scope n := .inl hln
        refine wpAny_handleBy_cons (codeAny_handlers_test ?_) (by intro q; cases q)
        have LT : PySem.W.Looks (model X.prog X.w) h3 (typeOf (.ref a)) cls := fun A Q E s k q => wpAny_typeOf_ref (k _ _ he3) (by rw [hz3.1]; exact q)
        have LM := PySem.W.exm_one (M := model X.prog X.w) (J3.kIn) LT hb1
        have test : ∀ {Q : Value → Shared → Prop} {E : Value → Shared → Prop}, Q c { s' with heap := h3 } → wpAny (model X.prog X.w) (X.A.mark (some (.ref a))) (eval (.Name x np) X.env) Q E { s' with heap := h3 } := fun {Q E} q => by
          obtain ⟨hg, hdbg, hm | ⟨hm, hv, hnn⟩⟩ := hc
          · exact ld_glob (X := X.suite a ((a, oe3) :: (X.pn ++ pins))) S3 hg hm q hdbg
          · exact ld_blt (X := X.suite a ((a, oe3) :: (X.pn ++ pins))) S3 hg hm hv q hnn hdbg
        refine test (LM.here ?_)
        cases b with
        | true =>
          refine codeAny_handlers_suite_as ?_
          refine HandSPX.lands_againZ fl3 fun h4 fl4 up4 => ?_
          have J4 : Inv X pins σ' H' { s' with heap := h4 } := J.landed nb fl4.1 ((up.trans up3).trans up4) os ag
          obtain ⟨oe4, vs4, he4, hz4, hd4⟩ := fl4.there
          have S4 := J4.suite he4 hd4 na nL nF
          refine store_ok (X := X.suite a ((a, oe4) :: (X.pn ++ pins))) (v := .ref a) S4 hN hi hloc rfl (fun s5 S5 => ?_) (.inr hln)
          refine wpAny_mono ((hsu a oe4 cls d (X.pn ++ pins) hz4 ⟨_, hd4⟩).run [] s5 _ H' _ S5 (hyes rfl a na)) (fun f s6 hsp => ?_) (fun _ _ z => False.elim z)
          have end_ : ∀ {σ6 : St} {H6 : Hp} {Q : Shared → Prop}, Inv (X.suite a ((a, oe4) :: (X.pn ++ pins))) [] σ6 H6 s6 → (∀ s7, Inv X pins (σ6.set i none) H6 s7 → Q s7) →
              wpAny (model X.prog X.w) X.A (do bindName X.env n .none; unbindBehindTheSuite X.env n pos') (fun _ s7 => Q s7) X.xe s6 := fun {σ6 H6 Q} S6 hq => gone_ok (S6.unsuite ok) hN hi hln hq
          cases f with
          | next =>
            obtain ⟨σ6, H6, S6, q6⟩ := hsp
            exact end_ S6 fun s7 J7 => ⟨_, _, J7, q6⟩
          | brk =>
            obtain ⟨σ6, H6, S6, q6⟩ := hsp
            exact end_ S6 fun s7 J7 => ⟨_, _, J7, q6⟩
          | cont =>
            obtain ⟨σ6, H6, S6, q6⟩ := hsp
            exact end_ S6 fun s7 J7 => ⟨_, _, J7, q6⟩
          | ret u =>
            obtain ⟨v6, σ6, H6, S6, r6, q6⟩ := hsp
            exact end_ S6 fun s7 J7 => ⟨_, _, _, J7, r6, q6⟩
        | false =>
          show wpAny _ X.A (handleBy (.ref a) X.env hds2) _ _ _
          exact ih (hno rfl)
    exact go hh w
  · cases f with
    | next =>
      obtain ⟨σ', H', J', q⟩ := hsp
      exact wpAny_execs_nil ⟨σ', H', J'.ofTry ok, q⟩
    | brk =>
      obtain ⟨σ', H', J', q⟩ := hsp
      exact ⟨σ', H', J'.ofTry ok, q⟩
    | cont =>
      obtain ⟨σ', H', J', q⟩ := hsp
      exact ⟨σ', H', J'.ofTry ok, q⟩
    | ret u =>
      obtain ⟨v, σ', H', J', r, q⟩ := hsp
      exact ⟨v, σ', H', J'.ofTry ok, r, q⟩
end

/-! ### match over texts -/
structure PM (X : Cx) (cases : List MatchCase) (t : V → TS) : Prop where
  run : ∀ (pins : List (Addr × Obj)) (s : Shared) (σ : St) (H : Hp) (D : Ends) (v : V) (u : Value) (first : Bool), Inv X pins σ H s → RelV v u → t v D σ H → wpAny (model X.prog X.w) X.A (matchCases cases X.env u first) (SP X pins D) X.xe s
def tMatch (te : TE) (t : V → TS) : TS := fun D σ H => te σ H fun v H1 => t v D σ H1
def tCase (k : Str) (t : TS) (r : V → TS) : V → TS := fun v D σ H => ∃ x, v = .str x ∧ if x = k then t D σ H else r v D σ H
section
variable {X : Cx} {body : List Stmt} {cases : List MatchCase} {e : Expr} {te : TE} {t : TS} {r : V → TS} {pos : Pos}
theorem ps_match {tc : V → TS} (he : PE X e te) (h : PM X cases tc) : PS X (.Match e cases pos) (tMatch te tc) := by
  refine ⟨fun pins s σ H D I hw => ?_⟩
  exact wpAny_Match (thn (he.run pins s σ H _ I hw) fun u s1 ⟨v, H1, I1, rv, q⟩ => h.run pins s1 σ H1 D v u true I1 rv q)
theorem pm_any {p : Pos} (h : PSs X body t) : PM X [⟨.MatchAs none none p, none, body⟩] (fun _ => t) := by
  refine ⟨fun pins s σ H D v u first I rv hw => ?_⟩
  refine wpAny_matchCases_cons (wpAny_matchPattern_Capture ?_)
  show wpAny _ _ (assignInOrder [] []) _ _ _
  exact wpAny_pure (h.run pins s σ H D I hw)
theorem pm_nil : PM X [] (fun _ => tNext) := ⟨fun pins s σ H D v u first I rv hw => wpAny_matchCases_nil ⟨σ, H, I, hw⟩⟩
theorem pm_str {k : Str} {j : Nat} {p p2 : Pos} (h : PSs X body t) (hr : PM X cases r) : PM X (⟨.MatchValue (.Constant (.str k) j p) p2, none, body⟩ :: cases) (tCase k t r) := by
  refine ⟨fun pins s σ H D v u first I rv hw => ?_⟩
  obtain ⟨x, rfl, hw⟩ := hw
  refine wpAny_matchCases_cons (wpAny_matchPattern_Value (Calls.Constant_str ?_))
  have I1 := I.tok (s.toks + 1)
  refine thn (op_eq pins _ σ H (.str x) (.str k) u (.str k s.toks) (fun v H' => v = .bl (decide (x = k)) ∧ H' = H) I1 rv ⟨_, rfl⟩ ⟨rfl, by
    by_cases q : x = k
    · subst q; exact ⟨by simp, rfl⟩
    · refine ⟨?_, rfl⟩
      have : ¬ (V.str x = V.str k) := fun z => q (V.str.inj z)
      rw [decide_eq_false this, decide_eq_false q]⟩) fun c s2 ⟨y, H2, I2, ry, ey, eH⟩ => ?_
  subst ey
  subst eH
  obtain rfl : c = Value.bool (decide (x = k)) := ry
  refine wpAny_truthy_bool ?_
  by_cases q : x = k
  · rw [if_pos q] at hw
    rw [decide_eq_true q, if_pos rfl]
    show wpAny _ _ (assignInOrder [] []) _ _ _
    exact wpAny_pure (h.run pins s2 σ _ D I2 hw)
  · rw [if_neg q] at hw
    rw [decide_eq_false q, if_neg Bool.false_ne_true]
    exact hr.run pins s2 σ _ D (.str x) u false I2 rv hw
end
end L2

set_option maxHeartbeats 4000000
namespace L2
open PySem PySem.Spec PyProof.Rows
/-- a class whose __init__ is object's -/
structure Mk0 (K : PySem.W.Frag) (C : Addr) : Prop where
  makes : PySem.W.makesIn K C = true
  init : PySem.W.findIn K (.ref C) "__init__" = some (some (.builtin "object.__init__"))
  top : PySem.W.mroIn K C (.type "object") = some true
  kp : PySem.W.keepIn K (.ref C) = true
/-- C() -/
def tMake0 (C : Addr) : TE := fun σ H Q => ∀ x dx, H x = none → H dx = none → dx ≠ x → Q (.ref x) (upd (upd H dx (.own x)) x (.ins C dx []))
section
variable {X : Cx} {C : Addr} {x : Str} {p pos : Pos}
theorem pe_make_0 (M : Mk0 X.K C) (hg : Gl X x) (hm : X.mg x = some (.ref C)) (hdb : (x == ("__debug__" : Str)) = false := by decide) : PE X (.Call (.Name x p) [] [] pos) (tMake0 C) := by
  refine ⟨fun pins s σ H Q I h => ?_⟩
  refine wpAny_Call_Name_kw (ld_glob I hg hm ?_ hdb)
  refine PySem.W.callWith_K0 I.kIn M.kp ?_
  have hq := h (s.heap.objs.size + 1) s.heap.objs.size (I.hok.fresh (Nat.le_succ _)) (I.hok.fresh (Nat.le_refl _)) (Nat.ne_of_lt (Nat.lt_succ_self _))
  have I2 := Inv.made (C := C) I
  refine wpAny_call (make_map0 I.kIn M.makes M.init (fun self => PySem.W.Looks.of_pure (PySem.W.oi_bind _)) ?_)
  have ho : ((s.heap.push PySem.W.emptyDict).push (PySem.W.instObj C s.heap.objs.size)).get? (s.heap.objs.size + 1) = some (PySem.W.instObj C s.heap.objs.size) := by
    have := Heap.get?_push_size (s.heap.push PySem.W.emptyDict) (o := PySem.W.instObj C s.heap.objs.size) rfl
    rwa [Heap.size_push] at this
  have t1 : PySem.W.Looks (model X.prog X.w) ((s.heap.push PySem.W.emptyDict).push (PySem.W.instObj C s.heap.objs.size)) (typeOf (.ref (s.heap.objs.size + 1))) (.ref C) := NwA.type_at ho rfl
  have t2 : PySem.W.Looks (model X.prog X.w) ((s.heap.push PySem.W.emptyDict).push (PySem.W.instObj C s.heap.objs.size)) (isInstance (.ref (s.heap.objs.size + 1)) (.type "object")) true := t1.andThen (PySem.W.looks_mroIn I2.kIn M.top)
  refine codeAny_call_builtin PySem.W.oi_plain PySem.W.entry_oi (@PySem.W.check_slot (model X.prog X.w) _ _ _ "object.__init__" "object" "__init__" (.ref (s.heap.objs.size + 1)) [] [] _ PySem.W.oi_kind PySem.W.oi_split t2 (NwA.oi_args_any (.ref (s.heap.objs.size + 1)) [] []) ?_)
  rw [PySem.W.oi_run]
  exact wpAny_pure ⟨rfl, ⟨V.ref (s.heap.objs.size + 1), _, I2, rfl, hq⟩⟩
end
end L2

set_option maxHeartbeats 4000000
/-! THE VALUE LAYER 7: exceptions, match, plain instances, a module's constants. -/
namespace VL
open PySem PySem.Spec PyProof.Rows L2

/-! ### expressions that end in an exception -/
section
variable (K : Fg) (c : Cx0)
/-- te never gives a value from here -/
def EZ (te : TE) (s : List Slot) (o : List Cont) : Prop := ∀ as G σ H, Abs K c as G σ H s o → ∀ Q : VK, te σ H Q
/-- what is wanted of an exception of the class cls with the fields fs, at the frame s -/
def XcS (W : WX) (cls : Str) (fs : List (Str × Slot)) (s : List Slot) (o : List Cont) : Prop :=
  ∀ as G σ H, Abs K c as G σ H s o → ∀ dx fvs, G dx = some (.xd fvs) → FldsOk K as G fvs fs → W (.ref (He.ga K cls)) (some dx) σ H
end
section
variable {K : Fg} {c : Cx0} {as : List Addr} {G H : Hp} {σ : L2.St} {s s1 s' : List Slot} {o o1 os : List Cont} {r r1 r2 : Slot} {rs : List Slot} {ta : TA} {te : TE} {F : FS} {E : XK} {D : Ends} {t u : TS} {i : Nat} {cls f : Str} {fs : List (Str × Slot)}
theorem vs_data {vs : List V} {rs : List Slot} (h : VsOk K as G vs rs) (hd : rs.all (fun q => match q with | .p _ => false | _ => true) = true) : VsOk K [] G vs rs := by
  induction h with
  | nil => exact .nil
  | @cons v r vs rs h t ih =>
    rw [List.all_cons, Bool.and_eq_true] at hd
    refine .cons ?_ (ih hd.2)
    cases r with
    | u => trivial
    | d x => exact h
    | p k => exact absurd hd.1 Bool.false_ne_true
theorem call_exc {vs : List V} {Q : VK} (A : Abs K c as G σ H s o) (hv : VsOk K as G vs rs) (hd : rs.all (fun q => match q with | .p _ => false | _ => true) = true) (hF : ∀ (R : RT) (X : XT), X cls fs [] → F rs [] R X) (hne : fs ≠ [])
    (hfl : (fs.all fun q => match q.2 with | .p _ => false | _ => true) = true) (P : ∀ as' G' H', Abs K c as' G' σ H' s o → ∀ dx fvs, G' dx = some (.xd fvs) → FldsOk K as' G' fvs fs → E (.ref (He.ga K cls)) (some dx) H') : spOf K F vs H Q E := by
  have B := A.into (ks := []) (M := []) (os := []) (vs := vs) rfl rfl (by simp) (fun j k e => by simp at e) (vs_data hv hd)
  refine ⟨cx1 H G [], rs, [], rfl, B, hF _ _ ?_⟩
  intro asF GF σF HF sF BF
  obtain ⟨as', pp, A2, hr⟩ := A.back (ks := []) BF rfl (by simp) (fun j k e => by simp at e) (fun j => by simp [cget, Cont.flat])
  rw [cput0, List.append_nil] at A2
  exact ⟨fun e => absurd e hne, fun dx fvs e fk => P as' GF HF A2 dx fvs e (flds_flat hfl fk)⟩
theorem Xc.at {os : List Cont} (hX : Xc K c E cls fs os) (ho : OsW o os) (hm : c.M.length ≤ os.length) (h2 : os.all (ptC os.length) = true) (hfl : (fs.all fun q => match q.2 with | .p _ => false | _ => true) = true) {dx : Addr} {fvs : List (Str × V)} (A : Abs K c as G σ H s o) (e : G dx = some (.xd fvs)) (fk : FldsOk K as G fvs fs) : E (.ref (He.ga K cls)) (some dx) H :=
  (hX _ G [] H [] (A.bare.weak (t := []) trivial ho hm rfl h2)).2 dx fvs e (flds_flat hfl fk)
theorem ez_call {os : List Cont} (h : EA K c ta s o s1 o1 rs) (hd : rs.all (fun q => match q with | .p _ => false | _ => true) = true) (hF : ∀ (R : RT) (X : XT), X cls fs [] → F rs [] R X) (hX : Xc K c E cls fs os) (hne : fs ≠ [])
    (hfl : (fs.all fun q => match q.2 with | .p _ => false | _ => true) = true) (ho : OsW o1 os) (hm : c.M.length ≤ os.length) (h2 : os.all (ptC os.length) = true) : EZ K c (tCall (spOf K F) [] E ta) s o := fun as G σ H A Q =>
  h as G σ H A _ fun vs as1 G1 H1 p1 l1 A1 h1 => by
    rw [List.append_nil]
    exact call_exc A1 h1 hd hF hne hfl fun as' G' H' A' dx fvs e fk => hX.at ho hm h2 hfl A' e fk
theorem ez_callS {W : WX} (h : EA K c ta s o s1 o1 rs) (hd : rs.all (fun q => match q with | .p _ => false | _ => true) = true) (hF : ∀ (R : RT) (X : XT), X cls fs [] → F rs [] R X) (hX : XcS K c W cls fs s1 o1) (hne : fs ≠ [])
    (hfl : (fs.all fun q => match q.2 with | .p _ => false | _ => true) = true) : EZ K c (tCallS (spOf K F) (WE W) ta) s o := fun as G σ H A Q =>
  h as G σ H A _ fun vs as1 G1 H1 p1 l1 A1 h1 => call_exc A1 h1 hd hF hne hfl fun as' G' H' A' dx fvs e fk => hX as' G' σ H' A' dx fvs e fk
/-- a call inside a try that gives a value -/
theorem er_callS {W : WX} (h : EA K c ta s o s1 o1 rs) (hF : ∀ (R : RT) (X : XT), R r os → F rs [] R X) (hd : rs.all (fun q => match q with | .p _ => false | _ => true) = true) (hfl : os.all Cont.flat = true) :
    ER K c (tCallS (spOf K F) (WE W) ta) s o s1 (o1 ++ os) (rmap o1.length [] r) := fun as G σ H A Q q =>
by
    have z := er_call (E := WE W σ) h hF hd hfl as G σ H A Q q
    unfold tCall at z
    simp only [List.append_nil] at z
    exact z
theorem s_dropZ (h : EZ K c te s o) : Run K c (tDrop te) D s o := fun as G σ H A => h as G σ H A _
theorem q_dropZ (h : EZ K c te s o) : Run K c (tSeq (tDrop te) u) D s o := fun as G σ H A => h as G σ H A _
theorem s_asgZ {g : TG} (h : EZ K c te s o) : Run K c (tAsg te g) D s o := fun as G σ H A => h as G σ H A _
theorem q_asgZ {g : TG} (h : EZ K c te s o) : Run K c (tSeq (tAsg te g) u) D s o := fun as G σ H A => h as G σ H A _
theorem s_retZ (h : EZ K c te s o) : Run K c (tRet te) D s o := fun as G σ H A => h as G σ H A _
/-- raise C(e) -/
theorem s_raise {α : Type} [Rp α] {x : α} {os : List Cont} (h : EA K c ta s o s1 o1 [.d x]) (hX : Xc K c E cls [(f, .d x)] os) (ho : OsW o1 os) (hm : c.M.length ≤ os.length) (h2 : os.all (ptC os.length) = true) :
    Run K c (tRaiseX (He.ga K cls) f (fun cls d _ H => E cls d H) ta) D s o := fun as G σ H A =>
  h as G σ H A _ fun vs as1 G1 H1 p1 l1 A1 h1 => by
    obtain ⟨v, rfl, hv⟩ := h1.one
    refine ⟨v, rfl, fun d hd => ?_⟩
    have A2 := A1.newD (o := .xd [(f, v)]) hd
    have l2 : Le G1 (upd G1 d (.xd [(f, v)])) := Le.upd (A1.sub.free hd)
    exact hX.at ho hm h2 rfl A2 upd_same ⟨rfl, Rp.mono l2 (show Rp.rep K G1 v x from hv), trivial⟩
/-! ### try -/
/-- an exception that a suite holds: at a, its dict at dd, its one field -/
structure Exv (f : Str) (α : Type) where
  a : Addr
  dd : Addr
  x : α
instance {f : Str} {α : Type} [Rp α] : Rp (Exv f α) := ⟨fun K G v e => v = .ref e.a ∧ ∃ w, G e.dd = some (.xd [(f, w)]) ∧ Rp.rep K G w e.x, fun l ⟨e, w, h1, h2⟩ => ⟨e, w, l _ _ h1, Rp.mono l h2⟩⟩
theorem Abs.unset (A : Abs K c as G σ H s o) : Abs K c as G (σ.set i none) H (s.set i .u) o := by
  refine ⟨A.sub, A.g0, A.old, A.new, A.pre, A.nd, A.asz, A.asf, A.lv, fun j => ?_, A.st, by simp [A.len]⟩
  by_cases hi : i < s.length
  · rw [sget_set _ _ _ _ hi]
    by_cases q : j = i
    · rw [if_pos q]; trivial
    · rw [if_neg q, List.getElem?_set_ne (fun z => q z.symm)]; exact A.fr j
  · have e1 : s.set i .u = s := List.set_eq_of_length_le (by omega)
    have e2 : σ.set i none = σ := List.set_eq_of_length_le (by rw [A.len]; omega)
    rw [e1, e2]; exact A.fr j
theorem go_unset {P : L2.St → Hp → Prop} (h : Go K c P (s.set i .u) o) : Go K c (fun σ' H' => P (σ'.set i none) H') s o := fun as G σ H A => h as G _ H A.unset
theorem xm_no {Wout : WX} {D : Ends} {cv : Value} {j : Nat} {ts : Addr → Value → Option Addr → TS} {l : List (Value × Nat × (Addr → Value → Option Addr → TS))} (h : PySem.W.exmOne K (.ref (He.ga K cls)) cv = some false) (k : XcS K c (wManyAs K Wout D l) cls fs s o) : XcS K c (wManyAs K Wout D ((cv, j, ts) :: l)) cls fs s o :=
  fun as G σ H A dx fvs e fk => ⟨false, h, fun z => Bool.noConfusion z, fun _ => k as G σ H A dx fvs e fk⟩
theorem xm_yes {Wout : WX} {D : Ends} {cv : Value} {j : Nat} {ts : Addr → Value → Option Addr → TS} {l : List (Value × Nat × (Addr → Value → Option Addr → TS))} {α : Type} [Rp α] {x : α} (h : PySem.W.exmOne K (.ref (He.ga K cls)) cv = some true) (hj : j < s.length)
    (k : ∀ a dd : Addr, Run K c (ts a (.ref (He.ga K cls)) (some dd)) { nx := fun σ' H' => D.nx (σ'.set j none) H', rt := D.rt, bk := fun σ' H' => D.bk (σ'.set j none) H', ct := fun σ' H' => D.ct (σ'.set j none) H' } (s.set j (.d (Exv.mk (f := f) a dd x))) o) :
    XcS K c (wManyAs K Wout D ((cv, j, ts) :: l)) cls [(f, .d x)] s o :=
  fun as G σ H A dx fvs e fk => ⟨true, h, fun _ a na => by
    obtain ⟨v, rfl, hv⟩ : ∃ v, fvs = [(f, v)] ∧ Rp.rep K G v x := by
      match fvs, fk with
      | [(g, v)], ⟨h1, h2, _⟩ => exact ⟨v, by rw [show g = f from h1], h2⟩
    exact k a dx as G _ H (A.set hj (show VOk K as G (.ref a) (.d (Exv.mk (f := f) a dx x)) from ⟨rfl, v, e, hv⟩)), fun z => Bool.noConfusion z⟩
theorem er_byX {α : Type} [Rp α] {x : α} {a dd : Addr} (h : ER K c te s o s1 o1 (.d (Exv.mk (f := f) a dd x))) : ER K c (tByX (He.ga K cls) f a (.ref (He.ga K cls)) (some dd) te) s o s1 o1 (.d x) := fun as G σ H A Q q =>
  h as G σ H A _ fun v as1 G1 H1 p1 l1 A1 hv => by
    obtain ⟨e, w, h1, h2⟩ := (show Rp.rep K G1 v (Exv.mk (f := f) a dd x) from hv)
    exact ⟨e, rfl, dd, w, rfl, A1.sub _ _ h1, q w as1 G1 H1 p1 l1 A1 h2⟩
/-! ### match -/
theorem s_match {x : Str} {tc : V → TS} (h : ER K c te s o s1 o1 (.d x)) (k : Run K c (tc (.str x)) D s1 o1) : Run K c (tMatch te tc) D s o := fun as G σ H A =>
  h as G σ H A _ fun v as1 G1 H1 p1 l1 A1 hv => by
    rw [show v = .str x from hv]
    exact k as1 G1 σ H1 A1
theorem s_case {x k : Str} {r : V → TS} (h1 : x = k → Run K c t D s o) (h2 : x ≠ k → Run K c (r (.str x)) D s o) : Run K c (tCase k t r (.str x)) D s o := fun as G σ H A => ⟨x, rfl, by
  by_cases q : x = k
  · rw [if_pos q]; exact h1 q as G σ H A
  · rw [if_neg q]; exact h2 q as G σ H A⟩
/-! ### plain instances, constants -/
/-- an instance without attributes of its own -/
structure Ob0 where
  cls : Str
instance : Rp Ob0 := ⟨fun K G v x => ∃ a dx, v = .ref a ∧ G a = some (.ins (He.ga K x.cls) dx []), fun l ⟨a, dx, e, h⟩ => ⟨a, dx, e, l _ _ h⟩⟩
theorem er_make0 {C : Str} : ER K c (tMake0 (He.ga K C)) s o s o (.d (Ob0.mk C)) := fun as G σ H A Q q x dx hx hd ne => by
  have A1 := A.newD (o := .own x) hd
  have hx1 : upd H dx (.own x) x = none := by rw [upd_ne (Ne.symm ne)]; exact hx
  have A2 := A1.newD (o := .ins (He.ga K C) dx []) hx1
  have l1 : Le G (upd G dx (.own x)) := Le.upd (A.sub.free hd)
  have l2 : Le (upd G dx (.own x)) (upd (upd G dx (.own x)) x (.ins (He.ga K C) dx [])) := Le.upd (A1.sub.free hx1)
  exact q _ as _ _ (Pre.refl _) (l1.trans l2) A2 ⟨x, dx, rfl, upd_same⟩
theorem er_con {C : Str} {b : Bool} {u : Value} (h : ER K c te s o s1 o1 (.d (Ob0.mk C))) (cl : Cls K (He.ga K C)) (k : Con K (He.ga K C) f (.bl b) u) : ER K c (tCon K te f) s o s1 o1 (.d b) := fun as G σ H A Q q =>
  h as G σ H A _ fun v as1 G1 H1 p1 l1 A1 hv => by
    obtain ⟨a, dx, e, h1⟩ := (show Rp.rep K G1 v (Ob0.mk C) from hv)
    exact ⟨a, _, dx, [], .bl b, u, e, A1.sub _ _ h1, cl, k, rfl, q _ as1 G1 H1 p1 l1 A1 rfl⟩
/-- a module's tuple of texts -/
theorem reps_str {xs : List Str} : Reps K G (xs.map V.str) xs := by
  induction xs with
  | nil => exact .nil
  | cons x xs ih => exact .cons rfl ih
theorem er_gtup {a : Addr} {vs : List V} {xs : List Str} (h : ∀ H : Hp, SqT K H a vs) (e : vs = xs.map V.str) : ER K c (tC (.ref a)) s o s o (.d (Tup.mk xs)) := er_v fun as G => ⟨a, vs, rfl, h G, by rw [e]; exact reps_str⟩
end
end VL

set_option maxHeartbeats 4000000
/-! THE VALUE LAYER 8: options, deep ==, types, bits, displays, two names at once. -/
namespace VL
open PySem PySem.Spec PyProof.Rows L2
section
variable {X : Cx} {x : Str} {k k' : Nat} {ps : List Str} {F : FS} {E : L2.St → XK} {p pos : Pos} {e : Expr} {es : List Expr} {t : TA}
theorem pe_goodS (g : Good X.prog X.w X.K X.mg X.base x k ps F) (hr : Room k' X.A) (hk : k ≤ k') (hg : Gl X x) (hx : ∀ σ, PassesAt (L2.CX X.prog X.w) X σ (E σ)) (ha : PA X (e :: es) t) (hdb : (x == ("__debug__" : Str)) = false := by decide)
    (he : starEach (e :: es) X.env = (false, eval e X.env) :: starEach es X.env := by rfl) (hpl : (backTo pos (starEach es X.env)).any (·.1) = false := by rfl) : PE X (.Call (.Name x p) (e :: es) [] pos) (tCallS (spOf X.K F) E t) := by
  obtain ⟨f, fd, h1, h2, h3, h4⟩ := g.ex
  exact pe_callS h1 (hr.mono hk) hg h2 h3 h4 hx ha hdb he hpl
end
section
variable {K : Fg} {c : Cx0} {as : List Addr} {G H : Hp} {σ : L2.St} {s s1 s2 s' : List Slot} {o o1 o2 os : List Cont} {r r1 r2 : Slot} {rs : List Slot} {ta : TA} {te tb : TE} {D : Ends} {t u : TS} {i j : Nat}
/-! ### options -/
theorem er_some {α : Type} [Rp α] {x : α} (h : ER K c te s o s1 o1 (.d x)) : ER K c te s o s1 o1 (.d (some x)) := h
theorem er_none {α : Type} [Rp α] (h : ER K c te s o s1 o1 (.d ())) : ER K c te s o s1 o1 (.d (none : Option α)) := h
theorem er_inl {α β : Type} [Rp α] [Rp β] {x : α} (h : ER K c te s o s1 o1 (.d x)) : ER K c te s o s1 o1 (.d (Sum.inl x : Sum α β)) := h
theorem er_inr {α β : Type} [Rp α] [Rp β] {x : β} (h : ER K c te s o s1 o1 (.d x)) : ER K c te s o s1 o1 (.d (Sum.inr x : Sum α β)) := h
theorem ov_eqOO {x y : Option Int} : OV K c (uEq K) s o (.d x) (.d y) s o (.d (decide (x = y))) := ov_of fun as G H u v _ h1 h2 Q q => by
  have sc : ∀ x : Option Int, ∀ u : V, Rp.rep K G u x → u = (match x with | none => V.non | some i => V.int i) := fun x u h => by cases x <;> exact h
  rw [sc x u h1, sc y v h2]
  cases x <;> cases y <;> exact .inl ⟨rfl, q _ (by show V.bl _ = V.bl _; simp)⟩
theorem ov_eqOs {x y : Int} : OV K c (uEq K) s o (.d (some x)) (.d y) s o (.d (decide (x = y))) := ov_eq (x := x) (y := y)
theorem ov_eqsO {x y : Int} : OV K c (uEq K) s o (.d x) (.d (some y)) s o (.d (decide (x = y))) := ov_eq (x := x) (y := y)
theorem ov_eqss {x y : Int} : OV K c (uEq K) s o (.d (some x)) (.d (some y)) s o (.d (decide (x = y))) := ov_eq (x := x) (y := y)
theorem ov_ltO {x y : Int} : OV K c uLt s o (.d x) (.d (some y)) s o (.d (decide (x < y))) := ov_lt
theorem ov_leO {x y : Int} : OV K c uLe s o (.d (some x)) (.d y) s o (.d (decide (x ≤ y))) := ov_le
theorem ov_gtO {x y : Int} : OV K c uGt s o (.d (some x)) (.d y) s o (.d (decide (y < x))) := ov_gt
/-! ### data of any depth: == -/
class Deep (α : Type) extends Rp α where
  dat : α → PyData
  dp : ∀ (K : Fg) (G H : Hp) (v : V) (x : α), Le G H → Rp.rep K G v x → Dp K H v (dat x)
instance : Deep Int := ⟨.int, fun _ _ _ v x _ h => by rw [show v = .int x from h]; exact .int x⟩
instance : Deep Bool := ⟨.bool, fun _ _ _ v x _ h => by rw [show v = .bl x from h]; exact .bl x⟩
instance : Deep Str := ⟨.str, fun _ _ _ v x _ h => by rw [show v = .str x from h]; exact .str x⟩
instance : Deep Unit := ⟨fun _ => .none, fun _ _ _ v x _ h => by rw [show v = .non from h]; exact .non⟩
instance {α : Type} [Deep α] : Deep (Option α) where
  dat := fun x => match x with | none => .none | some x => Deep.dat x
  dp := fun K G H v x l h => by
    cases x with
    | none => rw [show v = .non from h]; exact .non
    | some x => exact Deep.dp K G H v x l h
instance {α β : Type} [Deep α] [Deep β] : Deep (Sum α β) where
  dat := fun x => match x with | .inl x => Deep.dat x | .inr x => Deep.dat x
  dp := fun K G H v x l h => by
    cases x with
    | inl x => exact Deep.dp K G H v x l h
    | inr x => exact Deep.dp K G H v x l h
theorem dp_all {α : Type} [Deep α] {G H : Hp} (l : Le G H) {vs : List V} {xs : List α} (h : Reps K G vs xs) : DpAll K H vs (xs.map Deep.dat) := by
  induction h with
  | nil => exact .nil
  | cons r t ih => exact .cons (Deep.dp K G H _ _ l r) ih
instance {α : Type} [Deep α] : Deep (List α) where
  dat := fun xs => .list (xs.map Deep.dat)
  dp := fun K G H v x l h => by
    obtain ⟨a, vs, e, hs, hr⟩ := h
    rw [e]; exact .lst (l.sqL hs) (dp_all l hr)
instance {α : Type} [Deep α] : Deep (Tup α) where
  dat := fun xs => .tuple (xs.l.map Deep.dat)
  dp := fun K G H v x l h => by
    obtain ⟨a, vs, e, hs, hr⟩ := h
    rw [e]; exact .tup (l.sqT hs) (dp_all l hr)
instance {α β : Type} [Deep α] [Deep β] : Deep (T2 α β) where
  dat := fun x => .tuple [Deep.dat x.a, Deep.dat x.b]
  dp := fun K G H v x l h => by
    obtain ⟨t, v1, v2, e, hs, r1, r2⟩ := h
    rw [e]; exact .tup (l.sqT hs) (.cons (Deep.dp K G H _ _ l r1) (.cons (Deep.dp K G H _ _ l r2) .nil))
instance {α β γ : Type} [Deep α] [Deep β] [Deep γ] : Deep (T3 α β γ) where
  dat := fun x => .tuple [Deep.dat x.a, Deep.dat x.b, Deep.dat x.c]
  dp := fun K G H v x l h => by
    obtain ⟨t, v1, v2, v3, e, hs, r1, r2, r3⟩ := h
    rw [e]; exact .tup (l.sqT hs) (.cons (Deep.dp K G H _ _ l r1) (.cons (Deep.dp K G H _ _ l r2) (.cons (Deep.dp K G H _ _ l r3) .nil)))
theorem ov_eqD {α β : Type} [Deep α] [Deep β] {x : α} {y : β} {b : Bool} (h1 : SeqAt.shaped (Deep.dat x) = true) (h2 : SeqAt.shaped (Deep.dat y) = true) (h : PyData.eqv (Deep.dat x) (Deep.dat y) = b) : OV K c (uEq K) s o (.d x) (.d y) s o (.d b) := ov_of fun as G H u v l r1 r2 Q q =>
  .inr ⟨_, _, Deep.dp K G H u x l r1, Deep.dp K G H v y l r2, h1, h2, q _ (by rw [h]; rfl)⟩
theorem ov_neD {α β : Type} [Deep α] [Deep β] {x : α} {y : β} {b : Bool} (h1 : SeqAt.shaped (Deep.dat x) = true) (h2 : SeqAt.shaped (Deep.dat y) = true) (h : (!PyData.eqv (Deep.dat x) (Deep.dat y)) = b) : OV K c (uNe K) s o (.d x) (.d y) s o (.d b) := ov_of fun as G H u v l r1 r2 Q q =>
  .inr ⟨_, _, Deep.dp K G H u x l r1, Deep.dp K G H v y l r2, h1, h2, q _ (by rw [h]; rfl)⟩
/-! ### types -/
structure TyC where
  n : String
instance : Rp TyC := ⟨fun _ _ v x => v = .ty x.n, fun _ h => h⟩
theorem er_ty {n : String} : ER K c (tC (.ty n)) s o s o (.d (TyC.mk n)) := er_v fun _ _ => rfl
class TyN (α : Type) extends Rp α where
  ty : String
  ok : ∀ (K : Fg) (G H : Hp) (v : V) (x : α), Le G H → Rp.rep K G v x → TyX K H v (.type ty)
instance : TyN Int := ⟨"int", fun _ _ _ v x _ h => by rw [show v = .int x from h]; exact .base (.int x)⟩
instance : TyN Bool := ⟨"bool", fun _ _ _ v x _ h => by rw [show v = .bl x from h]; exact .base (.bl x)⟩
instance : TyN Str := ⟨"str", fun _ _ _ v x _ h => by rw [show v = .str x from h]; exact .base (.str x)⟩
instance : TyN Unit := ⟨"NoneType", fun _ _ _ v x _ h => by rw [show v = .non from h]; exact .base .non⟩
theorem tyL {H : Hp} {a : Addr} {vs : List V} (h : SqL K H a vs) : TyX K H (.ref a) (.type "list") := by
  rcases h with h | h
  · rcases h with h | ⟨ob, h⟩
    · exact .base (.lst h)
    · exact .base (.frz h)
  · obtain ⟨oc, its, n, e, h1, h2, h3, h4⟩ := h
    exact .kList e (by assumption)
theorem tyT {H : Hp} {a : Addr} {vs : List V} (h : SqT K H a vs) : TyX K H (.ref a) (.type "tuple") := by
  rcases h with h | h
  · rcases h with h | ⟨ob, h⟩
    · exact .base (.tup h)
    · exact .fTuple h
  · obtain ⟨oc, its, n, e, h1⟩ := h
    exact .kTuple e (by first | assumption | exact h1.1 | exact h1.2.1)
instance {α : Type} [Rp α] : TyN (List α) where
  ty := "list"
  ok := fun K G H v x l h => by
    obtain ⟨a, vs, e, hs, hr⟩ := h
    rw [e]; exact tyL (l.sqL hs)
instance {α : Type} [Rp α] : TyN (Tup α) where
  ty := "tuple"
  ok := fun K G H v x l h => by
    obtain ⟨a, vs, e, hs, hr⟩ := h
    rw [e]; exact tyT (l.sqT hs)
instance {α β : Type} [Rp α] [Rp β] : TyN (T2 α β) where
  ty := "tuple"
  ok := fun K G H v x l h => by
    obtain ⟨t, v1, v2, e, hs, r1, r2⟩ := h
    rw [e]; exact tyT (l.sqT hs)
instance {α β γ : Type} [Rp α] [Rp β] [Rp γ] : TyN (T3 α β γ) where
  ty := "tuple"
  ok := fun K G H v x l h => by
    obtain ⟨t, v1, v2, v3, e, hs, r1, r2, r3⟩ := h
    rw [e]; exact tyT (l.sqT hs)
theorem cv_isi {α : Type} [TyN α] {x : α} {n : String} {b : Bool} (h : PySem.W.kitOne K (.type (TyN.ty α)) (.type n) = some b) : CV K c (rIsi K) s o [.d x, .d (TyC.mk n)] s o (.d b) := cv_of fun as G σ H vs A hv Q q => by
  obtain ⟨v, w, rfl, h1, h2⟩ := hv.two
  exact ⟨v, w, _, _, b, rfl, by rw [show w = .ty n from h2]; exact .ty n, TyN.ok K G H v x A.sub h1, h, q _ rfl⟩
theorem cv_isiP {α : Type} [Rp α] {xs : List α} {k : Nat} {n : String} {b : Bool} (hk : cget o k = .lst xs) (h : PySem.W.kitOne K (.type "list") (.type n) = some b) : CV K c (rIsi K) s o [.p k, .d (TyC.mk n)] s o (.d b) := cv_of fun as G σ H vs A hv Q q => by
  obtain ⟨v, w, rfl, h1, h2⟩ := hv.two
  obtain ⟨a, ha, rfl⟩ := h1
  obtain ⟨vs, e, hr⟩ := at_list A ha hk
  exact ⟨_, w, _, _, b, rfl, by rw [show w = .ty n from h2]; exact .ty n, .base (.lst e), h, q _ rfl⟩
/-! ### bits -/
def bitsI (x : Int) : Int := if x = 0 then 0 else (x.natAbs.log2 : Int) + 1
theorem er_bits {x : Int} (h : ER K c te s o s1 o1 (.d x)) : ER K c (tBits te) s o s1 o1 (.d (bitsI x)) := fun as G σ H A Q q => h as G σ H A _ fun v as1 G1 H1 p1 l1 A1 hv => ⟨x, hv, q _ as1 G1 H1 p1 l1 A1 (by
  show V.int _ = V.int _
  unfold Builtin.Int.intBits bitsI
  by_cases e : x = 0
  · subst e; rfl
  · have e2 : (x == 0) = false := by simpa using e
    rw [e2, if_neg e]; simp)⟩
/-! ### two names at once -/
theorem s_par (h : EA K c ta s o s1 o1 [r1, r2]) (hi : i < s1.length) (hj : j < s1.length) (k : Go K c D.nx ((s1.set i r1).set j r2) o1) : Run K c (tPar i j ta) D s o := fun as G σ H A =>
  h as G σ H A _ fun vs as1 G1 H1 p1 l1 A1 hv => by
    obtain ⟨v, w, rfl, h1, h2⟩ := hv.two
    exact ⟨v, w, rfl, k as1 G1 _ H1 ((A1.set hi h1).set (by simpa using hj) h2)⟩
theorem q_par (h : EA K c ta s o s1 o1 [r1, r2]) (hi : i < s1.length) (hj : j < s1.length) (k : Run K c u D ((s1.set i r1).set j r2) o1) : Run K c (tSeq (tPar i j ta) u) D s o := s_par (D := { D with nx := u D }) h hi hj k
/-! ### displays -/
inductive AllD {α : Type} [Rp α] : List Slot → List α → Prop
  | nil : AllD [] []
  | cons {r : Slot} {x : α} {rs : List Slot} {xs : List α} (h : ∀ K as G v, VOk K as G v r → Rp.rep K G v x) (t : AllD rs xs) : AllD (r :: rs) (x :: xs)
theorem AllD.d {α : Type} [Rp α] {x : α} {rs : List Slot} {xs : List α} (t : AllD rs xs) : AllD (.d x :: rs) (x :: xs) := .cons (fun _ _ _ _ h => h) t
theorem AllD.vs {α : Type} [Rp α] {rs : List Slot} {xs : List α} (t : AllD rs xs) : ∀ {vs : List V}, VsOk K as G vs rs → VsOk K as G vs (sl xs) := by
  induction t with
  | nil => intro vs h; cases h; exact .nil
  | cons h t ih => intro vs hv; cases hv with | cons a b => exact .cons (h _ _ _ _ a) (ih b)
theorem EA.all {α : Type} [Rp α] {xs : List α} (h : EA K c ta s o s1 o1 rs) (d : AllD rs xs) : EA K c ta s o s1 o1 (sl xs) := fun as G σ H A Q q => h as G σ H A _ fun vs as1 G1 H1 p1 l1 A1 h1 => q vs as1 G1 H1 p1 l1 A1 (d.vs h1)
theorem er_tupA {α : Type} [Rp α] {xs : List α} (h : EA K c ta s o s1 o1 rs) (d : AllD rs xs) (hl : xs.length ≤ sizeLine) : ER K c (tTup ta) s o s1 o1 (.d (Tup.mk xs)) := er_tup (h.all d) hl
theorem er_lstA {α : Type} [Rp α] {xs : List α} (h : EA K c ta s o s1 o1 rs) (d : AllD rs xs) (hl : xs.length ≤ sizeLine) : ER K c (tLst ta) s o s1 (o1 ++ [.lst xs]) (.p o1.length) := er_lst (h.all d) hl
theorem er_lstAD {α : Type} [Rp α] {xs : List α} (h : EA K c ta s o s1 o1 rs) (d : AllD rs xs) (hl : xs.length ≤ sizeLine) : ER K c (tLst ta) s o s1 o1 (.d xs) := er_lstD (h.all d) hl
/-- a walk over data: a list or a tuple -/
theorem ei_seqD {α : Type} [Rp α] {xs : List α} (h : ER K c te s o s1 o1 (.d xs)) : EI K c (iSeq K te) s o s1 o1 xs (fun _ => True) := fun as G σ H A R q => .inl (ei_data h as G σ H A R q)
theorem ei_seqT {α : Type} [Rp α] {xs : List α} (h : ER K c te s o s1 o1 (.d (Tup.mk xs))) : EI K c (iSeq K te) s o s1 o1 xs (fun _ => True) := fun as G σ H A R q => .inr (ei_tup h as G σ H A R q)
theorem ei_seqP {α : Type} [Rp α] {xs : List α} {k : Nat} (h : ER K c te s o s1 o1 (.p k)) (hk : cget o1 k = .lst xs) : EI K c (iSeq K te) s o s1 o1 xs (fun o => cget o k = .lst xs) := fun as G σ H A R q => .inl (ei_store h hk as G σ H A R q)
end
end VL

set_option maxHeartbeats 4000000
/-! THE HEAD'S HOOK: defs, facts, any test of the written part, own exceptions. -/
namespace HV
open PySem PySem.Spec PyProof.Rows L2 VL
abbrev FnS : Type := Option (Str × Str × Arguments × FuncBody × Scope × Addr × List Str × Value × Addr)
def fnS (K : Fg) (C : Str) : FnS := match K.lookup (He.ma K (He.ga K C) "__init__") with
  | some ⟨_, _, .func fd, _⟩ => some (fd.name, fd.qualname, fd.params, fd.body, fd.scope, fd.globals, fd.closure.map (·.1), fd.defaults, fd.builtins)
  | _ => none
def sVal (S : SX.Shape) : FnS := some ("__init__", S.qual, S.params, .stmts S.body, S.scope, mainGlobals, [("__class__" : Str)], .none, builtinsNs)
def clsB (K : Fg) (C : Addr) : Bool := match PySem.W.clsIn K C with
  | some cd => HandSPX.refsVE cd.mro && cd.hasDict
  | none => false
def codB (file : Str) (K : Fg) (C : Addr) (q : Str) : Bool := match K.lookup (He.ma K C "__init__") with
  | some ⟨_, _, .func fd, _⟩ => PySem.W.codeIn K fd.code q && ((match fd.code with
    | .ref a => (match K.lookup a with
      | some ⟨_, _, .fields vs, _⟩ => (match (vs[2]? : Option Value) with
        | some (.str f _) => file == f
        | _ => false)
      | _ => false)
    | _ => false) && (match fd.closure with
    | [(_, cc)] => (match K.lookup cc with
      | some ⟨_, _, .cell (some (.ref D)), _⟩ => D == C
      | _ => false)
    | _ => false))
  | _ => false
/-- what is asked of the class -/
def sxB (file : Str) (K : Fg) (S : SX.Shape) : Bool :=
  PySem.W.excInitIn K (He.ga K S.cls) He.veBase "ValueError.__new__" && (clsB K (He.ga K S.cls) && (He.eqO (PySem.W.findIn K (.ref (He.ga K S.cls)) "__setattr__") (some (some (.builtin "object.__setattr__"))) &&
  (He.eqO (PySem.W.findIn K (.ref (He.ga K S.cls)) "__getattribute__") (some (some (.builtin "BaseException.__getattribute__"))) && (He.eqO (PySem.W.findIn K (.ref (He.ga K S.cls)) "__getattr__") (some none) &&
  (He.eqO (PySem.W.findIn K (.ref (He.ga K S.cls)) S.f) (some none) && (He.eqO (PySem.W.findIn K (.ref (He.ga K S.cls)) "__init__") (some (some (.ref (He.ma K (He.ga K S.cls) "__init__")))) &&
  (decide (PySem.W.typeIn K (.ref (He.ma K (He.ga K S.cls) "__init__")) = some (.type "function")) && (PySem.W.keepIn K (.ref (He.ga K S.cls)) && (decide (PySem.W.subIn K (.ref (He.ga K S.cls)) (.type "BaseException") = some true) &&
  (decide (PySem.W.typeIn K (.ref (He.ga K S.cls)) = some (.type "type")) && (PySem.W.hasDictIn K (He.ga K S.cls) && (He.eqO (PySem.W.ks_superIn K (He.ga K S.cls) (He.ga K S.cls) "__init__") (some (some (.builtin "ValueError.__init__"))) &&
  (decide (PySem.W.subIn K (.ref (He.ga K S.cls)) (.type "ValueError") = some true) && (decide (PySem.W.mroIn K (He.ga K S.cls) (.ref (He.ga K S.cls)) = some true) && (He.eqO (PySem.W.nsIn K PySem.cStatics "thirdparty.any") (some none) &&
  (He.eqO (PySem.W.nsIn K mainGlobals "super") (some none) && codB file K (He.ga K S.cls) S.qual))))))))))))))))
theorem sx_ok {P : Program} {K : Fg} {S : SX.Shape} (I : SX.Ini S) (hm : (P.main.scope.names.lookup ("super" : Str)).isSome = false) (e : fnS K S.cls = sVal S) (c : sxB P.main.file K S = true) : SX.Txt P K (He.ga K S.cls) S := by
  obtain ⟨c1, c⟩ := He.ba c
  obtain ⟨c2, c⟩ := He.ba c
  obtain ⟨c3, c⟩ := He.ba c
  obtain ⟨c4, c⟩ := He.ba c
  obtain ⟨c5, c⟩ := He.ba c
  obtain ⟨c6, c⟩ := He.ba c
  obtain ⟨c7, c⟩ := He.ba c
  obtain ⟨c8, c⟩ := He.ba c
  obtain ⟨c9, c⟩ := He.ba c
  obtain ⟨c10, c⟩ := He.ba c
  obtain ⟨c11, c⟩ := He.ba c
  obtain ⟨c12, c⟩ := He.ba c
  obtain ⟨c13, c⟩ := He.ba c
  obtain ⟨c14, c⟩ := He.ba c
  obtain ⟨c15, c⟩ := He.ba c
  obtain ⟨c16, c⟩ := He.ba c
  obtain ⟨c17, c18⟩ := He.ba c
  refine ⟨I, c1, ?_, He.eqO_ok c3, He.eqO_ok c4, He.eqO_ok c5, He.eqO_ok c6, He.eqO_ok c7, of_decide_eq_true c8, c9, of_decide_eq_true c10, of_decide_eq_true c11, c12, He.eqO_ok c13, of_decide_eq_true c14, of_decide_eq_true c15, He.eqO_ok c16, He.eqO_ok c17, hm, ?_⟩
  · unfold clsB at c2
    split at c2
    · rename_i cd q
      obtain ⟨d1, d2⟩ := He.ba c2
      exact ⟨cd, q, d1, d2⟩
    · cases c2
  · unfold fnS at e
    unfold codB at c18
    generalize q : K.lookup (He.ma K (He.ga K S.cls) "__init__") = o at e c18
    cases o with
    | none => cases c18
    | some ob =>
      obtain ⟨oc, od, dt, osl⟩ := ob
      cases dt with
      | func fd =>
        obtain ⟨n1, n2, n3, n4, n5, n6, n7, n8, n9, n10, n11, n12, n13, n14, n15⟩ := fd
        have e2 : (some (n1, n2, n3, n4, n5, n6, n7.map (·.1), n8, n15) : FnS) = sVal S := e
        unfold sVal at e2
        simp only [Option.some.injEq, Prod.mk.injEq] at e2
        obtain ⟨h1, h2, h3, h4, h5, h6, h7, h8, h9⟩ := e2
        subst h1 h2 h3 h4 h5 h6 h8 h9
        obtain ⟨d1, d2⟩ := He.ba (show (PySem.W.codeIn K n13 S.qual && _) = true from c18)
        obtain ⟨d2, d3⟩ := He.ba d2
        dsimp only at d2 d3
        match n7, h7, d3, q with
        | [(a, cc)], h7, d3, q =>
          have ha : a = "__class__" := by simpa using h7
          subst ha
          match n13, d1, d2, q with
          | .ref cda, d1, d2, q =>
            refine ⟨oc, _, _, _, _, od, _, cda, cc, osl, rfl, d1, ?_, ?_⟩
            · dsimp only at d2
              split at d2
              · rename_i cl dd vs ss q2
                split at d2
                · rename_i f tf q3
                  exact ⟨_, _, vs, _, f, tf, q2, q3, by first | exact d2 | exact (He.ba d2).1⟩
                · cases d2
              · cases d2
            · dsimp only at d3
              split at d3
              · rename_i cl dd D ss q2
                have eD : D = He.ga K S.cls := beq_iff_eq.mp d3
                subst eD
                exact ⟨_, _, _, q2⟩
              · cases d3
        | [], h7, d3, q => cases d3
        | _ :: _ :: _, h7, d3, q => cases d3
      | _ => cases c18
/-! ### the Hook -/
abbrev AlV : Type := He.AlD × Bool × List FnS
def frV (n : Nat) (g : Addr → Option Obj) : Fg := He.frG g (PySem.cStatics :: He.asD g n)
def obsV (fa : List He.Fa) (fn : List He.DefD) (sx : List SX.Shape) (ex : Fg → Bool) (K : Fg) : AlV := (He.obsD fa fn K, ex K, sx.map fun S => fnS K S.cls)
def valV (fn : List He.DefD) (sx : List SX.Shape) : AlV := (He.valD fn, true, sx.map sVal)
def obsVG (n : Nat) (fa : List He.Fa) (fn : List He.DefD) (sx : List SX.Shape) (ex : Fg → Bool) (g : Addr → Option Obj) : AlV := obsV fa fn sx ex (frV n g)
structure SaysV (fa : List He.Fa) (fn : List He.DefD) (sx : List SX.Shape) (ex : Fg → Bool) (K : Fg) : Prop where
  eq : obsV fa fn sx ex K = valV fn sx
def hookV (n : Nat) (fa : List He.Fa) (fn : List He.DefD) (sx : List SX.Shape) (ex : Fg → Bool) : PySem.W.Hook where
  α := AlV
  obs := fun s => obsVG n fa fn sx ex s.heap.get?
  val := fun _ => valV fn sx
  says := fun _ h => ∃ K : PySem.W.Frag, K.In h ∧ SaysV fa fn sx ex K
  of := fun _ _ e => ⟨_, He.frG_in, ⟨e⟩⟩
  keeps := fun _ _ _ ⟨K, hK, c⟩ k => ⟨K, PySem.W.Frag.In.keeps hK k, c⟩
theorem obsVG_eq {n : Nat} {fa : List He.Fa} {fn : List He.DefD} {sx : List SX.Shape} {ex : Fg → Bool} {g : Addr → Option Obj} {s : Shared} (h : ∀ a, g a = s.heap.get? a) : obsVG n fa fn sx ex g = (hookV n fa fn sx ex).obs s := by
  have e : g = s.heap.get? := funext h
  rw [e] <;> rfl
section
variable {fa : List He.Fa} {fn : List He.DefD} {sx : List SX.Shape} {ex : Fg → Bool} {K : Fg}
theorem SaysV.d (c : SaysV fa fn sx ex K) : He.SaysD fa fn K := congrArg (fun z : AlV => z.1) c.eq
theorem SaysV.e (c : SaysV fa fn sx ex K) : ex K = true := congrArg (fun z : AlV => z.2.1) c.eq
theorem SaysV.shp (c : SaysV fa fn sx ex K) (i : Nat) {S : SX.Shape} (h : sx[i]? = some S := by rfl) : fnS K S.cls = sVal S := by
  have e : (sx.map fun S => fnS K S.cls) = sx.map sVal := congrArg (fun z : AlV => z.2.2) c.eq
  have e2 : (sx.map fun S => fnS K S.cls)[i]? = (sx.map sVal)[i]? := by rw [e]
  rw [List.getElem?_map, List.getElem?_map, h] at e2
  exact Option.some.inj e2
end
def mk0B (K : Fg) (C : Addr) : Bool := PySem.W.makesIn K C && (He.eqO (PySem.W.findIn K (.ref C) "__init__") (some (some (.builtin "object.__init__"))) && (decide (PySem.W.mroIn K C (.type "object") = some true) && PySem.W.keepIn K (.ref C)))
theorem mk0_ok {K : Fg} {C : Addr} (h : mk0B K C = true) : Mk0 K C := by
  obtain ⟨c1, c⟩ := He.ba h
  obtain ⟨c2, c⟩ := He.ba c
  obtain ⟨c3, c4⟩ := He.ba c
  exact ⟨c1, He.eqO_ok c2, of_decide_eq_true c3, c4⟩
/-- a list of tests -/
def allB : List (Fg → Bool) → Fg → Bool
  | [], _ => true
  | p :: r, K => p K && allB r K
theorem allB_at {l : List (Fg → Bool)} {K : Fg} (h : allB l K = true) (i : Nat) {p : Fg → Bool} (e : l[i]? = some p := by rfl) : p K = true := by
  induction l generalizing i with
  | nil => simp at e
  | cons q l ih =>
    obtain ⟨h1, h2⟩ := He.ba h
    cases i with
    | zero => have := Option.some.inj e; rw [← this]; exact h1
    | succ i => exact ih h2 i e
end HV

set_option maxHeartbeats 4000000
/-! THE VALUE LAYER 9: calls with data only, calls whose answer is one of many, tries, the law's end. -/
namespace VL
open PySem PySem.Spec PyProof.Rows L2
def tTryM (K : Fg) (tb : WX → TS) (Wout : WX) (l : List (Value × Nat × (Addr → Value → Option Addr → TS))) : TS := fun D σ H => tb (wManyAs K Wout D l) D σ H
theorem ps_tryM {X : Cx} {body : List Stmt} {h₀ : ExceptHandler} {hds : List ExceptHandler} {l : List (Value × Nat × (Addr → Value → Option Addr → TS))} {pos : Pos} {tb : WX → TS} {Wout : WX} (hs : X.stack = X.env :: X.outer) (hf : X.env.frame = some X.env.locals) (hN : X.N.Nodup) (tk : Takes X Wout)
    (hb : ∀ (W : WX) (pn : List (Addr × Obj)) (xe : Value → Shared → Prop), Takes (X.tr pn xe) W → PassesOwn (model X.prog X.w) X.A X.env xe → PSs (X.tr pn xe) body (tb W))
    (hh : HdsAs X (h₀ :: hds) l) : PS X (.Try body (h₀ :: hds) [] [] pos) (tTryM X.K tb Wout l) := ps_try_manyAs hs hf hN tk hb hh
section
variable {K : Fg} {c : Cx0} {as : List Addr} {G H : Hp} {σ : L2.St} {s s1 s2 s' : List Slot} {o o1 o2 os : List Cont} {r r1 r2 : Slot} {rs : List Slot} {ta : TA} {te tb : TE} {D : Ends} {t u : TS} {i j : Nat} {F : FS} {E : XK} {W : WX}
theorem s_try {tb : WX → TS} {Wout : WX} {l : List (Value × Nat × (Addr → Value → Option Addr → TS))} (h : Run K c (tb (wManyAs K Wout D l)) D s o) : Run K c (tTryM K tb Wout l) D s o := h
/-- data in, data out -/
theorem er_callD {α : Type} [Rp α] {x : α} (h : EA K c ta s o s1 o1 rs) (hF : ∀ (R : RT) (X : XT), R (.d x) [] → F rs [] R X) (hd : rs.all (fun q => match q with | .p _ => false | _ => true) = true := by rfl) : ER K c (tCall (spOf K F) [] E ta) s o s1 o1 (.d x) := by
  have z := er_call (E := E) h hF hd rfl
  rw [List.append_nil] at z
  exact z
theorem er_callSD {α : Type} [Rp α] {x : α} (h : EA K c ta s o s1 o1 rs) (hF : ∀ (R : RT) (X : XT), R (.d x) [] → F rs [] R X) (hd : rs.all (fun q => match q with | .p _ => false | _ => true) = true := by rfl) : ER K c (tCallS (spOf K F) (WE W) ta) s o s1 o1 (.d x) := by
  have z := er_callS (W := W) h hF hd rfl
  rw [List.append_nil] at z
  exact z
/-- one container in (the caller's k), it stands behind, data out -/
theorem er_callD1 {α : Type} [Rp α] {x : α} {k : Nat} {ct ct' : Cont} {rs' : List Slot} (h : EA K c ta s o s1 o1 rs') (hF : ∀ (R : RT) (X : XT), R (.d x) [ct'] → F rs [ct] R X) (hk : k < o1.length) (hct : cget o1 k = ct) (hl : ct.flat = true) (hfl : ct'.flat = true)
    (hrs : rs' = rs.map (slotK k)) (hp : rs.all (fun q => match q with | .p 0 => true | .p _ => false | _ => true) = true) : ER K c (tCall (spOf K F) [] E ta) s o s1 (o1.set k ct') (.d x) := by
  have z := er_call1 (E := E) (os := []) (k := k) (ct' := ct') h hF hk hct hl (by rw [List.all_cons, hfl]; rfl) hrs hp
  rw [List.append_nil] at z
  exact z
/-- the answer is one of many -/
def ERF (K : Fg) (c : Cx0) {ω : Type} (te : TE) (s : List Slot) (o : List Cont) (P : ω → Prop) (s' : ω → List Slot) (o' : ω → List Cont) (r : ω → Slot) : Prop :=
  ∀ as G σ H, Abs K c as G σ H s o → ∀ Q : VK, (∀ w, P w → ∀ v as' G' H', Pre as as' → Le G G' → Abs K c as' G' σ H' (s' w) (o' w) → VOk K as' G' v (r w) → Q v H') → te σ H Q
theorem erf_call {ω : Type} {P : ω → Prop} {os : ω → List Cont} {r : ω → Slot} (h : EA K c ta s o s1 o1 rs) (hF : ∀ (R : RT) (X : XT), (∀ w, P w → R (r w) (os w)) → F rs [] R X) (hd : rs.all (fun q => match q with | .p _ => false | _ => true) = true) (hfl : ∀ w, (os w).all Cont.flat = true) :
    ERF K c (tCall (spOf K F) [] E ta) s o P (fun _ => s1) (fun w => o1 ++ os w) (fun w => rmap o1.length [] (r w)) := fun as G σ H A Q q =>
  h as G σ H A _ fun vs as1 G1 H1 p1 l1 A1 h1 => by
    have B := A1.into (ks := []) (M := []) (os := []) (vs := vs) rfl rfl (by simp) (fun j k e => by simp at e) (vs_data h1 hd)
    rw [List.append_nil]
    refine ⟨cx1 H1 G1 [], rs, [], rfl, B, hF _ _ fun w hw => ?_⟩
    intro v asF GF σF HF sF BF hv
    obtain ⟨as', pp, A2, hr⟩ := A1.back (ks := []) BF rfl (by simp) (fun j k e => by simp at e) (fun j => by
      unfold cget
      rw [List.getD_eq_getElem?_getD]
      cases e : (os w)[j]? with
      | none => rfl
      | some ct => exact List.all_eq_true.mp (hfl w) ct (List.mem_of_getElem? e))
    rw [cput0] at A2
    exact q w hw v as' GF HF (p1.trans pp) (l1.trans BF.g0) A2 (hr v (r w) hv)
theorem q_asgF {ω : Type} {P : ω → Prop} {s' : ω → List Slot} {o' : ω → List Cont} {r : ω → Slot} (h : ERF K c te s o P s' o' r) (hi : ∀ w, i < (s' w).length) (k : ∀ w, P w → Run K c u D ((s' w).set i (r w)) (o' w)) : Run K c (tSeq (tAsg te (gName i)) u) D s o := fun as G σ H A =>
  h as G σ H A _ fun w hw v as1 G1 H1 _ _ A1 h1 => k w hw as1 G1 _ H1 (A1.set (hi w) h1)
/-- a store that may be told otherwise -/
theorem run_os (h : Run K c t D s o1) (e : o = o1) : Run K c t D s o := e ▸ h
theorem run_sl (h : Run K c t D s1 o) (e : s = s1) : Run K c t D s o := e ▸ h
end
section
variable {K : Fg} {c : Cx0} {s s1 s2 s' : List Slot} {o o1 o2 os : List Cont} {D : Ends} {t u : TS} {i j : Nat}
theorem gENil {rs : List Slot} (h : EA K c tNil s o s1 o1 rs) : EA K c tNil s o s1 o1 rs := h
theorem OsW.nil {o : List Cont} : OsW o [] := by cases o <;> trivial
theorem q_for {α ω : Type} [Rp α] {wi : TI} {tg : TG} {xs : List α} {P : List Cont → Prop} (I : Nat → ω → Prop) (f : ω → List Slot) (g : ω → List Cont) (f' : ω → α → List Slot) (h : EI K c wi s o s1 o1 xs P) (w0 : ω) (h0 : I 0 w0) (e1 : SlW s1 (f w0)) (e2 : o1 = g w0) (h1 : (f w0).all (ptS (g w0).length) = true) (h2 : (g w0).all (ptC (g w0).length) = true)
    (hP : ∀ k w, I k w → P (g w)) (hg : ∀ w x, EG K tg (.d x) (f w) (f' w x))
    (hs : ∀ c', CLe K c c' → c'.M.length = o1.length → ∀ (k : Nat) (w : ω) (x : α), xs[k]? = some x → I k w → Run K c' t { D with nx := At K c' (I (k + 1)) f g, ct := At K c' (I (k + 1)) f g, bk := u D } (f' w x) (g w))
    (hd : ∀ w, I xs.length w → Run K c u D (f w) (g w)) : Run K c (tSeq (tFor wi tg t) u) D s o := s_for (D := { D with nx := u D }) I f g f' h w0 h0 e1 e2 h1 h2 hP hg hs fun w hw => hd w hw
theorem q_while {ω : Type} {tt : TT} (I : ω → Prop) (μ : ω → Nat) (b : ω → Bool) (f : ω → List Slot) (g : ω → List Cont) (w0 : ω) (h0 : I w0) (e1 : SlW s (f w0)) (e2 : OsW o (g w0)) (hm : c.M.length ≤ (g w0).length) (h1 : (f w0).all (ptS (g w0).length) = true) (h2 : (g w0).all (ptC (g w0).length) = true)
    (hb : ∀ w, I w → ET K c tt (f w) (g w) (f w) (g w) (b w))
    (hs : ∀ w, I w → b w = true → Run K c t { D with nx := At K c (fun w' => I w' ∧ μ w' < μ w) f g, ct := At K c (fun w' => I w' ∧ μ w' < μ w) f g, bk := u D } (f w) (g w))
    (hd : ∀ w, I w → b w = false → Run K c u D (f w) (g w)) : Run K c (tSeq (tWhile tt t) u) D s o := s_while (D := { D with nx := u D }) I μ b f g w0 h0 e1 e2 hm h1 h2 hb hs fun w hw e => hd w hw e
theorem run_next {P : L2.St → Hp → Prop} {D : Ends} (h : Run K c u D s o) (e : P = u D) : Go K c P s o := e ▸ h
end
section
variable {P : Program} {w : World} {K : Fg} {mg : Str → Option Value} {base : Heap}
theorem fnok_mk {x : Str} {st : Stmt} {N ps : List Str} {k : Nat} {F : FS} {f : Addr} {fd : FuncData} (t : XK → TS) (FD : FunD K x x (defArgs st) (defBody st) (defScope st) [] [] f fd) (S : FnScope N ps (defScope st))
    (len : ∀ ss os R X, F ss os R X → ss.length = ps.length)
    (body : ∀ (cdv : Value) (A : Around) (outer : List Env) (s : Shared) (H : Hp) (E : XK), Room k (A.deeper (envOfC x (defScope st) s.heap.objs.size f cdv)) → PSs (cxOf (L2.CX P w) P w K mg base N x (defScope st) f cdv A outer s H E) (defBody st) (t E))
    (run : ∀ (c : Cx0) (ss : List Slot) (os : List Cont) (Q : VK) (E : XK), c.M.length = os.length → F ss os (Rc K c Q) (Xc K c E) → Run K c (t E) { nx := fun _ H' => Q .non H', rt := Q } (ss ++ List.replicate (N.length - ss.length) .u) os) :
    FnOk P w K mg base (L2.CX P w) (k + 1) f fd ps (spOf K F) := by
  refine FD.ok S (fun vs H Q E h => spOf.len len vs H Q E h) (fun cdv A outer s H vs Q E hr h => ⟨t E, body cdv A outer s H E hr, ?_⟩)
  exact enter h fun c ss os hM hF => run c ss os Q E hM hF
end
/-- the end, the exceptions' context by the world -/
theorem walk_ofV {l : PySem.W.OpenLaw} {n k : Nat} {q : Program} {loose : List Str} {XP : (Str → Option Value) → Heap → Prop} {YP : World → Heap → Prop} {d : DefRec} {x : Str}
    (hn : l.most = some n) (hn2 : n ≤ sizeLine) (hdf : d.params.defaults = []) (hr : Room k callerA)
    (F : ∀ (w : World) (mg : Str → Option Value) (fa : Addr) (h : Heap), YP w h → h.Ns mainGlobals mg → mg d.name = some (.ref fa) →
      ∃ (K : PySem.W.Frag) (fd : FuncData) (sp : Sp), K.In h ∧ (∀ (s : Shared) (u : Value), BindsTo s fd ⟨[u], []⟩ [(x, u)]) ∧
        (∀ (H : Hp) (a : Addr) (ns : List Int), ns.length ≤ n → Only H → SqL K H a (ns.map V.int) → sp [.ref a] H (fun v _ => v = .bl true) fun _ _ _ => False) ∧
        ∀ base : Heap, K.In base → base.Ns mainGlobals mg → FnOk l.prog w K mg base (L2.CX l.prog w) k fa fd [x] sp) :
    PySem.W.WalkO q loose XP YP l.row.toRowW d [] (fun f vs => PySem.call f vs) := by
  refine Att.attach_call hn hdf fun w s₀ s₁ mg mb fa o pm cd doc a vs ns G Y ho hd hcd hmg hobj hints hlen hg => ?_
  obtain ⟨K, fd, sp, KX, hb, hsp, hF⟩ := F w mg fa _ Y G.T.g hmg
  exact law_call KX G.T.g G.T.b G.T.builtins G.T.nolimit hg hobj hints (Nat.le_trans hlen hn2) hr hF hb (fun H hO hS => hsp H a ns hlen hO hS) fun H e s' hz => by
    obtain ⟨_, _, _, _, _, _, _, _, _, _, _, _, z⟩ := hz
    exact z
/-- the law: it says True of every list of ints of at most n -/
theorem law_sp {K : Fg} {F : FS} {n : Nat} (hF : ∀ (ns : List Int) (R : RT) (X : XT), ns.length ≤ n → R (.d true) [] → F [.d ns] [] R X) {H : Hp} {a : Addr} {ns : List Int} (hl : ns.length ≤ n) (hS : SqL K H a (ns.map V.int)) :
    spOf K F [.ref a] H (fun v _ => v = .bl true) (fun _ _ _ => False) := by
  have rp : ∀ l : List Int, Reps K H (l.map V.int) l := by
    intro l
    induction l with
    | nil => exact .nil
    | cons x xs ih => exact .cons rfl ih
  refine ⟨⟨H, H, []⟩, [.d ns], [], rfl, ⟨Le.refl _, Le.refl _, fun b u e _ => e, fun b u e => .inl e, Pre.refl _, List.nodup_nil, rfl, fun a m => (by cases m), fun k a e => (by simp at e), fun i => ?_, fun k a e => (by simp at e), rfl⟩, hF ns _ _ hl ?_⟩
  · cases i with
    | zero => exact ⟨.ref a, rfl, a, _, rfl, hS, rp ns⟩
    | succ i => trivial
  · intro w as G σ H' sds A hw
    exact hw
end VL

set_option maxHeartbeats 4000000
/-! THE VALUE LAYER 10: calls that are handed containers which point at one another; objects with fields; methods; makers. -/
namespace VL
open PySem PySem.Spec PyProof.Rows L2
/-- a container, its pointers told anew -/
def Cont.ren (ρ : Slot → Slot) : Cont → Cont
  | .obj C fs => .obj C (fs.map fun q => (q.1, ρ q.2))
  | ct => ct
theorem Cont.ren_live {ρ : Slot → Slot} {ct : Cont} (h : (ct.ren ρ).live) : ct.live := by cases ct <;> first | exact h | trivial
/-- the callee's pointer j is the caller's ks[j] -/
def slotR (ks : List Nat) : Slot → Slot
  | .p j => .p (ks.getD j 0)
  | s => s
def cputR (o : List Cont) (ks : List Nat) (os : List Cont) : List Cont := cput o ks (os.map (Cont.ren (rmap o.length ks)))
theorem cget_map {f : Cont → Cont} (hf : f .gone = .gone) (os : List Cont) (j : Nat) : cget (os.map f) j = f (cget os j) := by
  unfold cget
  rw [List.getD_eq_getElem?_getD, List.getD_eq_getElem?_getD, List.getElem?_map]
  cases os[j]? with
  | none => exact hf.symm
  | some ct => rfl
section
variable {K : Fg} {as as' M : List Addr} {G : Hp} {ρ : Slot → Slot}
theorem flds_ren (h : ∀ v r, VOk K as G v r → VOk K as' G v (ρ r)) : ∀ {fvs : List (Str × V)} {fs : List (Str × Slot)}, FldsOk K as G fvs fs → FldsOk K as' G fvs (fs.map fun q => (q.1, ρ q.2))
  | [], [], _ => trivial
  | (_, _) :: _, (_, _) :: _, ⟨e, h1, h2⟩ => ⟨e, h _ _ h1, flds_ren h h2⟩
theorem COk.ren {ob : Option HO} {ct : Cont} (h : ∀ v r, VOk K as G v r → VOk K as' G v (ρ r)) (k : COk K as G ob ct) : COk K as' G ob (ct.ren ρ) := by
  cases ct with
  | gone => trivial
  | lst xs => exact k
  | dct xs => exact k
  | obj C fs => obtain ⟨dx, fvs, e1, e2⟩ := k; exact ⟨dx, fvs, e1, flds_ren h e2⟩
theorem flds_unren {n : Nat} (h : ∀ v r, ptS n r = true → VOk K as G v (ρ r) → VOk K M G v r) : ∀ {fvs : List (Str × V)} {fs : List (Str × Slot)}, (fs.all fun q => ptS n q.2) = true → FldsOk K as G fvs (fs.map fun q => (q.1, ρ q.2)) → FldsOk K M G fvs fs
  | [], [], _, _ => trivial
  | (_, _) :: _, (_, _) :: _, hp, ⟨e, h1, h2⟩ => by
    rw [List.all_cons, Bool.and_eq_true] at hp
    exact ⟨e, h _ _ hp.1 h1, flds_unren h hp.2 h2⟩
theorem COk.unren {n : Nat} {ob : Option HO} {ct : Cont} (h : ∀ v r, ptS n r = true → VOk K as G v (ρ r) → VOk K M G v r) (hp : ptC n ct = true) (k : COk K as G ob (ct.ren ρ)) : COk K M G ob ct := by
  cases ct with
  | gone => trivial
  | lst xs => exact k
  | dct xs => exact k
  | obj C fs => obtain ⟨dx, fvs, e1, e2⟩ := k; exact ⟨dx, fvs, e1, flds_unren h hp e2⟩
end
section
variable {K : Fg} {c : Cx0} {as asF : List Addr} {G GF H H' : Hp} {σ σF : L2.St} {s s1 s2 sF : List Slot} {o o1 o2 oF os os' : List Cont} {ks : List Nat} {rs rss : List Slot} {r : Slot} {vs : List V} {F : FS} {E : XK} {ta : TA} {te : TE}
/-- what is handed to a callee: ks the caller's places, os the callee's view of them -/
structure Hand (o : List Cont) (ks : List Nat) (os : List Cont) : Prop where
  len : ks.length = os.length
  nd : ks.Nodup
  lt : ∀ k ∈ ks, k < o.length
  ct : ks.map (cget o) = os.map (Cont.ren (slotR ks))
  pt : os.all (ptC ks.length) = true
theorem Hand.at (h : Hand o ks os) {j : Nat} {k : Nat} (e : ks[j]? = some k) : cget o k = (cget os j).ren (slotR ks) ∧ ptC ks.length (cget os j) = true := by
  obtain ⟨hj, e2⟩ := List.getElem?_eq_some_iff.mp e
  have hj2 : j < os.length := by rw [← h.len]; exact hj
  have z : (ks.map (cget o))[j]? = (os.map (Cont.ren (slotR ks)))[j]? := by rw [h.ct]
  rw [List.getElem?_map, List.getElem?_map, e, List.getElem?_eq_getElem hj2] at z
  have eg : cget os j = os[j] := by unfold cget; rw [List.getD_eq_getElem?_getD, List.getElem?_eq_getElem hj2]; rfl
  rw [eg]
  exact ⟨Option.some.inj z, List.all_eq_true.mp h.pt _ (List.getElem_mem hj2)⟩
def handM (as : List Addr) (ks : List Nat) : List Addr := ks.map fun k => as.getD k 0
theorem Abs.intoR (A : Abs K c as G σ H s o) (h : Hand o ks os) (hrs : rs = rss.map (slotR ks)) (hp : rss.all (ptS ks.length) = true) (hv : VsOk K as G vs rs) : Abs K (cx1 H G (handM as ks)) (handM as ks) G (vs.map some) H rss os := by
  have hlen : (handM as ks).length = ks.length := by simp [handM]
  have inM : ∀ {j : Nat} {a : Addr}, (handM as ks)[j]? = some a → ∃ k, ks[j]? = some k ∧ as[k]? = some a := fun {j a} e => by
    unfold handM at e
    rw [List.getElem?_map] at e
    cases q : ks[j]? with
    | none => rw [q] at e; cases e
    | some k =>
      rw [q] at e
      refine ⟨k, rfl, ?_⟩
      have hk : k < as.length := by rw [A.asz]; exact h.lt k (List.mem_of_getElem? q)
      have e : as.getD k 0 = a := Option.some.inj e
      rw [← e, List.getD_eq_getElem?_getD, List.getElem?_eq_getElem hk]; rfl
  have toM : ∀ v r, ptS ks.length r = true → VOk K as G v (slotR ks r) → VOk K (handM as ks) G v r := fun v r hr hv => by
    cases r with
    | u => trivial
    | d x => exact hv
    | p j =>
      obtain ⟨a, e1, e2⟩ := hv
      have hj : j < ks.length := of_decide_eq_true hr
      refine ⟨a, ?_, e2⟩
      have q : ks[j]? = some (ks.getD j 0) := by rw [List.getD_eq_getElem?_getD, List.getElem?_eq_getElem hj]; rfl
      unfold handM
      rw [List.getElem?_map, q]
      show some (as.getD (ks.getD j 0) 0) = some a
      rw [List.getD_eq_getElem?_getD, e1]; rfl
  refine ⟨A.sub, Le.refl _, fun b u e _ => e, fun b u e => .inl e, Pre.refl _, ?_, by rw [hlen, h.len], fun a m => ?_, fun j a e l => ?_, fun i => ?_, fun j a e => ?_, ?_⟩
  · rw [List.nodup_iff_pairwise_ne, List.pairwise_iff_getElem]
    intro i j hi hj hlt e
    obtain ⟨k1, a1, b1⟩ := inM (List.getElem?_eq_getElem hi)
    obtain ⟨k2, a2, b2⟩ := inM (List.getElem?_eq_getElem hj)
    rw [e] at b1
    have ek := nd_get A.nd b1 b2
    subst ek
    have := nd_ix h.nd a1 a2
    omega
  · obtain ⟨j, hj, e⟩ := List.mem_iff_getElem.mp m
    obtain ⟨k, _, b1⟩ := inM (show (handM as ks)[j]? = some a by rw [List.getElem?_eq_getElem hj, e])
    exact ⟨(A.asf a (List.mem_of_getElem? b1)).1, .inl m⟩
  · obtain ⟨k, a1, b1⟩ := inM e
    have z := (h.at a1).1
    refine A.lv k a b1 ?_
    rw [z]
    revert l
    cases cget os j <;> exact id
  · subst hrs
    have gen : ∀ {rss : List Slot} {vs : List V}, VsOk K as G vs (rss.map (slotR ks)) → rss.all (ptS ks.length) = true → ∀ i, FOk K (handM as ks) G ((vs.map some)[i]?) (sget rss i) := by
      intro rss
      induction rss with
      | nil => intro vs hv _ i; trivial
      | cons r rss ih =>
        intro vs hv hp i
        rw [List.all_cons, Bool.and_eq_true] at hp
        cases hv with
        | cons a b =>
          cases i with
          | zero => exact FOk.of (toM _ _ hp.1 a)
          | succ i => exact ih b hp.2 i
    exact gen hv hp i
  · obtain ⟨k, a1, b1⟩ := inM e
    have z := h.at a1
    have st := A.st k a b1
    rw [z.1] at st
    exact st.unren toM z.2
  · rw [List.length_map]
    subst hrs
    have gl : ∀ {rss : List Slot} {vs : List V}, VsOk K as G vs (rss.map (slotR ks)) → vs.length = rss.length := by
      intro rss
      induction rss with
      | nil => intro vs h; cases h; rfl
      | cons r rss ih => intro vs h; cases h with | cons a b => simp [ih b]
    exact gl hv
theorem Abs.backR (A : Abs K c as G σ H s o) (h : Hand o ks os) (B : Abs K (cx1 H G (handM as ks)) asF GF σF H' sF oF) : ∃ as', Pre as as' ∧ Abs K c as' GF σ H' s (cputR o ks oF) ∧ ∀ w r, VOk K asF GF w r → VOk K as' GF w (rmap o.length ks r) := by
  have hlen : (handM as ks).length = ks.length := by simp [handM]
  obtain ⟨more, eM⟩ := B.pre
  have eM' : asF = handM as ks ++ more := eM
  have lenM : ks.length ≤ oF.length := by rw [← B.asz, eM']; simp [hlen]
  have atM : ∀ {j k : Nat}, ks[j]? = some k → ∃ a, (handM as ks)[j]? = some a ∧ as[k]? = some a := fun {j k} e => by
    have hk : k < as.length := by rw [A.asz]; exact h.lt k (List.mem_of_getElem? e)
    refine ⟨as[k], ?_, List.getElem?_eq_getElem hk⟩
    unfold handM
    rw [List.getElem?_map, e]
    show some (as.getD k 0) = some as[k]
    rw [List.getD_eq_getElem?_getD, List.getElem?_eq_getElem hk]; rfl
  have inM : ∀ {a : Addr}, a ∈ handM as ks → ∃ (j k : Nat), (handM as ks)[j]? = some a ∧ ks[j]? = some k ∧ as[k]? = some a := fun {a} m => by
    obtain ⟨j, hj, e⟩ := List.mem_iff_getElem.mp m
    have hk : j < ks.length := by omega
    obtain ⟨b, e1, e2⟩ := atM (List.getElem?_eq_getElem hk)
    have eb : b = a := Option.some.inj (e1.symm.trans (by rw [List.getElem?_eq_getElem hj, e]))
    subst eb
    exact ⟨j, _, e1, List.getElem?_eq_getElem hk, e2⟩
  have moreH : ∀ {a : Addr}, a ∈ more → H a = none := fun {a} m => by
    rcases (B.asf a (by rw [eM']; exact List.mem_append_right _ m)).2 with h1 | h1
    · have := B.nd
      rw [eM'] at this
      exact absurd rfl ((List.nodup_append.mp this).2.2 a h1 a m)
    · exact h1
  have keep : ∀ {b : Addr} {u : HO}, H b = some u → b ∉ handM as ks → H' b = some u := fun {b u} e m => B.old b u e m
  have mAt : ∀ {i : Nat} {a : Addr}, more[i]? = some a → asF[ks.length + i]? = some a := fun {i a} e => by rw [eM', List.getElem?_append_right (by omega), hlen]; simpa using e
  have GFn : ∀ {a : Addr}, H a ≠ none → G a = none → GF a = none := fun {a} h1 h2 => by
    cases q : GF a with
    | none => rfl
    | some u =>
      rcases B.new a u q with z | z
      · rw [show (cx1 H G (handM as ks)).G a = G a from rfl, h2] at z; cases z
      · exact absurd z h1
  have jOf : ∀ {k j : Nat} {a : Addr}, ks.findIdx? (· == k) = some j → as[k]? = some a → asF[j]? = some a := fun {k j a} e1 e2 => by
    obtain ⟨b, e3, e4⟩ := atM (findIdx_some e1)
    have eb : b = a := Option.some.inj (e4.symm.trans e2)
    subst eb
    rw [eM', List.getElem?_append_left (List.getElem?_eq_some_iff.mp e3).1]; exact e3
  have hres : ∀ w r, VOk K asF GF w r → VOk K (as ++ more) GF w (rmap o.length ks r) := fun w r hw => by
    cases r with
    | u => trivial
    | d x => exact hw
    | p j =>
      obtain ⟨a, e1, e2⟩ := hw
      show VOk K (as ++ more) GF w (dite (j < ks.length) (fun h => Slot.p ks[j]) (fun _ => Slot.p (o.length + (j - ks.length))))
      by_cases hj : j < ks.length
      · rw [dif_pos hj]
        obtain ⟨b, e3, e4⟩ := atM (List.getElem?_eq_getElem hj)
        have eb : a = b := by
          rw [eM', List.getElem?_append_left (by omega)] at e1
          exact Option.some.inj (e1.symm.trans e3)
        subst eb
        exact ⟨a, Pre.get ⟨more, rfl⟩ e4, e2⟩
      · rw [dif_neg hj]
        refine ⟨a, ?_, e2⟩
        rw [eM', List.getElem?_append_right (by omega)] at e1
        rw [List.getElem?_append_right (by rw [A.asz]; omega)]
        rw [show o.length + (j - ks.length) - as.length = j - (handM as ks).length by rw [A.asz, hlen]; omega]
        exact e1
  have gn : Cont.ren (rmap o.length ks) .gone = .gone := rfl
  refine ⟨as ++ more, ⟨more, rfl⟩, ⟨B.sub, A.g0.trans B.g0, fun b u e m => ?_, fun b u e => ?_, A.pre.trans ⟨more, rfl⟩, ?_, ?_, fun a m => ?_, fun k a e l => ?_, fun i => (A.fr i).mono ⟨more, rfl⟩ B.g0, fun k a e => ?_, A.len⟩, hres⟩
  · refine keep (A.old b u e m) fun z => ?_
    obtain ⟨j, k, _, _, ek⟩ := inM z
    rcases (A.asf b (List.mem_of_getElem? ek)).2 with y | y
    · exact m y
    · rw [y] at e; cases e
  · rcases B.new b u e with z | z
    · exact A.new b u z
    · exact .inr (A.hfree' z)
  · refine List.nodup_append.mpr ⟨A.nd, ?_, fun a ha b hb z => ?_⟩
    · have := B.nd
      rw [eM'] at this
      exact (List.nodup_append.mp this).2.1
    · subst z
      exact (A.asf a ha).1 (moreH hb)
  · unfold cputR
    rw [cput_len, List.length_map, List.length_append, A.asz, ← B.asz, eM', List.length_append, hlen]; omega
  · rcases List.mem_append.mp m with m | m
    · refine ⟨?_, (A.asf a m).2⟩
      by_cases z : a ∈ handM as ks
      · exact (B.asf a (by rw [eM']; exact List.mem_append_left _ z)).1
      · cases q : H a with
        | none => exact absurd q (A.asf a m).1
        | some u => rw [keep q z]; simp
    · exact ⟨(B.asf a (by rw [eM']; exact List.mem_append_right _ m)).1, .inr (A.hfree' (moreH m))⟩
  · unfold cputR at l
    by_cases hk : k < as.length
    · have e' : as[k]? = some a := by rw [List.getElem?_append_left hk] at e; exact e
      rw [cput_lo (by rw [← A.asz]; exact hk)] at l
      cases q : ks.findIdx? (· == k) with
      | some j => rw [q] at l; dsimp only at l; rw [cget_map gn] at l; exact B.lv j a (jOf q e') (Cont.ren_live l)
      | none => rw [q] at l; exact GFn (A.asf a (List.mem_of_getElem? e')).1 (A.lv k a e' l)
    · rw [List.getElem?_append_right (by omega)] at e
      have e2 := mAt e
      obtain ⟨i, rfl⟩ : ∃ i, k = o.length + i := ⟨k - o.length, by have := A.asz; omega⟩
      rw [cput_hi, cget_map gn] at l
      rw [show o.length + i - as.length = i by have := A.asz; omega] at e2
      exact B.lv _ a e2 (Cont.ren_live l)
  · unfold cputR
    by_cases hk : k < as.length
    · have e' : as[k]? = some a := by rw [List.getElem?_append_left hk] at e; exact e
      rw [cput_lo (by rw [← A.asz]; exact hk)]
      cases q : ks.findIdx? (· == k) with
      | some j => dsimp only; rw [cget_map gn]; exact (B.st j a (jOf q e')).ren hres
      | none =>
        have nM : a ∉ handM as ks := fun z => by
          obtain ⟨j, k', _, e2, e3⟩ := inM z
          have := nd_get A.nd e' e3
          subst this
          exact findIdx_none q (List.mem_of_getElem? e2)
        cases q2 : H a with
        | none => exact absurd q2 (A.asf a (List.mem_of_getElem? e')).1
        | some u =>
          rw [keep q2 nM, ← q2]
          exact (A.st k a e').mono ⟨more, rfl⟩ B.g0
    · rw [List.getElem?_append_right (by omega)] at e
      have e2 := mAt e
      obtain ⟨i, rfl⟩ : ∃ i, k = o.length + i := ⟨k - o.length, by have := A.asz; omega⟩
      rw [cput_hi, cget_map gn]
      rw [show o.length + i - as.length = i by have := A.asz; omega] at e2
      exact (B.st _ a e2).ren hres
/-- the callee runs -/
theorem call_core (A : Abs K c as G σ H s o) (hv : VsOk K as G vs rs) (h : Hand o ks os) (hrs : rs = rss.map (slotR ks)) (hp : rss.all (ptS ks.length) = true) (hF : ∀ (R : RT) (X : XT), R r os' → F rss os R X) {Q : VK}
    (q : ∀ v as' G' H', Pre as as' → Le G G' → Abs K c as' G' σ H' s (cputR o ks os') → VOk K as' G' v (rmap o.length ks r) → Q v H') : spOf K F vs H Q E := by
  refine ⟨cx1 H G (handM as ks), rss, os, rfl, A.intoR h hrs hp hv, hF _ _ ?_⟩
  intro w asF GF σF HF sF BF hw
  obtain ⟨as', pp, A2, hr⟩ := A.backR h BF
  exact q w as' GF HF pp BF.g0 A2 (hr w r hw)
theorem er_callR (h : EA K c ta s o s1 o1 rs) (hd : Hand o1 ks os) (hrs : rs = rss.map (slotR ks)) (hp : rss.all (ptS ks.length) = true) (hF : ∀ (R : RT) (X : XT), R r os' → F rss os R X) : ER K c (tCall (spOf K F) [] E ta) s o s1 (cputR o1 ks os') (rmap o1.length ks r) := fun as G σ H A Q q =>
  h as G σ H A _ fun vs as1 G1 H1 p1 l1 A1 h1 => by
    rw [List.append_nil]
    exact call_core A1 h1 hd hrs hp hF fun v as' G' H' p l A2 hw => q v as' G' H' (p1.trans p) (l1.trans l) A2 hw
theorem flds_look : ∀ {fvs : List (Str × V)} {fs : List (Str × Slot)} {f : Str}, FldsOk K as G fvs fs → (fs.lookup f = none → fvs.lookup f = none) ∧ ∀ r, fs.lookup f = some r → ∃ v, fvs.lookup f = some v ∧ VOk K as G v r
  | [], [], _, _ => ⟨fun _ => rfl, fun r e => by cases e⟩
  | (g, v) :: fvs, (g', s) :: fs, f, ⟨e, h1, h2⟩ => by
    subst e
    have ih := flds_look (f := f) h2
    by_cases q : f = g
    · subst q
      simp only [List.lookup, beq_self_eq_true]
      exact ⟨fun z => (by cases z), fun r e => ⟨v, rfl, (by cases e; exact h1)⟩⟩
    · have qb : (f == g) = false := by simpa using q
      simp only [List.lookup, qb]
      exact ih
/-- o.m(..) -/
theorem er_methR {k0 : Nat} {C m : Str} {fs : List (Str × Slot)} (h0 : ER K c te s o s1 o1 (.p k0)) (hk : cget o1 k0 = .obj C fs) (hm : fs.lookup m = none) (h : EA K c ta s1 o1 s2 o2 rs) (hd : Hand o2 ks os) (hrs : .p k0 :: rs = rss.map (slotR ks)) (hp : rss.all (ptS ks.length) = true)
    (hF : ∀ (R : RT) (X : XT), R r os' → F rss os R X) : ER K c (tMeth (He.ga K C) m (spOf K F) [] E te ta) s o s2 (cputR o2 ks os') (rmap o2.length ks r) := fun as G σ H A Q q =>
  h0 as G σ H A _ fun x as1 G1 H1 p1 l1 A1 hx => by
    obtain ⟨a, ha, rfl⟩ := hx
    have st := A1.st k0 a ha
    rw [hk] at st
    obtain ⟨dx, fvs, e1, e2⟩ := st
    refine ⟨a, dx, fvs, rfl, e1, (flds_look e2).1 hm, h as1 G1 σ H1 A1 _ fun vs as2 G2 H2 p2 l2 A2 h2 => ?_⟩
    rw [List.append_nil]
    exact call_core A2 (.cons (show VOk K as2 G2 (.ref a) (.p k0) from ⟨a, p2.get ha, rfl⟩) h2) hd hrs hp hF fun v as' G' H' p l A3 hw => q v as' G' H' ((p1.trans p2).trans p) ((l1.trans l2).trans l) A3 hw
/-- C(..): __init__ at a new object -/
theorem er_makeR {C : Str} (h : EA K c ta s o s1 o1 rs) (hd : Hand (o1 ++ [.obj C []]) ks os) (hrs : .p o1.length :: rs = rss.map (slotR ks)) (hp : rss.all (ptS ks.length) = true)
    (hF : ∀ (R : RT) (X : XT), R (.d ()) os' → F rss os R X) : ER K c (tMake (He.ga K C) (spOf K F) [] E ta) s o s1 (cputR (o1 ++ [.obj C []]) ks os') (.p o1.length) := fun as G σ H A Q q =>
  h as G σ H A _ fun vs as1 G1 H1 p1 l1 A1 h1 x dx hx hdx ne => by
    rw [List.append_nil]
    have B1 := A1.newD (o := .own x) hdx
    have hx1 : upd H1 dx (.own x) x = none := by rw [upd_ne (Ne.symm ne)]; exact hx
    have l2 : Le G1 (upd G1 dx (.own x)) := Le.upd (A1.sub.free hdx)
    have B2 := B1.newP (o := .ins (He.ga K C) dx []) (ct := .obj C []) hx1 ⟨dx, [], rfl, trivial⟩
    have px : (as1 ++ [x])[o1.length]? = some x := by rw [← A1.asz, List.getElem?_concat_length]
    have mono : ∀ {vs : List V} {rs : List Slot}, VsOk K as1 G1 vs rs → VsOk K (as1 ++ [x]) (upd G1 dx (.own x)) vs rs := by
      intro vs rs h
      induction h with
      | nil => exact .nil
      | cons h t ih => exact .cons (h.mono ⟨[x], rfl⟩ l2) ih
    refine call_core B2 (.cons (show VOk K (as1 ++ [x]) _ (.ref x) (.p o1.length) from ⟨x, px, rfl⟩) (mono h1)) hd hrs hp hF fun v as' G' H' p l A3 hw => ⟨?_, ?_⟩
    · exact hw
    · exact q _ as' G' H' ((p1.trans ⟨[x], rfl⟩).trans p) ((l1.trans l2).trans l) A3 ⟨x, p.get px, rfl⟩
end
end VL

set_option maxHeartbeats 4000000
/-! THE VALUE LAYER 11: fields, comprehensions. -/
namespace VL
open PySem PySem.Spec PyProof.Rows L2
section
variable {K : Fg} {c : Cx0} {as : List Addr} {G H : Hp} {σ : L2.St} {s s1 s2 s3 s' : List Slot} {o o1 o2 o3 os : List Cont} {r r1 r2 : Slot} {ta tb te tv : TE} {D : Ends} {t u : TS} {i k : Nat} {C f : Str} {fs : List (Str × Slot)}
/-! ### fields -/
def putS (f : Str) (r : Slot) : List (Str × Slot) → List (Str × Slot)
  | [] => [(f, r)]
  | (g, x) :: l => if g = f then (g, r) :: l else (g, x) :: putS f r l
theorem flds_put {v : V} (hv : VOk K as G v r) : ∀ {fvs : List (Str × V)} {fs : List (Str × Slot)}, FldsOk K as G fvs fs → FldsOk K as G (putF f v fvs) (putS f r fs)
  | [], [], _ => ⟨rfl, hv, trivial⟩
  | (g, w) :: fvs, (g', s) :: fs, ⟨e, h1, h2⟩ => by
    subst e
    show FldsOk K as G (if g = f then (g, v) :: fvs else (g, w) :: putF f v fvs) (if g = f then (g, r) :: fs else (g, s) :: putS f r fs)
    by_cases q : g = f
    · rw [if_pos q, if_pos q]; exact ⟨rfl, hv, h2⟩
    · rw [if_neg q, if_neg q]; exact ⟨rfl, h1, flds_put hv h2⟩
theorem flds_len : ∀ {fvs : List (Str × V)} {fs : List (Str × Slot)}, FldsOk K as G fvs fs → fvs.length = fs.length
  | [], [], _ => rfl
  | (_, _) :: _, (_, _) :: _, ⟨_, _, h⟩ => congrArg Nat.succ (flds_len h)
theorem er_fld (h : ER K c te s o s1 o1 (.p k)) (hk : cget o1 k = .obj C fs) (hf : fs.lookup f = some r) (cl : Cls K (He.ga K C)) (na : NoAttr K (He.ga K C) f) : ER K c (tFld K te f) s o s1 o1 r := fun as G σ H A Q q =>
  h as G σ H A _ fun x as1 G1 H1 p1 l1 A1 hx => by
    obtain ⟨a, ha, rfl⟩ := hx
    have st := A1.st k a ha
    rw [hk] at st
    obtain ⟨dx, fvs, e1, e2⟩ := st
    obtain ⟨v, e3, hv⟩ := (flds_look e2).2 r hf
    exact ⟨a, _, dx, fvs, v, rfl, e1, cl, na, e3, q v as1 G1 H1 p1 l1 A1 hv⟩
theorem s_fld (hv : ER K c tv s o s1 o1 r) (h : ER K c te s1 o1 s2 o2 (.p k)) (hk : cget o2 k = .obj C fs) (cl : Cls K (He.ga K C)) (na : NoAttr K (He.ga K C) f) (hl : fs.length < 1000) (q : Go K c D.nx s2 (o2.set k (.obj C (putS f r fs)))) : Run K c (sFld K te tv f) D s o := fun as G σ H A =>
  hv as G σ H A _ fun y as1 G1 H1 p1 l1 A1 hy => h as1 G1 σ H1 A1 _ fun x as2 G2 H2 p2 l2 A2 hx => by
    obtain ⟨a, ha, rfl⟩ := hx
    have st := A2.st k a ha
    rw [hk] at st
    obtain ⟨dx, fvs, e1, e2⟩ := st
    exact ⟨a, _, dx, fvs, rfl, e1, cl, na, by rw [flds_len e2]; exact hl, q as2 G2 σ _ (A2.put ha (by rw [hk]; trivial) ⟨dx, _, rfl, flds_put (hy.mono p2 l2) e2⟩)⟩
theorem q_fld (hv : ER K c tv s o s1 o1 r) (h : ER K c te s1 o1 s2 o2 (.p k)) (hk : cget o2 k = .obj C fs) (cl : Cls K (He.ga K C)) (na : NoAttr K (He.ga K C) f) (hl : fs.length < 1000) (q : Run K c u D s2 (o2.set k (.obj C (putS f r fs)))) : Run K c (tSeq (sFld K te tv f) u) D s o := s_fld (D := { D with nx := u D }) hv h hk cl na hl q
/-- o.f += e -/
theorem s_fldA {x j : Int} (h : ER K c te s o s1 o1 (.p k)) (hk : cget o1 k = .obj C fs) (hf : fs.lookup f = some (.d x)) (cl : Cls K (He.ga K C)) (na : NoAttr K (He.ga K C) f) (hv : ER K c tv s1 o1 s2 o2 (.d j)) (hk2 : cget o2 k = .obj C fs) (hl : fs.length < 1000) (q : Go K c D.nx s2 (o2.set k (.obj C (putS f (.d (x + j)) fs)))) :
    Run K c (sFldAug K te tv (ipI fun i j => i + j) f) D s o := fun as G σ H A =>
  h as G σ H A _ fun y as1 G1 H1 p1 l1 A1 hy => by
    obtain ⟨a, ha, rfl⟩ := hy
    have st := A1.st k a ha
    rw [hk] at st
    obtain ⟨dx, fvs, e1, e2⟩ := st
    obtain ⟨v, e3, hv1⟩ := (flds_look e2).2 _ hf
    refine ⟨a, _, dx, fvs, v, rfl, e1, cl, na, e3, hv as1 G1 σ H1 A1 _ fun y as2 G2 H2 p2 l2 A2 hy => ?_⟩
    have ha2 := p2.get ha
    have st2 := A2.st k a ha2
    rw [hk2] at st2
    obtain ⟨dx2, fvs2, e4, e5⟩ := st2
    refine ⟨x, j, hv1, hy, dx2, fvs2, e4, by rw [flds_len e5]; exact hl, ?_⟩
    exact q as2 G2 σ _ (A2.put ha2 (by rw [hk2]; trivial) ⟨dx2, _, rfl, flds_put (show VOk K as2 G2 (.int (x + j)) (.d (x + j)) from rfl) e5⟩)
theorem q_fldA {x j : Int} (h : ER K c te s o s1 o1 (.p k)) (hk : cget o1 k = .obj C fs) (hf : fs.lookup f = some (.d x)) (cl : Cls K (He.ga K C)) (na : NoAttr K (He.ga K C) f) (hv : ER K c tv s1 o1 s2 o2 (.d j)) (hk2 : cget o2 k = .obj C fs) (hl : fs.length < 1000) (q : Run K c u D s2 (o2.set k (.obj C (putS f (.d (x + j)) fs)))) :
    Run K c (tSeq (sFldAug K te tv (ipI fun i j => i + j) f) u) D s o := s_fldA (D := { D with nx := u D }) h hk hf cl na hv hk2 hl q
/-! ### d[k] = v, whatever stands for the dict -/
theorem s_dputE {κ α : Type} [DecidableEq κ] [KeyT κ] [Rp κ] [KeyR κ] [Rp α] {xs : List (κ × α)} {y : κ} {x : α} (hv : ER K c te s o s1 o1 (.d x)) (hd : ER K c ta s1 o1 s2 o2 (.p k)) (hy : ER K c tb s2 o2 s3 o3 (.d y)) (hk : cget o3 k = .dct xs) (hz : xs.length < sizeLine)
    (q : Go K c D.nx s3 (o3.set k (.dct (dput xs y x)))) : Run K c (sPut ta tb te) D s o := fun as G σ H A => .inl (
  hv as G σ H A _ fun v as1 G1 H1 p1 l1 A1 hv => hd as1 G1 σ H1 A1 _ fun w as2 G2 H2 p2 l2 A2 hw => hy as2 G2 σ H2 A2 _ fun z as3 G3 H3 p3 l3 A3 hz2 => by
    obtain ⟨a, ha, rfl⟩ := hw
    have ha3 := p3.get ha
    obtain ⟨vs, e, hr⟩ := at_dct A3 ha3 hk
    refine ⟨a, _, rfl, .inl ⟨vs, KeyT.key y, e, KeyR.to K G3 z y hz2, by rw [pr_len hr]; exact hz, rfl⟩, ?_⟩
    exact q as3 G3 σ _ (A3.put ha3 (by rw [hk]; trivial) ⟨_, rfl, kv_put hr (Rp.mono (l2.trans l3) (show Rp.rep K G1 v x from hv))⟩))
theorem q_dputE {κ α : Type} [DecidableEq κ] [KeyT κ] [Rp κ] [KeyR κ] [Rp α] {xs : List (κ × α)} {y : κ} {x : α} (hv : ER K c te s o s1 o1 (.d x)) (hd : ER K c ta s1 o1 s2 o2 (.p k)) (hy : ER K c tb s2 o2 s3 o3 (.d y)) (hk : cget o3 k = .dct xs) (hz : xs.length < sizeLine)
    (q : Run K c u D s3 (o3.set k (.dct (dput xs y x)))) : Run K c (tSeq (sPut ta tb te) u) D s o := s_dputE (D := { D with nx := u D }) hv hd hy hk hz q
/-! ### a deeper entry that keeps the whole heap -/
theorem Abs.deepH (A : Abs K c as G σ H s o) : Abs K ⟨H, G, as⟩ as G σ H s o ∧ CLe K c ⟨H, G, as⟩ := by
  refine ⟨⟨A.sub, Le.refl _, fun b u e m => e, fun b u e => .inl e, Pre.refl _, A.nd, A.asz, fun a m => ⟨(A.asf a m).1, .inl m⟩, A.lv, A.fr, A.st, A.len⟩, fun as' G' σ' H' s' o' B => ?_⟩
  refine ⟨B.sub, A.g0.trans B.g0, fun b u e m => ?_, fun b u e => ?_, A.pre.trans B.pre, B.nd, B.asz, fun a m => ⟨(B.asf a m).1, ?_⟩, B.lv, B.fr, B.st, B.len⟩
  · refine B.old b u (A.old b u e m) fun z => ?_
    rcases (A.asf b z).2 with y | y
    · exact m y
    · rw [y] at e; cases e
  · rcases B.new b u e with z | z
    · exact A.new b u z
    · exact .inr (A.hfree' z)
  · rcases (B.asf a m).2 with y | y
    · exact (A.asf a y).2
    · exact .inr (A.hfree' y)
/-- an address that nobody knows yet -/
theorem Abs.extra (A : Abs K c as G σ H s o) {p : Addr} {ob : HO} (hp : H p = none ∨ (p ∉ as ∧ G p = none ∧ c.H p = none)) : Abs K c as G σ (upd H p ob) s o ∧ p ∉ as ∧ G p = none ∧ c.H p = none := by
  have h1 : p ∉ as := hp.elim (fun h => A.notin h) (·.1)
  have h2 : G p = none := hp.elim (fun h => A.sub.free h) (·.2.1)
  have h3 : c.H p = none := hp.elim (fun h => A.hfree' h) (·.2.2)
  refine ⟨⟨A.sub.upd2 h2, A.g0, fun b u e m => ?_, A.new, A.pre, A.nd, A.asz, fun a m => ?_, A.lv, A.fr, fun j a e => ?_, A.len⟩, h1, h2, h3⟩
  · rw [upd_ne (ne_of_none e h3)]; exact A.old b u e m
  · have np : a ≠ p := fun z => h1 (z ▸ m)
    rw [upd_ne np]; exact A.asf a m
  · have np : a ≠ p := fun z => h1 (z ▸ List.mem_of_getElem? e)
    rw [upd_ne np]; exact A.st j a e
theorem Abs.adopt (A : Abs K c as G σ H s o) {p : Addr} {ob : HO} {ct : Cont} (h1 : p ∉ as) (h2 : G p = none) (h3 : c.H p = none) (e : H p = some ob) (hc : COk K as G (some ob) ct) : Abs K c (as ++ [p]) G σ H s (o ++ [ct]) := by
  have hp : Pre as (as ++ [p]) := ⟨[p], rfl⟩
  have gt : ∀ {k : Nat} {a : Addr}, (as ++ [p])[k]? = some a → (k = as.length ∧ a = p) ∨ (k ≠ as.length ∧ as[k]? = some a) := fun {k a} e => by
    by_cases q : k < as.length
    · rw [List.getElem?_append_left q] at e; exact .inr ⟨by omega, e⟩
    · have hk := (List.getElem?_eq_some_iff.mp e).1
      rw [List.length_append, List.length_singleton] at hk
      have ek : k = as.length := by omega
      subst ek
      rw [List.getElem?_concat_length] at e
      exact .inl ⟨rfl, (Option.some.inj e).symm⟩
  refine ⟨A.sub, A.g0, A.old, A.new, A.pre.trans hp, ?_, by simp [A.asz], fun a m => ?_, fun k a e l => ?_, fun i => (A.fr i).mono hp (Le.refl _), fun k a e2 => ?_, A.len⟩
  · exact List.nodup_append.mpr ⟨A.nd, by simp, fun a ha b hb => by
      have eb : b = p := by simpa using hb
      subst eb
      exact fun z => h1 (z ▸ ha)⟩
  · rcases List.mem_append.mp m with m | m
    · exact A.asf a m
    · have ea : a = p := by simpa using m
      subst ea
      exact ⟨by rw [e]; simp, .inr h3⟩
  · rcases gt e with ⟨ek, ea⟩ | ⟨ek, ea⟩
    · rw [ea]; exact h2
    · rw [cget_app, if_neg (by rw [← A.asz]; exact ek)] at l
      exact A.lv k a ea l
  · rcases gt e2 with ⟨ek, ea⟩ | ⟨ek, ea⟩
    · rw [ea, e, cget_app, if_pos (by rw [← A.asz]; exact ek)]
      exact hc.mono hp (Le.refl _)
    · rw [cget_app, if_neg (by rw [← A.asz]; exact ek)]
      exact (A.st k a ea).mono hp (Le.refl _)
/-! ### a block's own slots -/
def swipe (s : List Slot) : List Nat → List Slot
  | [] => s
  | v :: vs => (swipe s vs).set v .u
theorem Abs.wipe (A : Abs K c as G σ H s o) : ∀ vs : List Nat, Abs K c as G (L2.wipe σ vs) H (swipe s vs) o
  | [] => A
  | v :: vs => (Abs.wipe A vs).unset
theorem wipe_get (σ : L2.St) (j : Nat) : ∀ vs : List Nat, (L2.wipe σ vs)[j]? = if j ∈ vs then (σ[j]?).map (fun _ => none) else σ[j]?
  | [] => by simp [L2.wipe]
  | v :: vs => by
    show ((L2.wipe σ vs).set v none)[j]? = _
    rw [List.getElem?_set, wipe_length]
    by_cases q : v = j
    · subst q
      rw [if_pos rfl]
      by_cases h : v < σ.length
      · rw [if_pos h, if_pos (List.mem_cons_self ..), List.getElem?_eq_getElem h]; rfl
      · rw [if_neg h, List.getElem?_eq_none (by omega)]; simp
    · rw [if_neg q, wipe_get σ j vs]
      have : (j ∈ v :: vs) ↔ j ∈ vs := ⟨fun h => (List.mem_cons.mp h).resolve_left (fun z => q z.symm), List.mem_cons_of_mem _⟩
      simp only [this]
theorem wipe_idem (σ : L2.St) (vs : List Nat) : L2.wipe (L2.wipe σ vs) vs = L2.wipe σ vs := by
  apply List.ext_getElem?
  intro j
  rw [wipe_get, wipe_get]
  by_cases q : j ∈ vs
  · rw [if_pos q, if_pos q]; cases σ[j]? <;> rfl
  · rw [if_neg q, if_neg q]
theorem wipe_set {σ : L2.St} {vs : List Nat} {i : Nat} {x : Option V} (h : i ∈ vs) : L2.wipe (σ.set i x) vs = L2.wipe σ vs := by
  apply List.ext_getElem?
  intro j
  rw [wipe_get, wipe_get]
  by_cases q : j ∈ vs
  · rw [if_pos q, if_pos q, List.getElem?_set]
    by_cases z : i = j
    · subst z
      rw [if_pos rfl]
      by_cases l : i < σ.length
      · rw [if_pos l, List.getElem?_eq_getElem l]; rfl
      · rw [if_neg l, List.getElem?_eq_none (by omega)]
    · rw [if_neg z]
  · rw [if_neg q, if_neg q, List.getElem?_set_ne (fun z : i = j => q (z ▸ h))]
def EGW (K : Fg) (tg : TG) (vs : List Nat) (r : Slot) (s s' : List Slot) : Prop := ∀ c as G σ H o v, Abs K c as G σ H s o → VOk K as G v r → ∀ P : L2.St → Hp → Prop, (∀ σ', L2.wipe σ' vs = L2.wipe σ vs → Abs K c as G σ' H s' o → P σ' H) → tg v σ H P
def EGWs (K : Fg) (tg : TGs) (vs : List Nat) (rs : List Slot) (s s' : List Slot) : Prop := ∀ c as G σ H o ws, Abs K c as G σ H s o → VsOk K as G ws rs → ∀ P : L2.St → Hp → Prop, (∀ σ', L2.wipe σ' vs = L2.wipe σ vs → Abs K c as G σ' H s' o → P σ' H) → tg ws σ H P
theorem egw_name {vs : List Nat} (hi : i < s.length) (hm : i ∈ vs) : EGW K (gName i) vs r s (s.set i r) := fun c as G σ H o v A hv P k => k _ (wipe_set hm) (A.set hi hv)
theorem egws_nil {vs : List Nat} : EGWs K gNil vs [] s s := fun c as G σ H o ws A hv P k => by cases hv; exact ⟨rfl, k σ rfl A⟩
theorem egws_cons {vs : List Nat} {t : TG} {w : TGs} {rs : List Slot} (h : EGW K t vs r s s1) (h2 : EGWs K w vs rs s1 s2) : EGWs K (gCons t w) vs (r :: rs) s s2 := fun c as G σ H o ws A hv P k => by
  cases hv with
  | cons a b => exact ⟨_, _, rfl, h c as G σ H o _ A a _ fun σ1 e1 A1 => h2 c as G σ1 H o _ A1 b P fun σ' e A' => k σ' (e.trans e1) A'⟩
theorem egw_t2 {vs : List Nat} {α β : Type} [Rp α] [Rp β] {x : T2 α β} {w : TGs} (h : EGWs K w vs [.d x.a, .d x.b] s s1) : EGW K (gTup K 2 w) vs (.d x) s s1 := fun c as G σ H o v A hv P k => by
  obtain ⟨t, v1, v2, rfl, hs, r1, r2⟩ := (show Rp.rep K G v x from hv)
  exact ⟨t, [v1, v2], rfl, A.sub.sqT hs, rfl, h c as G σ H o _ A (.cons r1 (.cons r2 .nil)) P k⟩
theorem egw_t3 {vs : List Nat} {α β γ : Type} [Rp α] [Rp β] [Rp γ] {x : T3 α β γ} {w : TGs} (h : EGWs K w vs [.d x.a, .d x.b, .d x.c] s s1) : EGW K (gTup K 3 w) vs (.d x) s s1 := fun c as G σ H o v A hv P k => by
  obtain ⟨t, v1, v2, v3, rfl, hs, r1, r2, r3⟩ := (show Rp.rep K G v x from hv)
  exact ⟨t, [v1, v2, v3], rfl, A.sub.sqT hs, rfl, h c as G σ H o _ A (.cons r1 (.cons r2 (.cons r3 .nil))) P k⟩
/-! ### comprehensions -/
theorem et_yes : ET K c tYes s o s o true := fun as G σ H A Q q => q as G H (Pre.refl _) (Le.refl _) A
/-- a comprehension's turns; `acc` by what was walked -/
structure LcW (K : Fg) (c0 : Cx0) (as1 : List Addr) (G1 : Hp) (σ : L2.St) (s1 : List Slot) (o1 : List Cont) (Dl : Addr) (ac : List Addr → Hp → HO → Prop) (Hh : Hp) : Prop where
  ex : ∃ as2 G2 ob, Abs K c0 as2 G2 σ Hh s1 o1 ∧ Pre as1 as2 ∧ Le G1 G2 ∧ Hh Dl = some ob ∧ Dl ∉ as2 ∧ G2 Dl = none ∧ c0.H Dl = none ∧ ac as2 G2 ob
theorem er_lc {α β : Type} [Rp α] [Rp β] {wi : TI} {tg : TG} {tt : TT} {vs : List Nat} {xs : List α} {P : List Cont → Prop} {bs : α → Bool} {fn : α → β} {f' : α → List Slot} (h : EI K c wi s o s1 o1 xs P) (hP : P o1) (hg : ∀ x, EGW K tg vs (.d x) (swipe s1 vs) (f' x))
    (ht : ∀ c' x, x ∈ xs → ET K c' tt (f' x) o1 (f' x) o1 (bs x)) (he : ∀ c' x, x ∈ xs → bs x = true → ER K c' te (f' x) o1 (f' x) o1 (.d (fn x))) (hz : xs.length ≤ sizeLine) :
    ER K c (tLc wi tg tt te vs) s o s1 (o1 ++ [.lst ((xs.filter bs).map fn)]) (.p o1.length) := fun as G σ H A Q q =>
  h as G σ H A _ fun c0 J as1 G1 H1 hc hM p1 l1 A1 Y Dl hD => by
    have E0 := A1.extra (ob := .lst []) (.inl hD)
    refine ⟨fun i m Hh => m = xs.length - i ∧ i ≤ xs.length ∧ LcW K c0 as1 G1 σ s1 o1 Dl (fun _ G2 ob => ∃ vs, ob = .lst vs ∧ Reps K G2 vs (((xs.take i).filter bs).map fn)) Hh, ⟨xs.length, by omega, Nat.zero_le _, ⟨as1, G1, .lst [], E0.1, Pre.refl _, Le.refl _, upd_same, E0.2.1, E0.2.2.1, E0.2.2.2, [], rfl, .nil⟩⟩, ?_⟩
    rintro i m Hh ⟨rfl, hi, ⟨as2, G2, ob, A2, p2, l2, eD, n1, n2, n3, ws, rfl, hr⟩⟩
    obtain ⟨A3, hc3⟩ := A2.deepH
    obtain ⟨y1, y2⟩ := Y _ hc3 i as2 G2 σ Hh s1 o1 A3 hP
    by_cases hlt : i < xs.length
    · obtain ⟨go, yl⟩ := y2 xs[i] (List.getElem?_eq_getElem hlt)
      have hx : xs[i] ∈ xs := List.getElem_mem hlt
      have tk : xs.take (i + 1) = xs.take i ++ [xs[i]] := by rw [List.take_add_one, List.getElem?_eq_getElem hlt]; rfl
      refine .inr ⟨go, fun H' => LcW K c0 as1 G1 σ s1 o1 Dl (fun _ G2 ob => ∃ vs, ob = .lst vs ∧ Reps K G2 vs (((xs.take (i + 1)).filter bs).map fn)) H', fun H' w => ⟨xs.length - (i + 1), by omega, rfl, hlt, w⟩, fun x H' y => ?_⟩
      obtain ⟨G3, l3, A4, rx⟩ := yl x H' y
      refine hg xs[i] _ as2 G3 _ H' o1 x (A4.wipe vs) rx _ fun σ5 e5 A5 => ⟨e5.trans (wipe_idem σ vs), ht _ xs[i] hx as2 G3 σ5 H' A5 _ fun as6 G6 H6 p6 l6 A6 => ?_⟩
      have back : ∀ {as7 : List Addr} {G7 H7 : Hp} {s7 : List Slot} {σ7 : L2.St}, Abs K ⟨Hh, G2, as2⟩ as7 G7 σ7 H7 s7 o1 → Pre as2 as7 → Le G2 G7 → Abs K ⟨Hh, G2, as2⟩ as7 G7 σ H7 s1 o1 := fun {as7 G7 H7 s7 σ7} B pp ll =>
        ⟨B.sub, B.g0, B.old, B.new, B.pre, B.nd, B.asz, B.asf, B.lv, fun j => (A3.fr j).mono pp ll, B.st, A3.len⟩
      have same : ∀ {as7 : List Addr} {G7 H7 : Hp} {s7 : List Slot} {σ7 : L2.St}, Abs K ⟨Hh, G2, as2⟩ as7 G7 σ7 H7 s7 o1 → H7 Dl = some (.lst ws) ∧ Dl ∉ as7 ∧ G7 Dl = none := fun {as7 G7 H7 s7 σ7} B => by
        have e1 := B.old Dl _ eD n1
        refine ⟨e1, fun m => ?_, ?_⟩
        · rcases (B.asf Dl m).2 with z | z
          · exact n1 z
          · rw [show (Cx0.mk Hh G2 as2).H Dl = Hh Dl from rfl, eD] at z; cases z
        · cases z : G7 Dl with
          | none => rfl
          | some u =>
            rcases B.new Dl u z with y | y
            · rw [show (Cx0.mk Hh G2 as2).G Dl = G2 Dl from rfl, n2] at y; cases y
            · rw [show (Cx0.mk Hh G2 as2).H Dl = Hh Dl from rfl, eD] at y; cases y
      cases hb : bs xs[i] with
      | false =>
        rw [if_neg Bool.false_ne_true]
        have A7 := hc3 _ _ _ _ _ _ (back A6 p6 (l3.trans l6))
        obtain ⟨e1, e2, e3⟩ := same A6
        refine ⟨as6, G6, .lst ws, A7, p2.trans p6, l2.trans (l3.trans l6), e1, e2, e3, n3, ws, rfl, ?_⟩
        rw [tk, List.filter_append, List.filter_cons_of_neg (by rw [hb]; decide), List.filter_nil, List.append_nil]
        exact Reps.mono (l3.trans l6) hr
      | true =>
        rw [if_pos rfl]
        refine he _ xs[i] hx hb as6 G6 σ5 H6 A6 _ fun v as7 G7 H7 p7 l7 A7 hv => ?_
        obtain ⟨e1, e2, e3⟩ := same A7
        have hlen : ws.length ≤ i := by
          rw [pr_len hr, List.length_map]
          exact Nat.le_trans (List.length_filter_le _ _) (by rw [List.length_take]; omega)
        refine ⟨ws, e1, by omega, ?_⟩
        have A8 := (hc3 _ _ _ _ _ _ (back A7 (p6.trans p7) ((l3.trans l6).trans l7))).extra (ob := .lst (ws ++ [v])) (.inr ⟨e2, e3, n3⟩)
        refine ⟨as7, G7, .lst (ws ++ [v]), A8.1, p2.trans (p6.trans p7), l2.trans ((l3.trans l6).trans l7), upd_same, e2, e3, n3, ws ++ [v], rfl, ?_⟩
        rw [tk, List.filter_append, List.filter_cons_of_pos hb, List.filter_nil, List.map_append]
        exact pr_app (Reps.mono ((l3.trans l6).trans l7) hr) (pr_one hv)
    · have e : i = xs.length := by omega
      subst e
      rw [List.take_length] at hr
      have A4 := hc _ _ _ _ _ _ (A2.adopt (ct := .lst ((xs.filter bs).map fn)) n1 n2 n3 eD ⟨ws, rfl, hr⟩)
      exact .inl ⟨y1 rfl, q _ _ G2 Hh ((p1.trans p2).trans ⟨[Dl], rfl⟩) (l1.trans l2) A4 ⟨Dl, by rw [← A2.asz, List.getElem?_concat_length], rfl⟩⟩
/-- {k: v for ..} -/
theorem er_dc {α κ β : Type} [Rp α] [DecidableEq κ] [KeyT κ] [Rp κ] [KeyR κ] [Rp β] {wi : TI} {tg : TG} {tt : TT} {tk tv : TE} {vs : List Nat} {xs : List α} {P : List Cont → Prop} {bs : α → Bool} {kf : α → κ} {fn : α → β} {f' : α → List Slot} (h : EI K c wi s o s1 o1 xs P) (hP : P o1) (hg : ∀ x, EGW K tg vs (.d x) (swipe s1 vs) (f' x))
    (ht : ∀ c' x, x ∈ xs → ET K c' tt (f' x) o1 (f' x) o1 (bs x)) (hk : ∀ c' x, x ∈ xs → bs x = true → ER K c' tk (f' x) o1 (f' x) o1 (.d (kf x))) (he : ∀ c' x, x ∈ xs → bs x = true → ER K c' tv (f' x) o1 (f' x) o1 (.d (fn x))) (hz : xs.length ≤ sizeLine) :
    ER K c (tDc wi tg tt tk tv vs) s o s1 (o1 ++ [.dct ((xs.filter bs).foldl (fun d x => dput d (kf x) (fn x)) [])]) (.p o1.length) := fun as G σ H A Q q =>
  h as G σ H A _ fun c0 J as1 G1 H1 hc hM p1 l1 A1 Y Dl hD => by
    have E0 := A1.extra (ob := .dK []) (.inl hD)
    have dlen : ∀ l : List α, (l.foldl (fun d x => dput d (kf x) (fn x)) ([] : List (κ × β))).length ≤ l.length := by
      have gen : ∀ (l : List α) (d : List (κ × β)), (l.foldl (fun d x => dput d (kf x) (fn x)) d).length ≤ d.length + l.length := by
        intro l
        induction l with
        | nil => intro d; exact Nat.le_refl _
        | cons x l ih => intro d; have := ih (dput d (kf x) (fn x)); have := dput_len d (kf x) (fn x); simp only [List.foldl_cons, List.length_cons]; omega
      intro l; have := gen l []; simpa using this
    refine ⟨fun i m Hh => m = xs.length - i ∧ i ≤ xs.length ∧ LcW K c0 as1 G1 σ s1 o1 Dl (fun _ G2 ob => ∃ vs, ob = .dK vs ∧ KvOk K G2 vs (((xs.take i).filter bs).foldl (fun d x => dput d (kf x) (fn x)) [])) Hh, ⟨xs.length, by omega, Nat.zero_le _, ⟨as1, G1, .dK [], E0.1, Pre.refl _, Le.refl _, upd_same, E0.2.1, E0.2.2.1, E0.2.2.2, [], rfl, .nil⟩⟩, ?_⟩
    rintro i m Hh ⟨rfl, hi, ⟨as2, G2, ob, A2, p2, l2, eD, n1, n2, n3, ws, rfl, hr⟩⟩
    obtain ⟨A3, hc3⟩ := A2.deepH
    obtain ⟨y1, y2⟩ := Y _ hc3 i as2 G2 σ Hh s1 o1 A3 hP
    by_cases hlt : i < xs.length
    · obtain ⟨go, yl⟩ := y2 xs[i] (List.getElem?_eq_getElem hlt)
      have hx : xs[i] ∈ xs := List.getElem_mem hlt
      have tk : xs.take (i + 1) = xs.take i ++ [xs[i]] := by rw [List.take_add_one, List.getElem?_eq_getElem hlt]; rfl
      refine .inr ⟨go, fun H' => LcW K c0 as1 G1 σ s1 o1 Dl (fun _ G2 ob => ∃ vs, ob = .dK vs ∧ KvOk K G2 vs (((xs.take (i + 1)).filter bs).foldl (fun d x => dput d (kf x) (fn x)) [])) H', fun H' w => ⟨xs.length - (i + 1), by omega, rfl, hlt, w⟩, fun x H' y => ?_⟩
      obtain ⟨G3, l3, A4, rx⟩ := yl x H' y
      refine hg xs[i] _ as2 G3 _ H' o1 x (A4.wipe vs) rx _ fun σ5 e5 A5 => ⟨e5.trans (wipe_idem σ vs), ht _ xs[i] hx as2 G3 σ5 H' A5 _ fun as6 G6 H6 p6 l6 A6 => ?_⟩
      have back : ∀ {as7 : List Addr} {G7 H7 : Hp} {s7 : List Slot} {σ7 : L2.St}, Abs K ⟨Hh, G2, as2⟩ as7 G7 σ7 H7 s7 o1 → Pre as2 as7 → Le G2 G7 → Abs K ⟨Hh, G2, as2⟩ as7 G7 σ H7 s1 o1 := fun {as7 G7 H7 s7 σ7} B pp ll =>
        ⟨B.sub, B.g0, B.old, B.new, B.pre, B.nd, B.asz, B.asf, B.lv, fun j => (A3.fr j).mono pp ll, B.st, A3.len⟩
      have same : ∀ {as7 : List Addr} {G7 H7 : Hp} {s7 : List Slot} {σ7 : L2.St}, Abs K ⟨Hh, G2, as2⟩ as7 G7 σ7 H7 s7 o1 → H7 Dl = some (.dK ws) ∧ Dl ∉ as7 ∧ G7 Dl = none := fun {as7 G7 H7 s7 σ7} B => by
        have e1 := B.old Dl _ eD n1
        refine ⟨e1, fun m => ?_, ?_⟩
        · rcases (B.asf Dl m).2 with z | z
          · exact n1 z
          · rw [show (Cx0.mk Hh G2 as2).H Dl = Hh Dl from rfl, eD] at z; cases z
        · cases z : G7 Dl with
          | none => rfl
          | some u =>
            rcases B.new Dl u z with y | y
            · rw [show (Cx0.mk Hh G2 as2).G Dl = G2 Dl from rfl, n2] at y; cases y
            · rw [show (Cx0.mk Hh G2 as2).H Dl = Hh Dl from rfl, eD] at y; cases y
      cases hb : bs xs[i] with
      | false =>
        rw [if_neg Bool.false_ne_true]
        have A7 := hc3 _ _ _ _ _ _ (back A6 p6 (l3.trans l6))
        obtain ⟨e1, e2, e3⟩ := same A6
        refine ⟨as6, G6, .dK ws, A7, p2.trans p6, l2.trans (l3.trans l6), e1, e2, e3, n3, ws, rfl, ?_⟩
        rw [tk, List.filter_append, List.filter_cons_of_neg (by rw [hb]; decide), List.filter_nil, List.append_nil]
        exact KvOk.mono (l3.trans l6) hr
      | true =>
        rw [if_pos rfl]
        refine hk _ xs[i] hx hb as6 G6 σ5 H6 A6 _ fun y as6b G6b H6b p6b l6b A6b hy => he _ xs[i] hx hb as6b G6b σ5 H6b A6b _ fun v as7 G7 H7 p7 l7 A7 hv => ?_
        obtain ⟨e1, e2, e3⟩ := same A7
        have hlen : ws.length ≤ i := by
          rw [pr_len hr]
          exact Nat.le_trans (dlen _) (Nat.le_trans (List.length_filter_le _ _) (by rw [List.length_take]; omega))
        refine ⟨ws, KeyT.key (kf xs[i]), KeyR.to K G6b y _ hy, e1, by omega, ?_⟩
        have A8 := (hc3 _ _ _ _ _ _ (back A7 ((p6.trans p6b).trans p7) (((l3.trans l6).trans l6b).trans l7))).extra (ob := .dK (putK ws (KeyT.key (kf xs[i])) v)) (.inr ⟨e2, e3, n3⟩)
        refine ⟨as7, G7, _, A8.1, p2.trans ((p6.trans p6b).trans p7), l2.trans (((l3.trans l6).trans l6b).trans l7), upd_same, e2, e3, n3, _, rfl, ?_⟩
        rw [tk, List.filter_append, List.filter_cons_of_pos hb, List.filter_nil, List.foldl_append]
        exact kv_put (KvOk.mono (((l3.trans l6).trans l6b).trans l7) hr) hv
    · have e : i = xs.length := by omega
      subst e
      rw [List.take_length] at hr
      have A4 := hc _ _ _ _ _ _ (A2.adopt (ct := .dct ((xs.filter bs).foldl (fun d x => dput d (kf x) (fn x)) [])) n1 n2 n3 eD ⟨ws, rfl, hr⟩)
      exact .inl ⟨y1 rfl, q _ _ G2 Hh ((p1.trans p2).trans ⟨[Dl], rfl⟩) (l1.trans l2) A4 ⟨Dl, by rw [← A2.asz, List.getElem?_concat_length], rfl⟩⟩
end
end VL

set_option maxHeartbeats 4000000
/-! THE VALUE LAYER 12: sorted, list of a dict. -/
namespace VL
open PySem PySem.Spec PyProof.Rows L2
section
variable {α β : Type} {F : α → β → Prop}
/-- the left side in another order, the right side with it -/
theorem pr_perm {l l' : List α} (p : l'.Perm l) : ∀ {m : List β}, Paired F l m → ∃ m', m'.Perm m ∧ Paired F l' m' := by
  induction p with
  | nil => intro m h; cases h; exact ⟨[], .nil, .nil⟩
  | cons x p ih =>
    intro m h
    cases h with
    | cons r t => obtain ⟨m', p', h'⟩ := ih t; exact ⟨_, p'.cons _, .cons r h'⟩
  | swap x y l =>
    intro m h
    cases h with
    | cons r t =>
      cases t with
      | cons r2 t2 => exact ⟨_, List.Perm.swap _ _ _, .cons r2 (.cons r t2)⟩
  | trans p1 p2 ih1 ih2 =>
    intro m h
    obtain ⟨m1, q1, h1⟩ := ih2 h
    obtain ⟨m2, q2, h2⟩ := ih1 h1
    exact ⟨m2, q2.trans q1, h2⟩
theorem pr_pair {R : α → α → Prop} {S : β → β → Prop} {l : List α} {m : List β} (h : Paired F l m) (k : ∀ a b x y, F a x → F b y → R a b → S x y) (p : l.Pairwise R) : m.Pairwise S := by
  induction h with
  | nil => exact .nil
  | @cons a x l m r t ih =>
    rw [List.pairwise_cons] at p ⊢
    refine ⟨fun y hy => ?_, ih p.2⟩
    obtain ⟨i, hi, e⟩ := List.mem_iff_getElem.mp hy
    obtain ⟨b, hb, hF⟩ := pr_get t (show m[i]? = some y by rw [List.getElem?_eq_getElem hi, e])
    exact k a b x y r hF (p.1 b (List.mem_of_getElem? hb))
end
/-! ### sorted -/
abbrev uSorted (K : Fg) : List V → Hp → VK → Prop := fun vs H Q => rSortedI K vs H Q ∨ ∃ (d : Nat) (B : Int), 1 ≤ d ∧ rSortU K d B vs H Q
theorem call_uSorted {X : Cx} : CallR X (.builtin "sorted") (uSorted X.K) := fun pins s σ H vs us Q I r h => by
  rcases h with h | ⟨d, B, hd, h⟩
  · exact cr_sortedI pins s σ H vs us Q I r h
  · exact cr_sortT hd pins s σ H vs us Q I r h
def srtI (ns : List Int) : List Int := ns.mergeSort fun a b => decide (a ≤ b)
theorem srtI_perm (ns : List Int) : (srtI ns).Perm ns := List.mergeSort_perm _ _
theorem srtI_sorted (ns : List Int) : (srtI ns).Pairwise (· ≤ ·) := by
  have := List.pairwise_mergeSort (le := fun a b : Int => decide (a ≤ b)) (fun a b c h1 h2 => by simp at *; omega) (fun a b => by simp; omega) ns
  exact this.imp fun h => of_decide_eq_true h
theorem srtI_uniq {ns ms : List Int} (p : ms.Perm ns) (h : ms.Pairwise (· ≤ ·)) : ms = srtI ns :=
  List.Perm.eq_of_pairwise (fun a b _ _ h1 h2 => Int.le_antisymm h1 h2) h (srtI_sorted ns) (p.trans (srtI_perm ns).symm)
def c3 (B : Int) (x : T3 Int Int Int) : Int := TS.code B [x.a, x.b, x.c]
def srt3 (B : Int) (xs : List (T3 Int Int Int)) : List (T3 Int Int Int) := xs.mergeSort fun a b => decide (c3 B a ≤ c3 B b)
theorem srt3_perm (B : Int) (xs : List (T3 Int Int Int)) : (srt3 B xs).Perm xs := List.mergeSort_perm _ _
theorem srt3_sorted (B : Int) (xs : List (T3 Int Int Int)) : (srt3 B xs).Pairwise fun a b => c3 B a ≤ c3 B b := by
  have := List.pairwise_mergeSort (le := fun a b : T3 Int Int Int => decide (c3 B a ≤ c3 B b)) (fun a b c h1 h2 => by simp at *; omega) (fun a b => by simp; omega) xs
  exact this.imp fun h => of_decide_eq_true h
theorem code_same {B : Int} : ∀ {n m : List Int}, n.length = m.length → TS.Bd B n → TS.Bd B m → TS.code B n = TS.code B m → n = m
  | [], [], _, _, _, _ => rfl
  | d :: r, e :: q, hl, hn, hm, h => by
    have hl' : r.length = q.length := by simpa using hl
    rcases Int.lt_trichotomy d e with z | z | z
    · have := TS.code_lt hl' hn.tail hm.tail z; omega
    · subst z
      have e2 : TS.code B r = TS.code B q := by
        have h' : d * B ^ r.length + TS.code B r = d * B ^ q.length + TS.code B q := h
        rw [hl'] at h'; omega
      rw [code_same hl' hn.tail hm.tail e2]
    · have := TS.code_lt hl'.symm hm.tail hn.tail z; omega
section
variable {K : Fg} {c : Cx0} {as : List Addr} {G H : Hp} {σ : L2.St} {s : List Slot} {o : List Cont} {r : Slot} {k : Nat}
theorem reps_int {vs : List V} {ns : List Int} (h : Reps K G vs ns) : vs = ns.map V.int := by
  induction h with
  | nil => rfl
  | cons r t ih => rw [List.map_cons, ← ih]; congr 1
theorem reps_ofI {ns : List Int} : Reps K G (ns.map V.int) ns := by
  induction ns with
  | nil => exact .nil
  | cons x xs ih => exact .cons rfl ih
theorem cv_sortedI {ns : List Int} (L : LView o r ns) : CV K c (uSorted K) s o [r] s (o ++ [.lst (srtI ns)]) (.p o.length) := fun as G σ H vs A h Q q => by
  obtain ⟨v, rfl, hv⟩ := h.one
  obtain ⟨p, ws, rfl, hs, hr⟩ := L.at_ A hv
  rw [reps_int hr] at hs
  exact .inl ⟨p, ns, rfl, hs, fun ns' l pm sr hl => by
    rw [srtI_uniq pm sr]
    exact q _ _ _ _ ⟨[l], rfl⟩ (Le.refl _) (A.newP (o := .lst _) (ct := .lst (srtI ns)) hl ⟨_, rfl, reps_ofI⟩) ⟨l, by rw [← A.asz, List.getElem?_concat_length], rfl⟩⟩
theorem t3_tup {x : T3 Int Int Int} {v : V} (l : Le G H) (h : Rp.rep K G v x) : TupI K H v [x.a, x.b, x.c] := by
  obtain ⟨t, v1, v2, v3, e, hs, r1, r2, r3⟩ := h
  refine ⟨t, e, ?_⟩
  rw [show v1 = .int x.a from r1, show v2 = .int x.b from r2, show v3 = .int x.c from r3] at hs
  exact l.sqT hs
theorem cv_sorted3 {xs : List (T3 Int Int Int)} {B : Int} (L : LView o r xs) (hz : xs.length < 64) (hb : ∀ x ∈ xs, TS.Bd B [x.a, x.b, x.c]) : CV K c (uSorted K) s o [r] s (o ++ [.lst (srt3 B xs)]) (.p o.length) := fun as G σ H vs A h Q q => by
  obtain ⟨v, rfl, hv⟩ := h.one
  obtain ⟨p, ws, rfl, hs, hr⟩ := L.at_ A hv
  refine .inr ⟨3, B, by decide, p, ws, rfl, hs, by rw [pr_len hr]; exact hz, fun x hx => ?_, fun ys l pm sr hl => ?_⟩
  · obtain ⟨i, hi, e⟩ := List.mem_iff_getElem.mp hx
    obtain ⟨y, hy, ry⟩ := pr_getL hr (show ws[i]? = some x by rw [List.getElem?_eq_getElem hi, e])
    exact ⟨_, t3_tup A.sub ry, rfl, hb y (List.mem_of_getElem? hy)⟩
  · obtain ⟨zs, pz, rz⟩ := pr_perm pm hr
    have sz : zs.Pairwise fun a b => c3 B a ≤ c3 B b := pr_pair rz (fun a b x y h1 h2 h3 => h3 _ _ (t3_tup A.sub h1) (t3_tup A.sub h2)) sr
    have e : zs = srt3 B xs := by
      refine List.Perm.eq_of_pairwise (fun a b ha hb' h1 h2 => ?_) sz (srt3_sorted B xs) (pz.trans (srt3_perm B xs).symm)
      have b1 := hb a (pz.mem_iff.mp ha)
      have b2 := hb b ((srt3_perm B xs).mem_iff.mp hb')
      have := code_same (B := B) (n := [a.a, a.b, a.c]) (m := [b.a, b.b, b.c]) rfl b1 b2 (Int.le_antisymm h1 h2)
      cases a; cases b; simp at this; obtain ⟨e1, e2, e3⟩ := this; subst e1 e2 e3; rfl
    rw [e] at rz
    exact q _ _ _ _ ⟨[l], rfl⟩ (Le.refl _) (A.newP (o := .lst ys) (ct := .lst (srt3 B xs)) hl ⟨_, rfl, rz⟩) ⟨l, by rw [← A.asz, List.getElem?_concat_length], rfl⟩
/-! ### list(x): of a list, a tuple, a dict -/
abbrev rListR : List V → Hp → VK → Prop := fun xs H Q => ∃ (a : Addr) (kvs : List (Key × V)), xs = [.ref a] ∧ Rd H a (.dK kvs) ∧ ∀ p, H p = none → Q (.ref p) (upd H p (.lst (kvs.map fun kv => kV kv.1)))
abbrev uListA (K : Fg) : List V → Hp → VK → Prop := fun xs H Q => uList K xs H Q ∨ rListR xs H Q
theorem cv_listAL {α : Type} [Rp α] {xs : List α} (L : LView o r xs) : CV K c (uListA K) s o [r] s (o ++ [.lst xs]) (.p o.length) := fun as G σ H vs A h Q q => .inl (cv_listL L as G σ H vs A h Q q)
theorem cv_listAT {α : Type} [Rp α] {xs : Tup α} : CV K c (uListA K) s o [.d xs] s (o ++ [.lst xs.l]) (.p o.length) := fun as G σ H vs A h Q q => .inl (cv_listT as G σ H vs A h Q q)
theorem cv_listAD {κ α : Type} [KeyT κ] [Rp κ] [KeyR κ] [Rp α] {xs : List (κ × α)} (L : DView o r xs) : CV K c (uListA K) s o [r] s (o ++ [.lst (xs.map (·.1))]) (.p o.length) := fun as G σ H vs A h Q q => by
  obtain ⟨v, rfl, hv⟩ := h.one
  obtain ⟨a, ws, rfl, e, hr⟩ := L.at_ A hv
  refine .inr ⟨a, ws, rfl, e, fun l hl => ?_⟩
  refine q _ _ _ _ ⟨[l], rfl⟩ (Le.refl _) (A.newP (o := .lst _) (ct := .lst (xs.map (·.1))) hl ⟨_, rfl, ?_⟩) ⟨l, by rw [← A.asz, List.getElem?_concat_length], rfl⟩
  exact pr_map (fun kv => kV kv.1) (·.1) (fun p q e => by rw [e.1]; exact KeyR.of K G q.1) hr
end
end VL

set_option maxHeartbeats 4000000
/-! THE VALUE LAYER 13: sorted(set(xs)), methods and makers, a dict's items. -/
namespace VL
open PySem PySem.Spec PyProof.Rows L2
/-! ### set(xs) of a list of ints, the members' order told (the tuple's lemma and the walk of call_set_list, joined) -/
section
variable {P : Program} {w : World} {A : Around} {E : Value → Shared → Prop} {s : Shared}
abbrev freshSet (w : World) : Obj := { cls := .type "set", dict := none, data := .set #[] 0 (.fresh 0 0 (!w.params.followText "set-order")) }
/-- what stands when set.__init__ has run -/
def SetDone (w : World) (ns : List Int) (s : Shared) (s2 : Shared) : Prop := ∃ h' tk c, s2 = { s with heap := h', toks := tk } ∧ SetR w h' s.heap.objs.size (fun j => decide (j ∈ ns)) c ∧ c ≤ ns.length ∧ ∀ b o, s.heap.get? b = some o → h'.get? b = some o
theorem set_init_list {l : Addr} {items : Array Value} {ns : List Int} (hh : A.handled = none) (hl : s.heap.IsList l items) (hit : IntsAre items.toList ns) (hb : ns.length + 1 < scanBound) (hT : Shared.TypeIs { s with heap := s.heap.push (freshSet w) } (.ref s.heap.objs.size) "set") :
    codeAny (model P w) A (.call (.builtin "set.__init__") ⟨[.ref s.heap.objs.size, .ref l], []⟩) (wants (fun r s2 => r = .none ∧ SetDone w ns s s2) E) { s with heap := s.heap.push (freshSet w) } := by
  refine codeAny_call_builtin F.called_set.init.plain F.entry_set_init (check_set_init_1 hT ?_)
  have hisz : items.size = ns.length := by rw [← Array.length_toList]; exact IntsAre.length hit
  obtain ⟨⟨ocls, odict, odata, oslots⟩, hol, hcl, nl, hdl⟩ := hl
  cases hcl
  cases hdl
  have hS : (s.heap.push (freshSet w)).get? s.heap.objs.size = some (freshSet w) := Heap.get?_push_size _ rfl
  have hol' : (s.heap.push (freshSet w)).get? l = some { cls := .type "list", dict := odict, data := .seq items nl, slots := oslots } := Heap.get?_push_of_some _ hol
  have hsls := F.sub_list_set
  have hslf := F.sub_list_frozenset
  have hne : (Value.type "list" == Value.type "dict") = false := by decide
  have hl1 : (s.heap.push (freshSet w)).IsList l items := ⟨_, hol', rfl, nl, rfl⟩
  have lt : l < s.heap.objs.size := Heap.lt_size hol
  unfold Builtin.«set.__init__» noKeywords Builtin.Frozenset.updateFrom
  generalize hPI : pyIter = PI
  wp_walk
  subst hPI
  refine wpAny_pyIter_list hl1 (wpAny_bind (wpAny_runValue ?_))
  have n1 : l ≠ (s.heap.push (freshSet w)).objs.size := by rw [Heap.size_push]; exact Nat.ne_of_lt (Nat.lt_succ_of_lt lt)
  have n2 : s.heap.objs.size ∉ [(s.heap.push (freshSet w)).objs.size, l] := by
    rw [Heap.size_push]; simp only [List.mem_cons, List.not_mem_nil, or_false, not_or]; exact ⟨Nat.ne_of_lt (Nat.lt_succ_self _), Nat.ne_of_gt lt⟩
  have at_ : ∀ (i : Nat) (v : Value), items[i]? = some v → ∃ k t, ns[i]? = some k ∧ v = .int k t := fun i v hv => by
    have hi : i < ns.length := by rw [← hisz]; exact (Array.getElem?_eq_some_iff.mp hv).1
    obtain ⟨t, e⟩ := PyProof.Rows.IntsAre.int_at hit i v (by rw [Array.getElem?_toList]; exact hv)
    exact ⟨ns[i], t, List.getElem?_eq_getElem hi, by rw [e, List.getD_eq_getElem?_getD, List.getElem?_eq_getElem hi] <;> rfl⟩
  refine set_update_ints ((Walks.list (by simp [hh]) _ l n1 items).toS) s.heap.objs.size n2 ns hisz hb at_ (items.size - 0) 0 _ (by omega) (Nat.zero_le _) ⟨⟨_, Heap.get?_push_size _ rfl, rfl, rfl⟩, hl1.push _⟩ ⟨0, Nat.le_refl 0, setR_new_at (Heap.get?_push_of_some _ hS)⟩ fun s' c' hm hc' hS' => ?_
  obtain ⟨h', g2, d', tk', os'⟩ := s'
  cases (show g2 = s.gens from hm.gens)
  cases (show d' = s.drawn from hm.drawn)
  cases (show os' = s.os from hm.os)
  show wpAny _ _ _ _ _ _
  refine wpAny_pure ?_
  show wpAny _ _ (ret Value.none) _ _ _
  refine wpAny_pure ⟨rfl, h', tk', c', rfl, hS', by omega, fun b o e => ?_⟩
  have lb : b < s.heap.objs.size := Heap.lt_size e
  exact hm.heap b o (by rw [Heap.size_push]; simp only [List.mem_cons, List.not_mem_nil, or_false, not_or]; exact ⟨Nat.ne_of_lt lb, Nat.ne_of_lt (Nat.lt_succ_of_lt lb)⟩) (Heap.get?_push_of_some _ (Heap.get?_push_of_some _ e))

set_option maxRecDepth 100000 in
theorem call_set_ints {l : Addr} {items : Array Value} (ns : List Int) {Q : Value → Shared → Prop} (hh : A.handled = none) (hl : s.heap.IsList l items) (hit : IntsAre items.toList ns) (hb : ns.length + 1 < scanBound)
    (h : ∀ s2, SetDone w ns s s2 → Q (.ref s.heap.objs.size) s2) : wpAny (model P w) A (call (.type "set") [.ref l]) Q E s := by
  obtain ⟨c, tl, hmro⟩ := F.called_set.mro
  have hmade := F.called_set.made
  have hsub := F.called_set.sub
  refine wpAny_call (codeAny_of_tree ?_)
  show wpAny _ _ (callAny (.type "set") _) _ _ _
  refine wpAny_pure ⟨Code.quiet_builtin _ (by decide +kernel), codeAny_builtin F.entry_type_call ?_⟩
  rw [Around.under_plain (weight_type_call_type "set" [.ref l] []) rfl]
  have h1 := F.called_set.notType
  have h2 := F.called_set.canCreate
  have hct := F.typeCall_set_1 (.ref l)
  repeat (any_goals (first | assumption | wp_step))
  refine codeAny_mono (code_set_led1 (.ref l) (E := E) (Q₁ := fun obj s1 => obj = .ref s.heap.objs.size ∧ s1 = { s with heap := s.heap.push (freshSet w) }) ⟨rfl, rfl⟩) fun r s1 hr => ?_
  rcases r with e | fl
  · exact hr
  cases fl with
  | ret obj =>
    obtain ⟨rfl, rfl⟩ := hr
    have hS : (s.heap.push (freshSet w)).get? s.heap.objs.size = some (freshSet w) := Heap.get?_push_size _ rfl
    have hT : Shared.TypeIs { s with heap := s.heap.push (freshSet w) } (.ref s.heap.objs.size) "set" := ⟨_, hS, rfl⟩
    have hli := F.called_set.init.lookup
    have hbi := F.called_set.init.bind (.ref s.heap.objs.size)
    repeat (any_goals (first | assumption | wp_step))
    refine codeAny_mono (set_init_list (P := P) (E := E) hh hl hit hb hT) fun r2 s2 hr2 => ?_
    rcases r2 with e | fl2
    · exact hr2
    cases fl2 with
    | ret r =>
      obtain ⟨rfl, dn⟩ := hr2
      repeat (any_goals (first | assumption | wp_step))
      exact h _ dn
    | _ => exact hr2.elim
  | _ => exact hr.elim
end
section
variable {X : Cx}
def rSetLi (K : Fg) (w : World) : List V → Hp → VK → Prop := fun xs H Q => ∃ (l : Addr) (ns : List Int), xs = [V.ref l] ∧ SqL K H l (ns.map V.int) ∧ ns.length < 64 ∧ ∀ p c, c ≤ ns.length → H p = none → Q (.ref p) (upd H p (SetO w p (fun j => decide (j ∈ ns)) c))
theorem cr_setLi (hc : X.calm = true) : CallR X (.type "set") (rSetLi X.K X.w) := by
  intro pins s σ H xs us Q I r h
  obtain ⟨l, ns, rfl, hq, hl, q⟩ := h
  rw [Vals.ref1 r]
  obtain ⟨its, rv, pl, hz⟩ := I.list hq
  refine call_set_ints ns (I.ok.hd hc) pl.isList (ints_of_vals rv) (by unfold scanBound; omega) fun s2 ⟨h', tk, c, e, R, hc', k⟩ => ?_
  subst e
  exact ⟨.ref _, upd H s.heap.objs.size (SetO X.w s.heap.objs.size (fun j => decide (j ∈ ns)) c), I.laid (t' := tk) (fun b u e => k b u e) (Nat.le_refl _) (setO_new R), rfl, q _ c hc' (I.hok.fresh (Nat.le_refl _))⟩
/-- sorted(set(xs)), xs of ints -/
def tSortSet (K : Fg) (ta : TE) : TE := fun σ H Q => ta σ H fun x H1 => ∃ (l : Addr) (ns : List Int), x = V.ref l ∧ SqL K H1 l (ns.map V.int) ∧ ns.length < 64 ∧
  ∀ (a p : Addr) (o : HO) (ms : List Int), ms.Pairwise (· < ·) → (∀ k : Int, k ∈ ms ↔ k ∈ ns) → H1 a = none → upd H1 a o p = none → Q (.ref p) (upd (upd H1 a o) p (.lst (ms.map V.int)))
theorem pe_sortSet {e : Expr} {ta : TE} {p p2 q pos : Pos} (hc : X.calm = true) (hg : Gl X "sorted") (hm : X.mg "sorted" = none) (hg2 : Gl X "set") (hm2 : X.mg "set" = none) (ha : PE X e ta)
    (na : starEach [e] X.env = (false, eval e X.env) :: starEach [] X.env := by rfl) : PE X (.Call (.Name "sorted" p) [.Call (.Name "set" p2) [e] [] q] [] pos) (tSortSet X.K ta) := by
  refine ⟨fun pins s σ H Q I h => ?_⟩
  refine Call_ (ld_blt I hg hm boot_sorted (PyProof.Rows.callWith_builtin1 (PyProof.Rows.args_cons ?_ rfl) rfl rfl))
  refine Call_ (ld_blt I hg2 hm2 PyProof.Rows.boot_set (PyProof.Rows.callWith_type1 (PyProof.Rows.args_cons (thn (ha.run pins s σ H _ I h) fun v s1 ⟨x, H1, I1, r1, l, ns, e1, hq, hl, q1⟩ => PyProof.Rows.args_nil ?_) na) na rfl))
  subst e1
  refine thn (cr_setLi hc pins s1 σ H1 [V.ref l] [v] (fun y H2 => rSortedSet X.w [y] H2 Q) I1 (.cons r1 .nil) ⟨l, ns, rfl, hq, hl, fun a c hcn ha => ⟨a, _, c, rfl, upd_same, by omega, fun ms p' pw mem _ hp => q1 a p' _ ms pw (fun k => by rw [mem k, decide_eq_true_eq]) ha hp⟩⟩) fun u s2 ⟨y, H2, I2, r2, q2⟩ => PyProof.Rows.args_nil ?_
  exact cr_sortedSet hc pins s2 σ H2 [y] [u] Q I2 (.cons r2 .nil) q2
end
section
variable {K : Fg} {c : Cx0} {s s1 : List Slot} {o o1 : List Cont} {r : Slot} {ta : TE}
/-- over values: the strictly rising list of the same members -/
theorem er_sortSet {ns ms : List Int} (h : ER K c ta s o s1 o1 r) (L : LView o1 r ns) (hl : ns.length < 64) (pw : ms.Pairwise (· < ·)) (mem : ∀ k, k ∈ ms ↔ k ∈ ns) : ER K c (tSortSet K ta) s o s1 (o1 ++ [.lst ms]) (.p o1.length) := fun as G σ H A Q q =>
  h as G σ H A _ fun v as1 G1 H1 p1 l1 A1 hv => by
    obtain ⟨l, ws, rfl, hs, hr⟩ := L.at_ A1 hv
    rw [reps_int hr] at hs
    refine ⟨l, ns, rfl, hs, hl, fun a p ob ms' pw' mem' ha hp => ?_⟩
    have e : ms' = ms := List.Perm.eq_of_pairwise (fun a b _ _ h1 h2 => by omega) pw' pw ((List.perm_ext_iff_of_nodup (pw'.imp fun h => Int.ne_of_lt h) (pw.imp fun h => Int.ne_of_lt h)).mpr fun k => by rw [mem', mem])
    subst e
    have A2 := (A1.extra (ob := ob) (.inl ha)).1
    exact q _ _ _ _ (p1.trans ⟨[p], rfl⟩) l1 (A2.newP (o := .lst _) (ct := .lst ms') hp ⟨_, rfl, reps_ofI⟩) ⟨p, by rw [← A2.asz, List.getElem?_concat_length], rfl⟩
end
end VL

set_option maxHeartbeats 4000000
/-! THE VALUE LAYER 14: {k: v for k, v in o.f.items() if v != 0} of ints. -/
namespace VL
open PySem PySem.Spec PyProof.Rows L2
theorem upd_swap {H : Hp} {a b : Addr} {x y : HO} (h : a ≠ b) : upd (upd H a x) b y = upd (upd H b y) a x := by
  funext z
  by_cases e1 : z = a
  · subst e1; rw [upd_same, upd_ne h, upd_same]
  · by_cases e2 : z = b
    · subst e2; rw [upd_same, upd_ne e1, upd_same]
    · rw [upd_ne e2, upd_ne e1, upd_ne e1, upd_ne e2]
section
variable {K : Fg} {c : Cx0} {s : List Slot} {o : List Cont}
structure ItW (K : Fg) (c : Cx0) (as : List Addr) (G : Hp) (σ : L2.St) (s : List Slot) (o : List Cont) (d : Addr) (od : Obj) (kvs : List (Key × V)) (D : Addr) (acc : List (Int × Int)) (Hh : Hp) : Prop where
  ab : Abs K c as G σ (upd Hh d (.dK kvs)) s o
  fz : Hh d = some (.frz od (.dK kvs))
  ac : ∃ vs, Hh D = some (.dK vs) ∧ KvOk K G vs acc
  n1 : D ∉ as
  n2 : G D = none
  n3 : c.H D = none
  ne : D ≠ d
theorem er_dcItems {k0 k i j : Nat} {C f : Str} {fs : List (Str × Slot)} {xs : List (Int × Int)} (h0 : sget s 0 = .p k0) (hk : cget o k0 = .obj C fs) (hf : fs.lookup f = some (.p k)) (cl : Cls K (He.ga K C)) (na : NoAttr K (He.ga K C) f) (hd : cget o k = .dct xs) (hne : k ≠ k0) (hz : xs.length < sizeLine) (hij : i ≠ j) (hi : i < s.length) (hj : j < s.length) :
    ER K c (tLockE (tDc (iItems (tFld K (tVar 0) f)) (gTup K 2 (gCons (gName i) (gCons (gName j) gNil))) (tB (tOp (uNe K) (tVar j) (tC (.int 0)))) (tVar i) (tVar j) [i, j])) s o s (o ++ [.dct ((xs.filter fun x => !decide (x.2 = 0)).foldl (fun d x => dput d x.1 x.2) [])]) (.p o.length) := fun as G σ H A Q q => by
  have hfr := A.fr 0
  rw [h0] at hfr
  obtain ⟨a0, ha0, hσ⟩ := hfr
  have st0 := A.st k0 a0 ha0
  rw [hk] at st0
  obtain ⟨dx, fvs, e1, e2⟩ := st0
  obtain ⟨v, hv, d, hd0, rfl⟩ := (flds_look e2).2 _ hf
  have std := A.st k d hd0
  rw [hd] at std
  obtain ⟨kvs, e3, hkv⟩ := std
  have nda : a0 ≠ d := fun e => hne (nd_get A.nd hd0 (e ▸ ha0))
  refine ⟨d, .dK kvs, e3, trivial, fun od => ?_⟩
  refine ⟨.ref a0, hσ, a0, He.ga K C, dx, fvs, .ref d, rfl, by rw [upd_ne nda]; exact e1, cl, na, hv, d, od, kvs, rfl, upd_same, fun D hD => ?_⟩
  have ne : D ≠ d := fun e => by rw [e, upd_same] at hD; cases hD
  have hD' : H D = none := by rw [upd_ne ne] at hD; exact hD
  have hlen : kvs.length = xs.length := pr_len hkv
  let ac : Nat → List (Int × Int) := fun n => ((xs.take n).filter fun x => !decide (x.2 = 0)).foldl (fun d x => dput d x.1 x.2) []
  have aclen : ∀ n, (ac n).length ≤ n := by
    have gen : ∀ (l : List (Int × Int)) (d : List (Int × Int)), (l.foldl (fun d x => dput d x.1 x.2) d).length ≤ d.length + l.length := by
      intro l
      induction l with
      | nil => intro d; exact Nat.le_refl _
      | cons x l ih => intro d; have := ih (dput d x.1 x.2); have := dput_len d x.1 x.2; simp only [List.foldl_cons, List.length_cons]; omega
    intro n
    have := gen ((xs.take n).filter fun x => !decide (x.2 = 0)) []
    have h2 := List.length_filter_le (fun x : Int × Int => !decide (x.2 = 0)) (xs.take n)
    rw [List.length_take] at h2
    simp only [List.length_nil] at this
    exact Nat.le_trans this (by omega)
  refine ⟨fun n m Hh => m = xs.length - n ∧ n ≤ xs.length ∧ ItW K c as G σ s o d od kvs D (ac n) Hh, ⟨xs.length, by omega, Nat.zero_le _, ?_⟩, ?_⟩
  · have E0 := A.extra (ob := .dK []) (.inl hD')
    refine ⟨?_, by rw [upd_ne ne.symm, upd_same], ⟨[], upd_same, .nil⟩, E0.2.1, E0.2.2.1, E0.2.2.2, ne⟩
    have e : upd (upd (upd H d (.frz od (.dK kvs))) D (.dK [])) d (.dK kvs) = upd H D (.dK []) := by
      funext z
      by_cases z1 : z = d
      · subst z1; rw [upd_same, upd_ne ne.symm, e3]
      · rw [upd_ne z1]
        by_cases z2 : z = D
        · subst z2; rw [upd_same, upd_same]
        · rw [upd_ne z2, upd_ne z2, upd_ne z1]
    rw [e]; exact E0.1
  rintro n m Hh ⟨rfl, hn, W⟩
  obtain ⟨ws, eD, hr⟩ := W.ac
  by_cases hlt : n < xs.length
  · refine .inr ⟨⟨W.fz, by omega⟩, fun H' => ItW K c as G σ s o d od kvs D (ac (n + 1)) H', fun H' w => ⟨xs.length - (n + 1), by omega, rfl, hlt, w⟩, ?_⟩
    rintro x H' ⟨T, ky, v, hkn, rfl, hT, rfl⟩
    obtain ⟨y, hy, hy1, hy2⟩ := pr_getL hkv hkn
    have ey : xs[n]? = some y := hy
    have tk : xs.take (n + 1) = xs.take n ++ [y] := by rw [List.take_add_one, ey]; rfl
    have ev : v = .int y.2 := hy2
    have hy1 : ky = KeyT.key y.1 := hy1
    have ek : kV ky = .int y.1 := by rw [hy1]; rfl
    have nT : T ≠ d := fun e => by rw [e, W.fz] at hT; cases hT
    have nTD : T ≠ D := fun e => by rw [e, eD] at hT; cases hT
    have lσ : ∀ t : L2.St, (L2.wipe t [i, j]).length = t.length := fun t => wipe_length _ _
    refine ⟨T, [kV ky, v], rfl, .inl (.inl upd_same), rfl, kV ky, [v], rfl, ?_⟩
    refine ⟨v, [], rfl, rfl, ?_, ?_⟩
    · rw [wipe_set (by simp), wipe_set (by simp), wipe_idem]
    have len : s.length = σ.length := A.len.symm
    have gi : (((L2.wipe σ [i, j]).set i (some (kV ky))).set j (some v))[i]? = some (some (kV ky)) := by
      rw [List.getElem?_set_ne hij.symm, List.getElem?_set_self (by rw [lσ]; omega)]
    have gj : (((L2.wipe σ [i, j]).set i (some (kV ky))).set j (some v))[j]? = some (some v) := by
      rw [List.getElem?_set_self (by rw [List.length_set, lσ]; omega)]
    have AT : Abs K c as G σ (upd (upd Hh T (.tup [kV ky, v])) d (.dK kvs)) s o := by
      rw [upd_swap nT]
      exact (W.ab.extra (.inl (by rw [upd_ne nT]; exact hT))).1
    refine ⟨v, gj, .inl ⟨by rw [ev]; rfl, !decide (y.2 = 0), by rw [ev]; congr 2; rw [Bool.eq_iff_iff]; simp [decide_eq_true_eq], ?_⟩⟩
    cases hb : (!decide (y.2 = 0)) with
    | false =>
      rw [if_neg Bool.false_ne_true]
      refine ⟨AT, by rw [upd_ne nT.symm]; exact W.fz, ⟨ws, by rw [upd_ne nTD.symm]; exact eD, ?_⟩, W.n1, W.n2, W.n3, ne⟩
      show KvOk K G ws (((xs.take (n + 1)).filter _).foldl _ _)
      rw [tk, List.filter_append, List.filter_cons_of_neg (by rw [hb]; decide), List.filter_nil, List.append_nil]
      exact hr
    | true =>
      rw [if_pos rfl]
      refine ⟨kV ky, gi, v, gj, ws, ky, rfl, by rw [upd_ne nTD.symm]; exact eD, by have := aclen n; have := pr_len hr; omega, ?_⟩
      refine ⟨?_, by rw [upd_ne ne.symm, upd_ne nT.symm]; exact W.fz, ⟨_, upd_same, ?_⟩, W.n1, W.n2, W.n3, ne⟩
      · rw [upd_swap ne]
        exact (AT.extra (.inr ⟨W.n1, W.n2, W.n3⟩)).1
      · show KvOk K G _ (((xs.take (n + 1)).filter _).foldl _ _)
        rw [tk, List.filter_append, List.filter_cons_of_pos (p := fun x : Int × Int => !decide (x.2 = 0)) hb, List.filter_nil, List.foldl_append, hy1]
        exact kv_put hr hy2
  · have e : n = xs.length := by omega
    subst e
    refine .inl ⟨⟨W.fz, by omega⟩, W.fz, ?_⟩
    have A4 := W.ab.adopt (ct := .dct (ac xs.length)) W.n1 W.n2 W.n3 (by rw [upd_ne ne]; exact eD) ⟨ws, rfl, hr⟩
    have et : ac xs.length = (xs.filter fun x => !decide (x.2 = 0)).foldl (fun d x => dput d x.1 x.2) [] := by
      show ((xs.take xs.length).filter _).foldl _ _ = _
      rw [List.take_length]
    rw [et] at A4
    exact q _ _ G _ ⟨[D], rfl⟩ (Le.refl _) A4 ⟨D, by rw [← A.asz, List.getElem?_concat_length], rfl⟩
end
end VL

set_option maxHeartbeats 4000000
/-! THE VALUE LAYER 15: methods and makers that keep their promise. -/
namespace VL
open PySem PySem.Spec PyProof.Rows L2
/-- the class C has the method m, a def that keeps the promise F -/
structure GoodM (P : Program) (w : World) (K : Fg) (mg : Str → Option Value) (base : Heap) (C m : Str) (k : Nat) (ps : List Str) (F : FS) : Prop where
  ex : ∃ f fd, FnOk P w K mg base (L2.CX P w) k f fd ps (spOf K F) ∧ Meth K (He.ga K C) m f ∧ Binds K fd ps []
  cl : Cls K (He.ga K C)
/-- the class C is made by an __init__ that keeps the promise F -/
structure GoodI (P : Program) (w : World) (K : Fg) (mg : Str → Option Value) (base : Heap) (C : Str) (k : Nat) (ps : List Str) (F : FS) : Prop where
  ex : ∃ f fd, FnOk P w K mg base (L2.CX P w) k f fd ps (spOf K F) ∧ Mk K (He.ga K C) f ∧ Binds K fd ps []
  gl : mg C = some (.ref (He.ga K C))
section
variable {X : Cx} {C m : Str} {k k' : Nat} {ps : List Str} {F : FS} {E : XK} {o : Expr} {p pos apos : Pos} {e : Expr} {es : List Expr} {ta : TE} {t : TA}
theorem pe_goodM {pl : Sem Bool} (g : GoodM X.prog X.w X.K X.mg X.base C m k ps F) (hr : Room k' X.A) (hk : k ≤ k') (hx : Passes (L2.CX X.prog X.w) X E) (he : PE X o ta) (ha : PA X (e :: es) t)
    (hst : starEach (e :: es) X.env = (false, eval e X.env) :: starEach es X.env := by rfl) (hpl : (backTo pos (starEach es X.env)).any (·.1) = false := by rfl)
    (ht : eval (.Call (.Attribute o m apos) (e :: es) [] pos) X.env = (do
      let ov ← eval o X.env
      standAt apos.atName
      let (f, first) ← holding [ov] (getMethod ov m pl)
      callWith pos f first (backTo pos (starEach (e :: es) X.env)) (backToKw pos (keywordEach [] X.env))) := by rfl) :
    PE X (.Call (.Attribute o m apos) (e :: es) [] pos) (tMeth (He.ga X.K C) m (spOf X.K F) [] E ta t) := by
  obtain ⟨f, fd, h1, h2, h3⟩ := g.ex
  exact pe_meth he g.cl h2 h1 (hr.mono hk) h3 .nil hx ha hst hpl ht
theorem pe_goodM0 {pl : Sem Bool} (g : GoodM X.prog X.w X.K X.mg X.base C m k ps F) (hr : Room k' X.A) (hk : k ≤ k') (hx : Passes (L2.CX X.prog X.w) X E) (he : PE X o ta)
    (ht : eval (.Call (.Attribute o m apos) [] [] pos) X.env = (do
      let ov ← eval o X.env
      standAt apos.atName
      let (f, first) ← holding [ov] (getMethod ov m pl)
      callWith pos f first (backTo pos (starEach [] X.env)) (backToKw pos (keywordEach [] X.env))) := by rfl) :
    PE X (.Call (.Attribute o m apos) [] [] pos) (tMeth (He.ga X.K C) m (spOf X.K F) [] E ta tNil) := by
  obtain ⟨f, fd, h1, h2, h3⟩ := g.ex
  exact pe_meth0 he g.cl h2 h1 (hr.mono hk) h3 .nil hx ht
theorem pe_goodI (g : GoodI X.prog X.w X.K X.mg X.base C k ps F) (hr : Room k' X.A) (hk : k + 1 ≤ k') (hg : Gl X C) (hx : Passes (L2.CX X.prog X.w) X E) (ha : PA X (e :: es) t) (hdb : (C == ("__debug__" : Str)) = false := by decide)
    (he : starEach (e :: es) X.env = (false, eval e X.env) :: starEach es X.env := by rfl) (hpl : (backTo pos (starEach es X.env)).any (·.1) = false := by rfl) : PE X (.Call (.Name C p) (e :: es) [] pos) (tMake (He.ga X.K C) (spOf X.K F) [] E t) := by
  obtain ⟨f, fd, h1, h2, h3⟩ := g.ex
  exact pe_make h2 h1 (hr.mono hk) hg g.gl h3 .nil hx ha hdb he hpl
end
section
variable {P : Program} {w : World} {K : Fg} {mg : Str → Option Value} {base : Heap}
/-- a method's def keeps its promise; q: its qualified name -/
theorem fn_mk {x q : Str} {st : Stmt} {N ps : List Str} {k : Nat} {F : FS} {f : Addr} {fd : FuncData} (t : XK → TS) (FD : FunD K x q (defArgs st) (defBody st) (defScope st) [] [] f fd) (S : FnScope N ps (defScope st))
    (len : ∀ ss os R X, F ss os R X → ss.length = ps.length)
    (body : ∀ (cdv : Value) (A : Around) (outer : List Env) (s : Shared) (H : Hp) (E : XK), Room k (A.deeper (envOfC q (defScope st) s.heap.objs.size f cdv)) → PSs (cxOf (L2.CX P w) P w K mg base N q (defScope st) f cdv A outer s H E) (defBody st) (t E))
    (run : ∀ (c : Cx0) (ss : List Slot) (os : List Cont) (Q : VK) (E : XK), c.M.length = os.length → F ss os (Rc K c Q) (Xc K c E) → Run K c (t E) { nx := fun _ H' => Q .non H', rt := Q } (ss ++ List.replicate (N.length - ss.length) .u) os) :
    FnOk P w K mg base (L2.CX P w) (k + 1) f fd ps (spOf K F) := by
  refine FD.ok S (fun vs H Q E h => spOf.len len vs H Q E h) (fun cdv A outer s H vs Q E hr h => ⟨t E, body cdv A outer s H E hr, ?_⟩)
  exact enter h fun c ss os hM hF => run c ss os Q E hM hF
end
end VL

namespace VL
open PySem PySem.Spec PyProof.Rows L2
theorem call_uListA {X : Cx} (hc : X.calm = true) : CallR X (.type "list") (uListA X.K) := call_list_of.or (call_listD hc)
section
variable {X : Cx}
theorem sw_trueD {kx vx : Expr} {gs : List Comprehension} {scope : Scope} {pos py : Pos} {y : Str} {l : Nat} {env : Env} (hk : env.scope.kind = .function) (hy : env.scope.names.lookup y = some .local) (hl : (py.line == pos.line) = true)
    (ha : (scope.names.any fun (n, k) => n == y && (k == .local || k == .cell)) = false) : swapsWith (.DictComp kx vx gs scope pos) (some (.Name y py)) l env = pure true := by
  have b1 : env.kindOf y = some .local := hy
  have b2 : env.blockKind = .function := by unfold Env.blockKind; rw [hk]; rfl
  unfold swapsWith
  simp only [b2, b1, ha, Expr.pos, hl]
  rfl
/-- name = {k: v for ..} on one line, the name a local -/
theorem ps_setDc {i : Nat} {y : Str} {py : Pos} {kx vx tg iter : Expr} {ifs : List Expr} {scope : Scope} {own : List (Str × Nat)} {pos spos : Pos} {wi : TI} {g : TG} {tt : TT} {tk tv : TE} (hc : X.calm = true) (hN : X.N.Nodup) (hy : X.N[i]? = some y) (hyl : X.env.scope.names.lookup y = some .local)
    (hsw : swapsWith (.DictComp kx vx [⟨tg, iter, ifs, 0⟩] scope pos) (some (.Name y py)) spos.line X.env = pure true) (hi : PI X tg iter wi) (ok : BlkOk X.N X.env.scope scope own)
    (hg : ∀ (s : Shared) (H : Hp) (C : Addr) (cl : List (Str × Addr)) (fp : List Addr), PG (X.blk s H scope (compEnvC scope cl C X.env) fp) tg g) (ht : ∀ (s : Shared) (H : Hp) (C : Addr) (cl : List (Str × Addr)) (fp : List Addr), PTs (X.blk s H scope (compEnvC scope cl C X.env) fp) ifs tt)
    (hk : ∀ (s : Shared) (H : Hp) (C : Addr) (cl : List (Str × Addr)) (fp : List Addr), PE (X.blk s H scope (compEnvC scope cl C X.env) fp) kx tk)
    (he : ∀ (s : Shared) (H : Hp) (C : Addr) (cl : List (Str × Addr)) (fp : List Addr), PE (X.blk s H scope (compEnvC scope cl C X.env) fp) vx tv) (hs : ∀ x, foldedSetIterable iter X.env x = pure x := by intro _; rfl) :
    PS X (.Assign [.Name y py] (.DictComp kx vx [⟨tg, iter, ifs, 0⟩] scope pos) spos) (tAsg (tDc wi g tt tk tv (own.map (·.2))) (gName i)) := by
  refine ⟨fun pins s σ H D I h => ?_⟩
  rw [exec_Assign_Name_used _ _ _ _ hsw]
  refine wpAny_bind (wpAny_standAt (wpAny_bind ?_))
  show wpAny _ X.A (do let _ ← comprehension (.DictComp kx vx [⟨tg, iter, ifs, 0⟩] scope pos) scope X.env (firstIterPos [⟨tg, iter, ifs, 0⟩] pos) newDict false (eval iter X.env) (some (assign (.Name y py) X.env))) _ _ s
  have h : tDc wi g tt tk tv (own.map (·.2)) σ H (fun x H1 => gName i x σ H1 D.nx) := h
  refine wpAny_bind (thn (dc_core (Qf := fun _ s' => SP X pins D .next s') hc hN I hi ok hg ht hk he hs h fun L C s' m H' I' q hn f => ?_) fun _ s' hq => wpAny_pure (wpAny_pure hq))
  show wpAny _ _ (assign (.Name y py) X.env (.ref L)) _ _ _
  refine wpAny_assign_Name (store_ok2 (v := V.ref L) I' hN hy (.inl hyl) rfl (fun s2 I2 ⟨a, sb, ha⟩ => ?_) (.inr hyl))
  obtain ⟨f0, f1, f2, f3, f4, f5⟩ := f
  have nC : C ≠ a := ha.elim (fun z => by rw [z]; exact f1) fun z e => f4 y a z e.symm
  exact ⟨m, hn.sameBut sb nC, fun h3 sb3 => ⟨_, H', I2.turned (t' := s2.toks) (fun b o hb e => (sb3.2 b hb).trans e) f0 f1 f3 f4 f5, q⟩⟩
/-- .. the dict it walks over locked -/
theorem ps_lockAsg {st : Stmt} {t : TE} {i : Nat} (h : PS X st (tAsg t (gName i))) : PS X st (tAsg (tLockE t) (gName i)) := ps_lock h
end
/-- the j-th statement of a class -/
def clsDef (st : Stmt) (j : Nat) : Stmt := match st with
  | .ClassDef _ _ _ b _ _ _ _ _ _ _ => b.getD j (.Pass ⟨0, 0, 0, 0⟩)
  | _ => .Pass ⟨0, 0, 0, 0⟩
section
variable {P : Program} {w : World} {K : Fg} {mg : Str → Option Value} {base : Heap}
theorem goodM_mk {C m q : Str} {ps : List Str} {k : Nat} {F : FS} {st : Stmt} (FD : ∃ fd, FunD K m q (defArgs st) (defBody st) (defScope st) [] [] (He.ma K (He.ga K C) m) fd) (cl : Cls K (He.ga K C)) (M : Meth K (He.ga K C) m (He.ma K (He.ga K C) m))
    (hb : ∀ (kV doc pm : Value) (an : Option Addr) (cdv ct : Value) (us : List Value), us.length = ps.length → bindArgs (PySem.W.fnOf m q (defArgs st) (defBody st) (defScope st) .none kV doc pm an cdv ct) ⟨us, []⟩ = pure (ps.zip us))
    (ok : ∀ fd, FunD K m q (defArgs st) (defBody st) (defScope st) [] [] (He.ma K (He.ga K C) m) fd → FnOk P w K mg base (L2.CX P w) k (He.ma K (He.ga K C) m) fd ps (spOf K F)) : GoodM P w K mg base C m k ps F := by
  obtain ⟨fd, FD⟩ := FD
  exact ⟨⟨_, fd, ok fd FD, M, FD.bindsN hb⟩, cl⟩
theorem goodI_mk {C q : Str} {ps : List Str} {k : Nat} {F : FS} {st : Stmt} (FD : ∃ fd, FunD K "__init__" q (defArgs st) (defBody st) (defScope st) [] [] (He.ma K (He.ga K C) "__init__") fd) (M : Mk K (He.ga K C) (He.ma K (He.ga K C) "__init__")) (gl : mg C = some (.ref (He.ga K C)))
    (hb : ∀ (kV doc pm : Value) (an : Option Addr) (cdv ct : Value) (us : List Value), us.length = ps.length → bindArgs (PySem.W.fnOf "__init__" q (defArgs st) (defBody st) (defScope st) .none kV doc pm an cdv ct) ⟨us, []⟩ = pure (ps.zip us))
    (ok : ∀ fd, FunD K "__init__" q (defArgs st) (defBody st) (defScope st) [] [] (He.ma K (He.ga K C) "__init__") fd → FnOk P w K mg base (L2.CX P w) k (He.ma K (He.ga K C) "__init__") fd ps (spOf K F)) : GoodI P w K mg base C k ps F := by
  obtain ⟨fd, FD⟩ := FD
  exact ⟨⟨_, fd, ok fd FD, M, FD.bindsN hb⟩, gl⟩
end
end VL

set_option maxHeartbeats 4000000
/-! THE VALUE LAYER 17: methods and makers of which only a property of the answer is told. -/
namespace VL
open PySem PySem.Spec PyProof.Rows L2
section
variable {K : Fg} {c : Cx0} {as : List Addr} {G H : Hp} {σ : L2.St} {s s1 s2 : List Slot} {o o1 o2 os : List Cont} {ks : List Nat} {rs rss : List Slot} {F : FS} {E : XK} {vs : List V} {te : TE} {ta : TA} {D : Ends} {u : TS} {i : Nat} {ω : Type} {P : ω → Prop} {os' : ω → List Cont} {r : ω → Slot}
theorem call_coreF (A : Abs K c as G σ H s o) (hv : VsOk K as G vs rs) (h : Hand o ks os) (hrs : rs = rss.map (slotR ks)) (hp : rss.all (ptS ks.length) = true) (hF : ∀ (R : RT) (X : XT), (∀ w, P w → R (r w) (os' w)) → F rss os R X) {Q : VK}
    (q : ∀ w, P w → ∀ v as' G' H', Pre as as' → Le G G' → Abs K c as' G' σ H' s (cputR o ks (os' w)) → VOk K as' G' v (rmap o.length ks (r w)) → Q v H') : spOf K F vs H Q E := by
  refine ⟨cx1 H G (handM as ks), rss, os, rfl, A.intoR h hrs hp hv, hF _ _ fun w hw => ?_⟩
  intro v asF GF σF HF sF BF hv'
  obtain ⟨as', pp, A2, hr⟩ := A.backR h BF
  exact q w hw v as' GF HF pp BF.g0 A2 (hr v _ hv')
theorem erf_methR {k0 : Nat} {C m : Str} {fs : List (Str × Slot)} (h0 : ER K c te s o s1 o1 (.p k0)) (hk : cget o1 k0 = .obj C fs) (hm : fs.lookup m = none) (h : EA K c ta s1 o1 s2 o2 rs) (hd : Hand o2 ks os) (hrs : .p k0 :: rs = rss.map (slotR ks)) (hp : rss.all (ptS ks.length) = true)
    (hF : ∀ (R : RT) (X : XT), (∀ w, P w → R (r w) (os' w)) → F rss os R X) : ERF K c (tMeth (He.ga K C) m (spOf K F) [] E te ta) s o P (fun _ => s2) (fun w => cputR o2 ks (os' w)) (fun w => rmap o2.length ks (r w)) := fun as G σ H A Q q =>
  h0 as G σ H A _ fun x as1 G1 H1 p1 l1 A1 hx => by
    obtain ⟨a, ha, rfl⟩ := hx
    have st := A1.st k0 a ha
    rw [hk] at st
    obtain ⟨dx, fvs, e1, e2⟩ := st
    refine ⟨a, dx, fvs, rfl, e1, (flds_look e2).1 hm, h as1 G1 σ H1 A1 _ fun vs as2 G2 H2 p2 l2 A2 h2 => ?_⟩
    rw [List.append_nil]
    exact call_coreF A2 (.cons (show VOk K as2 G2 (.ref a) (.p k0) from ⟨a, p2.get ha, rfl⟩) h2) hd hrs hp hF fun w hw v as' G' H' p l A3 hv => q w hw v as' G' H' ((p1.trans p2).trans p) ((l1.trans l2).trans l) A3 hv
theorem erf_makeR {C : Str} (h : EA K c ta s o s1 o1 rs) (hd : Hand (o1 ++ [.obj C []]) ks os) (hrs : .p o1.length :: rs = rss.map (slotR ks)) (hp : rss.all (ptS ks.length) = true)
    (hF : ∀ (R : RT) (X : XT), (∀ w, P w → R (.d ()) (os' w)) → F rss os R X) : ERF K c (tMake (He.ga K C) (spOf K F) [] E ta) s o P (fun _ => s1) (fun w => cputR (o1 ++ [.obj C []]) ks (os' w)) (fun _ => .p o1.length) := fun as G σ H A Q q =>
  h as G σ H A _ fun vs as1 G1 H1 p1 l1 A1 h1 x dx hx hdx ne => by
    rw [List.append_nil]
    have B1 := A1.newD (o := .own x) hdx
    have hx1 : upd H1 dx (.own x) x = none := by rw [upd_ne (Ne.symm ne)]; exact hx
    have l2 : Le G1 (upd G1 dx (.own x)) := Le.upd (A1.sub.free hdx)
    have B2 := B1.newP (o := .ins (He.ga K C) dx []) (ct := .obj C []) hx1 ⟨dx, [], rfl, trivial⟩
    have px : (as1 ++ [x])[o1.length]? = some x := by rw [← A1.asz, List.getElem?_concat_length]
    have mono : ∀ {vs : List V} {rs : List Slot}, VsOk K as1 G1 vs rs → VsOk K (as1 ++ [x]) (upd G1 dx (.own x)) vs rs := by
      intro vs rs h
      induction h with
      | nil => exact .nil
      | cons h t ih => exact .cons (h.mono ⟨[x], rfl⟩ l2) ih
    refine call_coreF B2 (.cons (show VOk K (as1 ++ [x]) _ (.ref x) (.p o1.length) from ⟨x, px, rfl⟩) (mono h1)) hd hrs hp hF fun w hw v as' G' H' p l A3 hv => ⟨?_, ?_⟩
    · exact hv
    · exact q w hw _ as' G' H' ((p1.trans ⟨[x], rfl⟩).trans p) ((l1.trans l2).trans l) A3 ⟨x, p.get px, rfl⟩
variable {s' : ω → List Slot} {o' : ω → List Cont}
theorem s_asgF (h : ERF K c te s o P s' o' r) (hi : ∀ w, i < (s' w).length) (k : ∀ w, P w → Go K c D.nx ((s' w).set i (r w)) (o' w)) : Run K c (tAsg te (gName i)) D s o := fun as G σ H A =>
  h as G σ H A _ fun w hw v as1 G1 H1 _ _ A1 hv => k w hw as1 G1 _ H1 (A1.set (hi w) hv)
theorem s_asgGF {g : TG} {s2 : ω → List Slot} (h : ERF K c te s o P s' o' r) (hg : ∀ w, EG K g (r w) (s' w) (s2 w)) (k : ∀ w, P w → Go K c D.nx (s2 w) (o' w)) : Run K c (tAsg te g) D s o := fun as G σ H A =>
  h as G σ H A _ fun w hw v as1 G1 H1 _ _ A1 hv => hg w c as1 G1 σ H1 (o' w) v A1 hv _ fun σ2 A2 => k w hw as1 G1 σ2 H1 A2
theorem s_dropF (h : ERF K c te s o P s' o' r) (k : ∀ w, P w → Go K c D.nx (s' w) (o' w)) : Run K c (tDrop te) D s o := fun as G σ H A =>
  h as G σ H A _ fun w hw v as1 G1 H1 _ _ A1 hv => k w hw as1 G1 σ H1 A1
end
end VL

set_option maxHeartbeats 4000000
/-! THE VALUE LAYER 18: == of lists of ints. -/
namespace VL
open PySem PySem.Spec PyProof.Rows L2
theorem dep_ints (xs : List Int) : PyData.depthAll (xs.map PyData.int) ≤ 1 := by
  induction xs with
  | nil => simp [PyData.depthAll]
  | cons x xs ih => simp [PyData.depthAll, PyData.depth]; try omega
theorem lay_ints (xs : List Int) : PyData.canLayAll0 (xs.map PyData.int) = true := by
  induction xs with
  | nil => simp [PyData.canLayAll0]
  | cons x xs ih => simp [PyData.canLayAll0, PyData.canLay0, ih]
theorem shaped_ints {xs : List Int} (h : xs.length < 1000) : SeqAt.shaped (.list (xs.map PyData.int)) = true := by
  have h1 := dep_ints xs
  have h2 := lay_ints xs
  simp [SeqAt.shaped, PyData.canLay0, PyData.depth, h2]
  omega
theorem eqv_ints : ∀ xs ys : List Int, PyData.eqvAll (xs.map PyData.int) (ys.map PyData.int) = decide (xs = ys)
  | [], [] => by simp [PyData.eqvAll]
  | [], y :: ys => by simp [PyData.eqvAll]
  | x :: xs, [] => by simp [PyData.eqvAll]
  | x :: xs, y :: ys => by
    simp [PyData.eqvAll, PyData.eqv, eqv_ints xs ys]
    rfl
section
variable {K : Fg} {c : Cx0} {s : List Slot} {o : List Cont} {r1 r2 : Slot}
theorem ov_eqLI {xs ys : List Int} (L1 : LView o r1 xs) (L2 : LView o r2 ys) (h1 : xs.length < 1000) (h2 : ys.length < 1000) : OV K c (uEq K) s o r1 r2 s o (.d (decide (xs = ys))) := fun as G σ H u w A hu hw Q q => by
  obtain ⟨p, vs, rfl, hs, hr⟩ := L1.at_ A hu
  obtain ⟨p2, ws, rfl, hs2, hr2⟩ := L2.at_ A hw
  refine .inr ⟨.list (xs.map PyData.int), .list (ys.map PyData.int), .lst hs (dp_all A.sub hr), .lst hs2 (dp_all A.sub hr2), shaped_ints h1, shaped_ints h2, ?_⟩
  exact q _ as G H (Pre.refl _) (Le.refl _) A (by show V.bl _ = V.bl _; congr 1; rw [← eqv_ints]; simp [PyData.eqv])
end
end VL

set_option maxHeartbeats 4000000
/-! THE VALUE LAYER 19: list + list, and / or whose second part changes the store, calls told by a property. -/
namespace VL
open PySem PySem.Spec PyProof.Rows L2
section
variable {K : Fg} {c : Cx0} {s s1 s2 : List Slot} {o o1 o2 os : List Cont} {ks : List Nat} {rs rss : List Slot} {F : FS} {E : XK} {ta tb : TE} {tt tu : TT} {tas : TA} {r : Slot}
theorem ov_catP {α : Type} [Rp α] {xs ys : List α} {k1 k2 : Nat} (h1 : cget o k1 = .lst xs) (h2 : cget o k2 = .lst ys) (hz : xs.length + ys.length ≤ sizeLine) : OV K c (uAdd K) s o (.p k1) (.p k2) s (o ++ [.lst (xs ++ ys)]) (.p o.length) := fun as G σ H u w A hu hw Q q => by
  obtain ⟨a, ha, rfl⟩ := hu
  obtain ⟨b, hb, rfl⟩ := hw
  obtain ⟨vs, e1, hr1⟩ := at_list A ha h1
  obtain ⟨ws, e2, hr2⟩ := at_list A hb h2
  exact .inr (.inl ⟨a, b, vs, ws, rfl, rfl, e1, e2, by rw [pr_len hr1, pr_len hr2]; exact hz, fun p hp => q _ _ _ _ ⟨[p], rfl⟩ (Le.refl _) (A.newP (o := .lst (vs ++ ws)) (ct := .lst (xs ++ ys)) hp ⟨_, rfl, pr_app hr1 hr2⟩) ⟨p, by rw [← A.asz, List.getElem?_concat_length], rfl⟩⟩)
theorem et_orF {d : Bool} (h : ET K c tt s o s1 o1 false) (h2 : ET K c tu s1 o1 s2 o2 d) : ET K c (tOr tt tu) s o s2 o2 d := fun as G σ H A Q q => h as G σ H A _ fun as1 G1 H1 p1 l1 A1 => by
  rw [if_neg Bool.false_ne_true]; exact h2 as1 G1 σ H1 A1 _ fun as2 G2 H2 p2 l2 A2 => q as2 G2 H2 (p1.trans p2) (l1.trans l2) A2
theorem et_andT {d : Bool} (h : ET K c tt s o s1 o1 true) (h2 : ET K c tu s1 o1 s2 o2 d) : ET K c (tAnd tt tu) s o s2 o2 d := fun as G σ H A Q q => h as G σ H A _ fun as1 G1 H1 p1 l1 A1 => by
  rw [if_pos rfl]; exact h2 as1 G1 σ H1 A1 _ fun as2 G2 H2 p2 l2 A2 => q as2 G2 H2 (p1.trans p2) (l1.trans l2) A2
theorem er_andT (h : ER K c ta s o s1 o1 (.d true)) (h2 : ER K c tb s1 o1 s2 o2 r) : ER K c (tAndV ta tb) s o s2 o2 r := fun as G σ H A Q q => h as G σ H A _ fun v as1 G1 H1 p1 l1 A1 hv => ⟨true, hv, by
  rw [if_pos rfl]; exact h2 as1 G1 σ H1 A1 _ fun v as2 G2 H2 p2 l2 A2 h3 => q v as2 G2 H2 (p1.trans p2) (l1.trans l2) A2 h3⟩
theorem er_orF (h : ER K c ta s o s1 o1 (.d false)) (h2 : ER K c tb s1 o1 s2 o2 r) : ER K c (tOrV ta tb) s o s2 o2 r := fun as G σ H A Q q => h as G σ H A _ fun v as1 G1 H1 p1 l1 A1 hv => ⟨false, hv, by
  rw [if_neg Bool.false_ne_true]; exact h2 as1 G1 σ H1 A1 _ fun v as2 G2 H2 p2 l2 A2 h3 => q v as2 G2 H2 (p1.trans p2) (l1.trans l2) A2 h3⟩
variable {ω : Type} {P : ω → Prop} {os' : ω → List Cont} {rw_ : ω → Slot}
theorem erf_callR (h : EA K c tas s o s1 o1 rs) (hd : Hand o1 ks os) (hrs : rs = rss.map (slotR ks)) (hp : rss.all (ptS ks.length) = true) (hF : ∀ (R : RT) (X : XT), (∀ w, P w → R (rw_ w) (os' w)) → F rss os R X) :
    ERF K c (tCall (spOf K F) [] E tas) s o P (fun _ => s1) (fun w => cputR o1 ks (os' w)) (fun w => rmap o1.length ks (rw_ w)) := fun as G σ H A Q q =>
  h as G σ H A _ fun vs as1 G1 H1 p1 l1 A1 h1 => by
    rw [List.append_nil]
    exact call_coreF A1 h1 hd hrs hp hF fun w hw v as' G' H' p l A2 hv => q w hw v as' G' H' (p1.trans p) (l1.trans l) A2 hv
end
/-- arguments of which only a property is told -/
def EAF (K : Fg) (c : Cx0) {ω : Type} (ta : TA) (s : List Slot) (o : List Cont) (P : ω → Prop) (s' : ω → List Slot) (o' : ω → List Cont) (rs : ω → List Slot) : Prop :=
  ∀ as G σ H, Abs K c as G σ H s o → ∀ Q : List V → Hp → Prop, (∀ w, P w → ∀ vs as' G' H', Pre as as' → Le G G' → Abs K c as' G' σ H' (s' w) (o' w) → VsOk K as' G' vs (rs w) → Q vs H') → ta σ H Q
section
variable {K : Fg} {c : Cx0} {s : List Slot} {o : List Cont} {ks : List Nat} {F : FS} {E : XK} {te ta tb : TE} {tas : TA} {D : Ends} {ω : Type} {P : ω → Prop} {s1 s2 : ω → List Slot} {o1 o2 os os' : ω → List Cont} {r : ω → Slot} {rs rss : ω → List Slot}
theorem eaf_cons (h : ERF K c te s o P s1 o1 r) (hr : ∀ w, P w → EA K c tas (s1 w) (o1 w) (s2 w) (o2 w) (rs w)) : EAF K c (tCons te tas) s o P s2 o2 (fun w => r w :: rs w) := fun as G σ H A Q q =>
  h as G σ H A _ fun w hw v as1 G1 H1 p1 l1 A1 h1 => hr w hw as1 G1 σ H1 A1 _ fun vs as2 G2 H2 p2 l2 A2 h2 => q w hw _ as2 G2 H2 (p1.trans p2) (l1.trans l2) A2 (.cons (h1.mono p2 l2) h2)
theorem erf_callRF (h : EAF K c tas s o P s1 o1 rs) (hd : ∀ w, P w → Hand (o1 w) ks (os w)) (hrs : ∀ w, rs w = (rss w).map (slotR ks)) (hp : ∀ w, (rss w).all (ptS ks.length) = true) (hF : ∀ w, P w → ∀ (R : RT) (X : XT), R (r w) (os' w) → F (rss w) (os w) R X) :
    ERF K c (tCall (spOf K F) [] E tas) s o P s1 (fun w => cputR (o1 w) ks (os' w)) (fun w => rmap (o1 w).length ks (r w)) := fun as G σ H A Q q =>
  h as G σ H A _ fun w hw vs as1 G1 H1 p1 l1 A1 h1 => by
    rw [List.append_nil]
    exact call_core A1 h1 (hd w hw) (hrs w) (hp w) (hF w hw) fun v as' G' H' p l A2 hv => q w hw v as' G' H' (p1.trans p) (l1.trans l) A2 hv
theorem erf_andT (h : ERF K c ta s o P s1 o1 (fun _ => .d true)) (h2 : ∀ w, P w → ER K c tb (s1 w) (o1 w) (s2 w) (o2 w) (r w)) : ERF K c (tAndV ta tb) s o P s2 o2 r := fun as G σ H A Q q => h as G σ H A _ fun w hw v as1 G1 H1 p1 l1 A1 hv => ⟨true, hv, by
  rw [if_pos rfl]; exact h2 w hw as1 G1 σ H1 A1 _ fun v as2 G2 H2 p2 l2 A2 h3 => q w hw v as2 G2 H2 (p1.trans p2) (l1.trans l2) A2 h3⟩
theorem s_retF (h : ERF K c te s o P s1 o1 r) (k : ∀ w, P w → RetOk K c D (o1 w) (s1 w) (r w)) : Run K c (tRet te) D s o := fun as G σ H A => h as G σ H A _ fun w hw v as1 G1 H1 _ _ A1 h1 => k w hw v as1 G1 σ H1 A1 h1
end
theorem cut_last {α : Type} (xs : List α) (x : α) : cutA (xs ++ [x]) none (some (-1)) = xs := by
  unfold cutA
  have e1 : HT.sIx (xs ++ [x]).length 0 none = 0 := rfl
  have e2 : HT.sIx (xs ++ [x]).length (xs ++ [x]).length (some (-1)) = xs.length := by
    show (if (-1 : Int) < 0 then (-1 + (((xs ++ [x]).length : Nat) : Int)).toNat else min (-1 : Int).toNat (xs ++ [x]).length) = xs.length
    rw [if_pos (by decide), List.length_append, List.length_singleton]
    omega
  rw [e1, e2]
  simp
theorem rngl_nodup (lo : Int) (n : Nat) : (rngl lo n).Nodup := by
  unfold rngl
  rw [List.nodup_iff_pairwise_ne, List.pairwise_iff_getElem]
  intro i j hi hj hij
  simp
  omega
theorem rngl_mem {lo : Int} {n : Nat} {x : Int} : x ∈ rngl lo n ↔ lo ≤ x ∧ x < lo + (n : Int) := by
  unfold rngl
  rw [List.mem_map]
  constructor
  · rintro ⟨i, hi, rfl⟩
    have := List.mem_range.mp hi
    omega
  · intro h
    exact ⟨(x - lo).toNat, List.mem_range.mpr (by omega), by omega⟩
end VL

namespace Z11
open PySem PySem.Spec PyProof.Rows L2 VL
/-! ### flows over spans, plainly -/
abbrev Sp := T3 Int Int Int
abbrev Mv := T3 (Option Int) Int Int
structure SpOk (xs : List Sp) (e : Int) : Prop where
  nd : (xs.map (·.a)).Nodup
  ok : ∀ x ∈ xs, 0 ≤ x.b ∧ x.b < x.c ∧ x.c ≤ e
  e1 : 1 ≤ e
def fl (f : List (Int × Int)) (n : Int) : Int := (dget f n).getD 0
def ind (p : Prop) [Decidable p] : Int := if p then 1 else 0
theorem ind_t {p : Prop} [Decidable p] (h : p) : ind p = 1 := if_pos h
theorem ind_f {p : Prop} [Decidable p] (h : ¬ p) : ind p = 0 := if_neg h
def exc (f : Int → Int) (v : Int) : List Sp → Int
  | [] => 0
  | x :: xs => f x.a * (ind (x.b = v) - ind (x.c = v)) + exc f v xs
theorem exc_congr {f g : Int → Int} {v : Int} : ∀ {xs : List Sp}, (∀ x ∈ xs, f x.a = g x.a) → exc f v xs = exc g v xs
  | [], _ => rfl
  | x :: xs, h => by simp only [exc]; rw [h x (by simp), exc_congr fun y m => h y (by simp [m])]
theorem exc_zero {v : Int} : ∀ {xs : List Sp}, exc (fun _ => 0) v xs = 0
  | [] => rfl
  | x :: xs => by simp only [exc]; rw [exc_zero]; omega
theorem exc_upd {f g : Int → Int} {v : Int} {x0 : Sp} : ∀ {xs : List Sp}, (xs.map (·.a)).Nodup → x0 ∈ xs → (∀ n, n ≠ x0.a → g n = f n) → exc g v xs = exc f v xs + (g x0.a - f x0.a) * (ind (x0.b = v) - ind (x0.c = v))
  | x :: xs, nd, m, h => by
    rw [List.map_cons, List.nodup_cons] at nd
    simp only [exc]
    rcases List.mem_cons.mp m with e | m'
    · subst e
      rw [exc_congr (f := g) (g := f) (xs := xs) fun y my => h _ fun e => nd.1 (by rw [← e]; exact List.mem_map.mpr ⟨y, my, rfl⟩)]
      rw [Int.sub_mul]; omega
    · have : x.a ≠ x0.a := fun e => nd.1 (by rw [e]; exact List.mem_map.mpr ⟨x0, m', rfl⟩)
      rw [h _ this, exc_upd nd.2 m' h]; omega
theorem sp_uniq {xs : List Sp} (nd : (xs.map (·.a)).Nodup) {x y : Sp} (hx : x ∈ xs) (hy : y ∈ xs) (e : x.a = y.a) : x = y := by
  induction xs with
  | nil => cases hx
  | cons z zs ih =>
    rw [List.map_cons, List.nodup_cons] at nd
    rcases List.mem_cons.mp hx with h | h <;> rcases List.mem_cons.mp hy with h' | h'
    · rw [h, h']
    · subst h; exact absurd (List.mem_map.mpr ⟨y, h', e.symm⟩) nd.1
    · subst h'; exact absurd (List.mem_map.mpr ⟨x, h, e⟩) nd.1
    · exact ih nd.2 h h'
/-! sums over a side -/
def crs (f : Int → Int) (side : List Int) : List Sp → Int
  | [] => 0
  | x :: xs => f x.a * (ind (x.b ∈ side) - ind (x.c ∈ side)) + crs f side xs
theorem crs_nil {f : Int → Int} : ∀ {xs : List Sp}, crs f [] xs = 0
  | [] => rfl
  | x :: xs => by simp only [crs]; rw [crs_nil, ind_f (by simp), ind_f (by simp)]; omega
theorem crs_cons {f : Int → Int} {v : Int} {side : List Int} (h : v ∉ side) : ∀ {xs : List Sp}, crs f (v :: side) xs = exc f v xs + crs f side xs
  | [] => rfl
  | x :: xs => by
    have key : ∀ b : Int, ind (b ∈ v :: side) = ind (b = v) + ind (b ∈ side) := fun b => by
      by_cases e : b = v
      · subst e; rw [ind_t (by simp), ind_t rfl, ind_f h]; rfl
      · by_cases m : b ∈ side
        · rw [ind_t (by simp [m]), ind_f e, ind_t m]; rfl
        · rw [ind_f (by simp [e, m]), ind_f e, ind_f m]; rfl
    simp only [crs, exc]
    rw [crs_cons h, key, key]
    have : ∀ a b c d e : Int, a * (b + c - (d + e)) = a * (b - d) + a * (c - e) := fun a b c d e => by rw [← Int.mul_add]; congr 1; omega
    rw [this]; omega
theorem crs_many {f : Int → Int} {xs : List Sp} {m : Int} : ∀ {side : List Int}, side.Nodup → (∀ v ∈ side, exc f v xs = if v = 0 then m else 0) → crs f side xs = if 0 ∈ side then m else 0
  | [], _, _ => by rw [crs_nil]; simp
  | v :: side, nd, h => by
    rw [List.nodup_cons] at nd
    rw [crs_cons nd.1, crs_many nd.2 fun w m => h w (by simp [m]), h v (by simp)]
    by_cases e : v = 0
    · subst e; rw [if_pos rfl, if_neg nd.1, if_pos (by simp)]; omega
    · rw [if_neg e]; simp [Ne.symm e]
def cross (side : List Int) (x : Sp) : Bool := decide (x.b ∈ side) != decide (x.c ∈ side)
def Closed (f : Int → Int) (side : List Int) (xs : List Sp) (p : Int) : Prop := ∀ x ∈ xs, (x.b = p → f x.a < 1 → x.c ∈ side) ∧ (x.c = p → -1 < f x.a → x.b ∈ side)
def Bd1 (f : Int → Int) : Prop := ∀ n, -1 ≤ f n ∧ f n ≤ 1
theorem crs_len {f : Int → Int} {side : List Int} (hb : Bd1 f) : ∀ {xs : List Sp}, (∀ p ∈ side, Closed f side xs p) → crs f side xs = ((xs.filter (cross side)).length : Int)
  | [], _ => rfl
  | x :: xs, h => by
    have ih := crs_len hb (xs := xs) fun p m y my => h p m y (by simp [my])
    simp only [crs]; rw [ih]
    by_cases m1 : x.b ∈ side <;> by_cases m2 : x.c ∈ side
    · rw [List.filter_cons_of_neg (by simp [cross, m1, m2]), ind_t m1, ind_t m2]; omega
    · have e : f x.a = 1 := by
        have := (hb x.a).2
        rcases Int.lt_or_le (f x.a) 1 with z | z
        · exact absurd ((h _ m1 x (by simp)).1 rfl z) m2
        · omega
      rw [List.filter_cons_of_pos (by simp [cross, m1, m2]), ind_t m1, ind_f m2, e, List.length_cons]; omega
    · have e : f x.a = -1 := by
        have := (hb x.a).1
        rcases Int.lt_or_le (-1) (f x.a) with z | z
        · exact absurd ((h _ m2 x (by simp)).2 rfl z) m1
        · omega
      rw [List.filter_cons_of_pos (by simp [cross, m1, m2]), ind_f m1, ind_t m2, e, List.length_cons]; omega
    · rw [List.filter_cons_of_neg (by simp [cross, m1, m2]), ind_f m1, ind_f m2]; omega
/-! the value is bounded by the spans -/
theorem exc_le {f : Int → Int} (hb : Bd1 f) : ∀ {xs : List Sp}, (∀ x ∈ xs, 0 ≤ x.b ∧ x.b < x.c) → exc f 0 xs ≤ (xs.length : Int)
  | [], _ => Int.le_refl _
  | x :: xs, h => by
    have ih := exc_le hb (xs := xs) fun y m => h y (by simp [m])
    have := h x (by simp)
    have := (hb x.a).2
    simp only [exc]; rw [ind_f (p := x.c = 0) (by omega), List.length_cons]
    by_cases e : x.b = 0
    · rw [ind_t e]; omega
    · rw [ind_f e]; omega
theorem exc_lt {f : Int → Int} (hb : Bd1 f) : ∀ {xs : List Sp}, (∀ x ∈ xs, 0 ≤ x.b ∧ x.b < x.c) → (∃ x ∈ xs, x.b = 0 ∧ f x.a < 1) → exc f 0 xs < (xs.length : Int)
  | x :: xs, h, ⟨y, my, e0, lt⟩ => by
    have hx := h x (by simp)
    have hx2 := (hb x.a).2
    simp only [exc]; rw [ind_f (p := x.c = 0) (by omega), List.length_cons]
    rcases List.mem_cons.mp my with e | m
    · subst e
      have := exc_le hb (xs := xs) fun y m => h y (by simp [m])
      rw [ind_t e0]; omega
    · have := exc_lt hb (xs := xs) (fun y m => h y (by simp [m])) ⟨y, m, e0, lt⟩
      by_cases e : x.b = 0
      · rw [ind_t e]; omega
      · rw [ind_f e]; omega
/-! moves -/
abbrev ks (ms : List (Int × Mv)) : List Int := ms.map (·.1)
inductive MOk (xs : List Sp) (f : Int → Int) : List (Int × Mv) → Prop
  | base : MOk xs f [(0, ⟨none, 0, 0⟩)]
  | snoc {ms : List (Int × Mv)} {y t p : Int} {x : Sp} : MOk xs f ms → y ∉ ks ms → p ∈ ks ms → x ∈ xs → (t = 1 ∧ x.b = p ∧ x.c = y ∧ f x.a < 1 ∨ t = -1 ∧ x.c = p ∧ x.b = y ∧ -1 < f x.a) → MOk xs f (ms ++ [(y, ⟨some x.a, t, p⟩)])
variable {xs : List Sp} {f : Int → Int} {ms : List (Int × Mv)}
theorem MOk.nd (h : MOk xs f ms) : (ks ms).Nodup := by
  induction h with
  | base => simp [ks]
  | snoc h h1 h2 h3 h4 ih =>
    rw [ks, List.map_append, List.nodup_append]
    refine ⟨ih, by simp, fun a ha b hb e => ?_⟩
    simp at hb; subst hb; subst e; exact h1 ha
theorem MOk.zero (h : MOk xs f ms) : (0 : Int) ∈ ks ms := by
  induction h with
  | base => simp [ks]
  | snoc h h1 h2 h3 h4 ih => rw [ks, List.map_append]; exact List.mem_append_left _ ih
theorem MOk.rng {e : Int} (hs : SpOk xs e) (h : MOk xs f ms) : ∀ y ∈ ks ms, 0 ≤ y ∧ y ≤ e := by
  induction h with
  | base => intro y hy; simp [ks] at hy; have := hs.e1; omega
  | snoc h h1 h2 h3 h4 ih =>
    intro y hy
    rw [ks, List.map_append, List.mem_append] at hy
    rcases hy with m | m
    · exact ih y m
    · simp at m; have := hs.ok _ h3; rcases h4 with h4 | h4 <;> omega
theorem app_inj {α : Type} {m a b : List α} {z w : α} (e : m ++ [z] = a ++ (b ++ [w])) : m = a ++ b ∧ z = w := by
  rw [← List.append_assoc] at e
  have := List.append_inj' e rfl
  exact ⟨this.1, by simpa using this.2⟩
theorem app_last {α : Type} {m a : List α} {z w : α} (e : m ++ [z] = a ++ [w]) : m = a ∧ z = w := by
  have := List.append_inj' e rfl
  exact ⟨this.1, by simpa using this.2⟩
theorem MOk.pre {l : List (Int × Mv)} (h : MOk xs f l) : ∀ {a b : List (Int × Mv)}, l = a ++ b → a ≠ [] → MOk xs f a := by
  induction h with
  | base =>
    intro a b e ha
    cases a with
    | nil => exact absurd rfl ha
    | cons z zs =>
      simp at e; obtain ⟨e1, e2, e3⟩ := e
      subst e2; subst e1; exact .base
  | snoc h h1 h2 h3 h4 ih =>
    intro a b e ha
    rcases List.eq_nil_or_concat b with e' | ⟨b', w, e'⟩
    · subst e'; rw [List.append_nil] at e; rw [← e]; exact .snoc h h1 h2 h3 h4
    · rw [List.concat_eq_append] at e'; subst e'
      exact ih (app_inj e).1 ha
theorem MOk.first (hs : ∀ x ∈ xs, 0 ≤ x.b ∧ x.b < x.c) (h : MOk xs f ms) : ∀ y ∈ ks ms, y ≠ 0 → ∃ x ∈ xs, x.b = 0 ∧ f x.a < 1 := by
  induction h with
  | base => intro y hy; simp [ks] at hy; intro z; exact absurd hy z
  | @snoc ms y t p x h h1 h2 h3 h4 ih =>
    intro z hz z0
    rw [ks, List.map_append, List.mem_append] at hz
    rcases hz with m | m
    · exact ih z m z0
    · have := hs _ h3
      by_cases p0 : p = 0
      · rcases h4 with h4 | h4
        · exact ⟨x, h3, by omega, h4.2.2.2⟩
        · omega
      · exact ih p h2 p0
/-- a span used: its entry and all after it gone, the rest still stands -/
def bump (f : Int → Int) (n t : Int) : Int → Int := fun m => if m = n then f n + t else f m
theorem MOk.off (nd : (xs.map (·.a)).Nodup) {y p t : Int} {x : Sp} (hx : x ∈ xs) (he : x.b = p ∧ x.c = y ∨ x.c = p ∧ x.b = y) (h : MOk xs f ms) : y ∉ ks ms → MOk xs (bump f x.a t) ms := by
  induction h with
  | base => intro _; exact .base
  | @snoc ms z t' q w h h1 h2 h3 h4 ih =>
    intro hy
    rw [ks, List.map_append, List.mem_append, not_or] at hy
    have zy : y ≠ z := by simpa using hy.2
    have qy : y ≠ q := fun e => hy.1 (e ▸ h2)
    have ne : w.a ≠ x.a := fun e => by
      have := sp_uniq nd h3 hx e
      subst this
      omega
    refine .snoc (ih hy.1) h1 h2 h3 ?_
    unfold bump; rw [if_neg ne]; exact h4
structure PushOk (xs : List Sp) (f : Int → Int) (pre : List (Int × Mv)) (y n t p : Int) : Prop where
  p_in : p ∈ ks pre
  ok : MOk xs (bump f n t) pre
  x_in : ∃ x ∈ xs, x.a = n
  ex : ∀ v, exc (bump f n t) v xs = exc f v xs + ind (p = v) - ind (y = v)
  bd : Bd1 f → Bd1 (bump f n t)
theorem MOk.push (nd : (xs.map (·.a)).Nodup) {pre : List (Int × Mv)} {y n t p : Int} (h : MOk xs f (pre ++ [(y, ⟨some n, t, p⟩)])) : PushOk xs f pre y n t p := by
  generalize e : pre ++ [(y, (⟨some n, t, p⟩ : Mv))] = l at h
  cases h with
  | base =>
    have := app_last (m := pre) (a := []) e
    exact absurd (congrArg (fun q : Int × Mv => q.2.a) this.2) (by simp)
  | @snoc ms y' t' p' x h h1 h2 h3 h4 =>
    obtain ⟨e1, e2⟩ := app_last e
    subst e1
    simp at e2
    obtain ⟨e3, e4, e5, e6⟩ := e2
    subst e3; subst e4; subst e5; subst e6
    refine ⟨h2, MOk.off nd h3 (show x.b = p ∧ x.c = y ∨ x.c = p ∧ x.b = y by omega) h h1, ⟨x, h3, rfl⟩, fun v => ?_, fun hb m => ?_⟩
    · rw [exc_upd (f := f) (g := bump f x.a t) nd h3 (fun n hn => if_neg hn)]
      have : bump f x.a t x.a - f x.a = t := by unfold bump; rw [if_pos rfl]; omega
      rw [this]
      rcases h4 with ⟨e1, e2, e3, e4⟩ | ⟨e1, e2, e3, e4⟩
      · rw [e1, e2, e3]; omega
      · rw [e1, e2, e3]; omega
    · unfold bump; split
      · have := hb x.a; omega
      · exact hb m
theorem MOk.stop {pre : List (Int × Mv)} {y t p : Int} (h : MOk xs f (pre ++ [(y, ⟨none, t, p⟩)])) : y = 0 := by
  generalize e : pre ++ [(y, (⟨none, t, p⟩ : Mv))] = l at h
  cases h with
  | base => have := app_last (m := pre) (a := []) e; exact congrArg (fun q : Int × Mv => q.1) this.2
  | snoc h h1 h2 h3 h4 => have := app_last e; exact absurd (congrArg (fun q : Int × Mv => q.2.a) this.2) (by simp)
/-- an entry of the dict, and what stands before it -/
theorem ent {α : Type} : ∀ {l : List (Int × α)} {y : Int}, y ∈ l.map (·.1) → ∃ pre mv post, l = pre ++ [(y, mv)] ++ post ∧ dget l y = some mv
  | (z, m) :: l, y, h => by
    by_cases e : z = y
    · subst e; exact ⟨[], m, l, rfl, by rw [dget_cons, if_pos rfl]⟩
    · have : y ∈ l.map (·.1) := by
        rcases List.mem_cons.mp h with h | h
        · exact absurd h.symm e
        · exact h
      obtain ⟨pre, mv, post, e1, e2⟩ := ent this
      exact ⟨(z, m) :: pre, mv, post, by rw [e1]; rfl, by rw [dget_cons, if_neg e]; exact e2⟩
theorem dget_in {α : Type} {l : List (Int × α)} {y : Int} : (dget l y).isSome = true ↔ y ∈ l.map (·.1) := by
  induction l with
  | nil => simp [dget]
  | cons p l ih =>
    rw [dget_cons, List.map_cons, List.mem_cons]
    by_cases e : p.1 = y
    · simp [e]
    · rw [if_neg e, ih]
      constructor
      · exact .inr
      · rintro (h | h)
        · exact absurd h.symm e
        · exact h
theorem dget_at {α : Type} {pre post : List (Int × α)} {y : Int} {mv : α} (nd : ((pre ++ [(y, mv)] ++ post).map (·.1)).Nodup) : dget (pre ++ [(y, mv)] ++ post) y = some mv := by
  induction pre with
  | nil => simp [dget_cons]
  | cons p l ih =>
    simp only [List.cons_append, List.map_cons, List.nodup_cons] at nd
    simp only [List.cons_append]
    rw [dget_cons, if_neg fun e => nd.1 (by simp [e])]
    exact ih nd.2
/-! dicts of flows -/
theorem dput_get {f : List (Int × Int)} {n x m : Int} (h : (dget f n).isSome = true) : dget (dput f n x) m = if m = n then some x else dget f m := by
  have key : (f.any fun p => decide (p.1 = n)) = true := by
    rw [dget_in] at h
    obtain ⟨p, hp, e⟩ := List.mem_map.mp h
    exact List.any_eq_true.mpr ⟨p, hp, by simpa using e⟩
  unfold dput; rw [if_pos key]
  clear key
  induction f with
  | nil => simp [dget] at h
  | cons p l ih =>
    rw [List.map_cons, dget_cons, dget_cons]
    by_cases e : p.1 = n
    · rw [if_pos e]
      by_cases em : m = n
      · subst em; simp [e]
      · rw [if_neg (by simp only; omega), if_neg em, if_neg (by omega)]
        by_cases hl : (dget l n).isSome = true
        · rw [ih hl, if_neg em]
        · have : n ∉ l.map (·.1) := fun z => hl (dget_in.mpr z)
          rw [show l.map (fun p => if p.1 = n then (p.1, x) else p) = l from ?_]
          exact (List.map_congr_left fun q hq => if_neg fun z => this (List.mem_map.mpr ⟨q, hq, z⟩)).trans (List.map_id _)
    · rw [if_neg e]
      have hl : (dget l n).isSome = true := by rw [dget_cons, if_neg e] at h; exact h
      rw [ih hl]
      by_cases em : p.1 = m
      · rw [if_pos em, if_pos em, if_neg (by omega)]
      · rw [if_neg em, if_neg em]
theorem dput_fl {f : List (Int × Int)} {n t : Int} (h : (dget f n).isSome = true) : fl (dput f n (fl f n + t)) = bump (fl f) n t := by
  funext m
  unfold fl bump
  rw [dput_get h]
  by_cases e : m = n
  · rw [if_pos e, if_pos e]; rfl
  · rw [if_neg e, if_neg e]
theorem dput_key {f : List (Int × Int)} {n x m : Int} (h : (dget f n).isSome = true) : (dget (dput f n x) m).isSome = (dget f m).isSome := by
  rw [dput_get h]
  by_cases e : m = n
  · rw [if_pos e, e, h]; rfl
  · rw [if_neg e]
theorem dput_length {f : List (Int × Int)} {n x : Int} (h : (dget f n).isSome = true) : (dput f n x).length = f.length := by
  have key : (f.any fun p => decide (p.1 = n)) = true := by
    rw [dget_in] at h
    obtain ⟨p, hp, e⟩ := List.mem_map.mp h
    exact List.any_eq_true.mpr ⟨p, hp, by simpa using e⟩
  unfold dput; rw [if_pos key, List.length_map]
theorem ddrop_get {α : Type} {f : List (Int × α)} {n m : Int} : dget (ddrop f n) m = if m = n then none else dget f m := by
  induction f with
  | nil => simp [ddrop, dget]
  | cons p l ih =>
    unfold ddrop at ih ⊢
    by_cases e : p.1 = n
    · rw [List.filter_cons_of_neg (by simp [e]), ih, dget_cons]
      by_cases em : m = n
      · rw [if_pos em, if_pos em]
      · rw [if_neg em, if_neg em, if_neg (by omega)]
    · rw [List.filter_cons_of_pos (by simp [e]), dget_cons, dget_cons, ih]
      by_cases em : p.1 = m
      · rw [if_pos em, if_pos em, if_neg (by omega)]
      · rw [if_neg em, if_neg em]
theorem ddrop_len {α : Type} {f : List (Int × α)} {n : Int} (h : (dget f n).isSome = true) : (ddrop f n).length < f.length := by
  rw [dget_in] at h
  obtain ⟨p, hp, e⟩ := List.mem_map.mp h
  unfold ddrop
  exact List.length_filter_lt_length_iff_exists.mpr ⟨p, hp, by simpa using e⟩
theorem ddrop_fl {f : List (Int × Int)} {n : Int} : fl (ddrop f n) = fun m => if m = n then 0 else fl f m := by
  funext m; unfold fl; rw [ddrop_get]
  by_cases e : m = n
  · rw [if_pos e, if_pos e]; rfl
  · rw [if_neg e, if_neg e]
/-! threads -/
def Leaves (f : List (Int × Int)) (place : Int) (x : Sp) : T3 Int Int Int → Prop := fun r => dget f x.a = some 1 ∧ x.b = place ∧ r = ⟨x.a, 1, x.c⟩ ∨ dget f x.a = some (-1) ∧ x.c = place ∧ r = ⟨x.a, -1, x.b⟩
theorem leaves_ex {f : List (Int × Int)} {v : Int} (hb : Bd1 (fl f)) : ∀ {xs : List Sp}, 0 < exc (fl f) v xs → ∃ x ∈ xs, ∃ r, Leaves f v x r
  | [], h => absurd h (by simp [exc])
  | x :: xs, h => by
    by_cases z : 0 < exc (fl f) v xs
    · obtain ⟨y, hy, r, hr⟩ := leaves_ex hb z; exact ⟨y, by simp [hy], r, hr⟩
    · simp only [exc] at h
      have pos : 0 < fl f x.a * (ind (x.b = v) - ind (x.c = v)) := by omega
      refine ⟨x, by simp, ?_⟩
      have hx := hb x.a
      have g : ∀ i, fl f x.a = i → i ≠ 0 → dget f x.a = some i := fun i e ne => by
        unfold fl at e
        cases q : dget f x.a with
        | none => rw [q] at e; simp at e; omega
        | some j => rw [q] at e; simp at e; rw [e]
      by_cases h1 : x.b = v <;> by_cases h2 : x.c = v
      · rw [ind_t h1, ind_t h2] at pos; omega
      · rw [ind_t h1, ind_f h2] at pos
        exact ⟨_, .inl ⟨g 1 (by omega) (by omega), h1, rfl⟩⟩
      · rw [ind_f h1, ind_t h2] at pos
        exact ⟨_, .inr ⟨g (-1) (by omega) (by omega), h2, rfl⟩⟩
      · rw [ind_f h1, ind_f h2] at pos; omega
theorem leaves_step {f : List (Int × Int)} {v : Int} {x : Sp} {r : T3 Int Int Int} (nd : (xs.map (·.a)).Nodup) (hx : x ∈ xs) (h : Leaves f v x r) : (∀ w, exc (fl (ddrop f r.a)) w xs = exc (fl f) w xs - ind (v = w) + ind (r.c = w)) ∧ (dget f r.a).isSome = true ∧ r.a = x.a := by
  have g : ∀ i, dget f x.a = some i → ∀ w, exc (fl (ddrop f x.a)) w xs = exc (fl f) w xs - i * (ind (x.b = w) - ind (x.c = w)) := fun i e w => by
    rw [ddrop_fl, exc_upd (f := fl f) nd hx (fun n hn => if_neg hn)]
    rw [if_pos rfl]
    have : fl f x.a = i := by unfold fl; rw [e]; rfl
    rw [this, show (0 : Int) - i = -i by omega, Int.neg_mul]; omega
  rcases h with ⟨e, h1, h2⟩ | ⟨e, h1, h2⟩
  · subst h2; refine ⟨fun w => ?_, by simp [e], rfl⟩
    simp only; rw [g 1 e, h1]; omega
  · subst h2; refine ⟨fun w => ?_, by simp [e], rfl⟩
    simp only; rw [g (-1) e, h1]; omega
inductive Steps (xs : List Sp) : List (T2 Int Int) → Int → Prop
  | nil : Steps xs [] 0
  | snoc {ss : List (T2 Int Int)} {p q t : Int} {x : Sp} : Steps xs ss p → x ∈ xs → (t = 1 ∧ x.b = p ∧ x.c = q ∨ t = -1 ∧ x.c = p ∧ x.b = q) → Steps xs (ss ++ [⟨x.a, t⟩]) q
def nodesOf (ths : List (Tup (T2 Int Int))) : List Int := ths.flatMap fun t => t.l.map (·.a)
structure ThOk (xs : List Sp) (e : Int) (ths : List (Tup (T2 Int Int))) : Prop where
  st : ∀ t ∈ ths, Steps xs t.l e
  nd : (nodesOf ths).Nodup
/-! closed searches and their cut -/
structure Done (xs : List Sp) (e m : Int) (f : Int → Int) (side : List Int) : Prop where
  nd : side.Nodup
  zero : 0 ∈ side
  out : e ∉ side
  rng : ∀ y ∈ side, 0 ≤ y ∧ y ≤ e
  cl : ∀ p ∈ side, Closed f side xs p
theorem cut_many {e m : Int} {side : List Int} (hb : Bd1 f) (hx : ∀ v, v ≠ e → exc f v xs = if v = 0 then m else 0) (h : Done xs e m f side) : ((xs.filter (cross side)).length : Int) = m := by
  rw [← crs_len hb h.cl, crs_many h.nd fun v hv => hx v fun z => h.out (z ▸ hv), if_pos h.zero]
end Z11

set_option maxHeartbeats 4000000
namespace Z11
open PySem PySem.Spec PyProof.Rows L2 VL
/-! ### what the defs promise -/
abbrev Fl := List (Int × Int)
def z4 (e m : Int) : Cont := .obj "Zigzag" [("_spans", .p 1), ("_end", .d e), ("_flows", .p 2), ("_many", .d m)]
def z5 (e m : Int) : Cont := .obj "Zigzag" [("_spans", .p 1), ("_end", .d e), ("_flows", .p 2), ("_many", .d m), ("_side", .p 3)]
/-- the spans drawn: nodes apart and small, few -/
structure SpIn (xs : List Sp) (e : Int) : Prop where
  ok : SpOk xs e
  len : xs.length < 64
  e2 : e ≤ 100
  bd : ∀ x ∈ xs, 0 ≤ x.a ∧ x.a < 1000
structure FlOk (xs : List Sp) (e m : Int) (f : Fl) : Prop where
  key : ∀ x ∈ xs, (dget f x.a).isSome = true
  bd : Bd1 (fl f)
  ex : ∀ v, v ≠ e → exc (fl f) v xs = if v = 0 then m else 0
  len : f.length < 64
  nd : (f.map (·.1)).Nodup
def SrOk (xs : List Sp) (f : Fl) (ms : List (Int × Mv)) : Prop := MOk xs (fl f) ms ∧ ∀ p ∈ ks ms, Closed (fl f) (ks ms) xs p
def F_Zigzag__search : FS := fun ss os R X => ∃ (xs : List Sp) (e m : Int) (f : Fl), ss = [.p 0] ∧ os = [z4 e m, .lst xs, .dct f] ∧ SpIn xs e ∧ FlOk xs e m f ∧ ∀ ms, SrOk xs f ms → R (.d (Dct.mk ms)) [z4 e m, .lst xs, .dct f]
def F_Zigzag__push : FS := fun ss os R X => ∃ (ms : List (Int × Mv)) (xs : List Sp) (e m : Int) (f : Fl), ss = [.p 0, .d (Dct.mk ms)] ∧ os = [z4 e m, .lst xs, .dct f] ∧ SpIn xs e ∧ FlOk xs e m f ∧ MOk xs (fl f) ms ∧ e ∈ ks ms ∧ ∀ f', FlOk xs e (m + 1) f' → R (.d ()) [z4 e (m + 1), .lst xs, .dct f']
def F_Zigzag__leaving : FS := fun ss os R X => ∃ (place : Int) (xs : List Sp) (e m : Int) (f left : Fl) (side : List Int), ss = [.p 0, .d place, .p 4] ∧ os = [z5 e m, .lst xs, .dct f, .lst side, .dct left] ∧ SpIn xs e ∧ (∃ x ∈ xs, ∃ r, Leaves left place x r) ∧ ∀ x r, x ∈ xs → Leaves left place x r → R (.d r) [z5 e m, .lst xs, .dct f, .lst side, .dct left]
def F_Zigzag_threads : FS := fun ss os R X => ∃ (xs : List Sp) (e m : Int) (f : Fl) (side : List Int), ss = [.p 0] ∧ os = [z5 e m, .lst xs, .dct f, .lst side] ∧ SpIn xs e ∧ FlOk xs e m f ∧ 0 ≤ m ∧ m < 64 ∧ ∀ ths, ThOk xs e ths → (ths.length : Int) = m → R (.p 4) [z5 e m, .lst xs, .dct f, .lst side, .lst ths]
def F_Zigzag_side : FS := fun ss os R X => ∃ (xs : List Sp) (e m : Int) (f : Fl) (side : List Int), ss = [.p 0] ∧ os = [z5 e m, .lst xs, .dct f, .lst side] ∧ R (.p 4) [z5 e m, .lst xs, .dct f, .lst side, .lst side]
def F_Zigzag_cut : FS := fun ss os R X => ∃ (xs : List Sp) (e m : Int) (f : Fl) (side : List Int), ss = [.p 0] ∧ os = [z5 e m, .lst xs, .dct f, .lst side] ∧ SpIn xs e ∧ R (.p 4) [z5 e m, .lst xs, .dct f, .lst side, .lst (srtI ((xs.filter (cross side)).map (·.a)))]
/-- the made one: its list of spans, its flows, its side (the given list at 1 stays) -/
def zi (e m : Int) : Cont := .obj "Zigzag" [("_spans", .p 2), ("_end", .d e), ("_flows", .p 3), ("_many", .d m), ("_side", .p 5)]
def F_Zigzag___init__ : FS := fun ss os R X => ∃ (xs : List Sp) (e : Int), ss = [.p 0, .p 1, .d e] ∧ os = [.obj "Zigzag" [], .lst xs] ∧ SpIn xs e ∧ ∀ f m side, FlOk xs e m f → Done xs e m (fl f) side → side.Pairwise (· < ·) → 0 ≤ m → R (.d ()) [zi e m, .lst xs, .lst xs, .dct f, .gone, .lst side]
/-! the law's own defs -/
def drawV (xs : List Int) (n : Int) : Int := match xs.getLast? with
  | none => 0
  | some x => x % n
def F__law_stream : FS := fun ss os R X => ∃ xs : List Int, ss = [.d xs] ∧ os = [] ∧ ∀ ys : List Int, R (.p 0) [.lst ys]
def F__law_draw : FS := fun ss os R X => ∃ (xs : List Int) (n : Int), ss = [.p 0, .d n] ∧ os = [.lst xs] ∧ 0 < n ∧ R (.d (drawV xs n)) [.lst xs.dropLast]
def F__law_ints : FS := fun ss os R X => ∃ (xs ys : List Int), ss = [.p 0, .p 1] ∧ os = [.lst xs, .lst ys] ∧ xs.length < 1000 ∧ ys.length < 1000 ∧ R (.d (decide (xs = ys))) [.lst xs, .lst ys]
def F__law_spans_drawn : FS := fun ss os R X => ∃ (ys : List Int) (many most : Int), ss = [.p 0, .d many, .d most] ∧ os = [.lst ys] ∧ 0 ≤ many ∧ many ≤ 40 ∧ 1 ≤ most ∧ most ≤ 60 ∧ ∀ (zs : List Int) (xs : List Sp), SpIn xs most → R (.p 1) [.lst zs, .lst xs]
/-- a thread walked: its steps from 0 to p, over nodes not in used -/
def F__law_thread_ends : FS := fun ss os R X => ∃ (steps : Tup (T2 Int Int)) (xs : List Sp) (used : List Int) (p : Int), ss = [.d steps, .p 0, .p 1] ∧ os = [.lst xs, .lst used] ∧ (xs.map (·.a)).Nodup ∧ xs.length < 64 ∧ steps.l.length ≤ 1000 ∧ used.length ≤ 1000 ∧ Steps xs steps.l p ∧ (used ++ steps.l.map (·.a)).Nodup ∧ R (.d p) [.lst xs, .lst (used ++ steps.l.map (·.a))]
def F__law_side : FS := fun ss os R X => ∃ (side : List Int) (most : Int), ss = [.p 0, .d most] ∧ os = [.lst side] ∧ side.Pairwise (· < ·) ∧ 0 ∈ side ∧ most ∉ side ∧ (∀ y ∈ side, 0 ≤ y ∧ y ≤ most) ∧ side.length < 64 ∧ R (.d true) [.lst side]
def F__law_holds : FS := fun ss os R X => ∃ (xs : List Sp) (most : Int), ss = [.p 0, .d most] ∧ os = [.lst xs] ∧ SpIn xs most ∧ most ≤ 60 ∧ R (.d true) [.lst xs]
def F_law : FS := fun ss os R X => ∃ xs : List Int, ss = [.d xs] ∧ os = [] ∧ xs.length ≤ 63 ∧ R (.d true) []
end Z11

set_option maxHeartbeats 4000000
namespace Z11
open PySem PySem.Spec PyProof.Rows L2 VL
def top (i : Nat) : Stmt := PySem.Challenge.pw_foldsunseen_k11_zigzags.main.body.getD i (.Pass ⟨0, 0, 0, 0⟩)
abbrev s_Zigzag__search : Stmt := clsDef (top 1) 1
theorem sc_Zigzag__search : FnScope ["self", "moves", "queue", "done", "place", "node", "begin", "stop", "flow"] ["self"] (defScope s_Zigzag__search) := ⟨rfl, rfl, rfl, by decide +kernel, rfl, by decide +kernel, by decide +kernel⟩
def t_Zigzag__search (K : Fg) (E : XK) : TS := (tSeq (tAsg (tDisp (((tC (.int 0)), (tTup (tCons (tC .non) (tCons (tC (.int 0)) (tCons (tC (.int 0)) tNil))))) :: [])) (gName 1))
  (tSeq (tAsg (tLst (tCons (tC (.int 0)) tNil)) (gName 2))
  (tSeq (tAsg (tC (.int 0)) (gName 3))
  (tSeq (tWhile (tB (tOp uLt (tVar 3) (tCB (uLen K) (tCons (tVar 2) tNil)))) (tSeq (tAsg (uIx K (tVar 2) (tVar 3)) (gName 4))
  (tSeq (tAug 3 (tC (.int 1)) (ipI fun i j => i + j))
  (tFor (iSeq K (tFld K (tVar 0) "_spans")) (gTup K 3 (gCons (gName 5) (gCons (gName 6) (gCons (gName 7) gNil)))) (tSeq (tAsg (uIx K (tFld K (tVar 0) "_flows") (tVar 5)) (gName 8))
  (tIfS (tAnd (tB (tOp (uEq K) (tVar 6) (tVar 4))) (tAnd (tB (tOp uLt (tVar 8) (tC (.int 1)))) (tB (uNotIn K (tVar 7) (tVar 1))))) (tSeq (sPut (tVar 1) (tVar 7) (tTup (tCons (tVar 5) (tCons (tC (.int 1)) (tCons (tVar 4) tNil)))))
  (tDrop (tBM K "list" rAppend (tVar 2) (tCons (tVar 7) tNil)))) (tIfS (tAnd (tB (tOp (uEq K) (tVar 7) (tVar 4))) (tAnd (tB (tOp uGt (tVar 8) (tUn (rU fun i => .int (-i)) (tC (.int 1))))) (tB (uNotIn K (tVar 6) (tVar 1))))) (tSeq (sPut (tVar 1) (tVar 6) (tTup (tCons (tVar 5) (tCons (tUn (rU fun i => .int (-i)) (tC (.int 1))) (tCons (tVar 4) tNil)))))
  (tDrop (tBM K "list" rAppend (tVar 2) (tCons (tVar 6) tNil)))) tNext)))))))
  (tRet (tVar 1))))))
abbrev s_Zigzag__push : Stmt := clsDef (top 1) 2
theorem sc_Zigzag__push : FnScope ["self", "moves", "node", "turn", "place"] ["self", "moves"] (defScope s_Zigzag__push) := ⟨rfl, rfl, rfl, by decide +kernel, rfl, by decide +kernel, by decide +kernel⟩
def t_Zigzag__push (K : Fg) (E : XK) : TS := (tSeq (sFldAug K (tVar 0) (tC (.int 1)) (ipI fun i j => i + j) "_many")
  (tSeq (tAsg (uIx K (tVar 1) (tFld K (tVar 0) "_end")) (gTup K 3 (gCons (gName 2) (gCons (gName 3) (gCons (gName 4) gNil)))))
  (tWhile (tB (tOp uIsN (tVar 2) (tC .non))) (tSeq (sPut (tFld K (tVar 0) "_flows") (tVar 2) (tOp (uAdd K) (uIx K (tFld K (tVar 0) "_flows") (tVar 2)) (tVar 3)))
  (tAsg (uIx K (tVar 1) (tVar 4)) (gTup K 3 (gCons (gName 2) (gCons (gName 3) (gCons (gName 4) gNil)))))))))
abbrev s_Zigzag__leaving : Stmt := clsDef (top 1) 3
theorem sc_Zigzag__leaving : FnScope ["self", "place", "left", "node", "begin", "stop"] ["self", "place", "left"] (defScope s_Zigzag__leaving) := ⟨rfl, rfl, rfl, by decide +kernel, rfl, by decide +kernel, by decide +kernel⟩
def t_Zigzag__leaving (K : Fg) (E : XK) : TS := (tSeq (tFor (iSeq K (tCB (uSorted K) (tCons (tFld K (tVar 0) "_spans") tNil))) (gTup K 3 (gCons (gName 3) (gCons (gName 4) (gCons (gName 5) gNil)))) (tSeq (tIfS (tAnd (tB (uIn K (tVar 3) (tVar 2))) (tAnd (tB (tOp (uEq K) (uIx K (tVar 2) (tVar 3)) (tC (.int 1)))) (tB (tOp (uEq K) (tVar 4) (tVar 1))))) (tRet (tTup (tCons (tVar 3) (tCons (tC (.int 1)) (tCons (tVar 5) tNil))))) tNext)
  (tIfS (tAnd (tB (uIn K (tVar 3) (tVar 2))) (tAnd (tB (tOp (uEq K) (uIx K (tVar 2) (tVar 3)) (tUn (rU fun i => .int (-i)) (tC (.int 1))))) (tB (tOp (uEq K) (tVar 5) (tVar 1))))) (tRet (tTup (tCons (tVar 3) (tCons (tUn (rU fun i => .int (-i)) (tC (.int 1))) (tCons (tVar 4) tNil))))) tNext)))
  (tRet (tC .non)))
abbrev s_Zigzag_threads : Stmt := clsDef (top 1) 4
theorem sc_Zigzag_threads : FnScope ["self", "left", "found", "_", "place", "steps", "node", "turn", "flow"] ["self"] (defScope s_Zigzag_threads) := ⟨rfl, rfl, rfl, by decide +kernel, rfl, by decide +kernel, by decide +kernel⟩
def t_Zigzag_threads (K : Fg) (E : XK) : TS := (tSeq (tAsg (tLockE (tDc (iItems (tFld K (tVar 0) "_flows")) (gTup K 2 (gCons (gName 6) (gCons (gName 8) gNil))) (tB (tOp (uNe K) (tVar 8) (tC (.int 0)))) (tVar 6) (tVar 8) [6, 8])) (gName 1))
  (tSeq (tAsg (tLst tNil) (gName 2))
  (tSeq (tFor (iRng1 (tCons (tFld K (tVar 0) "_many") tNil)) (gName 3) (tSeq (tAsg (tC (.int 0)) (gName 4))
  (tSeq (tAsg (tLst tNil) (gName 5))
  (tSeq (tWhile (tB (tOp (uNe K) (tVar 4) (tFld K (tVar 0) "_end"))) (tSeq (tAsg (tMeth (He.ga K "Zigzag") "_leaving" (spOf K F_Zigzag__leaving) [] E (tVar 0) (tCons (tVar 4) (tCons (tVar 1) tNil))) (gTup K 3 (gCons (gName 6) (gCons (gName 7) (gCons (gName 4) gNil)))))
  (tSeq (sDDel (tVar 1) (tVar 6))
  (tDrop (tBM K "list" rAppend (tVar 5) (tCons (tTup (tCons (tVar 6) (tCons (tVar 7) tNil))) tNil))))))
  (tDrop (tBM K "list" rAppend (tVar 2) (tCons (tCB (uTuple K) (tCons (tVar 5) tNil)) tNil)))))))
  (tRet (tVar 2)))))
abbrev s_Zigzag_side : Stmt := clsDef (top 1) 5
theorem sc_Zigzag_side : FnScope ["self"] ["self"] (defScope s_Zigzag_side) := ⟨rfl, rfl, rfl, by decide +kernel, rfl, by decide +kernel, by decide +kernel⟩
def t_Zigzag_side (K : Fg) (E : XK) : TS := (tRet (tCB (uListA K) (tCons (tFld K (tVar 0) "_side") tNil)))
abbrev s_Zigzag_cut : Stmt := clsDef (top 1) 6
theorem sc_Zigzag_cut : FnScope ["self", "inner", "node", "begin", "stop"] ["self"] (defScope s_Zigzag_cut) := ⟨rfl, rfl, rfl, by decide +kernel, rfl, by decide +kernel, by decide +kernel⟩
def t_Zigzag_cut (K : Fg) (E : XK) : TS := (tSeq (tAsg (tFld K (tVar 0) "_side") (gName 1))
  (tRet (tCB (uSorted K) (tCons (tLc (iSeq K (tFld K (tVar 0) "_spans")) (gTup K 3 (gCons (gName 2) (gCons (gName 3) (gCons (gName 4) gNil)))) (tB (tOp (uNe K) (uIn K (tVar 3) (tVar 1)) (uIn K (tVar 4) (tVar 1)))) (tVar 2) [2, 3, 4]) tNil))))
abbrev s_Zigzag___init__ : Stmt := clsDef (top 1) 0
theorem sc_Zigzag___init__ : FnScope ["self", "spans", "end", "moves", "_", "node"] ["self", "spans", "end"] (defScope s_Zigzag___init__) := ⟨rfl, rfl, rfl, by decide +kernel, rfl, by decide +kernel, by decide +kernel⟩
def t_Zigzag___init__ (K : Fg) (E : XK) : TS := (tSeq (sFld K (tVar 0) (tCB (uListA K) (tCons (tVar 1) tNil)) "_spans")
  (tSeq (sFld K (tVar 0) (tVar 2) "_end")
  (tSeq (sFld K (tVar 0) (tDc (iSeq K (tFld K (tVar 0) "_spans")) (gTup K 3 (gCons (gName 5) (gCons (gName 4) (gCons (gName 4) gNil)))) tYes (tVar 5) (tC (.int 0)) [5, 4]) "_flows")
  (tSeq (sFld K (tVar 0) (tC (.int 0)) "_many")
  (tSeq (tAsg (tMeth (He.ga K "Zigzag") "_search" (spOf K F_Zigzag__search) [] E (tVar 0) tNil) (gName 3))
  (tSeq (tFor (iRng1 (tCons (tCB (uLen K) (tCons (tFld K (tVar 0) "_spans") tNil)) tNil)) (gName 4) (tIfS (tB (uIn K (tVar 2) (tVar 3))) (tSeq (tDrop (tMeth (He.ga K "Zigzag") "_push" (spOf K F_Zigzag__push) [] E (tVar 0) (tCons (tVar 3) tNil)))
  (tAsg (tMeth (He.ga K "Zigzag") "_search" (spOf K F_Zigzag__search) [] E (tVar 0) tNil) (gName 3))) tNext))
  (sFld K (tVar 0) (tCB (uSorted K) (tCons (tCB (uListA K) (tCons (tVar 3) tNil)) tNil)) "_side")))))))
abbrev s__law_stream : Stmt := top 3
theorem sc__law_stream : FnScope ["script", "numbers", "place", "cell", "rest", "turn", "mixed"] ["script"] (defScope s__law_stream) := ⟨rfl, rfl, rfl, by decide +kernel, rfl, by decide +kernel, by decide +kernel⟩
def t__law_stream (K : Fg) (E : XK) : TS := (tSeq (tAsg (tLst tNil) (gName 1))
  (tSeq (tFor (iRng1 (tCons (tCB uMin2 (tCons (tCB (uLen K) (tCons (tVar 0) tNil)) (tCons (tC (.int 63)) tNil))) tNil)) (gName 2) (tSeq (tAsg (tCB uInt (tCons (uIx K (tVar 0) (tVar 2)) tNil)) (gName 3))
  (tSeq (tAsg (tCB uAbs (tCons (tVar 3) tNil)) (gName 4))
  (tIfS (tAnd (tB (tOp uGe (tVar 3) (tC (.int 0)))) (tB (tOp uLt (tVar 3) (tOp uPow (tC (.int 10)) (tC (.int 18)))))) (tFor (iRng1 (tCons (tC (.int 3)) tNil)) (gName 5) (tSeq (tAsg (tOp uMod (tCB uInt (tCons (tOp uMul (tOp (uAdd K) (tVar 3) (tC (.int 1))) (tOp (uAdd K) (tOp (uAdd K) (tC (.int 48271)) (tOp uMul (tC (.int 6)) (tVar 2))) (tOp uMul (tC (.int 2)) (tVar 5)))) tNil)) (tC (.int 2147483629))) (gName 6))
  (tDrop (tBM K "list" rAppend (tVar 1) (tCons (tOp uMod (tCB uInt (tCons (tOp uMul (tVar 6) (tVar 6)) tNil)) (tC (.int 1000003))) tNil))))) (tFor (iRng1 (tCons (tC (.int 60)) tNil)) (gName 5) (tIfS (tB (tOp uGt (tVar 4) (tC (.int 0)))) (tSeq (tDrop (tBM K "list" rAppend (tVar 1) (tCons (tOp uMod (tCB uInt (tCons (tVar 4) tNil)) (tC (.int 1000))) tNil)))
  (tAsg (tOp uDiv (tVar 4) (tC (.int 1000))) (gName 4))) tNext))))))
  (tRet (tRevL K (tVar 1)))))
abbrev s__law_draw : Stmt := top 4
theorem sc__law_draw : FnScope ["stream", "many"] ["stream", "many"] (defScope s__law_draw) := ⟨rfl, rfl, rfl, by decide +kernel, rfl, by decide +kernel, by decide +kernel⟩
def t__law_draw (K : Fg) (E : XK) : TS := (tSeq (tIfS (tB (tOp (uEq K) (tCB (uLen K) (tCons (tVar 0) tNil)) (tC (.int 0)))) (tRet (tC (.int 0))) tNext)
  (tRet (tOp uMod (tCB uInt (tCons (tBM0 K "list" rPop (tVar 0)) tNil)) (tVar 1))))
abbrev s__law_ints : Stmt := top 5
theorem sc__law_ints : FnScope ["told", "due", "entry"] ["told", "due"] (defScope s__law_ints) := ⟨rfl, rfl, rfl, by decide +kernel, rfl, by decide +kernel, by decide +kernel⟩
def t__law_ints (K : Fg) (E : XK) : TS := (tSeq (tIfS (tOr (tNot (uTru K (tCB (rIsi K) (tCons (tVar 0) (tCons (tC (.ty "list")) tNil))))) (tB (tOp (uNe K) (tCB (uLen K) (tCons (tVar 0) tNil)) (tCB (uLen K) (tCons (tVar 1) tNil))))) (tRet (tC (.bl false))) tNext)
  (tSeq (tFor (iSeq K (tVar 0)) (gName 2) (tIfS (tOr (tNot (uTru K (tCB (rIsi K) (tCons (tVar 2) (tCons (tC (.ty "int")) tNil))))) (uTru K (tCB (rIsi K) (tCons (tVar 2) (tCons (tC (.ty "bool")) tNil))))) (tRet (tC (.bl false))) tNext))
  (tRet (tOp (uEq K) (tVar 0) (tCB (uListA K) (tCons (tVar 1) tNil))))))
abbrev s__law_spans_drawn : Stmt := top 6
theorem sc__law_spans_drawn : FnScope ["stream", "many", "most", "spans", "turn", "low", "high"] ["stream", "many", "most"] (defScope s__law_spans_drawn) := ⟨rfl, rfl, rfl, by decide +kernel, rfl, by decide +kernel, by decide +kernel⟩
def t__law_spans_drawn (K : Fg) (E : XK) : TS := (tSeq (tAsg (tLst tNil) (gName 3))
  (tSeq (tFor (iRng1 (tCons (tVar 1) tNil)) (gName 4) (tSeq (tAsg (tCall (spOf K F__law_draw) [] E (tCons (tVar 0) (tCons (tVar 2) tNil))) (gName 5))
  (tSeq (tAsg (tOp (uAdd K) (tOp (uAdd K) (tVar 5) (tC (.int 1))) (tCall (spOf K F__law_draw) [] E (tCons (tVar 0) (tCons (tCB uMin2 (tCons (tOp uSub (tVar 2) (tVar 5)) (tCons (tOp (uAdd K) (tC (.int 1)) (tCall (spOf K F__law_draw) [] E (tCons (tVar 0) (tCons (tVar 2) tNil)))) tNil))) tNil)))) (gName 6))
  (tDrop (tBM K "list" rAppend (tVar 3) (tCons (tTup (tCons (tOp (uAdd K) (tOp uMul (tVar 4) (tC (.int 5))) (tCall (spOf K F__law_draw) [] E (tCons (tVar 0) (tCons (tC (.int 5)) tNil)))) (tCons (tVar 5) (tCons (tVar 6) tNil)))) tNil))))))
  (tSeq (tIfS (tB (tOp (uEq K) (tCall (spOf K F__law_draw) [] E (tCons (tVar 0) (tCons (tC (.int 2)) tNil))) (tC (.int 1)))) (tAsg (tRevL K (tVar 3)) (gName 3)) tNext)
  (tRet (tVar 3)))))
abbrev s__law_thread_ends : Stmt := top 7
theorem sc__law_thread_ends : FnScope ["steps", "spans", "used", "place", "step", "node", "turn", "found", "one", "low", "high", "span"] ["steps", "spans", "used"] (defScope s__law_thread_ends) := ⟨rfl, rfl, rfl, by decide +kernel, rfl, by decide +kernel, by decide +kernel⟩
def t__law_thread_ends (K : Fg) (E : XK) : TS := (tSeq (tAsg (tC (.int 0)) (gName 3))
  (tSeq (tFor (iSeq K (tVar 0)) (gName 4) (tSeq (tIfS (tOr (tNot (uTru K (tCB (rIsi K) (tCons (tVar 4) (tCons (tC (.ty "tuple")) tNil))))) (tB (tOp (uNe K) (tCB (uLen K) (tCons (tVar 4) tNil)) (tC (.int 2))))) (tRet (tC .non)) tNext)
  (tSeq (tAsg (tVar 4) (gTup K 2 (gCons (gName 5) (gCons (gName 6) gNil))))
  (tSeq (tIfS (tOr (uTru K (tCB (rIsi K) (tCons (tVar 5) (tCons (tC (.ty "bool")) tNil)))) (tOr (uTru K (tCB (rIsi K) (tCons (tVar 6) (tCons (tC (.ty "bool")) tNil)))) (tOr (tB (uNotIn K (tVar 6) (tTup (tCons (tC (.int 1)) (tCons (tUn (rU fun i => .int (-i)) (tC (.int 1))) tNil))))) (tB (uIn K (tVar 5) (tVar 2)))))) (tRet (tC .non)) tNext)
  (tSeq (tAsg (tLc (iSeq K (tVar 1)) (gName 11) (tB (tOp (uEq K) (uIx K (tVar 11) (tC (.int 0))) (tVar 5))) (tVar 11) [11]) (gName 7))
  (tSeq (tIfS (tB (tOp (uNe K) (tCB (uLen K) (tCons (tVar 7) tNil)) (tC (.int 1)))) (tRet (tC .non)) tNext)
  (tSeq (tAsg (uIx K (tVar 7) (tC (.int 0))) (gTup K 3 (gCons (gName 8) (gCons (gName 9) (gCons (gName 10) gNil)))))
  (tSeq (tIfS (tB (tOp (uEq K) (tVar 6) (tUn (rU fun i => .int (-i)) (tC (.int 1))))) (tPar 9 10 (tCons (tVar 10) (tCons (tVar 9) tNil))) tNext)
  (tSeq (tIfS (tB (tOp (uNe K) (tVar 9) (tVar 3))) (tRet (tC .non)) tNext)
  (tSeq (tAsg (tVar 10) (gName 3))
  (tDrop (tBM K "list" rAppend (tVar 2) (tCons (tVar 5) tNil)))))))))))))
  (tRet (tVar 3))))
abbrev s__law_side : Stmt := top 8
theorem sc__law_side : FnScope ["side", "most", "place"] ["side", "most"] (defScope s__law_side) := ⟨rfl, rfl, rfl, by decide +kernel, rfl, by decide +kernel, by decide +kernel⟩
def t__law_side (K : Fg) (E : XK) : TS := (tSeq (tIfS (tOr (tNot (uTru K (tCB (rIsi K) (tCons (tVar 0) (tCons (tC (.ty "list")) tNil))))) (tOr (tB (tOp (uEq K) (tCB (uLen K) (tCons (tVar 0) tNil)) (tC (.int 0)))) (tOr (tB (tOp (uNe K) (uIx K (tVar 0) (tC (.int 0))) (tC (.int 0)))) (tB (uIn K (tVar 1) (tVar 0)))))) (tRet (tC (.bl false))) tNext)
  (tSeq (tFor (iSeq K (tVar 0)) (gName 2) (tIfS (tOr (uTru K (tCB (rIsi K) (tCons (tVar 2) (tCons (tC (.ty "bool")) tNil)))) (tOr (tNot (uTru K (tCB (rIsi K) (tCons (tVar 2) (tCons (tC (.ty "int")) tNil))))) (tOr (tB (tOp uLt (tVar 2) (tC (.int 0)))) (tB (tOp uGt (tVar 2) (tVar 1)))))) (tRet (tC (.bl false))) tNext))
  (tRet (tOp (uEq K) (tVar 0) (tSortSet K (tVar 0))))))
abbrev s__law_holds : Stmt := top 9
theorem sc__law_holds : FnScope ["spans", "most", "zigzag", "side", "crossing", "threads", "used", "steps", "again", "span"] ["spans", "most"] (defScope s__law_holds) := ⟨rfl, rfl, rfl, by decide +kernel, rfl, by decide +kernel, by decide +kernel⟩
def t__law_holds (K : Fg) (E : XK) : TS := (tSeq (tAsg (tMake (He.ga K "Zigzag") (spOf K F_Zigzag___init__) [] E (tCons (tCB (uListA K) (tCons (tVar 0) tNil)) (tCons (tVar 1) tNil))) (gName 2))
  (tSeq (tAsg (tMeth (He.ga K "Zigzag") "side" (spOf K F_Zigzag_side) [] E (tVar 2) tNil) (gName 3))
  (tSeq (tIfS (tNot (uTru K (tCall (spOf K F__law_side) [] E (tCons (tVar 3) (tCons (tVar 1) tNil))))) (tRet (tC (.bl false))) tNext)
  (tSeq (tAsg (tLc (iSeq K (tVar 0)) (gName 9) (tB (tOp (uNe K) (uIn K (uIx K (tVar 9) (tC (.int 1))) (tVar 3)) (uIn K (uIx K (tVar 9) (tC (.int 2))) (tVar 3)))) (uIx K (tVar 9) (tC (.int 0))) [9]) (gName 4))
  (tSeq (tIfS (tNot (uTru K (tCall (spOf K F__law_ints) [] E (tCons (tMeth (He.ga K "Zigzag") "cut" (spOf K F_Zigzag_cut) [] E (tVar 2) tNil) (tCons (tCB (uSorted K) (tCons (tVar 4) tNil)) tNil))))) (tRet (tC (.bl false))) tNext)
  (tSeq (tAsg (tMeth (He.ga K "Zigzag") "threads" (spOf K F_Zigzag_threads) [] E (tVar 2) tNil) (gName 5))
  (tSeq (tIfS (tOr (tNot (uTru K (tCB (rIsi K) (tCons (tVar 5) (tCons (tC (.ty "list")) tNil))))) (tB (tOp (uNe K) (tCB (uLen K) (tCons (tVar 5) tNil)) (tCB (uLen K) (tCons (tVar 4) tNil))))) (tRet (tC (.bl false))) tNext)
  (tSeq (tAsg (tLst tNil) (gName 6))
  (tSeq (tFor (iSeq K (tVar 5)) (gName 7) (tIfS (tOr (tNot (uTru K (tCB (rIsi K) (tCons (tVar 7) (tCons (tC (.ty "tuple")) tNil))))) (tB (tOp (uNe K) (tCall (spOf K F__law_thread_ends) [] E (tCons (tVar 7) (tCons (tVar 0) (tCons (tVar 6) tNil)))) (tVar 1)))) (tRet (tC (.bl false))) tNext))
  (tSeq (tDrop (tBM K "list" rAppend (tVar 3) (tCons (tVar 1) tNil)))
  (tSeq (tDrop (tBM K "list" rAppend (tVar 5) (tCons (tTup tNil) tNil)))
  (tSeq (tAsg (tMeth (He.ga K "Zigzag") "threads" (spOf K F_Zigzag_threads) [] E (tVar 2) tNil) (gName 8))
  (tRet (tAndV (tOp (uEq K) (tCB (uLen K) (tCons (tVar 8) tNil)) (tCB (uLen K) (tCons (tVar 4) tNil))) (tOp (uEq K) (tMeth (He.ga K "Zigzag") "side" (spOf K F_Zigzag_side) [] E (tVar 2) tNil) (tSl (uSl K) (tVar 3) tNoPart (tPart (tUn (rU fun i => .int (-i)) (tC (.int 1))))))))))))))))))))
abbrev s_law : Stmt := top 10
theorem sc_law : FnScope ["script", "stream", "most", "spans", "short", "ladder", "place", "node"] ["script"] (defScope s_law) := ⟨rfl, rfl, rfl, by decide +kernel, rfl, by decide +kernel, by decide +kernel⟩
def t_law (K : Fg) (E : XK) : TS := (tSeq (tAsg (tCall (spOf K F__law_stream) [] E (tCons (tVar 0) tNil)) (gName 1))
  (tSeq (tAsg (tOp (uAdd K) (tC (.int 1)) (tCall (spOf K F__law_draw) [] E (tCons (tVar 1) (tCons (tC (.int 9)) tNil)))) (gName 2))
  (tSeq (tAsg (tCall (spOf K F__law_spans_drawn) [] E (tCons (tVar 1) (tCons (tCall (spOf K F__law_draw) [] E (tCons (tVar 1) (tCons (tC (.int 21)) tNil))) (tCons (tVar 2) tNil)))) (gName 3))
  (tSeq (tIfS (tNot (uTru K (tCall (spOf K F__law_holds) [] E (tCons (tVar 3) (tCons (tVar 2) tNil))))) (tRet (tC (.bl false))) tNext)
  (tSeq (tAsg (tLc (iRng1 (tCons (tVar 2) tNil)) (gName 7) tYes (tTup (tCons (tVar 7) (tCons (tVar 7) (tCons (tOp (uAdd K) (tVar 7) (tC (.int 1))) tNil)))) [7]) (gName 4))
  (tSeq (tIfS (tOr (tNot (uTru K (tCall (spOf K F__law_holds) [] E (tCons (tOp (uAdd K) (tVar 4) (tLst (tCons (tTup (tCons (tVar 2) (tCons (tC (.int 0)) (tCons (tVar 2) tNil)))) tNil))) (tCons (tVar 2) tNil))))) (tNot (uTru K (tCall (spOf K F__law_holds) [] E (tCons (tLst tNil) (tCons (tVar 2) tNil)))))) (tRet (tC (.bl false))) tNext)
  (tSeq (tIfS (tB (tOp (uNe K) (tCall (spOf K F__law_draw) [] E (tCons (tVar 1) (tCons (tC (.int 12)) tNil))) (tC (.int 11)))) (tRet (tC (.bl true))) tNext)
  (tSeq (tAsg (tLst tNil) (gName 5))
  (tSeq (tFor (iRng1 (tCons (tC (.int 58)) tNil)) (gName 6) (tDrop (tBM K "list" rAppend (tVar 5) (tCons (tTup (tCons (tVar 6) (tCons (tVar 6) (tCons (tOp (uAdd K) (tVar 6) (tC (.int 2))) tNil)))) tNil))))
  (tRet (tAndV (tCall (spOf K F__law_holds) [] E (tCons (tCall (spOf K F__law_spans_drawn) [] E (tCons (tVar 1) (tCons (tC (.int 40)) (tCons (tC (.int 60)) tNil)))) (tCons (tC (.int 60)) tNil))) (tCall (spOf K F__law_holds) [] E (tCons (tOp (uAdd K) (tSl (uSl K) (tVar 5) (tPart (tC (.int 1))) tNoPart) (tLst (tCons (tTup (tCons (tC (.int 70)) (tCons (tC (.int 0)) (tCons (tC (.int 59)) tNil)))) (tCons (tTup (tCons (tC (.int 71)) (tCons (tC (.int 1)) (tCons (tC (.int 60)) tNil)))) tNil)))) (tCons (tC (.int 60)) tNil))))))))))))))
structure Txt (P : Program) (K : Fg) (mg : Str → Option Value) : Prop where
  g_abs : mg "abs" = none
  g_bool : mg "bool" = none
  g_int : mg "int" = none
  g_isinstance : mg "isinstance" = none
  g_len : mg "len" = none
  g_list : mg "list" = none
  g_min : mg "min" = none
  g_range : mg "range" = none
  g_set : mg "set" = none
  g_sorted : mg "sorted" = none
  g_tuple : mg "tuple" = none
  m__law_stream : mg "_law_stream" = some (.ref (He.ga K "_law_stream"))
  m__law_draw : mg "_law_draw" = some (.ref (He.ga K "_law_draw"))
  m__law_ints : mg "_law_ints" = some (.ref (He.ga K "_law_ints"))
  m__law_spans_drawn : mg "_law_spans_drawn" = some (.ref (He.ga K "_law_spans_drawn"))
  m__law_thread_ends : mg "_law_thread_ends" = some (.ref (He.ga K "_law_thread_ends"))
  m__law_side : mg "_law_side" = some (.ref (He.ga K "_law_side"))
  m__law_holds : mg "_law_holds" = some (.ref (He.ga K "_law_holds"))
  m_law : mg "law" = some (.ref (He.ga K "law"))
  m_Zigzag : mg "Zigzag" = some (.ref (He.ga K "Zigzag"))
  c_Zigzag : Cls K (He.ga K "Zigzag")
  n_Zigzag__end : NoAttr K (He.ga K "Zigzag") "_end"
  n_Zigzag__flows : NoAttr K (He.ga K "Zigzag") "_flows"
  n_Zigzag__many : NoAttr K (He.ga K "Zigzag") "_many"
  n_Zigzag__side : NoAttr K (He.ga K "Zigzag") "_side"
  n_Zigzag__spans : NoAttr K (He.ga K "Zigzag") "_spans"
  mk_Zigzag : Mk K (He.ga K "Zigzag") (He.ma K (He.ga K "Zigzag") "__init__")
  me_Zigzag__search : Meth K (He.ga K "Zigzag") "_search" (He.ma K (He.ga K "Zigzag") "_search")
  me_Zigzag__push : Meth K (He.ga K "Zigzag") "_push" (He.ma K (He.ga K "Zigzag") "_push")
  me_Zigzag__leaving : Meth K (He.ga K "Zigzag") "_leaving" (He.ma K (He.ga K "Zigzag") "_leaving")
  me_Zigzag_threads : Meth K (He.ga K "Zigzag") "threads" (He.ma K (He.ga K "Zigzag") "threads")
  me_Zigzag_side : Meth K (He.ga K "Zigzag") "side" (He.ma K (He.ga K "Zigzag") "side")
  me_Zigzag_cut : Meth K (He.ga K "Zigzag") "cut" (He.ma K (He.ga K "Zigzag") "cut")
  fn_Zigzag__search : ∃ fd, FunD K "_search" "Zigzag._search" (defArgs s_Zigzag__search) (defBody s_Zigzag__search) (defScope s_Zigzag__search) [] [] (He.ma K (He.ga K "Zigzag") "_search") fd
  fn_Zigzag__push : ∃ fd, FunD K "_push" "Zigzag._push" (defArgs s_Zigzag__push) (defBody s_Zigzag__push) (defScope s_Zigzag__push) [] [] (He.ma K (He.ga K "Zigzag") "_push") fd
  fn_Zigzag__leaving : ∃ fd, FunD K "_leaving" "Zigzag._leaving" (defArgs s_Zigzag__leaving) (defBody s_Zigzag__leaving) (defScope s_Zigzag__leaving) [] [] (He.ma K (He.ga K "Zigzag") "_leaving") fd
  fn_Zigzag_threads : ∃ fd, FunD K "threads" "Zigzag.threads" (defArgs s_Zigzag_threads) (defBody s_Zigzag_threads) (defScope s_Zigzag_threads) [] [] (He.ma K (He.ga K "Zigzag") "threads") fd
  fn_Zigzag_side : ∃ fd, FunD K "side" "Zigzag.side" (defArgs s_Zigzag_side) (defBody s_Zigzag_side) (defScope s_Zigzag_side) [] [] (He.ma K (He.ga K "Zigzag") "side") fd
  fn_Zigzag_cut : ∃ fd, FunD K "cut" "Zigzag.cut" (defArgs s_Zigzag_cut) (defBody s_Zigzag_cut) (defScope s_Zigzag_cut) [] [] (He.ma K (He.ga K "Zigzag") "cut") fd
  fn_Zigzag___init__ : ∃ fd, FunD K "__init__" "Zigzag.__init__" (defArgs s_Zigzag___init__) (defBody s_Zigzag___init__) (defScope s_Zigzag___init__) [] [] (He.ma K (He.ga K "Zigzag") "__init__") fd
  fn__law_stream : ∃ fd, FunD K "_law_stream" "_law_stream" (defArgs s__law_stream) (defBody s__law_stream) (defScope s__law_stream) [] [] (He.ga K "_law_stream") fd
  fn__law_draw : ∃ fd, FunD K "_law_draw" "_law_draw" (defArgs s__law_draw) (defBody s__law_draw) (defScope s__law_draw) [] [] (He.ga K "_law_draw") fd
  fn__law_ints : ∃ fd, FunD K "_law_ints" "_law_ints" (defArgs s__law_ints) (defBody s__law_ints) (defScope s__law_ints) [] [] (He.ga K "_law_ints") fd
  fn__law_spans_drawn : ∃ fd, FunD K "_law_spans_drawn" "_law_spans_drawn" (defArgs s__law_spans_drawn) (defBody s__law_spans_drawn) (defScope s__law_spans_drawn) [] [] (He.ga K "_law_spans_drawn") fd
  fn__law_thread_ends : ∃ fd, FunD K "_law_thread_ends" "_law_thread_ends" (defArgs s__law_thread_ends) (defBody s__law_thread_ends) (defScope s__law_thread_ends) [] [] (He.ga K "_law_thread_ends") fd
  fn__law_side : ∃ fd, FunD K "_law_side" "_law_side" (defArgs s__law_side) (defBody s__law_side) (defScope s__law_side) [] [] (He.ga K "_law_side") fd
  fn__law_holds : ∃ fd, FunD K "_law_holds" "_law_holds" (defArgs s__law_holds) (defBody s__law_holds) (defScope s__law_holds) [] [] (He.ga K "_law_holds") fd
  fn_law : ∃ fd, FunD K "law" "law" (defArgs s_law) (defBody s_law) (defScope s_law) [] [] (He.ga K "law") fd
def d_Zigzag__search : He.DefD := ⟨("Zigzag", some "_search"), "_search", "Zigzag._search", defArgs s_Zigzag__search, defBody s_Zigzag__search, defScope s_Zigzag__search, [], []⟩
def d_Zigzag__push : He.DefD := ⟨("Zigzag", some "_push"), "_push", "Zigzag._push", defArgs s_Zigzag__push, defBody s_Zigzag__push, defScope s_Zigzag__push, [], []⟩
def d_Zigzag__leaving : He.DefD := ⟨("Zigzag", some "_leaving"), "_leaving", "Zigzag._leaving", defArgs s_Zigzag__leaving, defBody s_Zigzag__leaving, defScope s_Zigzag__leaving, [], []⟩
def d_Zigzag_threads : He.DefD := ⟨("Zigzag", some "threads"), "threads", "Zigzag.threads", defArgs s_Zigzag_threads, defBody s_Zigzag_threads, defScope s_Zigzag_threads, [], []⟩
def d_Zigzag_side : He.DefD := ⟨("Zigzag", some "side"), "side", "Zigzag.side", defArgs s_Zigzag_side, defBody s_Zigzag_side, defScope s_Zigzag_side, [], []⟩
def d_Zigzag_cut : He.DefD := ⟨("Zigzag", some "cut"), "cut", "Zigzag.cut", defArgs s_Zigzag_cut, defBody s_Zigzag_cut, defScope s_Zigzag_cut, [], []⟩
def d_Zigzag___init__ : He.DefD := ⟨("Zigzag", some "__init__"), "__init__", "Zigzag.__init__", defArgs s_Zigzag___init__, defBody s_Zigzag___init__, defScope s_Zigzag___init__, [], []⟩
def d__law_stream : He.DefD := ⟨("_law_stream", none), "_law_stream", "_law_stream", defArgs s__law_stream, defBody s__law_stream, defScope s__law_stream, [], []⟩
def d__law_draw : He.DefD := ⟨("_law_draw", none), "_law_draw", "_law_draw", defArgs s__law_draw, defBody s__law_draw, defScope s__law_draw, [], []⟩
def d__law_ints : He.DefD := ⟨("_law_ints", none), "_law_ints", "_law_ints", defArgs s__law_ints, defBody s__law_ints, defScope s__law_ints, [], []⟩
def d__law_spans_drawn : He.DefD := ⟨("_law_spans_drawn", none), "_law_spans_drawn", "_law_spans_drawn", defArgs s__law_spans_drawn, defBody s__law_spans_drawn, defScope s__law_spans_drawn, [], []⟩
def d__law_thread_ends : He.DefD := ⟨("_law_thread_ends", none), "_law_thread_ends", "_law_thread_ends", defArgs s__law_thread_ends, defBody s__law_thread_ends, defScope s__law_thread_ends, [], []⟩
def d__law_side : He.DefD := ⟨("_law_side", none), "_law_side", "_law_side", defArgs s__law_side, defBody s__law_side, defScope s__law_side, [], []⟩
def d__law_holds : He.DefD := ⟨("_law_holds", none), "_law_holds", "_law_holds", defArgs s__law_holds, defBody s__law_holds, defScope s__law_holds, [], []⟩
def d_law : He.DefD := ⟨("law", none), "law", "law", defArgs s_law, defBody s_law, defScope s_law, [], []⟩
def mainFile : Str := PySem.Challenge.pw_foldsunseen_k11_zigzags.main.file
def fa : List He.Fa := [.free "abs", .free "bool", .free "int", .free "isinstance", .free "len", .free "list", .free "min", .free "range", .free "set", .free "sorted", .free "tuple", .glo "_law_stream", .glo "_law_draw", .glo "_law_ints", .glo "_law_spans_drawn", .glo "_law_thread_ends", .glo "_law_side", .glo "_law_holds", .glo "law", .glo "Zigzag", .cls "Zigzag", .noat "Zigzag" "_end", .noat "Zigzag" "_flows", .noat "Zigzag" "_many", .noat "Zigzag" "_side", .noat "Zigzag" "_spans", .mkr "Zigzag", .meth "Zigzag" "_search", .meth "Zigzag" "_push", .meth "Zigzag" "_leaving", .meth "Zigzag" "threads", .meth "Zigzag" "side", .meth "Zigzag" "cut"]
def fn : List He.DefD := [d_Zigzag__search, d_Zigzag__push, d_Zigzag__leaving, d_Zigzag_threads, d_Zigzag_side, d_Zigzag_cut, d_Zigzag___init__, d__law_stream, d__law_draw, d__law_ints, d__law_spans_drawn, d__law_thread_ends, d__law_side, d__law_holds, d_law]
def sx : List SX.Shape := []
def ex : Fg → Bool := HV.allB []
theorem txt {P : Program} {K : Fg} {h : Heap} {mg : Str → Option Value} (hP : P.main.file = mainFile) (hsup : (P.main.scope.names.lookup ("super" : Str)).isSome = false) (X : K.In h) (G : h.Ns mainGlobals mg) (c : HV.SaysV fa fn sx ex K) : Txt P K mg where
  g_abs := He.free_ok X G (c.d.fact 0 rfl)
  g_bool := He.free_ok X G (c.d.fact 1 rfl)
  g_int := He.free_ok X G (c.d.fact 2 rfl)
  g_isinstance := He.free_ok X G (c.d.fact 3 rfl)
  g_len := He.free_ok X G (c.d.fact 4 rfl)
  g_list := He.free_ok X G (c.d.fact 5 rfl)
  g_min := He.free_ok X G (c.d.fact 6 rfl)
  g_range := He.free_ok X G (c.d.fact 7 rfl)
  g_set := He.free_ok X G (c.d.fact 8 rfl)
  g_sorted := He.free_ok X G (c.d.fact 9 rfl)
  g_tuple := He.free_ok X G (c.d.fact 10 rfl)
  m__law_stream := He.glo_ok X G (c.d.fact 11 rfl)
  m__law_draw := He.glo_ok X G (c.d.fact 12 rfl)
  m__law_ints := He.glo_ok X G (c.d.fact 13 rfl)
  m__law_spans_drawn := He.glo_ok X G (c.d.fact 14 rfl)
  m__law_thread_ends := He.glo_ok X G (c.d.fact 15 rfl)
  m__law_side := He.glo_ok X G (c.d.fact 16 rfl)
  m__law_holds := He.glo_ok X G (c.d.fact 17 rfl)
  m_law := He.glo_ok X G (c.d.fact 18 rfl)
  m_Zigzag := He.glo_ok X G (c.d.fact 19 rfl)
  c_Zigzag := He.cls_ok (c.d.fact 20 rfl)
  n_Zigzag__end := He.noat_ok (c.d.fact 21 rfl)
  n_Zigzag__flows := He.noat_ok (c.d.fact 22 rfl)
  n_Zigzag__many := He.noat_ok (c.d.fact 23 rfl)
  n_Zigzag__side := He.noat_ok (c.d.fact 24 rfl)
  n_Zigzag__spans := He.noat_ok (c.d.fact 25 rfl)
  mk_Zigzag := He.mkr_ok (c.d.fact 26 rfl)
  me_Zigzag__search := He.meth_ok (c.d.fact 27 rfl)
  me_Zigzag__push := He.meth_ok (c.d.fact 28 rfl)
  me_Zigzag__leaving := He.meth_ok (c.d.fact 29 rfl)
  me_Zigzag_threads := He.meth_ok (c.d.fact 30 rfl)
  me_Zigzag_side := He.meth_ok (c.d.fact 31 rfl)
  me_Zigzag_cut := He.meth_ok (c.d.fact 32 rfl)
  fn_Zigzag__search := c.d.def_ 0 (d := d_Zigzag__search) rfl
  fn_Zigzag__push := c.d.def_ 1 (d := d_Zigzag__push) rfl
  fn_Zigzag__leaving := c.d.def_ 2 (d := d_Zigzag__leaving) rfl
  fn_Zigzag_threads := c.d.def_ 3 (d := d_Zigzag_threads) rfl
  fn_Zigzag_side := c.d.def_ 4 (d := d_Zigzag_side) rfl
  fn_Zigzag_cut := c.d.def_ 5 (d := d_Zigzag_cut) rfl
  fn_Zigzag___init__ := c.d.def_ 6 (d := d_Zigzag___init__) rfl
  fn__law_stream := c.d.def_ 7 (d := d__law_stream) rfl
  fn__law_draw := c.d.def_ 8 (d := d__law_draw) rfl
  fn__law_ints := c.d.def_ 9 (d := d__law_ints) rfl
  fn__law_spans_drawn := c.d.def_ 10 (d := d__law_spans_drawn) rfl
  fn__law_thread_ends := c.d.def_ 11 (d := d__law_thread_ends) rfl
  fn__law_side := c.d.def_ 12 (d := d__law_side) rfl
  fn__law_holds := c.d.def_ 13 (d := d__law_holds) rfl
  fn_law := c.d.def_ 14 (d := d_law) rfl
end Z11

set_option maxHeartbeats 4000000
namespace Z11
open PySem PySem.Spec PyProof.Rows L2 VL
open Txt
section
variable {P : Program} {w : World} {K : Fg} {mg : Str → Option Value} {base : Heap}
def L_Zigzag__search : Nat := 2
theorem ok_Zigzag__search (T : Txt P K mg) 
    (run : ∀ (c : Cx0) (ss : List Slot) (os : List Cont) (Q : VK) (E : XK), c.M.length = os.length → F_Zigzag__search ss os (Rc K c Q) (Xc K c E) → Run K c (t_Zigzag__search K E) { nx := fun _ H' => Q .non H', rt := Q } (ss ++ List.replicate (9 - ss.length) .u) os) (len : ∀ ss os R X, F_Zigzag__search ss os R X → ss.length = 1) : GoodM P w K mg base "Zigzag" "_search" L_Zigzag__search ["self"] F_Zigzag__search := by
  refine goodM_mk (st := s_Zigzag__search) T.fn_Zigzag__search T.c_Zigzag T.me_Zigzag__search (fun _ _ _ _ _ _ us hl => match us, hl with | [_], _ => rfl) fun fd FD => fn_mk (k := 1) (st := s_Zigzag__search) (N := ["self", "moves", "queue", "done", "place", "node", "begin", "stop", "flow"]) (t_Zigzag__search K) FD sc_Zigzag__search len (fun cdv A outer s H E hr => ?_) run
  have hu := hu_of hr
  have hu64 : (A.deeper (envOfC "Zigzag._search" (defScope s_Zigzag__search) s.heap.objs.size (He.ma K (He.ga K "Zigzag") "_search") cdv)).units + 64 < cLine := by have := hr.un; omega
  have nd := sc_Zigzag__search.nd
  exact (pss_cons (ps_set (i := 1) nd rfl (by first | exact Or.inl rfl | exact Or.inr rfl) (pe_disp (pps_cons pe_int (pe_tup (pa_cons pe_non (pa_cons pe_int (pa_cons pe_int pa_nil)))) pps_nil) (by rfl) (by rfl) (fun z => by cases z) (by decide)))
  (pss_cons (ps_set (i := 2) nd rfl (by first | exact Or.inl rfl | exact Or.inr rfl) (pe_lst (pa_cons pe_int pa_nil)))
  (pss_cons (ps_set (i := 3) nd rfl (by first | exact Or.inl rfl | exact Or.inr rfl) pe_int)
  (pss_cons (ps_while (passes_of rfl) (pt_cmp (pc_of op_uLt (pv 3) (pe_callB call_len_seq rfl (g_len T) (by decide +kernel) (pa_cons (pv 2) pa_nil))) rfl) (pss_cons (ps_set (i := 4) nd rfl (by first | exact Or.inl rfl | exact Or.inr rfl) (pe_uIx hu (pv 2) (pv 3) (fun _ _ => rfl)))
  (pss_cons (ps_aug (i := 3) nd rfl (by first | exact Or.inl rfl | exact Or.inr rfl) pe_int ip_add)
  (pss_one (ps_for (passes_of rfl) rfl (pi_seq (pe_fld (pv 0) rfl)) (pg_tup rfl (pgs_cons (pg_name (i := 5) nd rfl (by first | exact Or.inl rfl | exact Or.inr rfl)) (pgs_cons (pg_name (i := 6) nd rfl (by first | exact Or.inl rfl | exact Or.inr rfl)) (pgs_cons (pg_name (i := 7) nd rfl (by first | exact Or.inl rfl | exact Or.inr rfl)) pgs_nil)))) (pss_cons (ps_set (i := 8) nd rfl (by first | exact Or.inl rfl | exact Or.inr rfl) (pe_uIx hu (pe_fld (pv 0) rfl) (pv 5) (fun _ _ => rfl)))
  (pss_one (ps_if (PW.pt (pw_and (pt_cmp (pc_of (op_uEq hu64) (pv 6) (pv 4)) rfl) (pw_and (pt_cmp (pc_of op_uLt (pv 8) pe_int) rfl) (pw_and1 (pt_cmp (pc_uNotIn hu (pv 7) (pv 1)) rfl))))) (pss_cons (ps_or (ps_dput hu (pv 1) (pv 7) (pe_tup (pa_cons (pv 5) (pa_cons pe_int (pa_cons (pv 4) pa_nil)))) rfl) (ps_asg (pe_tup (pa_cons (pv 5) (pa_cons pe_int (pa_cons (pv 4) pa_nil)))) (pg_sub (pv 1) (pv 7) set_list)))
  (pss_one (ps_expr (pe_bm PySem.F.plainAttrs_list PySem.F.slot_list_append PySem.F.type_list_append mt_append (pv 2) (pa_cons (pv 7) pa_nil))))) (pss_one (ps_if (PW.pt (pw_and (pt_cmp (pc_of (op_uEq hu64) (pv 7) (pv 4)) rfl) (pw_and (pt_cmp (pc_of op_uGt (pv 8) (pe_un un_neg pe_int)) rfl) (pw_and1 (pt_cmp (pc_uNotIn hu (pv 6) (pv 1)) rfl))))) (pss_cons (ps_or (ps_dput hu (pv 1) (pv 6) (pe_tup (pa_cons (pv 5) (pa_cons (pe_un un_neg pe_int) (pa_cons (pv 4) pa_nil)))) rfl) (ps_asg (pe_tup (pa_cons (pv 5) (pa_cons (pe_un un_neg pe_int) (pa_cons (pv 4) pa_nil)))) (pg_sub (pv 1) (pv 6) set_list)))
  (pss_one (ps_expr (pe_bm PySem.F.plainAttrs_list PySem.F.slot_list_append PySem.F.type_list_append mt_append (pv 2) (pa_cons (pv 6) pa_nil))))) pss_nil))))))))))
  (pss_one (ps_ret (pv 1)))))))
def L_Zigzag__push : Nat := 2
theorem ok_Zigzag__push (T : Txt P K mg) 
    (run : ∀ (c : Cx0) (ss : List Slot) (os : List Cont) (Q : VK) (E : XK), c.M.length = os.length → F_Zigzag__push ss os (Rc K c Q) (Xc K c E) → Run K c (t_Zigzag__push K E) { nx := fun _ H' => Q .non H', rt := Q } (ss ++ List.replicate (5 - ss.length) .u) os) (len : ∀ ss os R X, F_Zigzag__push ss os R X → ss.length = 2) : GoodM P w K mg base "Zigzag" "_push" L_Zigzag__push ["self", "moves"] F_Zigzag__push := by
  refine goodM_mk (st := s_Zigzag__push) T.fn_Zigzag__push T.c_Zigzag T.me_Zigzag__push (fun _ _ _ _ _ _ us hl => match us, hl with | [_, _], _ => rfl) fun fd FD => fn_mk (k := 1) (st := s_Zigzag__push) (N := ["self", "moves", "node", "turn", "place"]) (t_Zigzag__push K) FD sc_Zigzag__push len (fun cdv A outer s H E hr => ?_) run
  have hu := hu_of hr
  have hu64 : (A.deeper (envOfC "Zigzag._push" (defScope s_Zigzag__push) s.heap.objs.size (He.ma K (He.ga K "Zigzag") "_push") cdv)).units + 64 < cLine := by have := hr.un; omega
  have nd := sc_Zigzag__push.nd
  exact (pss_cons (ps_fldaug (pv 0) pe_int ip_add)
  (pss_cons (ps_asg (pe_uIx hu (pv 1) (pe_fld (pv 0) rfl) (fun _ _ => rfl)) (pg_tup rfl (pgs_cons (pg_name (i := 2) nd rfl (by first | exact Or.inl rfl | exact Or.inr rfl)) (pgs_cons (pg_name (i := 3) nd rfl (by first | exact Or.inl rfl | exact Or.inr rfl)) (pgs_cons (pg_name (i := 4) nd rfl (by first | exact Or.inl rfl | exact Or.inr rfl)) pgs_nil)))))
  (pss_one (ps_while (passes_of rfl) (pt_cmp (pc_of op_uIsN (pv 2) pe_non) rfl) (pss_cons (ps_or (ps_dput hu (pe_fld (pv 0) rfl) (pv 2) (pe_op op_uAdd (pe_uIx hu (pe_fld (pv 0) rfl) (pv 2) (fun _ _ => rfl)) (pv 3)) rfl) (ps_asg (pe_op op_uAdd (pe_uIx hu (pe_fld (pv 0) rfl) (pv 2) (fun _ _ => rfl)) (pv 3)) (pg_sub (pe_fld (pv 0) rfl) (pv 2) set_list)))
  (pss_one (ps_asg (pe_uIx hu (pv 1) (pv 4) (fun _ _ => rfl)) (pg_tup rfl (pgs_cons (pg_name (i := 2) nd rfl (by first | exact Or.inl rfl | exact Or.inr rfl)) (pgs_cons (pg_name (i := 3) nd rfl (by first | exact Or.inl rfl | exact Or.inr rfl)) (pgs_cons (pg_name (i := 4) nd rfl (by first | exact Or.inl rfl | exact Or.inr rfl)) pgs_nil)))))))))))
def L_Zigzag__leaving : Nat := 2
theorem ok_Zigzag__leaving (T : Txt P K mg) 
    (run : ∀ (c : Cx0) (ss : List Slot) (os : List Cont) (Q : VK) (E : XK), c.M.length = os.length → F_Zigzag__leaving ss os (Rc K c Q) (Xc K c E) → Run K c (t_Zigzag__leaving K E) { nx := fun _ H' => Q .non H', rt := Q } (ss ++ List.replicate (6 - ss.length) .u) os) (len : ∀ ss os R X, F_Zigzag__leaving ss os R X → ss.length = 3) : GoodM P w K mg base "Zigzag" "_leaving" L_Zigzag__leaving ["self", "place", "left"] F_Zigzag__leaving := by
  refine goodM_mk (st := s_Zigzag__leaving) T.fn_Zigzag__leaving T.c_Zigzag T.me_Zigzag__leaving (fun _ _ _ _ _ _ us hl => match us, hl with | [_, _, _], _ => rfl) fun fd FD => fn_mk (k := 1) (st := s_Zigzag__leaving) (N := ["self", "place", "left", "node", "begin", "stop"]) (t_Zigzag__leaving K) FD sc_Zigzag__leaving len (fun cdv A outer s H E hr => ?_) run
  have hu := hu_of hr
  have hu64 : (A.deeper (envOfC "Zigzag._leaving" (defScope s_Zigzag__leaving) s.heap.objs.size (He.ma K (He.ga K "Zigzag") "_leaving") cdv)).units + 64 < cLine := by have := hr.un; omega
  have nd := sc_Zigzag__leaving.nd
  exact (pss_cons (ps_for (passes_of rfl) rfl (pi_seq (pe_callB call_uSorted rfl (g_sorted T) (by decide +kernel) (pa_cons (pe_fld (pv 0) rfl) pa_nil))) (pg_tup rfl (pgs_cons (pg_name (i := 3) nd rfl (by first | exact Or.inl rfl | exact Or.inr rfl)) (pgs_cons (pg_name (i := 4) nd rfl (by first | exact Or.inl rfl | exact Or.inr rfl)) (pgs_cons (pg_name (i := 5) nd rfl (by first | exact Or.inl rfl | exact Or.inr rfl)) pgs_nil)))) (pss_cons (ps_if (PW.pt (pw_and (pt_cmp (pc_uIn hu (pv 3) (pv 2)) rfl) (pw_and (pt_cmp (pc_of (op_uEq hu64) (pe_uIx hu (pv 2) (pv 3) (fun _ _ => rfl)) pe_int) rfl) (pw_and1 (pt_cmp (pc_of (op_uEq hu64) (pv 4) (pv 1)) rfl))))) (pss_one (ps_ret (pe_tup (pa_cons (pv 3) (pa_cons pe_int (pa_cons (pv 5) pa_nil)))))) pss_nil)
  (pss_one (ps_if (PW.pt (pw_and (pt_cmp (pc_uIn hu (pv 3) (pv 2)) rfl) (pw_and (pt_cmp (pc_of (op_uEq hu64) (pe_uIx hu (pv 2) (pv 3) (fun _ _ => rfl)) (pe_un un_neg pe_int)) rfl) (pw_and1 (pt_cmp (pc_of (op_uEq hu64) (pv 5) (pv 1)) rfl))))) (pss_one (ps_ret (pe_tup (pa_cons (pv 3) (pa_cons (pe_un un_neg pe_int) (pa_cons (pv 4) pa_nil)))))) pss_nil))))
  (pss_one (ps_ret pe_non)))
def L_Zigzag_threads : Nat := 3
theorem ok_Zigzag_threads (T : Txt P K mg) (g_Zigzag__leaving : GoodM P w K mg base "Zigzag" "_leaving" L_Zigzag__leaving ["self", "place", "left"] F_Zigzag__leaving)
    (run : ∀ (c : Cx0) (ss : List Slot) (os : List Cont) (Q : VK) (E : XK), c.M.length = os.length → F_Zigzag_threads ss os (Rc K c Q) (Xc K c E) → Run K c (t_Zigzag_threads K E) { nx := fun _ H' => Q .non H', rt := Q } (ss ++ List.replicate (9 - ss.length) .u) os) (len : ∀ ss os R X, F_Zigzag_threads ss os R X → ss.length = 1) : GoodM P w K mg base "Zigzag" "threads" L_Zigzag_threads ["self"] F_Zigzag_threads := by
  refine goodM_mk (st := s_Zigzag_threads) T.fn_Zigzag_threads T.c_Zigzag T.me_Zigzag_threads (fun _ _ _ _ _ _ us hl => match us, hl with | [_], _ => rfl) fun fd FD => fn_mk (k := 2) (st := s_Zigzag_threads) (N := ["self", "left", "found", "_", "place", "steps", "node", "turn", "flow"]) (t_Zigzag_threads K) FD sc_Zigzag_threads len (fun cdv A outer s H E hr => ?_) run
  have hu := hu_of hr
  have hu64 : (A.deeper (envOfC "Zigzag.threads" (defScope s_Zigzag_threads) s.heap.objs.size (He.ma K (He.ga K "Zigzag") "threads") cdv)).units + 64 < cLine := by have := hr.un; omega
  have nd := sc_Zigzag_threads.nd
  exact (pss_cons (ps_lockAsg (ps_setDc (i := 1) (own := [("node", 6), ("flow", 8)]) rfl nd rfl rfl (sw_trueD rfl rfl rfl (by decide +kernel)) (pi_items (pe_fld (pv 0) rfl)) (blkOk_by (own := [("node", 6), ("flow", 8)]) (N := ["self", "left", "found", "_", "place", "steps", "node", "turn", "flow"]) (sc := defScope s_Zigzag_threads) (by decide +kernel)) (fun _ _ _ _ _ => (pg_tup rfl (pgs_cons (pg_name (i := 6) nd rfl (by first | exact Or.inl rfl | exact Or.inr rfl)) (pgs_cons (pg_name (i := 8) nd rfl (by first | exact Or.inl rfl | exact Or.inr rfl)) pgs_nil)))) (fun _ _ _ _ _ => (pts_one (pt_cmp (pc_of (op_uNe hu64) (pv 8) pe_int) rfl))) (fun _ _ _ _ _ => (pv 6)) (fun _ _ _ _ _ => (pv 8))))
  (pss_cons (ps_set (i := 2) nd rfl (by first | exact Or.inl rfl | exact Or.inr rfl) (pe_lst pa_nil))
  (pss_cons (ps_for (passes_of rfl) rfl (pi_range1 rfl (g_range T) (pa_cons (pe_fld (pv 0) rfl) pa_nil)) (pg_name (i := 3) nd rfl (by first | exact Or.inl rfl | exact Or.inr rfl)) (pss_cons (ps_set (i := 4) nd rfl (by first | exact Or.inl rfl | exact Or.inr rfl) pe_int)
  (pss_cons (ps_set (i := 5) nd rfl (by first | exact Or.inl rfl | exact Or.inr rfl) (pe_lst pa_nil))
  (pss_cons (ps_while (passes_of rfl) (pt_cmp (pc_of (op_uNe hu64) (pv 4) (pe_fld (pv 0) rfl)) rfl) (pss_cons (ps_asg (pe_goodM g_Zigzag__leaving hr (by decide) passE (pv 0) (pa_cons (pv 4) (pa_cons (pv 1) pa_nil))) (pg_tup rfl (pgs_cons (pg_name (i := 6) nd rfl (by first | exact Or.inl rfl | exact Or.inr rfl)) (pgs_cons (pg_name (i := 7) nd rfl (by first | exact Or.inl rfl | exact Or.inr rfl)) (pgs_cons (pg_name (i := 4) nd rfl (by first | exact Or.inl rfl | exact Or.inr rfl)) pgs_nil)))))
  (pss_cons (ps_ddel (pv 1) (pv 6))
  (pss_one (ps_expr (pe_bm PySem.F.plainAttrs_list PySem.F.slot_list_append PySem.F.type_list_append mt_append (pv 5) (pa_cons (pe_tup (pa_cons (pv 6) (pa_cons (pv 7) pa_nil))) pa_nil)))))))
  (pss_one (ps_expr (pe_bm PySem.F.plainAttrs_list PySem.F.slot_list_append PySem.F.type_list_append mt_append (pv 2) (pa_cons (pe_callTy call_tuple_of rfl (g_tuple T) (by decide +kernel) (pa_cons (pv 5) pa_nil)) pa_nil))))))))
  (pss_one (ps_ret (pv 2))))))
def L_Zigzag_side : Nat := 2
theorem ok_Zigzag_side (T : Txt P K mg) 
    (run : ∀ (c : Cx0) (ss : List Slot) (os : List Cont) (Q : VK) (E : XK), c.M.length = os.length → F_Zigzag_side ss os (Rc K c Q) (Xc K c E) → Run K c (t_Zigzag_side K E) { nx := fun _ H' => Q .non H', rt := Q } (ss ++ List.replicate (1 - ss.length) .u) os) (len : ∀ ss os R X, F_Zigzag_side ss os R X → ss.length = 1) : GoodM P w K mg base "Zigzag" "side" L_Zigzag_side ["self"] F_Zigzag_side := by
  refine goodM_mk (st := s_Zigzag_side) T.fn_Zigzag_side T.c_Zigzag T.me_Zigzag_side (fun _ _ _ _ _ _ us hl => match us, hl with | [_], _ => rfl) fun fd FD => fn_mk (k := 1) (st := s_Zigzag_side) (N := ["self"]) (t_Zigzag_side K) FD sc_Zigzag_side len (fun cdv A outer s H E hr => ?_) run
  have hu := hu_of hr
  have hu64 : (A.deeper (envOfC "Zigzag.side" (defScope s_Zigzag_side) s.heap.objs.size (He.ma K (He.ga K "Zigzag") "side") cdv)).units + 64 < cLine := by have := hr.un; omega
  have nd := sc_Zigzag_side.nd
  exact (pss_one (ps_ret (pe_callTy (call_uListA rfl) rfl (g_list T) (by decide +kernel) (pa_cons (pe_fld (pv 0) rfl) pa_nil))))
def L_Zigzag_cut : Nat := 2
theorem ok_Zigzag_cut (T : Txt P K mg) 
    (run : ∀ (c : Cx0) (ss : List Slot) (os : List Cont) (Q : VK) (E : XK), c.M.length = os.length → F_Zigzag_cut ss os (Rc K c Q) (Xc K c E) → Run K c (t_Zigzag_cut K E) { nx := fun _ H' => Q .non H', rt := Q } (ss ++ List.replicate (5 - ss.length) .u) os) (len : ∀ ss os R X, F_Zigzag_cut ss os R X → ss.length = 1) : GoodM P w K mg base "Zigzag" "cut" L_Zigzag_cut ["self"] F_Zigzag_cut := by
  refine goodM_mk (st := s_Zigzag_cut) T.fn_Zigzag_cut T.c_Zigzag T.me_Zigzag_cut (fun _ _ _ _ _ _ us hl => match us, hl with | [_], _ => rfl) fun fd FD => fn_mk (k := 1) (st := s_Zigzag_cut) (N := ["self", "inner", "node", "begin", "stop"]) (t_Zigzag_cut K) FD sc_Zigzag_cut len (fun cdv A outer s H E hr => ?_) run
  have hu := hu_of hr
  have hu64 : (A.deeper (envOfC "Zigzag.cut" (defScope s_Zigzag_cut) s.heap.objs.size (He.ma K (He.ga K "Zigzag") "cut") cdv)).units + 64 < cLine := by have := hr.un; omega
  have nd := sc_Zigzag_cut.nd
  exact (pss_cons (ps_set (i := 1) nd rfl (by first | exact Or.inl rfl | exact Or.inr rfl) (pe_fld (pv 0) rfl))
  (pss_one (ps_ret (pe_callB call_uSorted rfl (g_sorted T) (by decide +kernel) (pa_cons (pe_lc (own := [("node", 2), ("begin", 3), ("stop", 4)]) rfl nd (pi_seq (pe_fld (pv 0) rfl)) (blkOk_by (own := [("node", 2), ("begin", 3), ("stop", 4)]) (N := ["self", "inner", "node", "begin", "stop"]) (sc := defScope s_Zigzag_cut) (by decide +kernel)) (fun _ _ _ _ _ => (pg_tup rfl (pgs_cons (pg_name (i := 2) nd rfl (by first | exact Or.inl rfl | exact Or.inr rfl)) (pgs_cons (pg_name (i := 3) nd rfl (by first | exact Or.inl rfl | exact Or.inr rfl)) (pgs_cons (pg_name (i := 4) nd rfl (by first | exact Or.inl rfl | exact Or.inr rfl)) pgs_nil))))) (fun _ _ _ _ _ => (pts_one (pt_cmp (pc_of (op_uNe hu64) (pe_cmp (pc_uIn hu (pv 3) (pv 1)) rfl) (pe_cmp (pc_uIn hu (pv 4) (pv 1)) rfl)) rfl))) (fun _ _ _ _ _ => (pv 2))) pa_nil)))))
def L_Zigzag___init__ : Nat := 3
theorem ok_Zigzag___init__ (T : Txt P K mg) (g_Zigzag__push : GoodM P w K mg base "Zigzag" "_push" L_Zigzag__push ["self", "moves"] F_Zigzag__push) (g_Zigzag__search : GoodM P w K mg base "Zigzag" "_search" L_Zigzag__search ["self"] F_Zigzag__search)
    (run : ∀ (c : Cx0) (ss : List Slot) (os : List Cont) (Q : VK) (E : XK), c.M.length = os.length → F_Zigzag___init__ ss os (Rc K c Q) (Xc K c E) → Run K c (t_Zigzag___init__ K E) { nx := fun _ H' => Q .non H', rt := Q } (ss ++ List.replicate (6 - ss.length) .u) os) (len : ∀ ss os R X, F_Zigzag___init__ ss os R X → ss.length = 3) : GoodI P w K mg base "Zigzag" L_Zigzag___init__ ["self", "spans", "end"] F_Zigzag___init__ := by
  refine goodI_mk (st := s_Zigzag___init__) T.fn_Zigzag___init__ T.mk_Zigzag T.m_Zigzag (fun _ _ _ _ _ _ us hl => match us, hl with | [_, _, _], _ => rfl) fun fd FD => fn_mk (k := 2) (st := s_Zigzag___init__) (N := ["self", "spans", "end", "moves", "_", "node"]) (t_Zigzag___init__ K) FD sc_Zigzag___init__ len (fun cdv A outer s H E hr => ?_) run
  have hu := hu_of hr
  have hu64 : (A.deeper (envOfC "Zigzag.__init__" (defScope s_Zigzag___init__) s.heap.objs.size (He.ma K (He.ga K "Zigzag") "__init__") cdv)).units + 64 < cLine := by have := hr.un; omega
  have nd := sc_Zigzag___init__.nd
  exact (pss_cons (ps_fld (pv 0) (pe_callTy (call_uListA rfl) rfl (g_list T) (by decide +kernel) (pa_cons (pv 1) pa_nil)) rfl)
  (pss_cons (ps_fld (pv 0) (pv 2) rfl)
  (pss_cons (ps_fld (pv 0) (pe_dc (own := [("node", 5), ("_", 4)]) rfl nd (pi_seq (pe_fld (pv 0) rfl)) (blkOk_by (own := [("node", 5), ("_", 4)]) (N := ["self", "spans", "end", "moves", "_", "node"]) (sc := defScope s_Zigzag___init__) (by decide +kernel)) (fun _ _ _ _ _ => (pg_tup rfl (pgs_cons (pg_name (i := 5) nd rfl (by first | exact Or.inl rfl | exact Or.inr rfl)) (pgs_cons (pg_name (i := 4) nd rfl (by first | exact Or.inl rfl | exact Or.inr rfl)) (pgs_cons (pg_name (i := 4) nd rfl (by first | exact Or.inl rfl | exact Or.inr rfl)) pgs_nil))))) (fun _ _ _ _ _ => pts_nil) (fun _ _ _ _ _ => (pv 5)) (fun _ _ _ _ _ => pe_int)) rfl)
  (pss_cons (ps_fld (pv 0) pe_int rfl)
  (pss_cons (ps_set (i := 3) nd rfl (by first | exact Or.inl rfl | exact Or.inr rfl) (pe_goodM0 g_Zigzag__search hr (by decide) passE (pv 0)))
  (pss_cons (ps_for (passes_of rfl) rfl (pi_range1 rfl (g_range T) (pa_cons (pe_callB call_len_seq rfl (g_len T) (by decide +kernel) (pa_cons (pe_fld (pv 0) rfl) pa_nil)) pa_nil)) (pg_name (i := 4) nd rfl (by first | exact Or.inl rfl | exact Or.inr rfl)) (pss_one (ps_if (pt_cmp (pc_uIn hu (pv 2) (pv 3)) rfl) (pss_cons (ps_expr (pe_goodM g_Zigzag__push hr (by decide) passE (pv 0) (pa_cons (pv 3) pa_nil)))
  (pss_one (ps_set (i := 3) nd rfl (by first | exact Or.inl rfl | exact Or.inr rfl) (pe_goodM0 g_Zigzag__search hr (by decide) passE (pv 0))))) pss_nil)))
  (pss_one (ps_fld (pv 0) (pe_callB call_uSorted rfl (g_sorted T) (by decide +kernel) (pa_cons (pe_callTy (call_uListA rfl) rfl (g_list T) (by decide +kernel) (pa_cons (pv 3) pa_nil)) pa_nil)) rfl))))))))
def L__law_stream : Nat := 2
theorem ok__law_stream (T : Txt P K mg) 
    (run : ∀ (c : Cx0) (ss : List Slot) (os : List Cont) (Q : VK) (E : XK), c.M.length = os.length → F__law_stream ss os (Rc K c Q) (Xc K c E) → Run K c (t__law_stream K E) { nx := fun _ H' => Q .non H', rt := Q } (ss ++ List.replicate (7 - ss.length) .u) os) (len : ∀ ss os R X, F__law_stream ss os R X → ss.length = 1) : Good P w K mg base "_law_stream" L__law_stream ["script"] F__law_stream := by
  refine good_mk (k := 1) (st := s__law_stream) (f := He.ga K "_law_stream") (N := ["script", "numbers", "place", "cell", "rest", "turn", "mixed"]) (t__law_stream K) (T.fn__law_stream) (T.m__law_stream) sc__law_stream len (fun _ _ _ _ _ _ us hl => match us, hl with | [_], _ => rfl) (fun cdv A outer s H E hr => ?_) run
  have hu := hu_of hr
  have hu64 : (A.deeper (envOfC "_law_stream" (defScope s__law_stream) s.heap.objs.size (He.ga K "_law_stream") cdv)).units + 64 < cLine := by have := hr.un; omega
  have nd := sc__law_stream.nd
  exact (pss_cons (ps_set (i := 1) nd rfl (by first | exact Or.inl rfl | exact Or.inr rfl) (pe_lst pa_nil))
  (pss_cons (ps_for (passes_of rfl) rfl (pi_range1 rfl (g_range T) (pa_cons (pe_callB (call_min2 rfl) rfl (g_min T) (by decide +kernel) (pa_cons (pe_callB call_len_seq rfl (g_len T) (by decide +kernel) (pa_cons (pv 0) pa_nil)) (pa_cons pe_int pa_nil))) pa_nil)) (pg_name (i := 2) nd rfl (by first | exact Or.inl rfl | exact Or.inr rfl)) (pss_cons (ps_set (i := 3) nd rfl (by first | exact Or.inl rfl | exact Or.inr rfl) (pe_callTy call_int1 rfl (g_int T) (by decide +kernel) (pa_cons (pe_uIx hu (pv 0) (pv 2) (fun _ _ => rfl)) pa_nil)))
  (pss_cons (ps_set (i := 4) nd rfl (by first | exact Or.inl rfl | exact Or.inr rfl) (pe_callB call_abs rfl (g_abs T) (by decide +kernel) (pa_cons (pv 3) pa_nil)))
  (pss_one (ps_if (PW.pt (pw_and (pt_cmp (pc_of op_uGe (pv 3) pe_int) rfl) (pw_and1 (pt_cmp (pc_of op_uLt (pv 3) (pe_op op_uPow pe_int pe_int)) rfl)))) (pss_one (ps_for (passes_of rfl) rfl (pi_range1 rfl (g_range T) (pa_cons pe_int pa_nil)) (pg_name (i := 5) nd rfl (by first | exact Or.inl rfl | exact Or.inr rfl)) (pss_cons (ps_set (i := 6) nd rfl (by first | exact Or.inl rfl | exact Or.inr rfl) (pe_op op_uMod (pe_callTy call_int1 rfl (g_int T) (by decide +kernel) (pa_cons (pe_op op_uMul (pe_op op_uAdd (pv 3) pe_int) (pe_op op_uAdd (pe_op op_uAdd pe_int (pe_op op_uMul pe_int (pv 2))) (pe_op op_uMul pe_int (pv 5)))) pa_nil)) pe_int))
  (pss_one (ps_expr (pe_bm PySem.F.plainAttrs_list PySem.F.slot_list_append PySem.F.type_list_append mt_append (pv 1) (pa_cons (pe_op op_uMod (pe_callTy call_int1 rfl (g_int T) (by decide +kernel) (pa_cons (pe_op op_uMul (pv 6) (pv 6)) pa_nil)) pe_int) pa_nil))))))) (pss_one (ps_for (passes_of rfl) rfl (pi_range1 rfl (g_range T) (pa_cons pe_int pa_nil)) (pg_name (i := 5) nd rfl (by first | exact Or.inl rfl | exact Or.inr rfl)) (pss_one (ps_if (pt_cmp (pc_of op_uGt (pv 4) pe_int) rfl) (pss_cons (ps_expr (pe_bm PySem.F.plainAttrs_list PySem.F.slot_list_append PySem.F.type_list_append mt_append (pv 1) (pa_cons (pe_op op_uMod (pe_callTy call_int1 rfl (g_int T) (by decide +kernel) (pa_cons (pv 4) pa_nil)) pe_int) pa_nil)))
  (pss_one (ps_set (i := 4) nd rfl (by first | exact Or.inl rfl | exact Or.inr rfl) (pe_op op_uDiv (pv 4) pe_int)))) pss_nil)))))))))
  (pss_one (ps_ret (pe_revL (pv 1))))))
def L__law_draw : Nat := 2
theorem ok__law_draw (T : Txt P K mg) 
    (run : ∀ (c : Cx0) (ss : List Slot) (os : List Cont) (Q : VK) (E : XK), c.M.length = os.length → F__law_draw ss os (Rc K c Q) (Xc K c E) → Run K c (t__law_draw K E) { nx := fun _ H' => Q .non H', rt := Q } (ss ++ List.replicate (2 - ss.length) .u) os) (len : ∀ ss os R X, F__law_draw ss os R X → ss.length = 2) : Good P w K mg base "_law_draw" L__law_draw ["stream", "many"] F__law_draw := by
  refine good_mk (k := 1) (st := s__law_draw) (f := He.ga K "_law_draw") (N := ["stream", "many"]) (t__law_draw K) (T.fn__law_draw) (T.m__law_draw) sc__law_draw len (fun _ _ _ _ _ _ us hl => match us, hl with | [_, _], _ => rfl) (fun cdv A outer s H E hr => ?_) run
  have hu := hu_of hr
  have hu64 : (A.deeper (envOfC "_law_draw" (defScope s__law_draw) s.heap.objs.size (He.ga K "_law_draw") cdv)).units + 64 < cLine := by have := hr.un; omega
  have nd := sc__law_draw.nd
  exact (pss_cons (ps_if (pt_cmp (pc_of (op_uEq hu64) (pe_callB call_len_seq rfl (g_len T) (by decide +kernel) (pa_cons (pv 0) pa_nil)) pe_int) rfl) (pss_one (ps_ret pe_int)) pss_nil)
  (pss_one (ps_ret (pe_op op_uMod (pe_callTy call_int1 rfl (g_int T) (by decide +kernel) (pa_cons (pe_bm0 PySem.F.plainAttrs_list PySem.F.slot_list_pop PySem.F.type_list_pop mt_pop (pv 0)) pa_nil)) (pv 1)))))
def L__law_ints : Nat := 2
theorem ok__law_ints (T : Txt P K mg) 
    (run : ∀ (c : Cx0) (ss : List Slot) (os : List Cont) (Q : VK) (E : XK), c.M.length = os.length → F__law_ints ss os (Rc K c Q) (Xc K c E) → Run K c (t__law_ints K E) { nx := fun _ H' => Q .non H', rt := Q } (ss ++ List.replicate (3 - ss.length) .u) os) (len : ∀ ss os R X, F__law_ints ss os R X → ss.length = 2) : Good P w K mg base "_law_ints" L__law_ints ["told", "due"] F__law_ints := by
  refine good_mk (k := 1) (st := s__law_ints) (f := He.ga K "_law_ints") (N := ["told", "due", "entry"]) (t__law_ints K) (T.fn__law_ints) (T.m__law_ints) sc__law_ints len (fun _ _ _ _ _ _ us hl => match us, hl with | [_, _], _ => rfl) (fun cdv A outer s H E hr => ?_) run
  have hu := hu_of hr
  have hu64 : (A.deeper (envOfC "_law_ints" (defScope s__law_ints) s.heap.objs.size (He.ga K "_law_ints") cdv)).units + 64 < cLine := by have := hr.un; omega
  have nd := sc__law_ints.nd
  exact (pss_cons (ps_if (PW.pt (pw_or (pt_not (pt_truth (pe_callB call_isi rfl (g_isinstance T) (by decide +kernel) (pa_cons (pv 0) (pa_cons (pe_bltn (v := .ty "list") rfl (g_list T) (by decide +kernel) rfl) pa_nil))) (by intro _; rfl))) (pw_or1 (pt_cmp (pc_of (op_uNe hu64) (pe_callB call_len_seq rfl (g_len T) (by decide +kernel) (pa_cons (pv 0) pa_nil)) (pe_callB call_len_seq rfl (g_len T) (by decide +kernel) (pa_cons (pv 1) pa_nil))) rfl)))) (pss_one (ps_ret pe_bl)) pss_nil)
  (pss_cons (ps_for (passes_of rfl) rfl (pi_seq (pv 0)) (pg_name (i := 2) nd rfl (by first | exact Or.inl rfl | exact Or.inr rfl)) (pss_one (ps_if (PW.pt (pw_or (pt_not (pt_truth (pe_callB call_isi rfl (g_isinstance T) (by decide +kernel) (pa_cons (pv 2) (pa_cons (pe_bltn (v := .ty "int") rfl (g_int T) (by decide +kernel) rfl) pa_nil))) (by intro _; rfl))) (pw_or1 (pt_truth (pe_callB call_isi rfl (g_isinstance T) (by decide +kernel) (pa_cons (pv 2) (pa_cons (pe_bltn (v := .ty "bool") rfl (g_bool T) (by decide +kernel) rfl) pa_nil))) (by intro _; rfl))))) (pss_one (ps_ret pe_bl)) pss_nil)))
  (pss_one (ps_ret (pe_cmp (pc_of (op_uEq hu64) (pv 0) (pe_callTy (call_uListA rfl) rfl (g_list T) (by decide +kernel) (pa_cons (pv 1) pa_nil))) rfl)))))
def L__law_spans_drawn : Nat := 3
theorem ok__law_spans_drawn (T : Txt P K mg) (g__law_draw : Good P w K mg base "_law_draw" L__law_draw ["stream", "many"] F__law_draw)
    (run : ∀ (c : Cx0) (ss : List Slot) (os : List Cont) (Q : VK) (E : XK), c.M.length = os.length → F__law_spans_drawn ss os (Rc K c Q) (Xc K c E) → Run K c (t__law_spans_drawn K E) { nx := fun _ H' => Q .non H', rt := Q } (ss ++ List.replicate (7 - ss.length) .u) os) (len : ∀ ss os R X, F__law_spans_drawn ss os R X → ss.length = 3) : Good P w K mg base "_law_spans_drawn" L__law_spans_drawn ["stream", "many", "most"] F__law_spans_drawn := by
  refine good_mk (k := 2) (st := s__law_spans_drawn) (f := He.ga K "_law_spans_drawn") (N := ["stream", "many", "most", "spans", "turn", "low", "high"]) (t__law_spans_drawn K) (T.fn__law_spans_drawn) (T.m__law_spans_drawn) sc__law_spans_drawn len (fun _ _ _ _ _ _ us hl => match us, hl with | [_, _, _], _ => rfl) (fun cdv A outer s H E hr => ?_) run
  have hu := hu_of hr
  have hu64 : (A.deeper (envOfC "_law_spans_drawn" (defScope s__law_spans_drawn) s.heap.objs.size (He.ga K "_law_spans_drawn") cdv)).units + 64 < cLine := by have := hr.un; omega
  have nd := sc__law_spans_drawn.nd
  exact (pss_cons (ps_set (i := 3) nd rfl (by first | exact Or.inl rfl | exact Or.inr rfl) (pe_lst pa_nil))
  (pss_cons (ps_for (passes_of rfl) rfl (pi_range1 rfl (g_range T) (pa_cons (pv 1) pa_nil)) (pg_name (i := 4) nd rfl (by first | exact Or.inl rfl | exact Or.inr rfl)) (pss_cons (ps_set (i := 5) nd rfl (by first | exact Or.inl rfl | exact Or.inr rfl) (pe_good g__law_draw hr (by decide) rfl passE (pa_cons (pv 0) (pa_cons (pv 2) pa_nil))))
  (pss_cons (ps_set (i := 6) nd rfl (by first | exact Or.inl rfl | exact Or.inr rfl) (pe_op op_uAdd (pe_op op_uAdd (pv 5) pe_int) (pe_good g__law_draw hr (by decide) rfl passE (pa_cons (pv 0) (pa_cons (pe_callB (call_min2 rfl) rfl (g_min T) (by decide +kernel) (pa_cons (pe_op op_uSub (pv 2) (pv 5)) (pa_cons (pe_op op_uAdd pe_int (pe_good g__law_draw hr (by decide) rfl passE (pa_cons (pv 0) (pa_cons (pv 2) pa_nil)))) pa_nil))) pa_nil)))))
  (pss_one (ps_expr (pe_bm PySem.F.plainAttrs_list PySem.F.slot_list_append PySem.F.type_list_append mt_append (pv 3) (pa_cons (pe_tup (pa_cons (pe_op op_uAdd (pe_op op_uMul (pv 4) pe_int) (pe_good g__law_draw hr (by decide) rfl passE (pa_cons (pv 0) (pa_cons pe_int pa_nil)))) (pa_cons (pv 5) (pa_cons (pv 6) pa_nil)))) pa_nil)))))))
  (pss_cons (ps_if (pt_cmp (pc_of (op_uEq hu64) (pe_good g__law_draw hr (by decide) rfl passE (pa_cons (pv 0) (pa_cons pe_int pa_nil))) pe_int) rfl) (pss_one (ps_set (i := 3) nd rfl (by first | exact Or.inl rfl | exact Or.inr rfl) (pe_revL (pv 3)))) pss_nil)
  (pss_one (ps_ret (pv 3))))))
def L__law_thread_ends : Nat := 2
theorem ok__law_thread_ends (T : Txt P K mg) 
    (run : ∀ (c : Cx0) (ss : List Slot) (os : List Cont) (Q : VK) (E : XK), c.M.length = os.length → F__law_thread_ends ss os (Rc K c Q) (Xc K c E) → Run K c (t__law_thread_ends K E) { nx := fun _ H' => Q .non H', rt := Q } (ss ++ List.replicate (12 - ss.length) .u) os) (len : ∀ ss os R X, F__law_thread_ends ss os R X → ss.length = 3) : Good P w K mg base "_law_thread_ends" L__law_thread_ends ["steps", "spans", "used"] F__law_thread_ends := by
  refine good_mk (k := 1) (st := s__law_thread_ends) (f := He.ga K "_law_thread_ends") (N := ["steps", "spans", "used", "place", "step", "node", "turn", "found", "one", "low", "high", "span"]) (t__law_thread_ends K) (T.fn__law_thread_ends) (T.m__law_thread_ends) sc__law_thread_ends len (fun _ _ _ _ _ _ us hl => match us, hl with | [_, _, _], _ => rfl) (fun cdv A outer s H E hr => ?_) run
  have hu := hu_of hr
  have hu64 : (A.deeper (envOfC "_law_thread_ends" (defScope s__law_thread_ends) s.heap.objs.size (He.ga K "_law_thread_ends") cdv)).units + 64 < cLine := by have := hr.un; omega
  have nd := sc__law_thread_ends.nd
  exact (pss_cons (ps_set (i := 3) nd rfl (by first | exact Or.inl rfl | exact Or.inr rfl) pe_int)
  (pss_cons (ps_for (passes_of rfl) rfl (pi_seq (pv 0)) (pg_name (i := 4) nd rfl (by first | exact Or.inl rfl | exact Or.inr rfl)) (pss_cons (ps_if (PW.pt (pw_or (pt_not (pt_truth (pe_callB call_isi rfl (g_isinstance T) (by decide +kernel) (pa_cons (pv 4) (pa_cons (pe_bltn (v := .ty "tuple") rfl (g_tuple T) (by decide +kernel) rfl) pa_nil))) (by intro _; rfl))) (pw_or1 (pt_cmp (pc_of (op_uNe hu64) (pe_callB call_len_seq rfl (g_len T) (by decide +kernel) (pa_cons (pv 4) pa_nil)) pe_int) rfl)))) (pss_one (ps_ret pe_non)) pss_nil)
  (pss_cons (ps_asg (pv 4) (pg_tup rfl (pgs_cons (pg_name (i := 5) nd rfl (by first | exact Or.inl rfl | exact Or.inr rfl)) (pgs_cons (pg_name (i := 6) nd rfl (by first | exact Or.inl rfl | exact Or.inr rfl)) pgs_nil))))
  (pss_cons (ps_if (PW.pt (pw_or (pt_truth (pe_callB call_isi rfl (g_isinstance T) (by decide +kernel) (pa_cons (pv 5) (pa_cons (pe_bltn (v := .ty "bool") rfl (g_bool T) (by decide +kernel) rfl) pa_nil))) (by intro _; rfl)) (pw_or (pt_truth (pe_callB call_isi rfl (g_isinstance T) (by decide +kernel) (pa_cons (pv 6) (pa_cons (pe_bltn (v := .ty "bool") rfl (g_bool T) (by decide +kernel) rfl) pa_nil))) (by intro _; rfl)) (pw_or (pt_cmp (pc_uNotIn hu (pv 6) (pe_tup (pa_cons pe_int (pa_cons (pe_un un_neg pe_int) pa_nil)))) rfl) (pw_or1 (pt_cmp (pc_uIn hu (pv 5) (pv 2)) rfl)))))) (pss_one (ps_ret pe_non)) pss_nil)
  (pss_cons (ps_setLc (i := 7) (own := [("span", 11)]) rfl nd rfl rfl (sw_true rfl rfl rfl (by decide +kernel)) (pi_seq (pv 1)) (blkOk_by (own := [("span", 11)]) (N := ["steps", "spans", "used", "place", "step", "node", "turn", "found", "one", "low", "high", "span"]) (sc := defScope s__law_thread_ends) (by decide +kernel)) (fun _ _ _ _ _ => (pg_name (i := 11) nd rfl (by first | exact Or.inl rfl | exact Or.inr rfl))) (fun _ _ _ _ _ => (pts_one (pt_cmp (pc_of (op_uEq hu64) (pe_uIx hu (pv 11) pe_int (fun _ _ => rfl)) (pv 5)) rfl))) (fun _ _ _ _ _ => (pv 11)))
  (pss_cons (ps_if (pt_cmp (pc_of (op_uNe hu64) (pe_callB call_len_seq rfl (g_len T) (by decide +kernel) (pa_cons (pv 7) pa_nil)) pe_int) rfl) (pss_one (ps_ret pe_non)) pss_nil)
  (pss_cons (ps_asg (pe_uIx hu (pv 7) pe_int (fun _ _ => rfl)) (pg_tup rfl (pgs_cons (pg_name (i := 8) nd rfl (by first | exact Or.inl rfl | exact Or.inr rfl)) (pgs_cons (pg_name (i := 9) nd rfl (by first | exact Or.inl rfl | exact Or.inr rfl)) (pgs_cons (pg_name (i := 10) nd rfl (by first | exact Or.inl rfl | exact Or.inr rfl)) pgs_nil)))))
  (pss_cons (ps_if (pt_cmp (pc_of (op_uEq hu64) (pv 6) (pe_un un_neg pe_int)) rfl) (pss_one (ps_par rfl nd rfl rfl (by decide) rfl rfl (pa_cons (pv 10) (pa_cons (pv 9) pa_nil)) (by rfl))) pss_nil)
  (pss_cons (ps_if (pt_cmp (pc_of (op_uNe hu64) (pv 9) (pv 3)) rfl) (pss_one (ps_ret pe_non)) pss_nil)
  (pss_cons (ps_set (i := 3) nd rfl (by first | exact Or.inl rfl | exact Or.inr rfl) (pv 10))
  (pss_one (ps_expr (pe_bm PySem.F.plainAttrs_list PySem.F.slot_list_append PySem.F.type_list_append mt_append (pv 2) (pa_cons (pv 5) pa_nil))))))))))))))
  (pss_one (ps_ret (pv 3)))))
def L__law_side : Nat := 2
theorem ok__law_side (T : Txt P K mg) 
    (run : ∀ (c : Cx0) (ss : List Slot) (os : List Cont) (Q : VK) (E : XK), c.M.length = os.length → F__law_side ss os (Rc K c Q) (Xc K c E) → Run K c (t__law_side K E) { nx := fun _ H' => Q .non H', rt := Q } (ss ++ List.replicate (3 - ss.length) .u) os) (len : ∀ ss os R X, F__law_side ss os R X → ss.length = 2) : Good P w K mg base "_law_side" L__law_side ["side", "most"] F__law_side := by
  refine good_mk (k := 1) (st := s__law_side) (f := He.ga K "_law_side") (N := ["side", "most", "place"]) (t__law_side K) (T.fn__law_side) (T.m__law_side) sc__law_side len (fun _ _ _ _ _ _ us hl => match us, hl with | [_, _], _ => rfl) (fun cdv A outer s H E hr => ?_) run
  have hu := hu_of hr
  have hu64 : (A.deeper (envOfC "_law_side" (defScope s__law_side) s.heap.objs.size (He.ga K "_law_side") cdv)).units + 64 < cLine := by have := hr.un; omega
  have nd := sc__law_side.nd
  exact (pss_cons (ps_if (PW.pt (pw_or (pt_not (pt_truth (pe_callB call_isi rfl (g_isinstance T) (by decide +kernel) (pa_cons (pv 0) (pa_cons (pe_bltn (v := .ty "list") rfl (g_list T) (by decide +kernel) rfl) pa_nil))) (by intro _; rfl))) (pw_or (pt_cmp (pc_of (op_uEq hu64) (pe_callB call_len_seq rfl (g_len T) (by decide +kernel) (pa_cons (pv 0) pa_nil)) pe_int) rfl) (pw_or (pt_cmp (pc_of (op_uNe hu64) (pe_uIx hu (pv 0) pe_int (fun _ _ => rfl)) pe_int) rfl) (pw_or1 (pt_cmp (pc_uIn hu (pv 1) (pv 0)) rfl)))))) (pss_one (ps_ret pe_bl)) pss_nil)
  (pss_cons (ps_for (passes_of rfl) rfl (pi_seq (pv 0)) (pg_name (i := 2) nd rfl (by first | exact Or.inl rfl | exact Or.inr rfl)) (pss_one (ps_if (PW.pt (pw_or (pt_truth (pe_callB call_isi rfl (g_isinstance T) (by decide +kernel) (pa_cons (pv 2) (pa_cons (pe_bltn (v := .ty "bool") rfl (g_bool T) (by decide +kernel) rfl) pa_nil))) (by intro _; rfl)) (pw_or (pt_not (pt_truth (pe_callB call_isi rfl (g_isinstance T) (by decide +kernel) (pa_cons (pv 2) (pa_cons (pe_bltn (v := .ty "int") rfl (g_int T) (by decide +kernel) rfl) pa_nil))) (by intro _; rfl))) (pw_or (pt_cmp (pc_of op_uLt (pv 2) pe_int) rfl) (pw_or1 (pt_cmp (pc_of op_uGt (pv 2) (pv 1)) rfl)))))) (pss_one (ps_ret pe_bl)) pss_nil)))
  (pss_one (ps_ret (pe_cmp (pc_of (op_uEq hu64) (pv 0) (pe_sortSet rfl rfl (g_sorted T) rfl (g_set T) (pv 0))) rfl)))))
def L__law_holds : Nat := 5
theorem ok__law_holds (T : Txt P K mg) (g_Zigzag___init__ : GoodI P w K mg base "Zigzag" L_Zigzag___init__ ["self", "spans", "end"] F_Zigzag___init__) (g_Zigzag_cut : GoodM P w K mg base "Zigzag" "cut" L_Zigzag_cut ["self"] F_Zigzag_cut) (g_Zigzag_side : GoodM P w K mg base "Zigzag" "side" L_Zigzag_side ["self"] F_Zigzag_side) (g_Zigzag_threads : GoodM P w K mg base "Zigzag" "threads" L_Zigzag_threads ["self"] F_Zigzag_threads) (g__law_ints : Good P w K mg base "_law_ints" L__law_ints ["told", "due"] F__law_ints) (g__law_side : Good P w K mg base "_law_side" L__law_side ["side", "most"] F__law_side) (g__law_thread_ends : Good P w K mg base "_law_thread_ends" L__law_thread_ends ["steps", "spans", "used"] F__law_thread_ends)
    (run : ∀ (c : Cx0) (ss : List Slot) (os : List Cont) (Q : VK) (E : XK), c.M.length = os.length → F__law_holds ss os (Rc K c Q) (Xc K c E) → Run K c (t__law_holds K E) { nx := fun _ H' => Q .non H', rt := Q } (ss ++ List.replicate (10 - ss.length) .u) os) (len : ∀ ss os R X, F__law_holds ss os R X → ss.length = 2) : Good P w K mg base "_law_holds" L__law_holds ["spans", "most"] F__law_holds := by
  refine good_mk (k := 4) (st := s__law_holds) (f := He.ga K "_law_holds") (N := ["spans", "most", "zigzag", "side", "crossing", "threads", "used", "steps", "again", "span"]) (t__law_holds K) (T.fn__law_holds) (T.m__law_holds) sc__law_holds len (fun _ _ _ _ _ _ us hl => match us, hl with | [_, _], _ => rfl) (fun cdv A outer s H E hr => ?_) run
  have hu := hu_of hr
  have hu64 : (A.deeper (envOfC "_law_holds" (defScope s__law_holds) s.heap.objs.size (He.ga K "_law_holds") cdv)).units + 64 < cLine := by have := hr.un; omega
  have nd := sc__law_holds.nd
  exact (pss_cons (ps_set (i := 2) nd rfl (by first | exact Or.inl rfl | exact Or.inr rfl) (pe_goodI g_Zigzag___init__ hr (by decide) rfl passE (pa_cons (pe_callTy (call_uListA rfl) rfl (g_list T) (by decide +kernel) (pa_cons (pv 0) pa_nil)) (pa_cons (pv 1) pa_nil))))
  (pss_cons (ps_set (i := 3) nd rfl (by first | exact Or.inl rfl | exact Or.inr rfl) (pe_goodM0 g_Zigzag_side hr (by decide) passE (pv 2)))
  (pss_cons (ps_if (pt_not (pt_truth (pe_good g__law_side hr (by decide) rfl passE (pa_cons (pv 3) (pa_cons (pv 1) pa_nil))) (by intro _; rfl))) (pss_one (ps_ret pe_bl)) pss_nil)
  (pss_cons (ps_setLc (i := 4) (own := [("span", 9)]) rfl nd rfl rfl (sw_true rfl rfl rfl (by decide +kernel)) (pi_seq (pv 0)) (blkOk_by (own := [("span", 9)]) (N := ["spans", "most", "zigzag", "side", "crossing", "threads", "used", "steps", "again", "span"]) (sc := defScope s__law_holds) (by decide +kernel)) (fun _ _ _ _ _ => (pg_name (i := 9) nd rfl (by first | exact Or.inl rfl | exact Or.inr rfl))) (fun _ _ _ _ _ => (pts_one (pt_cmp (pc_of (op_uNe hu64) (pe_cmp (pc_uIn hu (pe_uIx hu (pv 9) pe_int (fun _ _ => rfl)) (pv 3)) rfl) (pe_cmp (pc_uIn hu (pe_uIx hu (pv 9) pe_int (fun _ _ => rfl)) (pv 3)) rfl)) rfl))) (fun _ _ _ _ _ => (pe_uIx hu (pv 9) pe_int (fun _ _ => rfl))))
  (pss_cons (ps_if (pt_not (pt_truth (pe_good g__law_ints hr (by decide) rfl passE (pa_cons (pe_goodM0 g_Zigzag_cut hr (by decide) passE (pv 2)) (pa_cons (pe_callB call_uSorted rfl (g_sorted T) (by decide +kernel) (pa_cons (pv 4) pa_nil)) pa_nil))) (by intro _; rfl))) (pss_one (ps_ret pe_bl)) pss_nil)
  (pss_cons (ps_set (i := 5) nd rfl (by first | exact Or.inl rfl | exact Or.inr rfl) (pe_goodM0 g_Zigzag_threads hr (by decide) passE (pv 2)))
  (pss_cons (ps_if (PW.pt (pw_or (pt_not (pt_truth (pe_callB call_isi rfl (g_isinstance T) (by decide +kernel) (pa_cons (pv 5) (pa_cons (pe_bltn (v := .ty "list") rfl (g_list T) (by decide +kernel) rfl) pa_nil))) (by intro _; rfl))) (pw_or1 (pt_cmp (pc_of (op_uNe hu64) (pe_callB call_len_seq rfl (g_len T) (by decide +kernel) (pa_cons (pv 5) pa_nil)) (pe_callB call_len_seq rfl (g_len T) (by decide +kernel) (pa_cons (pv 4) pa_nil))) rfl)))) (pss_one (ps_ret pe_bl)) pss_nil)
  (pss_cons (ps_set (i := 6) nd rfl (by first | exact Or.inl rfl | exact Or.inr rfl) (pe_lst pa_nil))
  (pss_cons (ps_for (passes_of rfl) rfl (pi_seq (pv 5)) (pg_name (i := 7) nd rfl (by first | exact Or.inl rfl | exact Or.inr rfl)) (pss_one (ps_if (PW.pt (pw_or (pt_not (pt_truth (pe_callB call_isi rfl (g_isinstance T) (by decide +kernel) (pa_cons (pv 7) (pa_cons (pe_bltn (v := .ty "tuple") rfl (g_tuple T) (by decide +kernel) rfl) pa_nil))) (by intro _; rfl))) (pw_or1 (pt_cmp (pc_of (op_uNe hu64) (pe_good g__law_thread_ends hr (by decide) rfl passE (pa_cons (pv 7) (pa_cons (pv 0) (pa_cons (pv 6) pa_nil)))) (pv 1)) rfl)))) (pss_one (ps_ret pe_bl)) pss_nil)))
  (pss_cons (ps_expr (pe_bm PySem.F.plainAttrs_list PySem.F.slot_list_append PySem.F.type_list_append mt_append (pv 3) (pa_cons (pv 1) pa_nil)))
  (pss_cons (ps_expr (pe_bm PySem.F.plainAttrs_list PySem.F.slot_list_append PySem.F.type_list_append mt_append (pv 5) (pa_cons (pe_tup pa_nil) pa_nil)))
  (pss_cons (ps_set (i := 8) nd rfl (by first | exact Or.inl rfl | exact Or.inr rfl) (pe_goodM0 g_Zigzag_threads hr (by decide) passE (pv 2)))
  (pss_one (ps_ret (L2.pe_and (pe_cmp (pc_of (op_uEq hu64) (pe_callB call_len_seq rfl (g_len T) (by decide +kernel) (pa_cons (pv 8) pa_nil)) (pe_callB call_len_seq rfl (g_len T) (by decide +kernel) (pa_cons (pv 4) pa_nil))) rfl) (pe_one (pe_cmp (pc_of (op_uEq hu64) (pe_goodM0 g_Zigzag_side hr (by decide) passE (pv 2)) (pe_slice sl_uSl (pv 3) po_none (po_some (pe_un un_neg pe_int)))) rfl)))))))))))))))))
def L_law : Nat := 6
theorem ok_law (T : Txt P K mg) (g__law_draw : Good P w K mg base "_law_draw" L__law_draw ["stream", "many"] F__law_draw) (g__law_holds : Good P w K mg base "_law_holds" L__law_holds ["spans", "most"] F__law_holds) (g__law_spans_drawn : Good P w K mg base "_law_spans_drawn" L__law_spans_drawn ["stream", "many", "most"] F__law_spans_drawn) (g__law_stream : Good P w K mg base "_law_stream" L__law_stream ["script"] F__law_stream)
    (run : ∀ (c : Cx0) (ss : List Slot) (os : List Cont) (Q : VK) (E : XK), c.M.length = os.length → F_law ss os (Rc K c Q) (Xc K c E) → Run K c (t_law K E) { nx := fun _ H' => Q .non H', rt := Q } (ss ++ List.replicate (8 - ss.length) .u) os) (len : ∀ ss os R X, F_law ss os R X → ss.length = 1) : Good P w K mg base "law" L_law ["script"] F_law := by
  refine good_mk (k := 5) (st := s_law) (f := He.ga K "law") (N := ["script", "stream", "most", "spans", "short", "ladder", "place", "node"]) (t_law K) (T.fn_law) (T.m_law) sc_law len (fun _ _ _ _ _ _ us hl => match us, hl with | [_], _ => rfl) (fun cdv A outer s H E hr => ?_) run
  have hu := hu_of hr
  have hu64 : (A.deeper (envOfC "law" (defScope s_law) s.heap.objs.size (He.ga K "law") cdv)).units + 64 < cLine := by have := hr.un; omega
  have nd := sc_law.nd
  exact (pss_cons (ps_set (i := 1) nd rfl (by first | exact Or.inl rfl | exact Or.inr rfl) (pe_good g__law_stream hr (by decide) rfl passE (pa_cons (pv 0) pa_nil)))
  (pss_cons (ps_set (i := 2) nd rfl (by first | exact Or.inl rfl | exact Or.inr rfl) (pe_op op_uAdd pe_int (pe_good g__law_draw hr (by decide) rfl passE (pa_cons (pv 1) (pa_cons pe_int pa_nil)))))
  (pss_cons (ps_set (i := 3) nd rfl (by first | exact Or.inl rfl | exact Or.inr rfl) (pe_good g__law_spans_drawn hr (by decide) rfl passE (pa_cons (pv 1) (pa_cons (pe_good g__law_draw hr (by decide) rfl passE (pa_cons (pv 1) (pa_cons pe_int pa_nil))) (pa_cons (pv 2) pa_nil)))))
  (pss_cons (ps_if (pt_not (pt_truth (pe_good g__law_holds hr (by decide) rfl passE (pa_cons (pv 3) (pa_cons (pv 2) pa_nil))) (by intro _; rfl))) (pss_one (ps_ret pe_bl)) pss_nil)
  (pss_cons (ps_setLc (i := 4) (own := [("node", 7)]) rfl nd rfl rfl (sw_true rfl rfl rfl (by decide +kernel)) (pi_range1 rfl (g_range T) (pa_cons (pv 2) pa_nil)) (blkOk_by (own := [("node", 7)]) (N := ["script", "stream", "most", "spans", "short", "ladder", "place", "node"]) (sc := defScope s_law) (by decide +kernel)) (fun _ _ _ _ _ => (pg_name (i := 7) nd rfl (by first | exact Or.inl rfl | exact Or.inr rfl))) (fun _ _ _ _ _ => pts_nil) (fun _ _ _ _ _ => (pe_tup (pa_cons (pv 7) (pa_cons (pv 7) (pa_cons (pe_op op_uAdd (pv 7) pe_int) pa_nil))))))
  (pss_cons (ps_if (PW.pt (pw_or (pt_not (pt_truth (pe_good g__law_holds hr (by decide) rfl passE (pa_cons (pe_op op_uAdd (pv 4) (pe_lst (pa_cons (pe_tup (pa_cons (pv 2) (pa_cons pe_int (pa_cons (pv 2) pa_nil)))) pa_nil))) (pa_cons (pv 2) pa_nil))) (by intro _; rfl))) (pw_or1 (pt_not (pt_truth (pe_good g__law_holds hr (by decide) rfl passE (pa_cons (pe_lst pa_nil) (pa_cons (pv 2) pa_nil))) (by intro _; rfl)))))) (pss_one (ps_ret pe_bl)) pss_nil)
  (pss_cons (ps_if (pt_cmp (pc_of (op_uNe hu64) (pe_good g__law_draw hr (by decide) rfl passE (pa_cons (pv 1) (pa_cons pe_int pa_nil))) pe_int) rfl) (pss_one (ps_ret pe_bl)) pss_nil)
  (pss_cons (ps_set (i := 5) nd rfl (by first | exact Or.inl rfl | exact Or.inr rfl) (pe_lst pa_nil))
  (pss_cons (ps_for (passes_of rfl) rfl (pi_range1 rfl (g_range T) (pa_cons pe_int pa_nil)) (pg_name (i := 6) nd rfl (by first | exact Or.inl rfl | exact Or.inr rfl)) (pss_one (ps_expr (pe_bm PySem.F.plainAttrs_list PySem.F.slot_list_append PySem.F.type_list_append mt_append (pv 5) (pa_cons (pe_tup (pa_cons (pv 6) (pa_cons (pv 6) (pa_cons (pe_op op_uAdd (pv 6) pe_int) pa_nil)))) pa_nil)))))
  (pss_one (ps_ret (L2.pe_and (pe_good g__law_holds hr (by decide) rfl passE (pa_cons (pe_good g__law_spans_drawn hr (by decide) rfl passE (pa_cons (pv 1) (pa_cons pe_int (pa_cons pe_int pa_nil)))) (pa_cons pe_int pa_nil))) (pe_one (pe_good g__law_holds hr (by decide) rfl passE (pa_cons (pe_op op_uAdd (pe_slice sl_uSl (pv 5) (po_some pe_int) po_none) (pe_lst (pa_cons (pe_tup (pa_cons pe_int (pa_cons pe_int (pa_cons pe_int pa_nil)))) (pa_cons (pe_tup (pa_cons pe_int (pa_cons pe_int (pa_cons pe_int pa_nil)))) pa_nil)))) (pa_cons pe_int pa_nil))))))))))))))))
theorem okf_law {fd : FuncData} (FD : FunD K "law" "law" (defArgs s_law) (defBody s_law) (defScope s_law) [] [] (He.ga K "law") fd) (T : Txt P K mg) (g__law_draw : Good P w K mg base "_law_draw" L__law_draw ["stream", "many"] F__law_draw) (g__law_holds : Good P w K mg base "_law_holds" L__law_holds ["spans", "most"] F__law_holds) (g__law_spans_drawn : Good P w K mg base "_law_spans_drawn" L__law_spans_drawn ["stream", "many", "most"] F__law_spans_drawn) (g__law_stream : Good P w K mg base "_law_stream" L__law_stream ["script"] F__law_stream)
    (run : ∀ (c : Cx0) (ss : List Slot) (os : List Cont) (Q : VK) (E : XK), c.M.length = os.length → F_law ss os (Rc K c Q) (Xc K c E) → Run K c (t_law K E) { nx := fun _ H' => Q .non H', rt := Q } (ss ++ List.replicate (8 - ss.length) .u) os) (len : ∀ ss os R X, F_law ss os R X → ss.length = 1) : FnOk P w K mg base (L2.CX P w) L_law (He.ga K "law") fd ["script"] (spOf K F_law) := by
  refine fnok_mk (k := 5) (st := s_law) (f := He.ga K "law") (N := ["script", "stream", "most", "spans", "short", "ladder", "place", "node"]) (t_law K) FD sc_law len (fun cdv A outer s H E hr => ?_) run
  have hu := hu_of hr
  have hu64 : (A.deeper (envOfC "law" (defScope s_law) s.heap.objs.size (He.ga K "law") cdv)).units + 64 < cLine := by have := hr.un; omega
  have nd := sc_law.nd
  exact (pss_cons (ps_set (i := 1) nd rfl (by first | exact Or.inl rfl | exact Or.inr rfl) (pe_good g__law_stream hr (by decide) rfl passE (pa_cons (pv 0) pa_nil)))
  (pss_cons (ps_set (i := 2) nd rfl (by first | exact Or.inl rfl | exact Or.inr rfl) (pe_op op_uAdd pe_int (pe_good g__law_draw hr (by decide) rfl passE (pa_cons (pv 1) (pa_cons pe_int pa_nil)))))
  (pss_cons (ps_set (i := 3) nd rfl (by first | exact Or.inl rfl | exact Or.inr rfl) (pe_good g__law_spans_drawn hr (by decide) rfl passE (pa_cons (pv 1) (pa_cons (pe_good g__law_draw hr (by decide) rfl passE (pa_cons (pv 1) (pa_cons pe_int pa_nil))) (pa_cons (pv 2) pa_nil)))))
  (pss_cons (ps_if (pt_not (pt_truth (pe_good g__law_holds hr (by decide) rfl passE (pa_cons (pv 3) (pa_cons (pv 2) pa_nil))) (by intro _; rfl))) (pss_one (ps_ret pe_bl)) pss_nil)
  (pss_cons (ps_setLc (i := 4) (own := [("node", 7)]) rfl nd rfl rfl (sw_true rfl rfl rfl (by decide +kernel)) (pi_range1 rfl (g_range T) (pa_cons (pv 2) pa_nil)) (blkOk_by (own := [("node", 7)]) (N := ["script", "stream", "most", "spans", "short", "ladder", "place", "node"]) (sc := defScope s_law) (by decide +kernel)) (fun _ _ _ _ _ => (pg_name (i := 7) nd rfl (by first | exact Or.inl rfl | exact Or.inr rfl))) (fun _ _ _ _ _ => pts_nil) (fun _ _ _ _ _ => (pe_tup (pa_cons (pv 7) (pa_cons (pv 7) (pa_cons (pe_op op_uAdd (pv 7) pe_int) pa_nil))))))
  (pss_cons (ps_if (PW.pt (pw_or (pt_not (pt_truth (pe_good g__law_holds hr (by decide) rfl passE (pa_cons (pe_op op_uAdd (pv 4) (pe_lst (pa_cons (pe_tup (pa_cons (pv 2) (pa_cons pe_int (pa_cons (pv 2) pa_nil)))) pa_nil))) (pa_cons (pv 2) pa_nil))) (by intro _; rfl))) (pw_or1 (pt_not (pt_truth (pe_good g__law_holds hr (by decide) rfl passE (pa_cons (pe_lst pa_nil) (pa_cons (pv 2) pa_nil))) (by intro _; rfl)))))) (pss_one (ps_ret pe_bl)) pss_nil)
  (pss_cons (ps_if (pt_cmp (pc_of (op_uNe hu64) (pe_good g__law_draw hr (by decide) rfl passE (pa_cons (pv 1) (pa_cons pe_int pa_nil))) pe_int) rfl) (pss_one (ps_ret pe_bl)) pss_nil)
  (pss_cons (ps_set (i := 5) nd rfl (by first | exact Or.inl rfl | exact Or.inr rfl) (pe_lst pa_nil))
  (pss_cons (ps_for (passes_of rfl) rfl (pi_range1 rfl (g_range T) (pa_cons pe_int pa_nil)) (pg_name (i := 6) nd rfl (by first | exact Or.inl rfl | exact Or.inr rfl)) (pss_one (ps_expr (pe_bm PySem.F.plainAttrs_list PySem.F.slot_list_append PySem.F.type_list_append mt_append (pv 5) (pa_cons (pe_tup (pa_cons (pv 6) (pa_cons (pv 6) (pa_cons (pe_op op_uAdd (pv 6) pe_int) pa_nil)))) pa_nil)))))
  (pss_one (ps_ret (L2.pe_and (pe_good g__law_holds hr (by decide) rfl passE (pa_cons (pe_good g__law_spans_drawn hr (by decide) rfl passE (pa_cons (pv 1) (pa_cons pe_int (pa_cons pe_int pa_nil)))) (pa_cons pe_int pa_nil))) (pe_one (pe_good g__law_holds hr (by decide) rfl passE (pa_cons (pe_op op_uAdd (pe_slice sl_uSl (pv 5) (po_some pe_int) po_none) (pe_lst (pa_cons (pe_tup (pa_cons pe_int (pa_cons pe_int (pa_cons pe_int pa_nil)))) (pa_cons (pe_tup (pa_cons pe_int (pa_cons pe_int (pa_cons pe_int pa_nil)))) pa_nil)))) (pa_cons pe_int pa_nil))))))))))))))))
end
end Z11

set_option maxHeartbeats 4000000
namespace Z11
open PySem PySem.Spec PyProof.Rows L2 VL
def nm0 : List Str := [PySem.Str.ofString "Zigzag", PySem.Str.ofString "_law_stream", PySem.Str.ofString "_law_draw", PySem.Str.ofString "_law_ints", PySem.Str.ofString "_law_spans_drawn", PySem.Str.ofString "_law_thread_ends", PySem.Str.ofString "_law_side", PySem.Str.ofString "_law_holds"]
abbrev names : List Str := nm0
abbrev R : PySem.W.OpenRow := PySem.W.OpenLaw.row PySem.Challenge.rw_foldsunseen_k11_zigzags
abbrev hk : PySem.W.Hook := HV.hookV 6 fa fn sx ex
def ob (s : PySem.W.SharedT) : HV.AlV := HV.obsVG 6 fa fn sx ex (HandSHeadRun.getT s)
theorem ob_eq (s : PySem.W.SharedT) : ob s = hk.obs s.abs := HV.obsVG_eq (HandSHeadRun.getT_eq s)
theorem run (w : World) : HandSHeadRun.RunEq R (PySem.W.view R.prog [10]) hk ob 6000 names w := by
  intro os
  kernel_rfl
end Z11

set_option maxHeartbeats 4000000
namespace Z11
open PySem PySem.Spec PyProof.Rows L2 VL
local macro_rules | `(tactic| walk_at "side") => `(tactic| first | assumption | rfl | omega | decide)
local macro_rules | `(tactic| walk_at "sd") => `(tactic| first | assumption | omega | rotate_left 1)
local macro_rules | `(tactic| walk_at "lv") => `(tactic| first | exact lv_d | exact lv_p rfl | exact dv_d | exact dv_p rfl)
local macro_rules | `(tactic| walk_at "ov") => `(tactic| first
  | ((with_reducible apply VL.gAdd); (first | exact ov_add))
  | ((with_reducible apply VL.gSub); exact ov_sub)
  | ((with_reducible apply VL.gMul); (refine ov_mul ?_); (first | (refine Or.inl ⟨?_, ?_⟩ <;> decide) | (refine Or.inr ⟨?_, ?_⟩ <;> decide) | walk_at "sd"))
  | ((with_reducible apply VL.gDiv); (refine ov_div ?_); (first | (refine ⟨?_, ?_⟩ <;> decide) | walk_at "sd"))
  | ((with_reducible apply VL.gMod); (refine ov_mod ?_); (first | decide | walk_at "sd"))
  | ((with_reducible apply VL.gPow); (refine ov_pow ?_); (first | (refine ⟨?_, ?_, ?_⟩ <;> decide) | walk_at "sd"))
  | ((with_reducible apply VL.gEq); first | exact ov_eq | exact ov_eqO | exact ov_eqOs | exact ov_eqss | exact ov_eqOO)
  | ((with_reducible apply VL.gNe); first | exact ov_ne)
  | ((with_reducible apply VL.gLt); first | exact ov_lt | exact ov_ltO)
  | ((with_reducible apply VL.gLe); first | exact ov_le | exact ov_leO)
  | ((with_reducible apply VL.gGt); first | exact ov_gt | exact ov_gtO)
  | ((with_reducible apply VL.gGe); exact ov_ge)
  | ((with_reducible apply VL.gIs); first | exact ov_isO | exact ov_isU | exact ov_isX)
  | ((with_reducible apply VL.gIsN); first | exact ov_isNO | exact ov_isNU | exact ov_isNX)
  | ((with_reducible apply VL.gIx); first | exact ov_ix20 | exact ov_ix21 | exact ov_ix30 | exact ov_ix31 | exact ov_ix32 | ((refine ov_ixLG (by walk_at "lv") ?_); (walk_at "sd")) | ((refine ov_ixTG ?_); (walk_at "sd"))))
local macro_rules | `(tactic| walk_at "cv") => `(tactic| first
  | ((with_reducible apply VL.gLen); first | exact cv_lenT | exact cv_lenL (by walk_at "lv"))
  | ((with_reducible apply VL.gInt); first | exact cv_int | exact cv_intB)
  | ((with_reducible apply VL.gAbs); exact cv_abs)
  | ((with_reducible apply VL.gMin); exact cv_min2)
  | ((with_reducible apply VL.gMax); exact cv_max2)
  | ((with_reducible apply VL.gList); first | exact cv_listT | exact cv_listL (by walk_at "lv"))
  | ((with_reducible apply VL.gTuple); first | exact cv_tupleT | exact cv_tupleL (by walk_at "lv"))
  | ((with_reducible apply VL.gIsi); first | exact cv_isi rfl | exact cv_isiP rfl rfl))
local macro_rules | `(tactic| walk_at "all") => `(tactic| repeat (first | exact AllD.nil | refine AllD.d ?_))
local macro_rules | `(tactic| walk_at "e") => `(tactic| first
  | ((with_reducible apply VL.gVar); first | exact er_d rfl | exact er_p rfl)
  | ((with_reducible apply VL.gC); first | exact er_int | exact er_bl | exact er_str | exact er_non | exact er_ty | assumption)
  | ((with_reducible apply er_op); (walk_at "e"); (walk_at "e"); (walk_at "ov"))
  | ((with_reducible apply er_cb); (walk_at "e"); (walk_at "cv"))
  | ((with_reducible apply VL.gENil); exact ea_nil)
  | ((with_reducible apply ea_cons); (walk_at "e"); (walk_at "e"))
  | ((with_reducible apply VL.gPop); (refine er_popG rfl rfl ?_); (walk_at "sd"))
  | ((with_reducible apply et_v); (walk_at "e"))
  | ((with_reducible apply er_ix); (walk_at "e"); (walk_at "e"); (walk_at "ov"))
  | ((with_reducible apply er_andV); (walk_at "e"); (intro hb_; (try simp only [decide_eq_true_eq] at hb_); (walk_at "e")))
  | ((with_reducible apply er_orV); (walk_at "e"); (intro hb_; (try simp only [decide_eq_false_iff_not] at hb_); (walk_at "e")))
  | ((with_reducible apply er_notV); (walk_at "e"))
  | ((with_reducible apply et_and); (walk_at "e"); (intro hb_; (try simp only [decide_eq_true_eq] at hb_); (walk_at "e")))
  | ((with_reducible apply et_or); (walk_at "e"); (intro hb_; (try simp only [decide_eq_false_iff_not] at hb_); (walk_at "e")))
  | ((with_reducible apply et_not); (walk_at "e"))
  | ((with_reducible apply VL.gTru); (apply et_truB); (walk_at "e"))
  | ((with_reducible apply er_bits); (walk_at "e"))
  | ((with_reducible apply er_neg); (walk_at "e"))
  | (with_reducible exact er_make0)
  | ((with_reducible apply er_t2); (walk_at "e"); done)
  | ((with_reducible apply er_t3); (walk_at "e"); done)
  | (walk_at "in")
  | (walk_at "call"))
local macro_rules | `(tactic| walk_at "in") => `(tactic| first
  | ((with_reducible apply VL.gIn); first | exact er_inT (by walk_at "e") (by walk_at "e") | exact er_inL (by walk_at "e") (by walk_at "e") (by walk_at "lv"))
  | ((with_reducible apply VL.gNotIn); first | exact er_notinT (by walk_at "e") (by walk_at "e") | exact er_notinL (by walk_at "e") (by walk_at "e") (by walk_at "lv")))
section
variable {P : Program} {K : Fg} {mg : Str → Option Value} {c : Cx0} {s s1 : List Slot} {o o1 os : List Cont} {E : XK} {ta : TA} {D : Ends} {u : TS} {i : Nat}
theorem szl : sizeLine = 16777216 := sizeLine_eq
theorem fld0 {f C : Str} {fs : List (Str × Slot)} {k : Nat} {r : Slot} (cl : Cls K (He.ga K C)) (na : NoAttr K (He.ga K C) f) (hs : sget s 0 = .p k) (hk : cget o k = .obj C fs) (hf : fs.lookup f = some r) : ER K c (tFld K (tVar 0) f) s o s o r := er_fld (er_p hs) hk hf cl na
theorem ov_neB {a b : Bool} : OV K c (uNe K) s o (.d a) (.d b) s o (.d (a != b)) := ov_of fun as G H x y _ h1 h2 Q q => by
  rw [show x = .bl a from h1, show y = .bl b from h2]
  refine .inl ⟨rfl, ?_⟩
  exact q _ (by show V.bl _ = V.bl _; congr 1; cases a <;> cases b <;> decide)
theorem run_Zigzag_side (T : Txt P K mg) (c : Cx0) (ss : List Slot) (os : List Cont) (Q : VK) (E : XK) (hM : c.M.length = os.length) (h : F_Zigzag_side ss os (Rc K c Q) (Xc K c E)) : Run K c (t_Zigzag_side K E) { nx := fun _ H' => Q .non H', rt := Q } (ss ++ List.replicate (1 - ss.length) .u) os := by
  obtain ⟨xs, e, m, f, side, rfl, rfl, h⟩ := h
  show Run K c _ _ [.p 0] [z5 e m, .lst xs, .dct f, .lst side]
  have hM : c.M.length = 4 := hM
  unfold t_Zigzag_side
  refine s_ret (er_cb (ea_cons (fld0 T.c_Zigzag T.n_Zigzag__side rfl rfl rfl) ea_nil) (cv_listAL (lv_p rfl))) ?_
  exact ret_p (os := [z5 e m, .lst xs, .dct f, .lst side]) (ct := .lst side) h rfl ⟨.inr rfl, .inr rfl, .inr rfl, .inr rfl, trivial⟩ (Nat.le_of_eq hM) rfl (Nat.le_refl _) (Nat.le_of_ble_eq_true rfl) rfl rfl rfl
theorem run_Zigzag_cut (T : Txt P K mg) (c : Cx0) (ss : List Slot) (os : List Cont) (Q : VK) (E : XK) (hM : c.M.length = os.length) (h : F_Zigzag_cut ss os (Rc K c Q) (Xc K c E)) : Run K c (t_Zigzag_cut K E) { nx := fun _ H' => Q .non H', rt := Q } (ss ++ List.replicate (5 - ss.length) .u) os := by
  obtain ⟨xs, e, m, f, side, rfl, rfl, hx, h⟩ := h
  show Run K c _ _ [.p 0, .u, .u, .u, .u] [z5 e m, .lst xs, .dct f, .lst side]
  have hM : c.M.length = 4 := hM
  unfold t_Zigzag_cut
  refine q_asg (fld0 T.c_Zigzag T.n_Zigzag__side rfl rfl rfl) (Nat.le_of_ble_eq_true rfl) ?_
  refine run_sl (s1 := [.p 0, .p 3, .u, .u, .u]) ?_ rfl
  have comp : ER K c (tLc (iSeq K (tFld K (tVar 0) "_spans")) (gTup K 3 (gCons (gName 2) (gCons (gName 3) (gCons (gName 4) gNil)))) (tB (tOp (uNe K) (uIn K (tVar 3) (tVar 1)) (uIn K (tVar 4) (tVar 1)))) (tVar 2) [2, 3, 4]) [.p 0, .p 3, .u, .u, .u] [z5 e m, .lst xs, .dct f, .lst side] [.p 0, .p 3, .u, .u, .u] ([z5 e m, .lst xs, .dct f, .lst side] ++ [.lst ((xs.filter (cross side)).map (·.a))]) (.p 4) :=
    er_lc (α := Sp) (β := Int) (P := fun o => cget o 1 = .lst xs) (f' := fun x => [.p 0, .p 3, .d x.a, .d x.b, .d x.c]) (ei_seqP (fld0 T.c_Zigzag T.n_Zigzag__spans rfl rfl rfl) rfl) rfl (fun x => egw_t3 (egws_cons (egw_name (Nat.le_of_ble_eq_true rfl) (by decide)) (egws_cons (egw_name (Nat.le_of_ble_eq_true rfl) (by decide)) (egws_cons (egw_name (Nat.le_of_ble_eq_true rfl) (by decide)) egws_nil))))
      (fun c' x _ => et_v (er_op (er_inL (er_d rfl) (er_p rfl) (lv_p rfl)) (er_inL (er_d rfl) (er_p rfl) (lv_p rfl)) ov_neB)) (fun c' x _ _ => er_d rfl) (by have := hx.len; rw [szl]; omega)
  refine s_ret (er_cb (ea_cons comp ea_nil) (cv_sortedI (lv_p rfl))) ?_
  exact ret_p (os := [z5 e m, .lst xs, .dct f, .lst side]) (ct := .lst (srtI ((xs.filter (cross side)).map (·.a)))) h rfl ⟨.inr rfl, .inr rfl, .inr rfl, .inr rfl, trivial⟩ (Nat.le_of_eq hM) rfl (Nat.le_of_ble_eq_true rfl) (Nat.le_of_ble_eq_true rfl) rfl rfl rfl
end
end Z11

set_option maxHeartbeats 4000000
namespace Z11
open PySem PySem.Spec PyProof.Rows L2 VL
local macro_rules | `(tactic| walk_at "side") => `(tactic| first | assumption | rfl | omega | decide)
local macro_rules | `(tactic| walk_at "sd") => `(tactic| first | assumption | omega | rotate_left 1)
local macro_rules | `(tactic| walk_at "lv") => `(tactic| first | exact lv_d | exact lv_p rfl | exact dv_d | exact dv_p rfl)
local macro_rules | `(tactic| walk_at "ov") => `(tactic| first
  | ((with_reducible apply VL.gAdd); (first | exact ov_add))
  | ((with_reducible apply VL.gSub); exact ov_sub)
  | ((with_reducible apply VL.gMul); (refine ov_mul ?_); (first | (refine Or.inl ⟨?_, ?_⟩ <;> decide) | (refine Or.inr ⟨?_, ?_⟩ <;> decide) | walk_at "sd"))
  | ((with_reducible apply VL.gDiv); (refine ov_div ?_); (first | (refine ⟨?_, ?_⟩ <;> decide) | walk_at "sd"))
  | ((with_reducible apply VL.gMod); (refine ov_mod ?_); (first | decide | walk_at "sd"))
  | ((with_reducible apply VL.gPow); (refine ov_pow ?_); (first | (refine ⟨?_, ?_, ?_⟩ <;> decide) | walk_at "sd"))
  | ((with_reducible apply VL.gEq); first | exact ov_eq | exact ov_eqO | exact ov_eqOs | exact ov_eqss | exact ov_eqOO)
  | ((with_reducible apply VL.gNe); first | exact ov_ne)
  | ((with_reducible apply VL.gLt); first | exact ov_lt | exact ov_ltO)
  | ((with_reducible apply VL.gLe); first | exact ov_le | exact ov_leO)
  | ((with_reducible apply VL.gGt); first | exact ov_gt | exact ov_gtO)
  | ((with_reducible apply VL.gGe); exact ov_ge)
  | ((with_reducible apply VL.gIs); first | exact ov_isO | exact ov_isU | exact ov_isX)
  | ((with_reducible apply VL.gIsN); first | exact ov_isNO | exact ov_isNU | exact ov_isNX)
  | ((with_reducible apply VL.gIx); first | exact ov_ix20 | exact ov_ix21 | exact ov_ix30 | exact ov_ix31 | exact ov_ix32 | ((refine ov_ixLG (by walk_at "lv") ?_); (walk_at "sd")) | ((refine ov_ixTG ?_); (walk_at "sd"))))
local macro_rules | `(tactic| walk_at "cv") => `(tactic| first
  | ((with_reducible apply VL.gLen); first | exact cv_lenT | exact cv_lenL (by walk_at "lv"))
  | ((with_reducible apply VL.gInt); first | exact cv_int | exact cv_intB)
  | ((with_reducible apply VL.gAbs); exact cv_abs)
  | ((with_reducible apply VL.gMin); exact cv_min2)
  | ((with_reducible apply VL.gMax); exact cv_max2)
  | ((with_reducible apply VL.gList); first | exact cv_listT | exact cv_listL (by walk_at "lv"))
  | ((with_reducible apply VL.gTuple); first | exact cv_tupleT | exact cv_tupleL (by walk_at "lv"))
  | ((with_reducible apply VL.gIsi); first | exact cv_isi rfl | exact cv_isiP rfl rfl))
local macro_rules | `(tactic| walk_at "all") => `(tactic| repeat (first | exact AllD.nil | refine AllD.d ?_))
local macro_rules | `(tactic| walk_at "e") => `(tactic| first
  | ((with_reducible apply VL.gVar); first | exact er_d rfl | exact er_p rfl)
  | ((with_reducible apply VL.gC); first | exact er_int | exact er_bl | exact er_str | exact er_non | exact er_ty | assumption)
  | ((with_reducible apply er_op); (walk_at "e"); (walk_at "e"); (walk_at "ov"))
  | ((with_reducible apply er_cb); (walk_at "e"); (walk_at "cv"))
  | ((with_reducible apply VL.gENil); exact ea_nil)
  | ((with_reducible apply ea_cons); (walk_at "e"); (walk_at "e"))
  | ((with_reducible apply VL.gPop); (refine er_popG rfl rfl ?_); (walk_at "sd"))
  | ((with_reducible apply et_v); (walk_at "e"))
  | ((with_reducible apply er_ix); (walk_at "e"); (walk_at "e"); (walk_at "ov"))
  | ((with_reducible apply er_andV); (walk_at "e"); (intro hb_; (try simp only [decide_eq_true_eq] at hb_); (walk_at "e")))
  | ((with_reducible apply er_orV); (walk_at "e"); (intro hb_; (try simp only [decide_eq_false_iff_not] at hb_); (walk_at "e")))
  | ((with_reducible apply er_notV); (walk_at "e"))
  | ((with_reducible apply et_and); (walk_at "e"); (intro hb_; (try simp only [decide_eq_true_eq] at hb_); (walk_at "e")))
  | ((with_reducible apply et_or); (walk_at "e"); (intro hb_; (try simp only [decide_eq_false_iff_not] at hb_); (walk_at "e")))
  | ((with_reducible apply et_not); (walk_at "e"))
  | ((with_reducible apply VL.gTru); (apply et_truB); (walk_at "e"))
  | ((with_reducible apply er_bits); (walk_at "e"))
  | ((with_reducible apply er_neg); (walk_at "e"))
  | (with_reducible exact er_make0)
  | ((with_reducible apply er_t2); (walk_at "e"); done)
  | ((with_reducible apply er_t3); (walk_at "e"); done)
  | (walk_at "in")
  | (walk_at "call"))
local macro_rules | `(tactic| walk_at "in") => `(tactic| first
  | ((with_reducible apply VL.gIn); first | exact er_inT (by walk_at "e") (by walk_at "e") | exact er_inL (by walk_at "e") (by walk_at "e") (by walk_at "lv"))
  | ((with_reducible apply VL.gNotIn); first | exact er_notinT (by walk_at "e") (by walk_at "e") | exact er_notinL (by walk_at "e") (by walk_at "e") (by walk_at "lv")))
section
variable {P : Program} {K : Fg} {mg : Str → Option Value} {c : Cx0} {s s1 : List Slot} {o o1 os : List Cont} {E : XK} {ta : TA} {D : Ends} {u : TS} {i : Nat}
theorem er_unsome {α : Type} [Rp α] {x : α} {te : TE} (h : ER K c te s o s1 o1 (.d (some x))) : ER K c te s o s1 o1 (.d x) := h
structure PsI (xs : List Sp) (e : Int) (f : Fl) (ms : List (Int × Mv)) (w : Mv × Fl × Nat) : Prop where
  ex : ∃ pre y post, pre.length = w.2.2 ∧ ms = pre ++ [(y, w.1)] ++ post ∧ MOk xs (fl w.2.1) (pre ++ [(y, w.1)]) ∧ ∀ v, exc (fl w.2.1) v xs = exc (fl f) v xs + ind (y = v) - ind (e = v)
  key : ∀ n, (dget w.2.1 n).isSome = (dget f n).isSome
  bd : Bd1 (fl w.2.1)
  len : w.2.1.length = f.length
  nd : (w.2.1.map (·.1)).Nodup
theorem dput_keys {f : Fl} {n x : Int} (h : (dget f n).isSome = true) : (dput f n x).map (·.1) = f.map (·.1) := by
  have key : (f.any fun p => decide (p.1 = n)) = true := by
    rw [dget_in] at h
    obtain ⟨p, hp, e⟩ := List.mem_map.mp h
    exact List.any_eq_true.mpr ⟨p, hp, by simpa using e⟩
  unfold dput; rw [if_pos key, List.map_map]
  exact List.map_congr_left fun p _ => by simp only [Function.comp]; split <;> rfl
theorem fl_get {f : Fl} {n : Int} (h : (dget f n).isSome = true) : dget f n = some (fl f n) := by
  unfold fl
  cases e : dget f n with
  | none => rw [e] at h; cases h
  | some x => rfl
theorem PsI.step {xs : List Sp} {e : Int} {f : Fl} {ms : List (Int × Mv)} {f' : Fl} {n t p : Int} {k : Nat} (nd : (xs.map (·.a)).Nodup) (hk : ∀ x ∈ xs, (dget f x.a).isSome = true) (hnd : (ks ms).Nodup) (h : PsI xs e f ms (⟨some n, t, p⟩, f', k)) :
    (dget f' n).isSome = true ∧ ∃ mv' k', k' < k ∧ dget ms p = some mv' ∧ PsI xs e f ms (mv', dput f' n (fl f' n + t), k') := by
  obtain ⟨pre, y, post, e1, e2, e3, e4⟩ := h.ex
  have pu := e3.push nd
  obtain ⟨x, hx, ex⟩ := pu.x_in
  have hn : (dget f' n).isSome = true := by rw [h.key, ← ex]; exact hk x hx
  obtain ⟨pre1, mv', post1, e5, e6⟩ := ent pu.p_in
  have ems : ms = pre1 ++ [(p, mv')] ++ (post1 ++ [(y, (⟨some n, t, p⟩ : Mv))] ++ post) := by rw [e2, e5]; simp [List.append_assoc]
  refine ⟨hn, mv', pre1.length, ?_, ?_, ⟨⟨pre1, p, _, rfl, ems, ?_, fun v => ?_⟩, fun m => ?_, ?_, ?_, ?_⟩⟩
  · have : pre.length = k := e1
    rw [← this, e5]; simp
  · rw [ems]; exact dget_at (by rw [← ems]; exact hnd)
  · rw [dput_fl hn]
    exact MOk.pre pu.ok e5 (by simp)
  · show exc (fl (dput f' n (fl f' n + t))) v xs = _
    rw [dput_fl hn, pu.ex, e4]; omega
  · show (dget (dput f' n (fl f' n + t)) m).isSome = _
    rw [dput_key hn]; exact h.key m
  · show Bd1 (fl (dput f' n (fl f' n + t)))
    rw [dput_fl hn]; exact pu.bd h.bd
  · show (dput f' n (fl f' n + t)).length = _
    rw [dput_length hn]; exact h.len
  · show ((dput f' n (fl f' n + t)).map (·.1)).Nodup
    rw [dput_keys hn]; exact h.nd
theorem run_Zigzag__push (T : Txt P K mg) (c : Cx0) (ss : List Slot) (os : List Cont) (Q : VK) (E : XK) (hM : c.M.length = os.length) (h : F_Zigzag__push ss os (Rc K c Q) (Xc K c E)) : Run K c (t_Zigzag__push K E) { nx := fun _ H' => Q .non H', rt := Q } (ss ++ List.replicate (5 - ss.length) .u) os := by
  obtain ⟨ms, xs, e, m, f, rfl, rfl, hx, hf, hm, he, h⟩ := h
  show Run K c _ _ [.p 0, .d (Dct.mk ms), .u, .u, .u] [z4 e m, .lst xs, .dct f]
  have hM : c.M.length = 3 := hM
  unfold t_Zigzag__push
  refine q_fldA (k := 0) (x := m) (j := 1) (er_p rfl) rfl rfl T.c_Zigzag T.n_Zigzag__many er_int rfl (Nat.le_of_ble_eq_true rfl) ?_
  refine run_os (o1 := [z4 e (m + 1), .lst xs, .dct f]) ?_ rfl
  obtain ⟨pre, mv, post, e1, e2⟩ := ent he
  refine run_seq (s_asgG (er_dget (er_d rfl) (fld0 T.c_Zigzag T.n_Zigzag__end rfl rfl rfl) dv_d e2) (eg_t3 (egs_cons (eg_name (Nat.le_of_ble_eq_true rfl)) (egs_cons (eg_name (Nat.le_of_ble_eq_true rfl)) (egs_cons (eg_name (Nat.le_of_ble_eq_true rfl)) egs_nil)))) (go_run ?_))
  refine run_sl (s1 := [.p 0, .d (Dct.mk ms), .d mv.a, .d mv.b, .d mv.c]) ?_ rfl
  refine s_while (ω := Mv × Fl × Nat) (I := PsI xs e f ms) (μ := fun w => w.2.2) (b := fun w => w.1.a.isSome) (f := fun w => [.p 0, .d (Dct.mk ms), .d w.1.a, .d w.1.b, .d w.1.c]) (g := fun w => [z4 e (m + 1), .lst xs, .dct w.2.1]) (mv, f, pre.length) ?_ (SlW.refl _) (OsW.refl _) (Nat.le_of_eq hM) rfl rfl ?_ ?_ ?_
  · refine ⟨⟨pre, e, post, rfl, e1, ?_, fun v => by show exc (fl f) v xs = exc (fl f) v xs + ind (e = v) - ind (e = v); omega⟩, fun _ => rfl, hf.bd, rfl, hf.nd⟩
    exact MOk.pre hm e1 (by simp)
  · intro w _
    exact et_v (er_op (er_d rfl) er_non ov_isNO)
  · rintro ⟨⟨na, t, p⟩, f', k⟩ hw hb
    cases na with
    | none => cases hb
    | some n =>
      obtain ⟨hn, mv', k', hk', hp, hw'⟩ := hw.step hx.ok.nd hf.key hm.nd
      have hlen : f'.length < 64 := by have := hf.len; rw [show f'.length = f.length from hw.len]; exact this
      refine run_seq (s_dputE (k := 2) (x := fl f' n + t) (y := n) (xs := f') (er_op (er_dget (fld0 T.c_Zigzag T.n_Zigzag__flows rfl rfl rfl) (er_unsome (er_d rfl)) (dv_p rfl) (fl_get hn)) (er_d rfl) ov_add) (fld0 T.c_Zigzag T.n_Zigzag__flows rfl rfl rfl) (er_unsome (er_d rfl)) rfl (by rw [szl]; omega) (go_run ?_))
      refine run_os (o1 := [z4 e (m + 1), .lst xs, .dct (dput f' n (fl f' n + t))]) ?_ rfl
      refine s_asgG (er_dget (er_d rfl) (er_d rfl) dv_d hp) (eg_t3 (egs_cons (eg_name (Nat.le_of_ble_eq_true rfl)) (egs_cons (eg_name (Nat.le_of_ble_eq_true rfl)) (egs_cons (eg_name (Nat.le_of_ble_eq_true rfl)) egs_nil)))) ?_
      exact go_at (mv', dput f' n (fl f' n + t), k') ⟨hw', hk'⟩ ⟨.inr rfl, .inr rfl, .inr rfl, .inr rfl, .inr rfl, trivial⟩ (OsW.refl _) (Nat.le_of_eq hM) rfl rfl
  · rintro ⟨⟨na, t, p⟩, f', k⟩ hw hb
    cases na with
    | some n => cases hb
    | none =>
      obtain ⟨pre1, y, post1, e3, e4, e5, e6⟩ := hw.ex
      have y0 := e5.stop
      subst y0
      refine s_end (ret_d (h f' ⟨fun x hx => by have := hw.key x.a; rw [show dget f' x.a = dget (f', k).1 x.a from rfl, this]; exact hf.key x hx, hw.bd, fun v hv => ?_, by rw [show f'.length = f.length from hw.len]; exact hf.len, hw.nd⟩) (OsW.refl _) (Nat.le_of_eq hM) rfl rfl)
      have := e6 v
      rw [show fl (((⟨none, t, p⟩ : Mv), f', k).2.1) = fl f' from rfl] at this
      rw [this, hf.ex v hv, ind_f (Ne.symm hv)]
      by_cases v0 : v = 0
      · subst v0; rw [if_pos rfl, if_pos rfl, ind_t rfl]; omega
      · rw [if_neg v0, if_neg v0, ind_f (Ne.symm v0)]; omega
end
end Z11

set_option maxHeartbeats 4000000
namespace Z11
open PySem PySem.Spec PyProof.Rows L2 VL
local macro_rules | `(tactic| walk_at "side") => `(tactic| first | assumption | rfl | omega | decide)
local macro_rules | `(tactic| walk_at "sd") => `(tactic| first | assumption | omega | rotate_left 1)
local macro_rules | `(tactic| walk_at "lv") => `(tactic| first | exact lv_d | exact lv_p rfl | exact dv_d | exact dv_p rfl)
local macro_rules | `(tactic| walk_at "ov") => `(tactic| first
  | ((with_reducible apply VL.gAdd); (first | exact ov_add))
  | ((with_reducible apply VL.gSub); exact ov_sub)
  | ((with_reducible apply VL.gMul); (refine ov_mul ?_); (first | (refine Or.inl ⟨?_, ?_⟩ <;> decide) | (refine Or.inr ⟨?_, ?_⟩ <;> decide) | walk_at "sd"))
  | ((with_reducible apply VL.gDiv); (refine ov_div ?_); (first | (refine ⟨?_, ?_⟩ <;> decide) | walk_at "sd"))
  | ((with_reducible apply VL.gMod); (refine ov_mod ?_); (first | decide | walk_at "sd"))
  | ((with_reducible apply VL.gPow); (refine ov_pow ?_); (first | (refine ⟨?_, ?_, ?_⟩ <;> decide) | walk_at "sd"))
  | ((with_reducible apply VL.gEq); first | exact ov_eq | exact ov_eqO | exact ov_eqOs | exact ov_eqss | exact ov_eqOO)
  | ((with_reducible apply VL.gNe); first | exact ov_ne)
  | ((with_reducible apply VL.gLt); first | exact ov_lt | exact ov_ltO)
  | ((with_reducible apply VL.gLe); first | exact ov_le | exact ov_leO)
  | ((with_reducible apply VL.gGt); first | exact ov_gt | exact ov_gtO)
  | ((with_reducible apply VL.gGe); exact ov_ge)
  | ((with_reducible apply VL.gIs); first | exact ov_isO | exact ov_isU | exact ov_isX)
  | ((with_reducible apply VL.gIsN); first | exact ov_isNO | exact ov_isNU | exact ov_isNX)
  | ((with_reducible apply VL.gIx); first | exact ov_ix20 | exact ov_ix21 | exact ov_ix30 | exact ov_ix31 | exact ov_ix32 | ((refine ov_ixLG (by walk_at "lv") ?_); (walk_at "sd")) | ((refine ov_ixTG ?_); (walk_at "sd"))))
local macro_rules | `(tactic| walk_at "cv") => `(tactic| first
  | ((with_reducible apply VL.gLen); first | exact cv_lenT | exact cv_lenL (by walk_at "lv"))
  | ((with_reducible apply VL.gInt); first | exact cv_int | exact cv_intB)
  | ((with_reducible apply VL.gAbs); exact cv_abs)
  | ((with_reducible apply VL.gMin); exact cv_min2)
  | ((with_reducible apply VL.gMax); exact cv_max2)
  | ((with_reducible apply VL.gList); first | exact cv_listT | exact cv_listL (by walk_at "lv"))
  | ((with_reducible apply VL.gTuple); first | exact cv_tupleT | exact cv_tupleL (by walk_at "lv"))
  | ((with_reducible apply VL.gIsi); first | exact cv_isi rfl | exact cv_isiP rfl rfl))
local macro_rules | `(tactic| walk_at "all") => `(tactic| repeat (first | exact AllD.nil | refine AllD.d ?_))
local macro_rules | `(tactic| walk_at "e") => `(tactic| first
  | ((with_reducible apply VL.gVar); first | exact er_d rfl | exact er_p rfl)
  | ((with_reducible apply VL.gC); first | exact er_int | exact er_bl | exact er_str | exact er_non | exact er_ty | assumption)
  | ((with_reducible apply er_op); (walk_at "e"); (walk_at "e"); (walk_at "ov"))
  | ((with_reducible apply er_cb); (walk_at "e"); (walk_at "cv"))
  | ((with_reducible apply VL.gENil); exact ea_nil)
  | ((with_reducible apply ea_cons); (walk_at "e"); (walk_at "e"))
  | ((with_reducible apply VL.gPop); (refine er_popG rfl rfl ?_); (walk_at "sd"))
  | ((with_reducible apply et_v); (walk_at "e"))
  | ((with_reducible apply er_ix); (walk_at "e"); (walk_at "e"); (walk_at "ov"))
  | ((with_reducible apply er_andV); (walk_at "e"); (intro hb_; (try simp only [decide_eq_true_eq] at hb_); (walk_at "e")))
  | ((with_reducible apply er_orV); (walk_at "e"); (intro hb_; (try simp only [decide_eq_false_iff_not] at hb_); (walk_at "e")))
  | ((with_reducible apply er_notV); (walk_at "e"))
  | ((with_reducible apply et_and); (walk_at "e"); (intro hb_; (try simp only [decide_eq_true_eq] at hb_); (walk_at "e")))
  | ((with_reducible apply et_or); (walk_at "e"); (intro hb_; (try simp only [decide_eq_false_iff_not] at hb_); (walk_at "e")))
  | ((with_reducible apply et_not); (walk_at "e"))
  | ((with_reducible apply VL.gTru); (apply et_truB); (walk_at "e"))
  | ((with_reducible apply er_bits); (walk_at "e"))
  | ((with_reducible apply er_neg); (walk_at "e"))
  | (with_reducible exact er_make0)
  | ((with_reducible apply er_t2); (walk_at "e"); done)
  | ((with_reducible apply er_t3); (walk_at "e"); done)
  | (walk_at "in")
  | (walk_at "call"))
local macro_rules | `(tactic| walk_at "in") => `(tactic| first
  | ((with_reducible apply VL.gIn); first | exact er_inT (by walk_at "e") (by walk_at "e") | exact er_inL (by walk_at "e") (by walk_at "e") (by walk_at "lv"))
  | ((with_reducible apply VL.gNotIn); first | exact er_notinT (by walk_at "e") (by walk_at "e") | exact er_notinL (by walk_at "e") (by walk_at "e") (by walk_at "lv")))
section
variable {P : Program} {K : Fg} {mg : Str → Option Value} {c : Cx0} {s s1 : List Slot} {o o1 os : List Cont} {E : XK} {ta : TA} {D : Ends} {u : TS} {i : Nat}
theorem er_disp1 {κ α : Type} [DecidableEq κ] [KeyT κ] [Rp κ] [KeyR κ] [Rp α] {y : κ} {x : α} {tk tv : TE} (hk : ER K c tk s (o ++ [.dct ([] : List (κ × α))]) s (o ++ [.dct ([] : List (κ × α))]) (.d y)) (hv : ER K c tv s (o ++ [.dct ([] : List (κ × α))]) s (o ++ [.dct ([] : List (κ × α))]) (.d x)) :
    ER K c (tDisp [(tk, tv)]) s o s (o ++ [.dct [(y, x)]]) (.p o.length) := fun as G σ H A Q q p hp => by
  have A1 := A.newP (o := .dK []) (ct := .dct ([] : List (κ × α))) hp ⟨[], rfl, .nil⟩
  have hpx : (as ++ [p])[o.length]? = some p := by rw [← A.asz, List.getElem?_concat_length]
  refine hk _ _ σ _ A1 _ fun v as1 G1 H1 p1 l1 A2 h1 => hv as1 G1 σ H1 A2 _ fun z as2 G2 H2 p2 l2 A3 h2 => ?_
  have hp2 : as2[o.length]? = some p := p2.get (p1.get hpx)
  have cg : cget (o ++ [.dct ([] : List (κ × α))]) o.length = .dct ([] : List (κ × α)) := by rw [cget_app, if_pos rfl]
  obtain ⟨vs, e, hr⟩ := at_dct A3 hp2 cg
  cases hr
  refine ⟨e, [(KeyT.key y, z)], by rw [KeyR.to K G1 v y h1]; rfl, by simp, ?_⟩
  have A4 := A3.put (o := .dK (mergeK [] [(KeyT.key y, z)])) (ct := .dct [(y, x)]) hp2 (by rw [cg]; trivial) ⟨_, rfl, .cons ⟨rfl, h2⟩ .nil⟩
  have eo : (o ++ [Cont.dct ([] : List (κ × α))]).set o.length (Cont.dct [(y, x)]) = o ++ [Cont.dct [(y, x)]] := by rw [List.set_append_right _ _ (Nat.le_refl _), Nat.sub_self]; rfl
  rw [eo] at A4
  exact q _ as2 G2 _ ((Pre.trans ⟨[p], rfl⟩ p1).trans p2) (l1.trans l2) A4 ⟨p, hp2, rfl⟩
theorem go_os {Pq : L2.St → Hp → Prop} (h : Go K c Pq s o1) (e : o = o1) : Go K c Pq s o := e ▸ h
theorem nodup_len : ∀ (n : Nat) (l : List Int), l.Nodup → (∀ y ∈ l, 0 ≤ y ∧ y < (n : Int)) → l.length ≤ n
  | 0, l, _, h => by
    cases l with
    | nil => exact Nat.le_refl _
    | cons y l => have := h y (by simp); omega
  | n + 1, l, nd, h => by
    have := nodup_len n (l.erase (n : Int)) (nd.erase _) fun y hy => by
      have h1 := h y (List.mem_of_mem_erase hy)
      have h2 : y ≠ (n : Int) := fun e => (List.Nodup.not_mem_erase nd) (e ▸ hy)
      omega
    by_cases m : (n : Int) ∈ l
    · rw [List.length_erase_of_mem m] at this; omega
    · rw [List.erase_of_not_mem m] at this; omega
theorem ms_len {xs : List Sp} {e : Int} {f : Int → Int} {ms : List (Int × Mv)} (hx : SpIn xs e) (h : MOk xs f ms) : ms.length ≤ 101 := by
  have := nodup_len 101 (ks ms) h.nd fun y hy => by have := h.rng hx.ok y hy; have := hx.e2; omega
  rw [List.length_map] at this; exact this
theorem dput_new {α : Type} {l : List (Int × α)} {y : Int} {x : α} (h : y ∉ l.map (·.1)) : dput l y x = l ++ [(y, x)] := by
  unfold dput; rw [if_neg]
  intro z
  obtain ⟨p, hp, e⟩ := List.any_eq_true.mp z
  exact h (List.mem_map.mpr ⟨p, hp, by simpa using e⟩)
def C1 (f : Int → Int) (side : List Int) (x : Sp) (p : Int) : Prop := (x.b = p → f x.a < 1 → x.c ∈ side) ∧ (x.c = p → -1 < f x.a → x.b ∈ side)
theorem C1.mono {f : Int → Int} {a b : List Int} {x : Sp} {p : Int} (h : C1 f a x p) (k : ∀ y ∈ a, y ∈ b) : C1 f b x p := ⟨fun h1 h2 => k _ (h.1 h1 h2), fun h1 h2 => k _ (h.2 h1 h2)⟩
structure SrI (xs : List Sp) (f : Fl) (w : List (Int × Mv) × Nat) : Prop where
  ok : MOk xs (fl f) w.1
  le : w.2 ≤ w.1.length
  cl : ∀ i, i < w.2 → ∀ p, (ks w.1)[i]? = some p → ∀ x ∈ xs, C1 (fl f) (ks w.1) x p
structure SrJ (xs : List Sp) (f : Fl) (ms : List (Int × Mv)) (p : Int) (k : Nat) (ms' : List (Int × Mv)) : Prop where
  ok : MOk xs (fl f) ms'
  pre : ∃ more, ms' = ms ++ more
  cl : ∀ j x, j < k → xs[j]? = some x → C1 (fl f) (ks ms') x p
theorem SrJ.next {xs : List Sp} {f : Fl} {ms ms' : List (Int × Mv)} {p : Int} {k : Nat} {x : Sp} (h : SrJ xs f ms p k ms') (hx : xs[k]? = some x) (more : List (Int × Mv)) (ok : MOk xs (fl f) (ms' ++ more)) (c : C1 (fl f) (ks (ms' ++ more)) x p) : SrJ xs f ms p (k + 1) (ms' ++ more) := by
  obtain ⟨m1, e1⟩ := h.pre
  refine ⟨ok, ⟨m1 ++ more, by rw [e1, List.append_assoc]⟩, fun j y hj hy => ?_⟩
  by_cases e : j = k
  · subst e; rw [hx] at hy; cases hy; exact c
  · exact (h.cl j y (by omega) hy).mono fun z hz => by rw [ks, List.map_append]; exact List.mem_append_left _ hz
theorem atI_nat {α : Type} (xs : List α) (k : Nat) : atI xs (k : Int) = xs[k]? := by
  unfold atI
  by_cases h : k < xs.length
  · rw [show ixN xs.length (k : Int) = some k by unfold ixN; simp; omega]; rfl
  · rw [List.getElem?_eq_none (by omega)]
    cases e : ixN xs.length (k : Int) with
    | none => rfl
    | some n => unfold ixN at e; simp at e; omega
theorem run_Zigzag__search (T : Txt P K mg) (c : Cx0) (ss : List Slot) (os : List Cont) (Q : VK) (E : XK) (hM : c.M.length = os.length) (h : F_Zigzag__search ss os (Rc K c Q) (Xc K c E)) : Run K c (t_Zigzag__search K E) { nx := fun _ H' => Q .non H', rt := Q } (ss ++ List.replicate (9 - ss.length) .u) os := by
  obtain ⟨xs, e, m, f, rfl, rfl, hx, hf, h⟩ := h
  show Run K c _ _ [.p 0, .u, .u, .u, .u, .u, .u, .u, .u] [z4 e m, .lst xs, .dct f]
  have hM : c.M.length = 3 := hM
  unfold t_Zigzag__search
  refine q_asg (er_disp1 (y := (0 : Int)) (x := (⟨none, 0, 0⟩ : Mv)) er_int (er_t3 (ea_cons (er_none er_non) (ea_cons er_int (ea_cons er_int ea_nil))))) (Nat.le_of_ble_eq_true rfl) ?_
  refine q_asg (er_lstA (xs := ([0] : List Int)) (ea_cons er_int ea_nil) (.d .nil) (by rw [szl]; decide)) (Nat.le_of_ble_eq_true rfl) ?_
  refine q_asg er_int (Nat.le_of_ble_eq_true rfl) ?_
  refine run_os (o1 := [z4 e m, .lst xs, .dct f, .dct ([(0, ⟨none, 0, 0⟩)] : List (Int × Mv)), .lst ([0] : List Int)]) ?_ rfl
  refine run_sl (s1 := [.p 0, .p 3, .p 4, .d (0 : Int), .u, .u, .u, .u, .u]) ?_ rfl
  refine q_while (ω := List (Int × Mv) × Nat) (I := SrI xs f) (μ := fun w => 101 - w.2) (b := fun w => decide (((w.2 : Nat) : Int) < ((ks w.1).length : Int))) (f := fun w => [.p 0, .p 3, .p 4, .d ((w.2 : Nat) : Int), .u, .u, .u, .u, .u]) (g := fun w => [z4 e m, .lst xs, .dct f, .dct w.1, .lst (ks w.1)]) ([(0, ⟨none, 0, 0⟩)], 0) ?_ (SlW.refl _) (OsW.refl _) (by show c.M.length ≤ 5; omega) rfl rfl ?_ ?_ ?_
  · exact ⟨.base, Nat.zero_le _, fun i hi => absurd hi (Nat.not_lt_zero _)⟩
  · intro w _
    exact et_v (er_op (er_d rfl) (er_cb (ea_cons (er_p rfl) ea_nil) (cv_lenL (lv_p rfl))) ov_lt)
  · rintro ⟨ms, dn⟩ hw hb
    have hb : ((dn : Nat) : Int) < ((ks ms).length : Int) := by simpa using hb
    have hdn : dn < (ks ms).length := by omega
    obtain ⟨p, hp⟩ : ∃ p, (ks ms)[dn]? = some p := ⟨_, List.getElem?_eq_getElem hdn⟩
    have hpm : p ∈ ks ms := List.mem_of_getElem? hp
    refine q_asg (er_ix (er_p rfl) (er_d rfl) (ov_ixL (lv_p rfl) (by rw [atI_nat]; exact hp))) (Nat.le_of_ble_eq_true rfl) ?_
    refine q_augA (x := (dn : Int)) (j := 1) rfl er_int (Nat.le_of_ble_eq_true rfl) ?_
    refine run_sl (s1 := [.p 0, .p 3, .p 4, .d ((dn : Int) + 1), .d p, .u, .u, .u, .u]) ?_ rfl
    refine s_for (α := Sp) (I := SrJ xs f ms p) (f := fun _ => [.p 0, .p 3, .p 4, .d ((dn : Int) + 1), .d p, .u, .u, .u, .u]) (g := fun ms' => [z4 e m, .lst xs, .dct f, .dct ms', .lst (ks ms')]) (f' := fun _ x => [.p 0, .p 3, .p 4, .d ((dn : Int) + 1), .d p, .d x.a, .d x.b, .d x.c, .u]) (ei_seqP (fld0 T.c_Zigzag T.n_Zigzag__spans rfl rfl rfl) rfl) ms ⟨hw.ok, ⟨[], by simp⟩, fun j x hj => absurd hj (Nat.not_lt_zero _)⟩ (SlW.refl _) rfl rfl rfl (fun _ _ _ => rfl)
      (fun _ x => eg_t3 (egs_cons (eg_name (Nat.le_of_ble_eq_true rfl)) (egs_cons (eg_name (Nat.le_of_ble_eq_true rfl)) (egs_cons (eg_name (Nat.le_of_ble_eq_true rfl)) egs_nil)))) ?_ ?_
    · intro c' hc hM' k ms' x hk hJ
      have hM' : c'.M.length = 5 := hM'
      have hxm : x ∈ xs := List.mem_of_getElem? hk
      have hl := ms_len hx hJ.ok
      have hxo := hx.ok.ok x hxm
      have pin : p ∈ ks ms' := by
        obtain ⟨more, em⟩ := hJ.pre
        rw [em, ks, List.map_append]; exact List.mem_append_left _ hpm
      refine q_asg (er_dget (fld0 T.c_Zigzag T.n_Zigzag__flows rfl rfl rfl) (er_d rfl) (dv_p rfl) (fl_get (hf.key x hxm))) (Nat.le_of_ble_eq_true rfl) ?_
      refine run_sl (s1 := [.p 0, .p 3, .p 4, .d ((dn : Int) + 1), .d p, .d x.a, .d x.b, .d x.c, .d (fl f x.a)]) ?_ rfl
      refine s_if (et_and (et_v (er_op (er_d rfl) (er_d rfl) ov_eq)) fun _ => et_and (et_v (er_op (er_d rfl) er_int ov_lt)) fun _ => et_v (er_dnotin (er_d rfl) (er_p rfl) (dv_p rfl))) (fun b1 => ?_) (fun b1 => ?_)
      · simp only [Bool.and_eq_true, decide_eq_true_eq, Bool.not_eq_true', ← Bool.not_eq_true, dget_in] at b1
        obtain ⟨b2, b3, b4⟩ := b1
        refine run_seq (s_dputE (k := 3) (x := (⟨some x.a, 1, p⟩ : Mv)) (y := x.c) (xs := ms') (er_t3 (ea_cons (er_some (er_d rfl)) (ea_cons er_int (ea_cons (er_d rfl) ea_nil)))) (er_p rfl) (er_d rfl) rfl (by rw [szl]; omega) (go_run ?_))
        rw [dput_new b4]
        refine run_os (o1 := [z4 e m, .lst xs, .dct f, .dct (ms' ++ [(x.c, (⟨some x.a, 1, p⟩ : Mv))]), .lst (ks ms')]) ?_ rfl
        refine s_append (x := x.c) (xs := ks ms') (k := 4) rfl (er_d rfl) rfl ⟨_, _, _, rfl⟩ (by rw [szl, List.length_map]; omega) ?_
        have em : ks (ms' ++ [(x.c, (⟨some x.a, 1, p⟩ : Mv))]) = ks ms' ++ [x.c] := by rw [ks, List.map_append]; rfl
        refine go_os (o1 := [z4 e m, .lst xs, .dct f, .dct (ms' ++ [(x.c, (⟨some x.a, 1, p⟩ : Mv))]), .lst (ks (ms' ++ [(x.c, (⟨some x.a, 1, p⟩ : Mv))]))]) ?_ (by rw [em]; rfl)
        exact go_at (ms' ++ [(x.c, (⟨some x.a, 1, p⟩ : Mv))]) (hJ.next hk _ (.snoc hJ.ok b4 pin hxm (.inl ⟨rfl, b2, rfl, b3⟩)) ⟨fun _ _ => by rw [em]; simp, fun z => by omega⟩) ⟨.inr rfl, .inr rfl, .inr rfl, .inr rfl, .inr rfl, .inl rfl, .inl rfl, .inl rfl, .inl rfl, trivial⟩ (OsW.refl _) (Nat.le_of_eq hM') rfl rfl
      · have n1 : x.b = p → fl f x.a < 1 → x.c ∈ ks ms' := fun e1 e2 => by
          by_cases z : x.c ∈ ks ms'
          · exact z
          · rw [← dget_in] at z
            simp [e1, e2, z] at b1
        refine s_if (et_and (et_v (er_op (er_d rfl) (er_d rfl) ov_eq)) fun _ => et_and (et_v (er_op (er_d rfl) (er_neg er_int) ov_gt)) fun _ => et_v (er_dnotin (er_d rfl) (er_p rfl) (dv_p rfl))) (fun b1 => ?_) (fun b1' => ?_)
        · simp only [Bool.and_eq_true, decide_eq_true_eq, Bool.not_eq_true', ← Bool.not_eq_true, dget_in] at b1
          obtain ⟨b2, b3, b4⟩ := b1
          refine run_seq (s_dputE (k := 3) (x := (⟨some x.a, -1, p⟩ : Mv)) (y := x.b) (xs := ms') (er_t3 (ea_cons (er_some (er_d rfl)) (ea_cons (er_neg er_int) (ea_cons (er_d rfl) ea_nil)))) (er_p rfl) (er_d rfl) rfl (by rw [szl]; omega) (go_run ?_))
          rw [dput_new b4]
          refine run_os (o1 := [z4 e m, .lst xs, .dct f, .dct (ms' ++ [(x.b, (⟨some x.a, -1, p⟩ : Mv))]), .lst (ks ms')]) ?_ rfl
          refine s_append (x := x.b) (xs := ks ms') (k := 4) rfl (er_d rfl) rfl ⟨_, _, _, rfl⟩ (by rw [szl, List.length_map]; omega) ?_
          have em : ks (ms' ++ [(x.b, (⟨some x.a, -1, p⟩ : Mv))]) = ks ms' ++ [x.b] := by rw [ks, List.map_append]; rfl
          refine go_os (o1 := [z4 e m, .lst xs, .dct f, .dct (ms' ++ [(x.b, (⟨some x.a, -1, p⟩ : Mv))]), .lst (ks (ms' ++ [(x.b, (⟨some x.a, -1, p⟩ : Mv))]))]) ?_ (by rw [em]; rfl)
          exact go_at (ms' ++ [(x.b, (⟨some x.a, -1, p⟩ : Mv))]) (hJ.next hk _ (.snoc hJ.ok b4 pin hxm (.inr ⟨rfl, b2, rfl, b3⟩)) ⟨fun z => by omega, fun _ _ => by rw [em]; simp⟩) ⟨.inr rfl, .inr rfl, .inr rfl, .inr rfl, .inr rfl, .inl rfl, .inl rfl, .inl rfl, .inl rfl, trivial⟩ (OsW.refl _) (Nat.le_of_eq hM') rfl rfl
        · have n2 : x.c = p → -1 < fl f x.a → x.b ∈ ks ms' := fun e1 e2 => by
            by_cases z : x.b ∈ ks ms'
            · exact z
            · rw [← dget_in] at z
              simp [e1, e2, z] at b1'
          have hJ' := hJ.next hk [] (by rw [List.append_nil]; exact hJ.ok) (by rw [List.append_nil]; exact ⟨n1, n2⟩)
          rw [List.append_nil] at hJ'
          exact s_next (go_at ms' hJ' ⟨.inr rfl, .inr rfl, .inr rfl, .inr rfl, .inr rfl, .inl rfl, .inl rfl, .inl rfl, .inl rfl, trivial⟩ (OsW.refl _) (Nat.le_of_eq hM') rfl rfl)
    · intro ms' hJ
      obtain ⟨more, em⟩ := hJ.pre
      have ek : ks ms' = ks ms ++ ks more := by rw [em, ks, List.map_append]
      have hl := ms_len hx hJ.ok
      have h1 : (ks ms).length ≤ ms'.length := by rw [← List.length_map (f := (·.1)) (as := ms')]; show _ ≤ (ks ms').length; rw [ek, List.length_append]; omega
      refine go_at (ms', dn + 1) ⟨⟨hJ.ok, by show dn + 1 ≤ ms'.length; omega, fun i hi q hq y hy => ?_⟩, by show 101 - (dn + 1) < 101 - dn; omega⟩ ⟨.inr rfl, .inr rfl, .inr rfl, .inr rfl, .inl rfl, .inl rfl, .inl rfl, .inl rfl, .inl rfl, trivial⟩ (OsW.refl _) (by show c.M.length ≤ 5; omega) rfl rfl
      have hi : i < dn + 1 := hi
      have hq2 : (ks ms)[i]? = some q := by
        have z : (ks ms')[i]? = some q := hq
        rw [ek, List.getElem?_append_left (by omega)] at z; exact z
      by_cases ei : i = dn
      · have epq : p = q := by rw [ei, hp] at hq2; exact Option.some.inj hq2
        subst epq
        obtain ⟨j, hj, ey⟩ := List.mem_iff_getElem.mp hy
        exact hJ.cl j y hj (by rw [List.getElem?_eq_getElem hj, ey])
      · exact (hw.cl i (show i < dn by omega) q hq2 y hy).mono fun z hz => by show z ∈ ks ms'; rw [ek]; exact List.mem_append_left _ hz
  · rintro ⟨ms, dn⟩ hw hb
    have hb : ¬ ((dn : Nat) : Int) < ((ks ms).length : Int) := by simpa using hb
    have e1 : dn = ms.length := by have : dn ≤ ms.length := hw.le; rw [List.length_map] at hb; omega
    refine s_ret (er_frzD (er_p rfl) rfl (by show c.M.length ≤ 3; omega)) ?_
    refine ret_d (h ms ⟨hw.ok, fun p hp x hxm => ?_⟩) ⟨.inr rfl, .inr rfl, .inr rfl, trivial⟩ (Nat.le_of_eq hM) rfl rfl
    obtain ⟨i, hi, ei⟩ := List.mem_iff_getElem.mp hp
    exact hw.cl i (by show i < dn; rw [e1, ← List.length_map (f := (·.1)) (as := ms)]; exact hi) p (by show (ks ms)[i]? = some p; rw [List.getElem?_eq_getElem hi, ei]) x hxm
end
end Z11

set_option maxHeartbeats 4000000
namespace Z11
open PySem PySem.Spec PyProof.Rows L2 VL
local macro_rules | `(tactic| walk_at "side") => `(tactic| first | assumption | rfl | omega | decide)
local macro_rules | `(tactic| walk_at "sd") => `(tactic| first | assumption | omega | rotate_left 1)
local macro_rules | `(tactic| walk_at "lv") => `(tactic| first | exact lv_d | exact lv_p rfl | exact dv_d | exact dv_p rfl)
local macro_rules | `(tactic| walk_at "ov") => `(tactic| first
  | ((with_reducible apply VL.gAdd); (first | exact ov_add))
  | ((with_reducible apply VL.gSub); exact ov_sub)
  | ((with_reducible apply VL.gMul); (refine ov_mul ?_); (first | (refine Or.inl ⟨?_, ?_⟩ <;> decide) | (refine Or.inr ⟨?_, ?_⟩ <;> decide) | walk_at "sd"))
  | ((with_reducible apply VL.gDiv); (refine ov_div ?_); (first | (refine ⟨?_, ?_⟩ <;> decide) | walk_at "sd"))
  | ((with_reducible apply VL.gMod); (refine ov_mod ?_); (first | decide | walk_at "sd"))
  | ((with_reducible apply VL.gPow); (refine ov_pow ?_); (first | (refine ⟨?_, ?_, ?_⟩ <;> decide) | walk_at "sd"))
  | ((with_reducible apply VL.gEq); first | exact ov_eq | exact ov_eqO | exact ov_eqOs | exact ov_eqss | exact ov_eqOO)
  | ((with_reducible apply VL.gNe); first | exact ov_ne)
  | ((with_reducible apply VL.gLt); first | exact ov_lt | exact ov_ltO)
  | ((with_reducible apply VL.gLe); first | exact ov_le | exact ov_leO)
  | ((with_reducible apply VL.gGt); first | exact ov_gt | exact ov_gtO)
  | ((with_reducible apply VL.gGe); exact ov_ge)
  | ((with_reducible apply VL.gIs); first | exact ov_isO | exact ov_isU | exact ov_isX)
  | ((with_reducible apply VL.gIsN); first | exact ov_isNO | exact ov_isNU | exact ov_isNX)
  | ((with_reducible apply VL.gIx); first | exact ov_ix20 | exact ov_ix21 | exact ov_ix30 | exact ov_ix31 | exact ov_ix32 | ((refine ov_ixLG (by walk_at "lv") ?_); (walk_at "sd")) | ((refine ov_ixTG ?_); (walk_at "sd"))))
local macro_rules | `(tactic| walk_at "cv") => `(tactic| first
  | ((with_reducible apply VL.gLen); first | exact cv_lenT | exact cv_lenL (by walk_at "lv"))
  | ((with_reducible apply VL.gInt); first | exact cv_int | exact cv_intB)
  | ((with_reducible apply VL.gAbs); exact cv_abs)
  | ((with_reducible apply VL.gMin); exact cv_min2)
  | ((with_reducible apply VL.gMax); exact cv_max2)
  | ((with_reducible apply VL.gList); first | exact cv_listT | exact cv_listL (by walk_at "lv"))
  | ((with_reducible apply VL.gTuple); first | exact cv_tupleT | exact cv_tupleL (by walk_at "lv"))
  | ((with_reducible apply VL.gIsi); first | exact cv_isi rfl | exact cv_isiP rfl rfl))
local macro_rules | `(tactic| walk_at "all") => `(tactic| repeat (first | exact AllD.nil | refine AllD.d ?_))
local macro_rules | `(tactic| walk_at "e") => `(tactic| first
  | ((with_reducible apply VL.gVar); first | exact er_d rfl | exact er_p rfl)
  | ((with_reducible apply VL.gC); first | exact er_int | exact er_bl | exact er_str | exact er_non | exact er_ty | assumption)
  | ((with_reducible apply er_op); (walk_at "e"); (walk_at "e"); (walk_at "ov"))
  | ((with_reducible apply er_cb); (walk_at "e"); (walk_at "cv"))
  | ((with_reducible apply VL.gENil); exact ea_nil)
  | ((with_reducible apply ea_cons); (walk_at "e"); (walk_at "e"))
  | ((with_reducible apply VL.gPop); (refine er_popG rfl rfl ?_); (walk_at "sd"))
  | ((with_reducible apply et_v); (walk_at "e"))
  | ((with_reducible apply er_ix); (walk_at "e"); (walk_at "e"); (walk_at "ov"))
  | ((with_reducible apply er_andV); (walk_at "e"); (intro hb_; (try simp only [decide_eq_true_eq] at hb_); (walk_at "e")))
  | ((with_reducible apply er_orV); (walk_at "e"); (intro hb_; (try simp only [decide_eq_false_iff_not] at hb_); (walk_at "e")))
  | ((with_reducible apply er_notV); (walk_at "e"))
  | ((with_reducible apply et_and); (walk_at "e"); (intro hb_; (try simp only [decide_eq_true_eq] at hb_); (walk_at "e")))
  | ((with_reducible apply et_or); (walk_at "e"); (intro hb_; (try simp only [decide_eq_false_iff_not] at hb_); (walk_at "e")))
  | ((with_reducible apply et_not); (walk_at "e"))
  | ((with_reducible apply VL.gTru); (apply et_truB); (walk_at "e"))
  | ((with_reducible apply er_bits); (walk_at "e"))
  | ((with_reducible apply er_neg); (walk_at "e"))
  | (with_reducible exact er_make0)
  | ((with_reducible apply er_t2); (walk_at "e"); done)
  | ((with_reducible apply er_t3); (walk_at "e"); done)
  | (walk_at "in")
  | (walk_at "call"))
local macro_rules | `(tactic| walk_at "in") => `(tactic| first
  | ((with_reducible apply VL.gIn); first | exact er_inT (by walk_at "e") (by walk_at "e") | exact er_inL (by walk_at "e") (by walk_at "e") (by walk_at "lv"))
  | ((with_reducible apply VL.gNotIn); first | exact er_notinT (by walk_at "e") (by walk_at "e") | exact er_notinL (by walk_at "e") (by walk_at "e") (by walk_at "lv")))
section
variable {P : Program} {K : Fg} {mg : Str → Option Value} {c : Cx0} {s s1 : List Slot} {o o1 os : List Cont} {E : XK} {ta : TA} {D : Ends} {u : TS} {i : Nat}
theorem sp_bd {xs : List Sp} {e : Int} (h : SpIn xs e) : ∀ x ∈ xs, TS.Bd 1000 [x.a, x.b, x.c] := fun x hx => by
  have h1 := h.bd x hx
  have h2 := h.ok.ok x hx
  have h3 := h.e2
  intro n hn
  simp only [List.mem_cons, List.not_mem_nil, or_false] at hn
  rcases hn with rfl | rfl | rfl <;> omega
theorem run_Zigzag__leaving (T : Txt P K mg) (c : Cx0) (ss : List Slot) (os : List Cont) (Q : VK) (E : XK) (hM : c.M.length = os.length) (h : F_Zigzag__leaving ss os (Rc K c Q) (Xc K c E)) : Run K c (t_Zigzag__leaving K E) { nx := fun _ H' => Q .non H', rt := Q } (ss ++ List.replicate (6 - ss.length) .u) os := by
  obtain ⟨place, xs, e, m, f, left, side, rfl, rfl, hx, hex, h⟩ := h
  show Run K c _ _ [.p 0, .d place, .p 4, .u, .u, .u] [z5 e m, .lst xs, .dct f, .lst side, .dct left]
  have hM : c.M.length = 5 := hM
  unfold t_Zigzag__leaving
  have hperm := srt3_perm 1000 xs
  refine q_for (α := Sp) (I := fun k (_ : Unit) => ∀ j x, j < k → (srt3 1000 xs)[j]? = some x → ∀ r, ¬ Leaves left place x r) (f := fun _ => [.p 0, .d place, .p 4, .u, .u, .u]) (g := fun _ => [z5 e m, .lst xs, .dct f, .lst side, .dct left, .lst (srt3 1000 xs)]) (f' := fun _ x => [.p 0, .d place, .p 4, .d x.a, .d x.b, .d x.c]) (ei_seqP (k := 5) (er_cb (ea_cons (fld0 T.c_Zigzag T.n_Zigzag__spans rfl rfl rfl) ea_nil) (cv_sorted3 (B := 1000) (lv_p rfl) hx.len (sp_bd hx))) rfl) () (fun j x hj => absurd hj (Nat.not_lt_zero _)) (SlW.refl _) rfl rfl rfl (fun _ _ _ => rfl)
    (fun _ x => eg_t3 (egs_cons (eg_name (Nat.le_of_ble_eq_true rfl)) (egs_cons (eg_name (Nat.le_of_ble_eq_true rfl)) (egs_cons (eg_name (Nat.le_of_ble_eq_true rfl)) egs_nil)))) ?_ ?_
  · intro c' hc hM' k w x hk hI
    have hM' : c'.M.length = 6 := hM'
    have hxm : x ∈ xs := hperm.mem_iff.mp (List.mem_of_getElem? hk)
    refine q_when (b := (dget left x.a).isSome && (decide (fl left x.a = 1) && decide (x.b = place))) (et_and (et_v (er_din (er_d rfl) (er_p rfl) (dv_p rfl))) fun b1 => et_and (et_v (er_op (er_dget (er_p rfl) (er_d rfl) (dv_p rfl) (fl_get b1)) er_int ov_eq)) fun _ => et_v (er_op (er_d rfl) (er_d rfl) ov_eq)) (fun b => ?_) (fun nb1 => ?_)
    · simp only [Bool.and_eq_true, decide_eq_true_eq] at b
      obtain ⟨b1, b2, b3⟩ := b
      exact s_ret (er_t3 (ea_cons (er_d rfl) (ea_cons er_int (ea_cons (er_d rfl) ea_nil)))) (RetOk.up hc (ret_d (h x ⟨x.a, 1, x.c⟩ hxm (.inl ⟨by rw [fl_get b1, b2], b3, rfl⟩)) ⟨.inr rfl, .inr rfl, .inr rfl, .inr rfl, .inr rfl, trivial⟩ (Nat.le_of_eq hM) rfl rfl))
    · refine s_when (b := (dget left x.a).isSome && (decide (fl left x.a = -1) && decide (x.c = place))) (et_and (et_v (er_din (er_d rfl) (er_p rfl) (dv_p rfl))) fun b1 => et_and (et_v (er_op (er_dget (er_p rfl) (er_d rfl) (dv_p rfl) (fl_get b1)) (er_neg er_int) ov_eq)) fun _ => et_v (er_op (er_d rfl) (er_d rfl) ov_eq)) (fun b => ?_) (fun nb2 => ?_)
      · simp only [Bool.and_eq_true, decide_eq_true_eq] at b
        obtain ⟨b1, b2, b3⟩ := b
        exact s_ret (er_t3 (ea_cons (er_d rfl) (ea_cons (er_neg er_int) (ea_cons (er_d rfl) ea_nil)))) (RetOk.up hc (ret_d (h x ⟨x.a, -1, x.b⟩ hxm (.inr ⟨by rw [fl_get b1, b2], b3, rfl⟩)) ⟨.inr rfl, .inr rfl, .inr rfl, .inr rfl, .inr rfl, trivial⟩ (Nat.le_of_eq hM) rfl rfl))
      · refine go_at () (fun j y hj hy r hr => ?_) ⟨.inr rfl, .inr rfl, .inr rfl, .inl rfl, .inl rfl, .inl rfl, trivial⟩ (OsW.refl _) (Nat.le_of_eq hM') rfl rfl
        by_cases ej : j = k
        · rw [ej, hk] at hy
          cases hy
          rcases hr with ⟨q1, q2, _⟩ | ⟨q1, q2, _⟩
          · simp [fl, q1, q2] at nb1
          · simp [fl, q1, q2] at nb2
        · exact hI j y (by omega) hy r hr
  · intro w hI
    obtain ⟨x, hxm, r, hr⟩ := hex
    obtain ⟨j, hj, ej⟩ := List.mem_iff_getElem.mp (hperm.mem_iff.mpr hxm)
    exact absurd hr (hI j x hj (by rw [List.getElem?_eq_getElem hj, ej]) r)
end
end Z11

set_option maxHeartbeats 4000000
namespace Z11
open PySem PySem.Spec PyProof.Rows L2 VL
local macro_rules | `(tactic| walk_at "side") => `(tactic| first | assumption | rfl | omega | decide)
local macro_rules | `(tactic| walk_at "sd") => `(tactic| first | assumption | omega | rotate_left 1)
local macro_rules | `(tactic| walk_at "lv") => `(tactic| first | exact lv_d | exact lv_p rfl | exact dv_d | exact dv_p rfl)
local macro_rules | `(tactic| walk_at "ov") => `(tactic| first
  | ((with_reducible apply VL.gAdd); (first | exact ov_add))
  | ((with_reducible apply VL.gSub); exact ov_sub)
  | ((with_reducible apply VL.gMul); (refine ov_mul ?_); (first | (refine Or.inl ⟨?_, ?_⟩ <;> decide) | (refine Or.inr ⟨?_, ?_⟩ <;> decide) | walk_at "sd"))
  | ((with_reducible apply VL.gDiv); (refine ov_div ?_); (first | (refine ⟨?_, ?_⟩ <;> decide) | walk_at "sd"))
  | ((with_reducible apply VL.gMod); (refine ov_mod ?_); (first | decide | walk_at "sd"))
  | ((with_reducible apply VL.gPow); (refine ov_pow ?_); (first | (refine ⟨?_, ?_, ?_⟩ <;> decide) | walk_at "sd"))
  | ((with_reducible apply VL.gEq); first | exact ov_eq | exact ov_eqO | exact ov_eqOs | exact ov_eqss | exact ov_eqOO)
  | ((with_reducible apply VL.gNe); first | exact ov_ne)
  | ((with_reducible apply VL.gLt); first | exact ov_lt | exact ov_ltO)
  | ((with_reducible apply VL.gLe); first | exact ov_le | exact ov_leO)
  | ((with_reducible apply VL.gGt); first | exact ov_gt | exact ov_gtO)
  | ((with_reducible apply VL.gGe); exact ov_ge)
  | ((with_reducible apply VL.gIs); first | exact ov_isO | exact ov_isU | exact ov_isX)
  | ((with_reducible apply VL.gIsN); first | exact ov_isNO | exact ov_isNU | exact ov_isNX)
  | ((with_reducible apply VL.gIx); first | exact ov_ix20 | exact ov_ix21 | exact ov_ix30 | exact ov_ix31 | exact ov_ix32 | ((refine ov_ixLG (by walk_at "lv") ?_); (walk_at "sd")) | ((refine ov_ixTG ?_); (walk_at "sd"))))
local macro_rules | `(tactic| walk_at "cv") => `(tactic| first
  | ((with_reducible apply VL.gLen); first | exact cv_lenT | exact cv_lenL (by walk_at "lv"))
  | ((with_reducible apply VL.gInt); first | exact cv_int | exact cv_intB)
  | ((with_reducible apply VL.gAbs); exact cv_abs)
  | ((with_reducible apply VL.gMin); exact cv_min2)
  | ((with_reducible apply VL.gMax); exact cv_max2)
  | ((with_reducible apply VL.gList); first | exact cv_listT | exact cv_listL (by walk_at "lv"))
  | ((with_reducible apply VL.gTuple); first | exact cv_tupleT | exact cv_tupleL (by walk_at "lv"))
  | ((with_reducible apply VL.gIsi); first | exact cv_isi rfl | exact cv_isiP rfl rfl))
local macro_rules | `(tactic| walk_at "all") => `(tactic| repeat (first | exact AllD.nil | refine AllD.d ?_))
local macro_rules | `(tactic| walk_at "e") => `(tactic| first
  | ((with_reducible apply VL.gVar); first | exact er_d rfl | exact er_p rfl)
  | ((with_reducible apply VL.gC); first | exact er_int | exact er_bl | exact er_str | exact er_non | exact er_ty | assumption)
  | ((with_reducible apply er_op); (walk_at "e"); (walk_at "e"); (walk_at "ov"))
  | ((with_reducible apply er_cb); (walk_at "e"); (walk_at "cv"))
  | ((with_reducible apply VL.gENil); exact ea_nil)
  | ((with_reducible apply ea_cons); (walk_at "e"); (walk_at "e"))
  | ((with_reducible apply VL.gPop); (refine er_popG rfl rfl ?_); (walk_at "sd"))
  | ((with_reducible apply et_v); (walk_at "e"))
  | ((with_reducible apply er_ix); (walk_at "e"); (walk_at "e"); (walk_at "ov"))
  | ((with_reducible apply er_andV); (walk_at "e"); (intro hb_; (try simp only [decide_eq_true_eq] at hb_); (walk_at "e")))
  | ((with_reducible apply er_orV); (walk_at "e"); (intro hb_; (try simp only [decide_eq_false_iff_not] at hb_); (walk_at "e")))
  | ((with_reducible apply er_notV); (walk_at "e"))
  | ((with_reducible apply et_and); (walk_at "e"); (intro hb_; (try simp only [decide_eq_true_eq] at hb_); (walk_at "e")))
  | ((with_reducible apply et_or); (walk_at "e"); (intro hb_; (try simp only [decide_eq_false_iff_not] at hb_); (walk_at "e")))
  | ((with_reducible apply et_not); (walk_at "e"))
  | ((with_reducible apply VL.gTru); (apply et_truB); (walk_at "e"))
  | ((with_reducible apply er_bits); (walk_at "e"))
  | ((with_reducible apply er_neg); (walk_at "e"))
  | (with_reducible exact er_make0)
  | ((with_reducible apply er_t2); (walk_at "e"); done)
  | ((with_reducible apply er_t3); (walk_at "e"); done)
  | (walk_at "in")
  | (walk_at "call"))
local macro_rules | `(tactic| walk_at "in") => `(tactic| first
  | ((with_reducible apply VL.gIn); first | exact er_inT (by walk_at "e") (by walk_at "e") | exact er_inL (by walk_at "e") (by walk_at "e") (by walk_at "lv"))
  | ((with_reducible apply VL.gNotIn); first | exact er_notinT (by walk_at "e") (by walk_at "e") | exact er_notinL (by walk_at "e") (by walk_at "e") (by walk_at "lv")))
section
variable {P : Program} {K : Fg} {mg : Str → Option Value} {c : Cx0} {s s1 : List Slot} {o o1 os : List Cont} {E : XK} {ta : TA} {D : Ends} {u : TS} {i : Nat}
theorem fold_put : ∀ (l acc : Fl), ((acc ++ l).map (·.1)).Nodup → l.foldl (fun d x => dput d x.1 x.2) acc = acc ++ l
  | [], acc, _ => by simp
  | p :: l, acc, nd => by
    have hn : p.1 ∉ acc.map (·.1) := fun z => by
      rw [List.map_append, List.nodup_append] at nd
      exact nd.2.2 _ z _ (by simp) rfl
    have e : acc ++ p :: l = (acc ++ [(p.1, p.2)]) ++ l := by simp
    rw [List.foldl_cons, dput_new hn, fold_put l _ (by rw [← e]; exact nd), e]
theorem fl_filter : ∀ (f : Fl), (f.map (·.1)).Nodup → fl (f.filter fun x => !decide (x.2 = 0)) = fl f
  | [], _ => rfl
  | p :: f, nd => by
    rw [List.map_cons, List.nodup_cons] at nd
    have ih := fl_filter f nd.2
    funext n
    have ihn := congrFun ih n
    by_cases z : p.2 = 0
    · rw [List.filter_cons_of_neg (by simp [z]), ihn]
      unfold fl
      rw [dget_cons]
      by_cases e : p.1 = n
      · rw [if_pos e]
        have : dget f n = none := by
          cases q : dget f n with
          | none => rfl
          | some x => exact absurd (dget_in.mp (by rw [q]; rfl)) (e ▸ nd.1)
        rw [this, z]; rfl
      · rw [if_neg e]
    · rw [List.filter_cons_of_pos (by simp [z])]
      unfold fl at ihn ⊢
      rw [dget_cons, dget_cons]
      by_cases e : p.1 = n
      · rw [if_pos e, if_pos e]
      · rw [if_neg e, if_neg e]; exact ihn
structure ThI (xs : List Sp) (e m : Int) (k : Nat) (w : Fl × List (Tup (T2 Int Int))) : Prop where
  bd : Bd1 (fl w.1)
  ex : ∀ v, v ≠ e → exc (fl w.1) v xs = if v = 0 then m - k else 0
  ok : ThOk xs e w.2
  len : w.2.length = k
  dis : ∀ n ∈ nodesOf w.2, dget w.1 n = none
  sm : w.1.length < 64
structure WhI (xs : List Sp) (e m : Int) (k : Nat) (ths : List (Tup (T2 Int Int))) (w : Fl × List (T2 Int Int) × Int) : Prop where
  bd : Bd1 (fl w.1)
  ex : ∀ v, v ≠ e → exc (fl w.1) v xs = (if v = 0 then m - k - 1 else 0) + ind (w.2.2 = v)
  st : Steps xs w.2.1 w.2.2
  nd : (nodesOf ths ++ w.2.1.map (·.a)).Nodup
  dis : ∀ n ∈ nodesOf ths ++ w.2.1.map (·.a), dget w.1 n = none
  sm : w.2.1.length + w.1.length < 64
theorem WhI.step {xs : List Sp} {e m : Int} {k : Nat} {ths : List (Tup (T2 Int Int))} {left : Fl} {steps : List (T2 Int Int)} {p : Int} {x : Sp} {r : T3 Int Int Int} (nd : (xs.map (·.a)).Nodup) (h : WhI xs e m k ths (left, steps, p)) (hx : x ∈ xs) (hr : Leaves left p x r) :
    (dget left r.a).isSome = true ∧ (ddrop left r.a).length < left.length ∧ WhI xs e m k ths (ddrop left r.a, steps ++ [⟨r.a, r.b⟩], r.c) := by
  obtain ⟨l1, l2, l3⟩ := leaves_step nd hx hr
  have dl := ddrop_len l2
  have nin : r.a ∉ nodesOf ths ++ steps.map (·.a) := fun z => by
    have := h.dis _ z
    rw [show dget left r.a = none from this] at l2; cases l2
  have em : nodesOf ths ++ (steps ++ [(⟨r.a, r.b⟩ : T2 Int Int)]).map (·.a) = (nodesOf ths ++ steps.map (·.a)) ++ [r.a] := by simp
  refine ⟨l2, dl, ?_, fun v hv => ?_, ?_, ?_, fun n hn => ?_, ?_⟩
  · show Bd1 (fl (ddrop left r.a))
    rw [ddrop_fl]
    intro n
    have := h.bd n
    show -1 ≤ (if n = r.a then 0 else fl left n) ∧ (if n = r.a then 0 else fl left n) ≤ 1
    split
    · omega
    · exact this
  · have h1 := h.ex v hv
    have h1 : exc (fl left) v xs = (if v = 0 then m - k - 1 else 0) + ind (p = v) := h1
    show exc (fl (ddrop left r.a)) v xs = (if v = 0 then m - k - 1 else 0) + ind (r.c = v)
    rw [l1 v, h1]; omega
  · show Steps xs (steps ++ [⟨r.a, r.b⟩]) r.c
    rcases hr with ⟨_, q2, q3⟩ | ⟨_, q2, q3⟩
    · subst q3; exact Steps.snoc (x := x) h.st hx (.inl ⟨rfl, q2, rfl⟩)
    · subst q3; exact Steps.snoc (x := x) h.st hx (.inr ⟨rfl, q2, rfl⟩)
  · show (nodesOf ths ++ (steps ++ [(⟨r.a, r.b⟩ : T2 Int Int)]).map (·.a)).Nodup
    rw [em, List.nodup_append]
    exact ⟨h.nd, by simp, fun a ha b hb e => by simp at hb; subst hb; subst e; exact nin ha⟩
  · have hn : n ∈ nodesOf ths ++ (steps ++ [(⟨r.a, r.b⟩ : T2 Int Int)]).map (·.a) := hn
    rw [em, List.mem_append] at hn
    show dget (ddrop left r.a) n = none
    rw [ddrop_get]
    rcases hn with hn | hn
    · split
      · rfl
      · exact h.dis n hn
    · simp at hn; rw [if_pos hn]
  · have := h.sm
    have : steps.length + left.length < 64 := this
    show (steps ++ [(⟨r.a, r.b⟩ : T2 Int Int)]).length + (ddrop left r.a).length < 64
    rw [List.length_append, List.length_singleton]; omega
theorem run_Zigzag_threads (T : Txt P K mg) (c : Cx0) (ss : List Slot) (os : List Cont) (Q : VK) (E : XK) (hM : c.M.length = os.length) (h : F_Zigzag_threads ss os (Rc K c Q) (Xc K c E)) : Run K c (t_Zigzag_threads K E) { nx := fun _ H' => Q .non H', rt := Q } (ss ++ List.replicate (9 - ss.length) .u) os := by
  obtain ⟨xs, e, m, f, side, rfl, rfl, hx, hf, m0, m64, h⟩ := h
  show Run K c _ _ [.p 0, .u, .u, .u, .u, .u, .u, .u, .u] [z5 e m, .lst xs, .dct f, .lst side]
  have hM : c.M.length = 4 := hM
  unfold t_Zigzag_threads
  refine q_asg (er_dcItems (k0 := 0) (k := 2) rfl rfl rfl T.c_Zigzag T.n_Zigzag__flows rfl (by decide) (by rw [szl]; have := hf.len; omega) (by decide) (Nat.le_of_ble_eq_true rfl) (Nat.le_of_ble_eq_true rfl)) (Nat.le_of_ble_eq_true rfl) ?_
  have nd0 : ((f.filter fun x => !decide (x.2 = 0)).map (·.1)).Nodup := List.Nodup.sublist (List.Sublist.map _ List.filter_sublist) hf.nd
  rw [fold_put _ [] (by simpa using nd0), List.nil_append]
  have fl0 := fl_filter f hf.nd
  have len0 : (f.filter fun x => !decide (x.2 = 0)).length < 64 := Nat.lt_of_le_of_lt (List.length_filter_le _ _) hf.len
  generalize f.filter (fun x => !decide (x.2 = 0)) = left0 at nd0 fl0 len0 ⊢
  refine q_asg (er_lst (xs := ([] : List (Tup (T2 Int Int)))) ea_nil (Nat.zero_le _)) (Nat.le_of_ble_eq_true rfl) ?_
  refine run_os (o1 := [z5 e m, .lst xs, .dct f, .lst side, .dct left0, .lst ([] : List (Tup (T2 Int Int)))]) ?_ rfl
  refine run_sl (s1 := [.p 0, .p 4, .p 5, .u, .u, .u, .u, .u, .u]) ?_ rfl
  refine q_for (α := Int) (I := ThI xs e m) (f := fun _ => [.p 0, .p 4, .p 5, .u, .u, .u, .u, .u, .u]) (g := fun w => [z5 e m, .lst xs, .dct f, .lst side, .dct w.1, .lst w.2]) (f' := fun _ x => [.p 0, .p 4, .p 5, .d x, .u, .u, .u, .u, .u]) (ei_rng1 (n := m) (ea_cons (fld0 T.c_Zigzag T.n_Zigzag__many rfl rfl rfl) ea_nil) ⟨by omega, by omega⟩) (left0, []) ?_ (SlW.refl _) rfl rfl rfl (fun _ _ _ => trivial) (fun _ _ => eg_name (Nat.le_of_ble_eq_true rfl)) ?_ ?_
  · refine ⟨by rw [fl0]; exact hf.bd, fun v hv => ?_, ⟨fun t ht => (by cases ht), (by simp [nodesOf])⟩, rfl, fun n hn => by simp [nodesOf] at hn, len0⟩
    show exc (fl left0) v xs = _
    rw [fl0, hf.ex v hv]; simp
  · rintro c' hc hM' k ⟨left, ths⟩ x hxk hI
    obtain ⟨hk, rfl⟩ := rngl_get.mp hxk
    have hM' : c'.M.length = 6 := hM'
    have hkm : (k : Int) < m := by omega
    refine q_asg er_int (Nat.le_of_ble_eq_true rfl) ?_
    refine q_asg (er_lst (xs := ([] : List (T2 Int Int))) ea_nil (Nat.zero_le _)) (Nat.le_of_ble_eq_true rfl) ?_
    refine run_os (o1 := [z5 e m, .lst xs, .dct f, .lst side, .dct left, .lst ths, .lst ([] : List (T2 Int Int))]) ?_ rfl
    refine run_sl (s1 := [.p 0, .p 4, .p 5, .d ((0 : Int) + (k : Int)), .d (0 : Int), .p 6, .u, .u, .u]) ?_ rfl
    refine q_while (ω := Fl × List (T2 Int Int) × Int) (I := WhI xs e m k ths) (μ := fun w => w.1.length) (b := fun w => !decide (w.2.2 = e)) (f := fun w => [.p 0, .p 4, .p 5, .d ((0 : Int) + (k : Int)), .d w.2.2, .p 6, .u, .u, .u]) (g := fun w => [z5 e m, .lst xs, .dct f, .lst side, .dct w.1, .lst ths, .lst w.2.1]) (left, [], 0) ?_ (SlW.refl _) (OsW.refl _) (by show c'.M.length ≤ 7; omega) rfl rfl ?_ ?_ ?_
    · refine ⟨hI.bd, fun v hv => ?_, .nil, by simpa using hI.ok.nd, fun n hn => hI.dis n (by simpa using hn), by have := hI.sm; simpa using this⟩
      have := hI.ex v hv
      rw [show exc (fl (left, ([] : List (T2 Int Int)), (0 : Int)).1) v xs = exc (fl (left, ths).1) v xs from rfl, this]
      by_cases v0 : v = 0
      · subst v0; rw [if_pos rfl, if_pos rfl, ind_t rfl]; omega
      · rw [if_neg v0, if_neg v0, ind_f (Ne.symm v0)]; rfl
    · intro w _
      exact et_v (er_op (er_d rfl) (fld0 T.c_Zigzag T.n_Zigzag__end rfl rfl rfl) ov_ne)
    · rintro ⟨left', steps, p⟩ hw hb
      have hpe : p ≠ e := by simpa using hb
      have hexc := hw.ex p hpe
      have hexc : exc (fl left') p xs = (if p = 0 then m - k - 1 else 0) + ind (p = p) := hexc
      have hpos : 0 < exc (fl left') p xs := by
        rw [hexc, ind_t rfl]; split <;> omega
      have hlv := leaves_ex hw.bd hpos
      have call : ERF K c' (tMeth (He.ga K "Zigzag") "_leaving" (spOf K F_Zigzag__leaving) [] E (tVar 0) (tCons (tVar 4) (tCons (tVar 1) tNil))) [.p 0, .p 4, .p 5, .d ((0 : Int) + (k : Int)), .d p, .p 6, .u, .u, .u] [z5 e m, .lst xs, .dct f, .lst side, .dct left', .lst ths, .lst steps] (fun r : T3 Int Int Int => ∃ x ∈ xs, Leaves left' p x r) (fun _ => [.p 0, .p 4, .p 5, .d ((0 : Int) + (k : Int)), .d p, .p 6, .u, .u, .u]) (fun _ => [z5 e m, .lst xs, .dct f, .lst side, .dct left', .lst ths, .lst steps]) (fun r => .d r) :=
        erf_methR (k0 := 0) (ks := [0, 1, 2, 3, 4]) (rss := [.p 0, .d p, .p 4]) (os := [z5 e m, .lst xs, .dct f, .lst side, .dct left']) (os' := fun _ => [z5 e m, .lst xs, .dct f, .lst side, .dct left']) (r := fun r : T3 Int Int Int => .d r) (P := fun r : T3 Int Int Int => ∃ x ∈ xs, Leaves left' p x r) (er_p rfl) rfl rfl (ea_cons (er_d rfl) (ea_cons (er_p rfl) ea_nil)) ⟨rfl, by decide, fun k hk => (show k < 7 from (by decide : ∀ k ∈ [0, 1, 2, 3, 4], k < 7) k hk), rfl, rfl⟩ rfl rfl
          (fun R X q => ⟨p, xs, e, m, f, left', side, rfl, rfl, hx, hlv, fun x r hxm hr => q r ⟨x, hxm, hr⟩⟩)
      refine run_seq (s_asgGF call (fun r => eg_t3 (egs_cons (eg_name (Nat.le_of_ble_eq_true rfl)) (egs_cons (eg_name (Nat.le_of_ble_eq_true rfl)) (egs_cons (eg_name (Nat.le_of_ble_eq_true rfl)) egs_nil)))) fun r hPr => go_run ?_)
      obtain ⟨x, hxm, hr⟩ := hPr
      refine run_sl (s1 := [.p 0, .p 4, .p 5, .d ((0 : Int) + (k : Int)), .d r.c, .p 6, .d r.a, .d r.b, .u]) ?_ rfl
      obtain ⟨d1, d2, d3⟩ := hw.step hx.ok.nd hxm hr
      refine run_os (o1 := [z5 e m, .lst xs, .dct f, .lst side, .dct left', .lst ths, .lst steps]) ?_ rfl
      refine run_seq (s_ddel (k := 4) rfl (er_d rfl) rfl d1 (go_run ?_))
      refine run_os (o1 := [z5 e m, .lst xs, .dct f, .lst side, .dct (ddrop left' r.a), .lst ths, .lst steps]) ?_ rfl
      refine s_append (x := (⟨r.a, r.b⟩ : T2 Int Int)) (xs := steps) (k := 6) rfl (er_t2 (ea_cons (er_d rfl) (ea_cons (er_d rfl) ea_nil))) rfl ⟨_, _, _, rfl⟩ (by rw [szl]; have := hw.sm; have : steps.length + left'.length < 64 := this; omega) ?_
      exact go_at (ddrop left' r.a, steps ++ [⟨r.a, r.b⟩], r.c) ⟨d3, d2⟩ ⟨.inr rfl, .inr rfl, .inr rfl, .inr rfl, .inr rfl, .inr rfl, .inl rfl, .inl rfl, .inl rfl, trivial⟩ (OsW.refl _) (by show c'.M.length ≤ 7; omega) rfl rfl
    · rintro ⟨left', steps, p⟩ hw hb
      have hpe : p = e := by simpa using hb
      subst hpe
      refine s_append (x := Tup.mk steps) (xs := ths) (k := 5) rfl (er_cb (ea_cons (er_p rfl) ea_nil) (cv_tupleL (lv_p rfl))) rfl ⟨_, _, _, rfl⟩ (by rw [szl]; have := hI.len; have : ths.length = k := this; omega) ?_
      have en : nodesOf (ths ++ [Tup.mk steps]) = nodesOf ths ++ steps.map (·.a) := by simp [nodesOf]
      refine go_at (left', ths ++ [Tup.mk steps]) ⟨hw.bd, fun v hv => ?_, ⟨fun t ht => ?_, by rw [en]; exact hw.nd⟩, ?_, fun n hn => hw.dis n (by rw [en] at hn; exact hn), ?_⟩ ⟨.inr rfl, .inr rfl, .inr rfl, .inl rfl, .inl rfl, .inl rfl, .inl rfl, .inl rfl, .inl rfl, trivial⟩ ⟨.inr rfl, .inr rfl, .inr rfl, .inr rfl, .inr rfl, .inr rfl, trivial⟩ (Nat.le_of_eq hM') rfl rfl
      · have := hw.ex v hv
        have : exc (fl left') v xs = (if v = 0 then m - k - 1 else 0) + ind (p = v) := this
        show exc (fl left') v xs = if v = 0 then m - ((k + 1 : Nat) : Int) else 0
        rw [this, ind_f (Ne.symm hv)]
        split <;> omega
      · rcases List.mem_append.mp ht with ht | ht
        · exact hI.ok.st t ht
        · simp at ht; subst ht; exact hw.st
      · show (ths ++ [Tup.mk steps]).length = k + 1
        rw [List.length_append, List.length_singleton, show ths.length = k from hI.len]
      · have : steps.length + left'.length < 64 := hw.sm
        show left'.length < 64
        omega
  · rintro ⟨left, ths⟩ hI
    have hl : ths.length = m.toNat := by have := hI.len; rw [rngl_len] at this; exact this
    refine s_ret (er_p rfl) ?_
    exact ret_p (os := [z5 e m, .lst xs, .dct f, .lst side]) (k := 5) (ct := .lst ths) (h ths hI.ok (by omega)) rfl ⟨.inr rfl, .inr rfl, .inr rfl, .inr rfl, trivial⟩ (Nat.le_of_eq hM) rfl (Nat.le_of_ble_eq_true rfl) (Nat.le_of_ble_eq_true rfl) rfl rfl rfl
end
end Z11

set_option maxHeartbeats 4000000
namespace Z11
open PySem PySem.Spec PyProof.Rows L2 VL
local macro_rules | `(tactic| walk_at "side") => `(tactic| first | assumption | rfl | omega | decide)
local macro_rules | `(tactic| walk_at "sd") => `(tactic| first | assumption | omega | rotate_left 1)
local macro_rules | `(tactic| walk_at "lv") => `(tactic| first | exact lv_d | exact lv_p rfl | exact dv_d | exact dv_p rfl)
local macro_rules | `(tactic| walk_at "ov") => `(tactic| first
  | ((with_reducible apply VL.gAdd); (first | exact ov_add))
  | ((with_reducible apply VL.gSub); exact ov_sub)
  | ((with_reducible apply VL.gMul); (refine ov_mul ?_); (first | (refine Or.inl ⟨?_, ?_⟩ <;> decide) | (refine Or.inr ⟨?_, ?_⟩ <;> decide) | walk_at "sd"))
  | ((with_reducible apply VL.gDiv); (refine ov_div ?_); (first | (refine ⟨?_, ?_⟩ <;> decide) | walk_at "sd"))
  | ((with_reducible apply VL.gMod); (refine ov_mod ?_); (first | decide | walk_at "sd"))
  | ((with_reducible apply VL.gPow); (refine ov_pow ?_); (first | (refine ⟨?_, ?_, ?_⟩ <;> decide) | walk_at "sd"))
  | ((with_reducible apply VL.gEq); first | exact ov_eq | exact ov_eqO | exact ov_eqOs | exact ov_eqss | exact ov_eqOO)
  | ((with_reducible apply VL.gNe); first | exact ov_ne)
  | ((with_reducible apply VL.gLt); first | exact ov_lt | exact ov_ltO)
  | ((with_reducible apply VL.gLe); first | exact ov_le | exact ov_leO)
  | ((with_reducible apply VL.gGt); first | exact ov_gt | exact ov_gtO)
  | ((with_reducible apply VL.gGe); exact ov_ge)
  | ((with_reducible apply VL.gIs); first | exact ov_isO | exact ov_isU | exact ov_isX)
  | ((with_reducible apply VL.gIsN); first | exact ov_isNO | exact ov_isNU | exact ov_isNX)
  | ((with_reducible apply VL.gIx); first | exact ov_ix20 | exact ov_ix21 | exact ov_ix30 | exact ov_ix31 | exact ov_ix32 | ((refine ov_ixLG (by walk_at "lv") ?_); (walk_at "sd")) | ((refine ov_ixTG ?_); (walk_at "sd"))))
local macro_rules | `(tactic| walk_at "cv") => `(tactic| first
  | ((with_reducible apply VL.gLen); first | exact cv_lenT | exact cv_lenL (by walk_at "lv"))
  | ((with_reducible apply VL.gInt); first | exact cv_int | exact cv_intB)
  | ((with_reducible apply VL.gAbs); exact cv_abs)
  | ((with_reducible apply VL.gMin); exact cv_min2)
  | ((with_reducible apply VL.gMax); exact cv_max2)
  | ((with_reducible apply VL.gList); first | exact cv_listT | exact cv_listL (by walk_at "lv"))
  | ((with_reducible apply VL.gTuple); first | exact cv_tupleT | exact cv_tupleL (by walk_at "lv"))
  | ((with_reducible apply VL.gIsi); first | exact cv_isi rfl | exact cv_isiP rfl rfl))
local macro_rules | `(tactic| walk_at "all") => `(tactic| repeat (first | exact AllD.nil | refine AllD.d ?_))
local macro_rules | `(tactic| walk_at "e") => `(tactic| first
  | ((with_reducible apply VL.gVar); first | exact er_d rfl | exact er_p rfl)
  | ((with_reducible apply VL.gC); first | exact er_int | exact er_bl | exact er_str | exact er_non | exact er_ty | assumption)
  | ((with_reducible apply er_op); (walk_at "e"); (walk_at "e"); (walk_at "ov"))
  | ((with_reducible apply er_cb); (walk_at "e"); (walk_at "cv"))
  | ((with_reducible apply VL.gENil); exact ea_nil)
  | ((with_reducible apply ea_cons); (walk_at "e"); (walk_at "e"))
  | ((with_reducible apply VL.gPop); (refine er_popG rfl rfl ?_); (walk_at "sd"))
  | ((with_reducible apply et_v); (walk_at "e"))
  | ((with_reducible apply er_ix); (walk_at "e"); (walk_at "e"); (walk_at "ov"))
  | ((with_reducible apply er_andV); (walk_at "e"); (intro hb_; (try simp only [decide_eq_true_eq] at hb_); (walk_at "e")))
  | ((with_reducible apply er_orV); (walk_at "e"); (intro hb_; (try simp only [decide_eq_false_iff_not] at hb_); (walk_at "e")))
  | ((with_reducible apply er_notV); (walk_at "e"))
  | ((with_reducible apply et_and); (walk_at "e"); (intro hb_; (try simp only [decide_eq_true_eq] at hb_); (walk_at "e")))
  | ((with_reducible apply et_or); (walk_at "e"); (intro hb_; (try simp only [decide_eq_false_iff_not] at hb_); (walk_at "e")))
  | ((with_reducible apply et_not); (walk_at "e"))
  | ((with_reducible apply VL.gTru); (apply et_truB); (walk_at "e"))
  | ((with_reducible apply er_bits); (walk_at "e"))
  | ((with_reducible apply er_neg); (walk_at "e"))
  | (with_reducible exact er_make0)
  | ((with_reducible apply er_t2); (walk_at "e"); done)
  | ((with_reducible apply er_t3); (walk_at "e"); done)
  | (walk_at "in")
  | (walk_at "call"))
local macro_rules | `(tactic| walk_at "in") => `(tactic| first
  | ((with_reducible apply VL.gIn); first | exact er_inT (by walk_at "e") (by walk_at "e") | exact er_inL (by walk_at "e") (by walk_at "e") (by walk_at "lv"))
  | ((with_reducible apply VL.gNotIn); first | exact er_notinT (by walk_at "e") (by walk_at "e") | exact er_notinL (by walk_at "e") (by walk_at "e") (by walk_at "lv")))
section
variable {P : Program} {K : Fg} {mg : Str → Option Value} {c : Cx0} {s s1 : List Slot} {o o1 os : List Cont} {E : XK} {ta : TA} {D : Ends} {u : TS} {i : Nat}
def zk (e m : Int) : Cont := .obj "Zigzag" [("_spans", .p 2), ("_end", .d e), ("_flows", .p 3), ("_many", .d m)]
theorem c_search {xs : List Sp} {e m : Int} {f : Fl} {ms : Slot} {x5 : Slot} {x4 : Slot} (hx : SpIn xs e) (hf : FlOk xs e m f) : ERF K c (tMeth (He.ga K "Zigzag") "_search" (spOf K F_Zigzag__search) [] E (tVar 0) tNil) [.p 0, .p 1, .d e, ms, x4, x5] [zk e m, .lst xs, .lst xs, .dct f] (fun ms => SrOk xs f ms) (fun _ => [.p 0, .p 1, .d e, ms, x4, x5]) (fun _ => [zk e m, .lst xs, .lst xs, .dct f]) (fun ms => .d (Dct.mk ms)) :=
  erf_methR (k0 := 0) (ks := [0, 2, 3]) (rss := [.p 0]) (os := [z4 e m, .lst xs, .dct f]) (os' := fun _ => [z4 e m, .lst xs, .dct f]) (r := fun ms : List (Int × Mv) => .d (Dct.mk ms)) (P := fun ms => SrOk xs f ms) (er_p rfl) rfl rfl ea_nil ⟨rfl, by decide, fun k hk => (show k < 4 from (by decide : ∀ k ∈ [0, 2, 3], k < 4) k hk), rfl, rfl⟩ rfl rfl
    (fun R X q => ⟨xs, e, m, f, rfl, rfl, hx, hf, fun ms h => q ms h⟩)
theorem c_push {xs : List Sp} {e m : Int} {f : Fl} {ms : List (Int × Mv)} {x5 : Slot} {x4 : Slot} (hx : SpIn xs e) (hf : FlOk xs e m f) (hm : MOk xs (fl f) ms) (he : e ∈ ks ms) : ERF K c (tMeth (He.ga K "Zigzag") "_push" (spOf K F_Zigzag__push) [] E (tVar 0) (tCons (tVar 3) tNil)) [.p 0, .p 1, .d e, .d (Dct.mk ms), x4, x5] [zk e m, .lst xs, .lst xs, .dct f] (fun f' => FlOk xs e (m + 1) f') (fun _ => [.p 0, .p 1, .d e, .d (Dct.mk ms), x4, x5]) (fun f' => [zk e (m + 1), .lst xs, .lst xs, .dct f']) (fun _ => .d ()) :=
  erf_methR (k0 := 0) (ks := [0, 2, 3]) (rss := [.p 0, .d (Dct.mk ms)]) (os := [z4 e m, .lst xs, .dct f]) (os' := fun f' => [z4 e (m + 1), .lst xs, .dct f']) (r := fun _ : Fl => .d ()) (P := fun f' => FlOk xs e (m + 1) f') (er_p rfl) rfl rfl (ea_cons (er_d rfl) ea_nil) ⟨rfl, by decide, fun k hk => (show k < 4 from (by decide : ∀ k ∈ [0, 2, 3], k < 4) k hk), rfl, rfl⟩ rfl rfl
    (fun R X q => ⟨ms, xs, e, m, f, rfl, rfl, hx, hf, hm, he, fun f' h => q f' h⟩)
theorem fold_put0 : ∀ (l : List Sp) (acc : Fl), (acc.map (·.1) ++ l.map (·.a)).Nodup → l.foldl (fun d x => dput d x.a 0) acc = acc ++ l.map fun x => (x.a, 0)
  | [], acc, _ => by simp
  | p :: l, acc, nd => by
    have hn : p.a ∉ acc.map (·.1) := fun z => by
      rw [List.nodup_append] at nd
      exact nd.2.2 _ z _ (by simp) rfl
    rw [List.foldl_cons, dput_new hn, fold_put0 l _ (by simpa using nd)]; simp
theorem fl_zero : ∀ (l : List Sp), fl (l.map fun x => (x.a, (0 : Int))) = fun _ => 0
  | [] => rfl
  | p :: l => by
    funext n
    have := congrFun (fl_zero l) n
    unfold fl at this ⊢
    rw [List.map_cons, dget_cons]
    by_cases e : p.a = n
    · rw [if_pos e]; rfl
    · rw [if_neg e]; exact this
theorem fl0_ok {xs : List Sp} {e : Int} (hx : SpIn xs e) : FlOk xs e 0 (xs.map fun x => (x.a, (0 : Int))) := by
  refine ⟨fun x h => ?_, by rw [fl_zero]; exact fun n => ⟨(by show (-1 : Int) ≤ 0; decide), (by show (0 : Int) ≤ 1; decide)⟩, fun v hv => by rw [fl_zero, exc_zero]; simp, by rw [List.length_map]; exact hx.len, ?_⟩
  · rw [dget_in, List.map_map]; exact List.mem_map.mpr ⟨x, h, rfl⟩
  · rw [List.map_map]; exact hx.ok.nd
structure InI (xs : List Sp) (e : Int) (k : Nat) (w : Int × Fl × List (Int × Mv)) : Prop where
  fo : FlOk xs e w.1 w.2.1
  so : SrOk xs w.2.1 w.2.2
  mx : w.1 = k ∨ e ∉ ks w.2.2
  m0 : 0 ≤ w.1
theorem InI.last {xs : List Sp} {e : Int} {w : Int × Fl × List (Int × Mv)} (hx : SpIn xs e) (h : InI xs e xs.length w) : e ∉ ks w.2.2 := fun he => by
  rcases h.mx with z | z
  · have e1 := hx.ok.e1
    have hf := h.so.1.first (fun x hx' => ⟨(hx.ok.ok x hx').1, (hx.ok.ok x hx').2.1⟩) e he (by omega)
    have := exc_lt h.fo.bd (fun x hx' => ⟨(hx.ok.ok x hx').1, (hx.ok.ok x hx').2.1⟩) hf
    have h0 := h.fo.ex 0 (by omega)
    rw [if_pos rfl] at h0
    omega
  · exact z he
theorem run_Zigzag___init__ (T : Txt P K mg) (c : Cx0) (ss : List Slot) (os : List Cont) (Q : VK) (E : XK) (hM : c.M.length = os.length) (h : F_Zigzag___init__ ss os (Rc K c Q) (Xc K c E)) : Run K c (t_Zigzag___init__ K E) { nx := fun _ H' => Q .non H', rt := Q } (ss ++ List.replicate (6 - ss.length) .u) os := by
  obtain ⟨xs, e, rfl, rfl, hx, h⟩ := h
  show Run K c _ _ [.p 0, .p 1, .d e, .u, .u, .u] [.obj "Zigzag" [], .lst xs]
  have hM : c.M.length = 2 := hM
  unfold t_Zigzag___init__
  refine q_fld (k := 0) (C := "Zigzag") (er_cb (ea_cons (er_p rfl) ea_nil) (cv_listAL (lv_p rfl))) (er_p rfl) rfl T.c_Zigzag T.n_Zigzag__spans (Nat.le_of_ble_eq_true rfl) ?_
  refine run_os (o1 := [.obj "Zigzag" [("_spans", .p 2)], .lst xs, .lst xs]) ?_ rfl
  refine q_fld (k := 0) (C := "Zigzag") (er_d rfl) (er_p rfl) rfl T.c_Zigzag T.n_Zigzag__end (Nat.le_of_ble_eq_true rfl) ?_
  refine run_os (o1 := [.obj "Zigzag" [("_spans", .p 2), ("_end", .d e)], .lst xs, .lst xs]) ?_ rfl
  refine q_fld (k := 0) (C := "Zigzag") (er_dc (α := Sp) (κ := Int) (β := Int) (P := fun o => cget o 2 = .lst xs) (bs := fun _ => true) (kf := fun x => x.a) (fn := fun _ => 0) (f' := fun x => [.p 0, .p 1, .d e, .u, .d x.c, .d x.a]) (ei_seqP (fld0 T.c_Zigzag T.n_Zigzag__spans rfl rfl rfl) rfl) rfl (fun x => egw_t3 (egws_cons (egw_name (Nat.le_of_ble_eq_true rfl) (by decide)) (egws_cons (egw_name (Nat.le_of_ble_eq_true rfl) (by decide)) (egws_cons (egw_name (Nat.le_of_ble_eq_true rfl) (by decide)) egws_nil))))
    (fun c' x _ => et_yes) (fun c' x _ _ => er_d rfl) (fun c' x _ _ => er_int) (by have := hx.len; rw [szl]; omega)) (er_p rfl) rfl T.c_Zigzag T.n_Zigzag__flows (Nat.le_of_ble_eq_true rfl) ?_
  rw [List.filter_eq_self.mpr (fun _ _ => rfl), fold_put0 xs [] (by simpa using hx.ok.nd), List.nil_append]
  have f0 := fl0_ok hx
  generalize xs.map (fun x => (x.a, (0 : Int))) = fz at f0 ⊢
  refine run_os (o1 := [.obj "Zigzag" [("_spans", .p 2), ("_end", .d e), ("_flows", .p 3)], .lst xs, .lst xs, .dct fz]) ?_ rfl
  refine q_fld (k := 0) (C := "Zigzag") er_int (er_p rfl) rfl T.c_Zigzag T.n_Zigzag__many (Nat.le_of_ble_eq_true rfl) ?_
  refine run_os (o1 := [zk e 0, .lst xs, .lst xs, .dct fz]) ?_ rfl
  refine q_asgF (c_search hx f0) (fun _ => Nat.le_of_ble_eq_true rfl) fun ms0 hs0 => ?_
  refine run_sl (s1 := [.p 0, .p 1, .d e, .d (Dct.mk ms0), .u, .u]) ?_ rfl
  refine q_for (α := Int) (I := InI xs e) (f := fun w => [.p 0, .p 1, .d e, .d (Dct.mk w.2.2), .u, .u]) (g := fun w => [zk e w.1, .lst xs, .lst xs, .dct w.2.1]) (f' := fun w x => [.p 0, .p 1, .d e, .d (Dct.mk w.2.2), .d x, .u]) (ei_rng1 (n := (xs.length : Int)) (ea_cons (er_cb (ea_cons (fld0 T.c_Zigzag T.n_Zigzag__spans rfl rfl rfl) ea_nil) (cv_lenL (lv_p rfl))) ea_nil) ⟨by omega, by have := hx.len; omega⟩) (0, fz, ms0) ⟨f0, hs0, .inl rfl, Int.le_refl _⟩ (SlW.refl _) rfl rfl rfl (fun _ _ _ => trivial) (fun _ _ => eg_name (Nat.le_of_ble_eq_true rfl)) ?_ ?_
  · rintro c' hc hM' k ⟨m, f, ms⟩ x hxk hI
    have hM' : c'.M.length = 4 := hM'
    refine s_when (et_v (er_din (er_d rfl) (er_d rfl) dv_d)) (fun b => ?_) (fun b => ?_)
    · have he : e ∈ ks ms := dget_in.mp b
      refine run_seq (s_dropF (c_push hx hI.fo hI.so.1 he) fun f' hf' => go_run ?_)
      refine s_asgF (c_search hx hf') (fun _ => Nat.le_of_ble_eq_true rfl) fun ms' hs' => ?_
      refine go_at (m + 1, f', ms') ⟨hf', hs', ?_, by have := hI.m0; have : 0 ≤ m := this; show 0 ≤ m + 1; omega⟩ ⟨.inr rfl, .inr rfl, .inr rfl, .inr rfl, .inl rfl, .inl rfl, trivial⟩ (OsW.refl _) (Nat.le_of_eq hM') rfl rfl
      rcases hI.mx with z | z
      · have z : m = (k : Int) := z
        exact .inl (show m + 1 = ((k + 1 : Nat) : Int) by omega)
      · exact absurd he z
    · have he : e ∉ ks ms := fun z => by rw [← dget_in] at z; rw [z] at b; cases b
      exact go_at (m, f, ms) ⟨hI.fo, hI.so, .inr he, hI.m0⟩ ⟨.inr rfl, .inr rfl, .inr rfl, .inr rfl, .inl rfl, .inl rfl, trivial⟩ (OsW.refl _) (Nat.le_of_eq hM') rfl rfl
  · rintro ⟨m, f, ms⟩ hI
    rw [rngl_len, Int.toNat_natCast] at hI
    have out : e ∉ ks ms := hI.last hx
    refine s_fld (k := 0) (C := "Zigzag") (er_cb (ea_cons (er_cb (ea_cons (er_d rfl) ea_nil) (cv_listAD dv_d)) ea_nil) (cv_sortedI (lv_p rfl))) (er_p rfl) rfl T.c_Zigzag T.n_Zigzag__side (Nat.le_of_ble_eq_true rfl) ?_
    have hp := srtI_perm (ks ms)
    have nd : (srtI (ks ms)).Nodup := hp.nodup_iff.mpr hI.so.1.nd
    have mem : ∀ y, y ∈ srtI (ks ms) ↔ y ∈ ks ms := fun y => hp.mem_iff
    refine s_end (ret_d (h f m (srtI (ks ms)) hI.fo ⟨nd, (mem 0).mpr hI.so.1.zero, fun z => out ((mem e).mp z), fun y hy => hI.so.1.rng hx.ok y ((mem y).mp hy), fun p hp' x hxm => ?_⟩ ?_ hI.m0) ⟨.inr rfl, .inr rfl, .inr rfl, .inr rfl, .inl rfl, .inr rfl, trivial⟩ (by show c.M.length ≤ 6; omega) rfl rfl)
    · have := hI.so.2 p ((mem p).mp hp') x hxm
      exact ⟨fun h1 h2 => (mem _).mpr (this.1 h1 h2), fun h1 h2 => (mem _).mpr (this.2 h1 h2)⟩
    · exact (List.pairwise_iff_getElem.mpr fun i j hi hj hij => by
        have a := List.pairwise_iff_getElem.mp (srtI_sorted (ks ms)) i j hi hj hij
        have b := List.pairwise_iff_getElem.mp nd i j hi hj hij
        omega)
end
end Z11

set_option maxHeartbeats 4000000
namespace Z11
open PySem PySem.Spec PyProof.Rows L2 VL
local macro_rules | `(tactic| walk_at "side") => `(tactic| first | assumption | rfl | omega | decide)
local macro_rules | `(tactic| walk_at "sd") => `(tactic| first | assumption | omega | rotate_left 1)
local macro_rules | `(tactic| walk_at "lv") => `(tactic| first | exact lv_d | exact lv_p rfl | exact dv_d | exact dv_p rfl)
local macro_rules | `(tactic| walk_at "ov") => `(tactic| first
  | ((with_reducible apply VL.gAdd); (first | exact ov_add))
  | ((with_reducible apply VL.gSub); exact ov_sub)
  | ((with_reducible apply VL.gMul); (refine ov_mul ?_); (first | (refine Or.inl ⟨?_, ?_⟩ <;> decide) | (refine Or.inr ⟨?_, ?_⟩ <;> decide) | walk_at "sd"))
  | ((with_reducible apply VL.gDiv); (refine ov_div ?_); (first | (refine ⟨?_, ?_⟩ <;> decide) | walk_at "sd"))
  | ((with_reducible apply VL.gMod); (refine ov_mod ?_); (first | decide | walk_at "sd"))
  | ((with_reducible apply VL.gPow); (refine ov_pow ?_); (first | (refine ⟨?_, ?_, ?_⟩ <;> decide) | walk_at "sd"))
  | ((with_reducible apply VL.gEq); first | exact ov_eq | exact ov_eqO | exact ov_eqOs | exact ov_eqss | exact ov_eqOO)
  | ((with_reducible apply VL.gNe); first | exact ov_ne)
  | ((with_reducible apply VL.gLt); first | exact ov_lt | exact ov_ltO)
  | ((with_reducible apply VL.gLe); first | exact ov_le | exact ov_leO)
  | ((with_reducible apply VL.gGt); first | exact ov_gt | exact ov_gtO)
  | ((with_reducible apply VL.gGe); exact ov_ge)
  | ((with_reducible apply VL.gIs); first | exact ov_isO | exact ov_isU | exact ov_isX)
  | ((with_reducible apply VL.gIsN); first | exact ov_isNO | exact ov_isNU | exact ov_isNX)
  | ((with_reducible apply VL.gIx); first | exact ov_ix20 | exact ov_ix21 | exact ov_ix30 | exact ov_ix31 | exact ov_ix32 | ((refine ov_ixLG (by walk_at "lv") ?_); (walk_at "sd")) | ((refine ov_ixTG ?_); (walk_at "sd"))))
local macro_rules | `(tactic| walk_at "cv") => `(tactic| first
  | ((with_reducible apply VL.gLen); first | exact cv_lenT | exact cv_lenL (by walk_at "lv"))
  | ((with_reducible apply VL.gInt); first | exact cv_int | exact cv_intB)
  | ((with_reducible apply VL.gAbs); exact cv_abs)
  | ((with_reducible apply VL.gMin); exact cv_min2)
  | ((with_reducible apply VL.gMax); exact cv_max2)
  | ((with_reducible apply VL.gList); first | exact cv_listT | exact cv_listL (by walk_at "lv"))
  | ((with_reducible apply VL.gTuple); first | exact cv_tupleT | exact cv_tupleL (by walk_at "lv"))
  | ((with_reducible apply VL.gIsi); first | exact cv_isi rfl | exact cv_isiP rfl rfl))
local macro_rules | `(tactic| walk_at "all") => `(tactic| repeat (first | exact AllD.nil | refine AllD.d ?_))
local macro_rules | `(tactic| walk_at "e") => `(tactic| first
  | ((with_reducible apply VL.gVar); first | exact er_d rfl | exact er_p rfl)
  | ((with_reducible apply VL.gC); first | exact er_int | exact er_bl | exact er_str | exact er_non | exact er_ty | assumption)
  | ((with_reducible apply er_op); (walk_at "e"); (walk_at "e"); (walk_at "ov"))
  | ((with_reducible apply er_cb); (walk_at "e"); (walk_at "cv"))
  | ((with_reducible apply VL.gENil); exact ea_nil)
  | ((with_reducible apply ea_cons); (walk_at "e"); (walk_at "e"))
  | ((with_reducible apply VL.gPop); (refine er_popG rfl rfl ?_); (walk_at "sd"))
  | ((with_reducible apply et_v); (walk_at "e"))
  | ((with_reducible apply er_ix); (walk_at "e"); (walk_at "e"); (walk_at "ov"))
  | ((with_reducible apply er_andV); (walk_at "e"); (intro hb_; (try simp only [decide_eq_true_eq] at hb_); (walk_at "e")))
  | ((with_reducible apply er_orV); (walk_at "e"); (intro hb_; (try simp only [decide_eq_false_iff_not] at hb_); (walk_at "e")))
  | ((with_reducible apply er_notV); (walk_at "e"))
  | ((with_reducible apply et_and); (walk_at "e"); (intro hb_; (try simp only [decide_eq_true_eq] at hb_); (walk_at "e")))
  | ((with_reducible apply et_or); (walk_at "e"); (intro hb_; (try simp only [decide_eq_false_iff_not] at hb_); (walk_at "e")))
  | ((with_reducible apply et_not); (walk_at "e"))
  | ((with_reducible apply VL.gTru); (apply et_truB); (walk_at "e"))
  | ((with_reducible apply er_bits); (walk_at "e"))
  | ((with_reducible apply er_neg); (walk_at "e"))
  | (with_reducible exact er_make0)
  | ((with_reducible apply er_t2); (walk_at "e"); done)
  | ((with_reducible apply er_t3); (walk_at "e"); done)
  | (walk_at "in")
  | (walk_at "call"))
local macro_rules | `(tactic| walk_at "in") => `(tactic| first
  | ((with_reducible apply VL.gIn); first | exact er_inT (by walk_at "e") (by walk_at "e") | exact er_inL (by walk_at "e") (by walk_at "e") (by walk_at "lv"))
  | ((with_reducible apply VL.gNotIn); first | exact er_notinT (by walk_at "e") (by walk_at "e") | exact er_notinL (by walk_at "e") (by walk_at "e") (by walk_at "lv")))
section
variable {P : Program} {K : Fg} {mg : Str → Option Value}
theorem q_append {α : Type} [Rp α] {c : Cx0} {s s1 : List Slot} {o o1 : List Cont} {i k : Nat} {te : TE} {D : Ends} {u : TS} {xs : List α} {x : α} (hs : sget s i = .p k) (h : ER K c te s o s1 o1 (.d x)) (hk : cget o1 k = .lst xs) (hk0 : ∃ (β : Type) (j : Rp β) (ys : List β), cget o k = @Cont.lst β j ys) (hz : xs.length < sizeLine) (q : Run K c u D s1 (o1.set k (.lst (xs ++ [x])))) :
    Run K c (tSeq (tDrop (tBM K "list" rAppend (tVar i) (tCons te tNil))) u) D s o := s_append (D := { D with nx := u D }) hs h hk hk0 hz q
theorem drawV_range (xs : List Int) {n : Int} (h : 0 < n) : 0 ≤ drawV xs n ∧ drawV xs n < n := by
  unfold drawV
  split
  · omega
  · exact ⟨Int.emod_nonneg _ (by omega), Int.emod_lt_of_pos _ h⟩
theorem run__law_draw (T : Txt P K mg) (c : Cx0) (ss : List Slot) (os : List Cont) (Q : VK) (E : XK) (hM : c.M.length = os.length) (h : F__law_draw ss os (Rc K c Q) (Xc K c E)) : Run K c (t__law_draw K E) { nx := fun _ H' => Q .non H', rt := Q } (ss ++ List.replicate (2 - ss.length) .u) os := by
  obtain ⟨xs, n, rfl, rfl, hn, h⟩ := h
  show Run K c _ _ [.p 0, .d n] [.lst xs]
  unfold t__law_draw
  apply q_when
  · walk_at "e"
  · intro e
    have hx : xs = [] := by
      cases xs with
      | nil => rfl
      | cons a l => simp at e; omega
    subst hx
    exact s_ret (by walk_at "e") (ret_d h (OsW.refl _) (by rw [hM]; exact Nat.le_refl _) rfl rfl)
  · intro e
    have hx : xs ≠ [] := by rintro rfl; simp at e
    have hv : drawV xs n = xs.getLastD default % n := by
      unfold drawV
      rw [List.getLastD_eq_getLast?]
      cases q : xs.getLast? with
      | none => exact absurd (List.getLast?_eq_none_iff.mp q) hx
      | some x => rfl
    rw [hv] at h
    exact s_ret (o1 := [.lst xs.dropLast]) (by walk_at "e") (ret_d h (OsW.refl _) (by rw [hM]; exact Nat.le_refl _) rfl rfl)
theorem run__law_stream (T : Txt P K mg) (c : Cx0) (ss : List Slot) (os : List Cont) (Q : VK) (E : XK) (hM : c.M.length = os.length) (h : F__law_stream ss os (Rc K c Q) (Xc K c E)) : Run K c (t__law_stream K E) { nx := fun _ H' => Q .non H', rt := Q } (ss ++ List.replicate (7 - ss.length) .u) os := by
  obtain ⟨xs, rfl, rfl, h⟩ := h
  show Run K c _ _ [.d xs, .u, .u, .u, .u, .u, .u] []
  have hM : c.M.length = 0 := hM
  unfold t__law_stream
  refine q_asg (er_lst (xs := ([] : List Int)) ea_nil (Nat.zero_le _)) (Nat.le_of_ble_eq_true rfl) ?_
  refine q_for (α := Int) (I := fun k (w : List Int) => w.length ≤ 60 * k) (f := fun _ => [.d xs, .p 0, .u, .u, .u, .u, .u]) (g := fun w => [.lst w]) (f' := fun _ x => [.d xs, .p 0, .d x, .u, .u, .u, .u]) (ei_rng1 (n := min (xs.length : Int) 63) (by walk_at "e") ⟨by omega, by omega⟩) [] (Nat.zero_le _) (SlW.refl _) rfl rfl rfl (fun _ _ _ => trivial) (fun _ _ => eg_name (Nat.le_of_ble_eq_true rfl)) ?_ ?_
  · intro c' hc hM' k w x hx hw
    obtain ⟨hk, rfl⟩ := rngl_get.mp hx
    have hk1 : k < xs.length := by omega
    have hk2 : k < 63 := by omega
    have hM' : c'.M.length = 1 := hM'
    obtain ⟨cell, hcell⟩ : ∃ cell, xs[k]? = some cell := ⟨_, List.getElem?_eq_getElem hk1⟩
    have hat : atI xs (0 + (k : Int)) = some cell := by rw [Int.zero_add, atI_nat]; exact hcell
    refine q_asg (r := .d cell) (er_cb (ea_cons (er_ix (er_d rfl) (er_d rfl) (ov_ixL lv_d hat)) ea_nil) cv_int) (Nat.le_of_ble_eq_true rfl) ?_
    refine q_asg (by walk_at "e") (Nat.le_of_ble_eq_true rfl) ?_
    apply s_if
    · walk_at "e"
    · intro e
      have e : 0 ≤ cell ∧ cell < 10 ^ 18 := by simpa using e
      refine s_for (α := Int) (I := fun j (w' : List Int) => w'.length ≤ 60 * k + j) (f := fun _ => [.d xs, .p 0, .d ((0 : Int) + (k : Int)), .d cell, .u, .u, .u]) (g := fun w => [.lst w]) (f' := fun _ x => [.d xs, .p 0, .d ((0 : Int) + (k : Int)), .d cell, .u, .d x, .u]) (ei_rng1 (n := 3) (ea_cons er_int ea_nil) ⟨by omega, by omega⟩) w hw ?_ rfl rfl rfl (fun _ _ _ => trivial) (fun _ _ => eg_name (Nat.le_of_ble_eq_true rfl)) ?_ ?_
      · exact ⟨.inr rfl, .inr rfl, .inr rfl, .inr rfl, .inl rfl, .inl rfl, .inl rfl, trivial⟩
      · intro c2 hc2 hM2 j w2 t ht hw2
        obtain ⟨hj, rfl⟩ := rngl_get.mp ht
        have hj : j < 3 := hj
        refine q_asg (er_op (er_cb (ea_cons (er_op (by walk_at "e") (by walk_at "e") (ov_mul (.inl ⟨by omega, by omega⟩))) ea_nil) cv_int) er_int (ov_mod (by decide))) (Nat.le_of_ble_eq_true rfl) ?_
        generalize hm : (cell + 1) * (48271 + 6 * (0 + (k : Int)) + 2 * (0 + (j : Int))) % 2147483629 = mixed
        have m0 : 0 ≤ mixed := by rw [← hm]; exact Int.emod_nonneg _ (by decide)
        have m1 : mixed < 2147483629 := by rw [← hm]; exact Int.emod_lt_of_pos _ (by decide)
        refine s_append (x := mixed * mixed % 1000003) (xs := w2) (k := 0) rfl (er_op (er_cb (ea_cons (er_op (er_d rfl) (er_d rfl) (ov_mul (.inl ⟨by omega, by omega⟩))) ea_nil) cv_int) er_int (ov_mod (by decide))) rfl ⟨_, _, _, rfl⟩ (by rw [szl]; omega) ?_
        exact go_at (w2 ++ [mixed * mixed % 1000003]) (by simp; omega) ⟨.inr rfl, .inr rfl, .inr rfl, .inr rfl, .inl rfl, .inl rfl, .inl rfl, trivial⟩ (OsW.refl _) (Nat.le_of_eq hM2) rfl rfl
      · intro w2 hw2
        have : w2.length ≤ 60 * k + 3 := hw2
        exact go_at w2 (show w2.length ≤ 60 * (k + 1) by omega) ⟨.inr rfl, .inr rfl, .inl rfl, .inl rfl, .inl rfl, .inl rfl, .inl rfl, trivial⟩ (OsW.refl _) (Nat.le_of_eq hM') rfl rfl
    · intro e
      refine s_for (α := Int) (I := fun j (w' : List Int × Int) => w'.1.length ≤ 60 * k + j) (f := fun w => [.d xs, .p 0, .u, .u, .d w.2, .u, .u]) (g := fun w => [.lst w.1]) (f' := fun w x => [.d xs, .p 0, .u, .u, .d w.2, .d x, .u]) (ei_rng1 (n := 60) (ea_cons er_int ea_nil) ⟨by omega, by omega⟩) (w, if cell < 0 then -cell else cell) hw ?_ rfl rfl rfl (fun _ _ _ => trivial) (fun _ _ => eg_name (Nat.le_of_ble_eq_true rfl)) ?_ ?_
      · exact ⟨.inr rfl, .inr rfl, .inl rfl, .inl rfl, .inr rfl, .inl rfl, .inl rfl, trivial⟩
      · intro c2 hc2 hM2 j w2 t ht hw2
        obtain ⟨hj, rfl⟩ := rngl_get.mp ht
        have hj : j < 60 := hj
        obtain ⟨nums, rest⟩ := w2
        have hw2 : nums.length ≤ 60 * k + j := hw2
        apply s_when
        · walk_at "e"
        · intro e2
          refine q_append (x := rest % 1000) (xs := nums) (k := 0) rfl (by walk_at "e") rfl ⟨_, _, _, rfl⟩ (by rw [szl]; omega) ?_
          apply s_asg
          · walk_at "e"
          · exact Nat.le_of_ble_eq_true rfl
          exact go_at (nums ++ [rest % 1000], rest / 1000) (show (nums ++ [rest % 1000]).length ≤ _ by simp; omega) ⟨.inr rfl, .inr rfl, .inr rfl, .inr rfl, .inr rfl, .inl rfl, .inr rfl, trivial⟩ (OsW.refl _) (Nat.le_of_eq hM2) rfl rfl
        · intro e2
          exact go_at (nums, rest) (show nums.length ≤ _ by omega) ⟨.inr rfl, .inr rfl, .inr rfl, .inr rfl, .inr rfl, .inl rfl, .inr rfl, trivial⟩ (OsW.refl _) (Nat.le_of_eq hM2) rfl rfl
      · intro w2 hw2
        have : w2.1.length ≤ 60 * k + 60 := hw2
        exact go_at w2.1 (show w2.1.length ≤ 60 * (k + 1) by omega) ⟨.inr rfl, .inr rfl, .inl rfl, .inl rfl, .inl rfl, .inl rfl, .inl rfl, trivial⟩ (OsW.refl _) (Nat.le_of_eq hM') rfl rfl
  · intro w hw
    apply s_ret
    · exact er_revL (er_p rfl) (lv_p rfl)
    · exact ret_p (os := []) (k := 1) (n := 0) (h w.reverse) rfl OsW.nil (by rw [hM]; exact Nat.le_refl _) rfl (Nat.zero_le _) (Nat.le_of_ble_eq_true rfl) rfl rfl rfl
end
end Z11

set_option maxHeartbeats 4000000
namespace Z11
open PySem PySem.Spec PyProof.Rows L2 VL
local macro_rules | `(tactic| walk_at "side") => `(tactic| first | assumption | rfl | omega | decide)
local macro_rules | `(tactic| walk_at "sd") => `(tactic| first | assumption | omega | rotate_left 1)
local macro_rules | `(tactic| walk_at "lv") => `(tactic| first | exact lv_d | exact lv_p rfl | exact dv_d | exact dv_p rfl)
local macro_rules | `(tactic| walk_at "ov") => `(tactic| first
  | ((with_reducible apply VL.gAdd); (first | exact ov_add))
  | ((with_reducible apply VL.gSub); exact ov_sub)
  | ((with_reducible apply VL.gMul); (refine ov_mul ?_); (first | (refine Or.inl ⟨?_, ?_⟩ <;> decide) | (refine Or.inr ⟨?_, ?_⟩ <;> decide) | walk_at "sd"))
  | ((with_reducible apply VL.gDiv); (refine ov_div ?_); (first | (refine ⟨?_, ?_⟩ <;> decide) | walk_at "sd"))
  | ((with_reducible apply VL.gMod); (refine ov_mod ?_); (first | decide | walk_at "sd"))
  | ((with_reducible apply VL.gPow); (refine ov_pow ?_); (first | (refine ⟨?_, ?_, ?_⟩ <;> decide) | walk_at "sd"))
  | ((with_reducible apply VL.gEq); first | exact ov_eq | exact ov_eqO | exact ov_eqOs | exact ov_eqss | exact ov_eqOO)
  | ((with_reducible apply VL.gNe); first | exact ov_ne)
  | ((with_reducible apply VL.gLt); first | exact ov_lt | exact ov_ltO)
  | ((with_reducible apply VL.gLe); first | exact ov_le | exact ov_leO)
  | ((with_reducible apply VL.gGt); first | exact ov_gt | exact ov_gtO)
  | ((with_reducible apply VL.gGe); exact ov_ge)
  | ((with_reducible apply VL.gIs); first | exact ov_isO | exact ov_isU | exact ov_isX)
  | ((with_reducible apply VL.gIsN); first | exact ov_isNO | exact ov_isNU | exact ov_isNX)
  | ((with_reducible apply VL.gIx); first | exact ov_ix20 | exact ov_ix21 | exact ov_ix30 | exact ov_ix31 | exact ov_ix32 | ((refine ov_ixLG (by walk_at "lv") ?_); (walk_at "sd")) | ((refine ov_ixTG ?_); (walk_at "sd"))))
local macro_rules | `(tactic| walk_at "cv") => `(tactic| first
  | ((with_reducible apply VL.gLen); first | exact cv_lenT | exact cv_lenL (by walk_at "lv"))
  | ((with_reducible apply VL.gInt); first | exact cv_int | exact cv_intB)
  | ((with_reducible apply VL.gAbs); exact cv_abs)
  | ((with_reducible apply VL.gMin); exact cv_min2)
  | ((with_reducible apply VL.gMax); exact cv_max2)
  | ((with_reducible apply VL.gList); first | exact cv_listT | exact cv_listL (by walk_at "lv"))
  | ((with_reducible apply VL.gTuple); first | exact cv_tupleT | exact cv_tupleL (by walk_at "lv"))
  | ((with_reducible apply VL.gIsi); first | exact cv_isi rfl | exact cv_isiP rfl rfl))
local macro_rules | `(tactic| walk_at "all") => `(tactic| repeat (first | exact AllD.nil | refine AllD.d ?_))
local macro_rules | `(tactic| walk_at "e") => `(tactic| first
  | ((with_reducible apply VL.gVar); first | exact er_d rfl | exact er_p rfl)
  | ((with_reducible apply VL.gC); first | exact er_int | exact er_bl | exact er_str | exact er_non | exact er_ty | assumption)
  | ((with_reducible apply er_op); (walk_at "e"); (walk_at "e"); (walk_at "ov"))
  | ((with_reducible apply er_cb); (walk_at "e"); (walk_at "cv"))
  | ((with_reducible apply VL.gENil); exact ea_nil)
  | ((with_reducible apply ea_cons); (walk_at "e"); (walk_at "e"))
  | ((with_reducible apply VL.gPop); (refine er_popG rfl rfl ?_); (walk_at "sd"))
  | ((with_reducible apply et_v); (walk_at "e"))
  | ((with_reducible apply er_ix); (walk_at "e"); (walk_at "e"); (walk_at "ov"))
  | ((with_reducible apply er_andV); (walk_at "e"); (intro hb_; (try simp only [decide_eq_true_eq] at hb_); (walk_at "e")))
  | ((with_reducible apply er_orV); (walk_at "e"); (intro hb_; (try simp only [decide_eq_false_iff_not] at hb_); (walk_at "e")))
  | ((with_reducible apply er_notV); (walk_at "e"))
  | ((with_reducible apply et_and); (walk_at "e"); (intro hb_; (try simp only [decide_eq_true_eq] at hb_); (walk_at "e")))
  | ((with_reducible apply et_or); (walk_at "e"); (intro hb_; (try simp only [decide_eq_false_iff_not] at hb_); (walk_at "e")))
  | ((with_reducible apply et_not); (walk_at "e"))
  | ((with_reducible apply VL.gTru); (apply et_truB); (walk_at "e"))
  | ((with_reducible apply er_bits); (walk_at "e"))
  | ((with_reducible apply er_neg); (walk_at "e"))
  | (with_reducible exact er_make0)
  | ((with_reducible apply er_t2); (walk_at "e"); done)
  | ((with_reducible apply er_t3); (walk_at "e"); done)
  | (walk_at "in")
  | (walk_at "call"))
local macro_rules | `(tactic| walk_at "in") => `(tactic| first
  | ((with_reducible apply VL.gIn); first | exact er_inT (by walk_at "e") (by walk_at "e") | exact er_inL (by walk_at "e") (by walk_at "e") (by walk_at "lv"))
  | ((with_reducible apply VL.gNotIn); first | exact er_notinT (by walk_at "e") (by walk_at "e") | exact er_notinL (by walk_at "e") (by walk_at "e") (by walk_at "lv")))
section
variable {P : Program} {K : Fg} {mg : Str → Option Value}
theorem run__law_ints (T : Txt P K mg) (c : Cx0) (ss : List Slot) (os : List Cont) (Q : VK) (E : XK) (hM : c.M.length = os.length) (h : F__law_ints ss os (Rc K c Q) (Xc K c E)) : Run K c (t__law_ints K E) { nx := fun _ H' => Q .non H', rt := Q } (ss ++ List.replicate (3 - ss.length) .u) os := by
  obtain ⟨xs, ys, rfl, rfl, l1, l2, h⟩ := h
  show Run K c _ _ [.p 0, .p 1, .u] [.lst xs, .lst ys]
  have hM : c.M.length = 2 := hM
  unfold t__law_ints
  refine q_when (et_or (et_not (et_truB (er_cb (ea_cons (er_p rfl) (ea_cons er_ty ea_nil)) (cv_isiP rfl rfl)))) fun _ => et_v (er_op (er_cb (ea_cons (er_p rfl) ea_nil) (cv_lenL (lv_p rfl))) (er_cb (ea_cons (er_p rfl) ea_nil) (cv_lenL (lv_p rfl))) ov_ne)) (fun b => ?_) (fun b => ?_)
  · have ne : xs ≠ ys := by rintro rfl; simp at b
    rw [decide_eq_false ne] at h
    exact s_ret er_bl (ret_d h (OsW.refl _) (Nat.le_of_eq hM) rfl rfl)
  · refine q_for (α := Int) (I := fun _ (_ : Unit) => True) (f := fun _ => [.p 0, .p 1, .u]) (g := fun _ => [.lst xs, .lst ys]) (f' := fun _ x => [.p 0, .p 1, .d x]) (ei_seqP (er_p rfl) rfl) () trivial (SlW.refl _) rfl rfl rfl (fun _ _ _ => rfl) (fun _ _ => eg_name (Nat.le_of_ble_eq_true rfl)) ?_ ?_
    · intro c' hc hM' k w x hk hI
      refine s_when (et_or (et_not (et_truB (er_cb (ea_cons (er_d rfl) (ea_cons er_ty ea_nil)) (cv_isi rfl)))) fun _ => et_truB (er_cb (ea_cons (er_d rfl) (ea_cons er_ty ea_nil)) (cv_isi rfl))) (fun b => by cases b) (fun _ => ?_)
      exact go_at () trivial ⟨.inr rfl, .inr rfl, .inl rfl, trivial⟩ (OsW.refl _) (Nat.le_of_eq hM') rfl rfl
    · intro w _
      refine s_ret (er_op (er_p rfl) (er_cb (ea_cons (er_p rfl) ea_nil) (cv_listAL (lv_p rfl))) (ov_eqLI (lv_p rfl) (lv_p rfl) l1 l2)) ?_
      exact ret_d h ⟨.inr rfl, .inr rfl, trivial⟩ (Nat.le_of_eq hM) rfl rfl
theorem run__law_side (T : Txt P K mg) (c : Cx0) (ss : List Slot) (os : List Cont) (Q : VK) (E : XK) (hM : c.M.length = os.length) (h : F__law_side ss os (Rc K c Q) (Xc K c E)) : Run K c (t__law_side K E) { nx := fun _ H' => Q .non H', rt := Q } (ss ++ List.replicate (3 - ss.length) .u) os := by
  obtain ⟨side, most, rfl, rfl, pw, h0, hm, hr, hl, h⟩ := h
  show Run K c _ _ [.p 0, .d most, .u] [.lst side]
  have hM : c.M.length = 1 := hM
  unfold t__law_side
  obtain ⟨tl, rfl⟩ : ∃ tl, side = 0 :: tl := by
    cases side with
    | nil => cases h0
    | cons a tl =>
      have a0 := (hr a (by simp)).1
      rcases List.mem_cons.mp h0 with e | e
      · exact ⟨tl, by rw [← e]⟩
      · have := (List.pairwise_cons.mp pw).1 0 e; omega
  refine q_when (et_or (et_not (et_truB (er_cb (ea_cons (er_p rfl) (ea_cons er_ty ea_nil)) (cv_isiP rfl rfl)))) fun _ => et_or (et_v (er_op (er_cb (ea_cons (er_p rfl) ea_nil) (cv_lenL (lv_p rfl))) er_int ov_eq)) fun _ => et_or (et_v (er_op (er_ix (er_p rfl) er_int (ov_ixL (xs := 0 :: tl) (x := (0 : Int)) (lv_p rfl) (atI_nat (0 :: tl) 0))) er_int ov_ne)) fun _ => et_v (er_inL (er_d rfl) (er_p rfl) (lv_p rfl))) (fun b => ?_) (fun _ => ?_)
  · simp [hm] at b
    omega
  · refine q_for (α := Int) (I := fun _ (_ : Unit) => True) (f := fun _ => [.p 0, .d most, .u]) (g := fun _ => [.lst (0 :: tl)]) (f' := fun _ x => [.p 0, .d most, .d x]) (ei_seqP (er_p rfl) rfl) () trivial (SlW.refl _) rfl rfl rfl (fun _ _ _ => rfl) (fun _ _ => eg_name (Nat.le_of_ble_eq_true rfl)) ?_ ?_
    · intro c' hc hM' k w x hk hI
      have hx := hr x (List.mem_of_getElem? hk)
      refine s_when (et_or (et_truB (er_cb (ea_cons (er_d rfl) (ea_cons er_ty ea_nil)) (cv_isi rfl))) fun _ => et_or (et_not (et_truB (er_cb (ea_cons (er_d rfl) (ea_cons er_ty ea_nil)) (cv_isi rfl)))) fun _ => et_or (et_v (er_op (er_d rfl) er_int ov_lt)) fun _ => et_v (er_op (er_d rfl) (er_d rfl) ov_gt)) (fun b => ?_) (fun _ => ?_)
      · have n1 : ¬ x < 0 := by omega
        have n2 : ¬ most < x := by omega
        rw [decide_eq_false n1, decide_eq_false n2] at b
        exact absurd b (by decide)
      · exact go_at () trivial ⟨.inr rfl, .inr rfl, .inl rfl, trivial⟩ (OsW.refl _) (Nat.le_of_eq hM') rfl rfl
    · intro w _
      refine s_ret (er_op (er_p rfl) (er_sortSet (er_p rfl) (lv_p rfl) hl pw (fun _ => Iff.rfl)) (ov_eqLI (lv_p rfl) (lv_p rfl) (by omega) (by omega))) ?_
      rw [decide_eq_true rfl]
      exact ret_d h ⟨.inr rfl, trivial⟩ (Nat.le_of_eq hM) rfl rfl
end
end Z11

set_option maxHeartbeats 4000000
namespace Z11
open PySem PySem.Spec PyProof.Rows L2 VL
local macro_rules | `(tactic| walk_at "side") => `(tactic| first | assumption | rfl | omega | decide)
local macro_rules | `(tactic| walk_at "sd") => `(tactic| first | assumption | omega | rotate_left 1)
local macro_rules | `(tactic| walk_at "lv") => `(tactic| first | exact lv_d | exact lv_p rfl | exact dv_d | exact dv_p rfl)
local macro_rules | `(tactic| walk_at "ov") => `(tactic| first
  | ((with_reducible apply VL.gAdd); (first | exact ov_add))
  | ((with_reducible apply VL.gSub); exact ov_sub)
  | ((with_reducible apply VL.gMul); (refine ov_mul ?_); (first | (refine Or.inl ⟨?_, ?_⟩ <;> decide) | (refine Or.inr ⟨?_, ?_⟩ <;> decide) | walk_at "sd"))
  | ((with_reducible apply VL.gDiv); (refine ov_div ?_); (first | (refine ⟨?_, ?_⟩ <;> decide) | walk_at "sd"))
  | ((with_reducible apply VL.gMod); (refine ov_mod ?_); (first | decide | walk_at "sd"))
  | ((with_reducible apply VL.gPow); (refine ov_pow ?_); (first | (refine ⟨?_, ?_, ?_⟩ <;> decide) | walk_at "sd"))
  | ((with_reducible apply VL.gEq); first | exact ov_eq | exact ov_eqO | exact ov_eqOs | exact ov_eqss | exact ov_eqOO)
  | ((with_reducible apply VL.gNe); first | exact ov_ne)
  | ((with_reducible apply VL.gLt); first | exact ov_lt | exact ov_ltO)
  | ((with_reducible apply VL.gLe); first | exact ov_le | exact ov_leO)
  | ((with_reducible apply VL.gGt); first | exact ov_gt | exact ov_gtO)
  | ((with_reducible apply VL.gGe); exact ov_ge)
  | ((with_reducible apply VL.gIs); first | exact ov_isO | exact ov_isU | exact ov_isX)
  | ((with_reducible apply VL.gIsN); first | exact ov_isNO | exact ov_isNU | exact ov_isNX)
  | ((with_reducible apply VL.gIx); first | exact ov_ix20 | exact ov_ix21 | exact ov_ix30 | exact ov_ix31 | exact ov_ix32 | ((refine ov_ixLG (by walk_at "lv") ?_); (walk_at "sd")) | ((refine ov_ixTG ?_); (walk_at "sd"))))
local macro_rules | `(tactic| walk_at "cv") => `(tactic| first
  | ((with_reducible apply VL.gLen); first | exact cv_lenT | exact cv_lenL (by walk_at "lv"))
  | ((with_reducible apply VL.gInt); first | exact cv_int | exact cv_intB)
  | ((with_reducible apply VL.gAbs); exact cv_abs)
  | ((with_reducible apply VL.gMin); exact cv_min2)
  | ((with_reducible apply VL.gMax); exact cv_max2)
  | ((with_reducible apply VL.gList); first | exact cv_listT | exact cv_listL (by walk_at "lv"))
  | ((with_reducible apply VL.gTuple); first | exact cv_tupleT | exact cv_tupleL (by walk_at "lv"))
  | ((with_reducible apply VL.gIsi); first | exact cv_isi rfl | exact cv_isiP rfl rfl))
local macro_rules | `(tactic| walk_at "all") => `(tactic| repeat (first | exact AllD.nil | refine AllD.d ?_))
local macro_rules | `(tactic| walk_at "e") => `(tactic| first
  | ((with_reducible apply VL.gVar); first | exact er_d rfl | exact er_p rfl)
  | ((with_reducible apply VL.gC); first | exact er_int | exact er_bl | exact er_str | exact er_non | exact er_ty | assumption)
  | ((with_reducible apply er_op); (walk_at "e"); (walk_at "e"); (walk_at "ov"))
  | ((with_reducible apply er_cb); (walk_at "e"); (walk_at "cv"))
  | ((with_reducible apply VL.gENil); exact ea_nil)
  | ((with_reducible apply ea_cons); (walk_at "e"); (walk_at "e"))
  | ((with_reducible apply VL.gPop); (refine er_popG rfl rfl ?_); (walk_at "sd"))
  | ((with_reducible apply et_v); (walk_at "e"))
  | ((with_reducible apply er_ix); (walk_at "e"); (walk_at "e"); (walk_at "ov"))
  | ((with_reducible apply er_andV); (walk_at "e"); (intro hb_; (try simp only [decide_eq_true_eq] at hb_); (walk_at "e")))
  | ((with_reducible apply er_orV); (walk_at "e"); (intro hb_; (try simp only [decide_eq_false_iff_not] at hb_); (walk_at "e")))
  | ((with_reducible apply er_notV); (walk_at "e"))
  | ((with_reducible apply et_and); (walk_at "e"); (intro hb_; (try simp only [decide_eq_true_eq] at hb_); (walk_at "e")))
  | ((with_reducible apply et_or); (walk_at "e"); (intro hb_; (try simp only [decide_eq_false_iff_not] at hb_); (walk_at "e")))
  | ((with_reducible apply et_not); (walk_at "e"))
  | ((with_reducible apply VL.gTru); (apply et_truB); (walk_at "e"))
  | ((with_reducible apply er_bits); (walk_at "e"))
  | ((with_reducible apply er_neg); (walk_at "e"))
  | (with_reducible exact er_make0)
  | ((with_reducible apply er_t2); (walk_at "e"); done)
  | ((with_reducible apply er_t3); (walk_at "e"); done)
  | (walk_at "in")
  | (walk_at "call"))
local macro_rules | `(tactic| walk_at "in") => `(tactic| first
  | ((with_reducible apply VL.gIn); first | exact er_inT (by walk_at "e") (by walk_at "e") | exact er_inL (by walk_at "e") (by walk_at "e") (by walk_at "lv"))
  | ((with_reducible apply VL.gNotIn); first | exact er_notinT (by walk_at "e") (by walk_at "e") | exact er_notinL (by walk_at "e") (by walk_at "e") (by walk_at "lv")))
section
variable {P : Program} {K : Fg} {mg : Str → Option Value} {c : Cx0} {s s1 : List Slot} {o o1 os : List Cont} {E : XK} {ta : TA} {D : Ends} {u : TS} {i : Nat}
theorem c_draw {xs : List Int} {n : Int} {k : Nat} (h : EA K c ta s o s1 o1 [.p k, .d n]) (hct : cget o1 k = .lst xs) (hk : k < o1.length) (hn : 0 < n) : ER K c (tCall (spOf K F__law_draw) [] E ta) s o s1 (o1.set k (.lst xs.dropLast)) (.d (drawV xs n)) :=
  er_callD1 (rs := [.p 0, .d n]) h (fun R X q => ⟨xs, n, rfl, rfl, hn, q⟩) hk hct rfl rfl rfl rfl
structure SdI (most : Int) (k : Nat) (w : List Int × List Sp) : Prop where
  len : w.2.length = k
  nd : (w.2.map (·.a)).Nodup
  ok : ∀ x ∈ w.2, 0 ≤ x.b ∧ x.b < x.c ∧ x.c ≤ most ∧ 0 ≤ x.a ∧ x.a < 5 * k
theorem SdI.fin {most : Int} {k : Nat} {w : List Int × List Sp} (h : SdI most k w) (hk : k ≤ 40) (h1 : 1 ≤ most) (h2 : most ≤ 60) : SpIn w.2 most :=
  ⟨⟨h.nd, fun x hx => ⟨(h.ok x hx).1, (h.ok x hx).2.1, (h.ok x hx).2.2.1⟩, h1⟩, by have := h.len; omega, by omega, fun x hx => ⟨(h.ok x hx).2.2.2.1, by have := (h.ok x hx).2.2.2.2; omega⟩⟩
theorem spin_rev {xs : List Sp} {e : Int} (h : SpIn xs e) : SpIn xs.reverse e :=
  ⟨⟨by rw [List.map_reverse]; exact (List.reverse_perm _).nodup_iff.mpr h.ok.nd, fun x hx => h.ok.ok x (List.mem_reverse.mp hx), h.ok.e1⟩, by rw [List.length_reverse]; exact h.len, h.e2, fun x hx => h.bd x (List.mem_reverse.mp hx)⟩
theorem run__law_spans_drawn (T : Txt P K mg) (c : Cx0) (ss : List Slot) (os : List Cont) (Q : VK) (E : XK) (hM : c.M.length = os.length) (h : F__law_spans_drawn ss os (Rc K c Q) (Xc K c E)) : Run K c (t__law_spans_drawn K E) { nx := fun _ H' => Q .non H', rt := Q } (ss ++ List.replicate (7 - ss.length) .u) os := by
  obtain ⟨ys, many, most, rfl, rfl, m0, m1, h1, h2, h⟩ := h
  show Run K c _ _ [.p 0, .d many, .d most, .u, .u, .u, .u] [.lst ys]
  have hM : c.M.length = 1 := hM
  unfold t__law_spans_drawn
  refine q_asg (er_lst (xs := ([] : List Sp)) ea_nil (Nat.zero_le _)) (Nat.le_of_ble_eq_true rfl) ?_
  refine run_os (o1 := [.lst ys, .lst ([] : List Sp)]) ?_ rfl
  refine run_sl (s1 := [.p 0, .d many, .d most, .p 1, .u, .u, .u]) ?_ rfl
  refine q_for (α := Int) (I := SdI most) (f := fun _ => [.p 0, .d many, .d most, .p 1, .u, .u, .u]) (g := fun w => [.lst w.1, .lst w.2]) (f' := fun _ x => [.p 0, .d many, .d most, .p 1, .d x, .u, .u]) (ei_rng1 (n := many) (ea_cons (er_d rfl) ea_nil) ⟨by omega, by omega⟩) (ys, []) ⟨rfl, by simp, fun x hx => by cases hx⟩ (SlW.refl _) rfl rfl rfl (fun _ _ _ => trivial) (fun _ _ => eg_name (Nat.le_of_ble_eq_true rfl)) ?_ ?_
  · rintro c' hc hM' k ⟨ys, xs⟩ x hxk hI
    obtain ⟨hk, rfl⟩ := rngl_get.mp hxk
    have hM' : c'.M.length = 2 := hM'
    have hk : k < 40 := by omega
    refine q_asg (c_draw (k := 0) (xs := ys) (n := most) (ea_cons (er_p rfl) (ea_cons (er_d rfl) ea_nil)) rfl (Nat.le_of_ble_eq_true rfl) (by omega)) (Nat.le_of_ble_eq_true rfl) ?_
    have r1 := drawV_range ys (n := most) (by omega)
    generalize drawV ys most = low at r1 ⊢
    generalize ys.dropLast = y1
    refine run_os (o1 := [.lst y1, .lst xs]) ?_ rfl
    refine run_sl (s1 := [.p 0, .d many, .d most, .p 1, .d ((0 : Int) + (k : Int)), .d low, .u]) ?_ rfl
    have r2 := drawV_range y1 (n := most) (by omega)
    refine q_asg (er_op (er_op (er_d rfl) er_int ov_add) (c_draw (k := 0) (xs := y1.dropLast) (n := min (most - low) (1 + drawV y1 most)) (ea_cons (er_p rfl) (ea_cons (er_cb (ea_cons (er_op (er_d rfl) (er_d rfl) ov_sub) (ea_cons (er_op er_int (c_draw (k := 0) (xs := y1) (n := most) (ea_cons (er_p rfl) (ea_cons (er_d rfl) ea_nil)) rfl (Nat.le_of_ble_eq_true rfl) (by omega)) ov_add) ea_nil)) cv_min2) ea_nil)) rfl (Nat.le_of_ble_eq_true rfl) (by omega)) ov_add) (Nat.le_of_ble_eq_true rfl) ?_
    have r3 := drawV_range y1.dropLast (n := min (most - low) (1 + drawV y1 most)) (by omega)
    generalize hh : low + 1 + drawV y1.dropLast (min (most - low) (1 + drawV y1 most)) = high
    have r4 : low < high ∧ high ≤ most := by omega
    generalize y1.dropLast.dropLast = y2
    refine run_os (o1 := [.lst y2, .lst xs]) ?_ rfl
    refine run_sl (s1 := [.p 0, .d many, .d most, .p 1, .d ((0 : Int) + (k : Int)), .d low, .d high]) ?_ rfl
    have r5 := drawV_range y2 (n := 5) (by omega)
    refine s_append (x := (⟨(0 + (k : Int)) * 5 + drawV y2 5, low, high⟩ : Sp)) (xs := xs) (k := 1) rfl (er_t3 (ea_cons (er_op (er_op (er_d rfl) er_int (ov_mul (.inl ⟨by omega, by omega⟩))) (c_draw (k := 0) (xs := y2) (n := 5) (ea_cons (er_p rfl) (ea_cons er_int ea_nil)) rfl (Nat.le_of_ble_eq_true rfl) (by omega)) ov_add) (ea_cons (er_d rfl) (ea_cons (er_d rfl) ea_nil)))) rfl ⟨_, _, _, rfl⟩ (by rw [szl]; have : xs.length = k := hI.len; omega) ?_
    refine go_at (y2.dropLast, xs ++ [⟨(0 + (k : Int)) * 5 + drawV y2 5, low, high⟩]) ⟨?_, ?_, fun x hx => ?_⟩ ⟨.inr rfl, .inr rfl, .inr rfl, .inr rfl, .inl rfl, .inl rfl, .inl rfl, trivial⟩ (OsW.refl _) (Nat.le_of_eq hM') rfl rfl
    · show (xs ++ [_]).length = k + 1
      rw [List.length_append, List.length_singleton, show xs.length = k from hI.len]
    · show ((xs ++ [(⟨(0 + (k : Int)) * 5 + drawV y2 5, low, high⟩ : Sp)]).map (·.a)).Nodup
      rw [List.map_append, List.nodup_append]
      refine ⟨hI.nd, by simp, fun a ha b hb e => ?_⟩
      obtain ⟨x, hx, rfl⟩ := List.mem_map.mp ha
      have := (hI.ok x hx).2.2.2.2
      simp at hb
      omega
    · rcases List.mem_append.mp hx with hx | hx
      · have := hI.ok x hx
        omega
      · have hx : x = ⟨(0 + (k : Int)) * 5 + drawV y2 5, low, high⟩ := by simpa using hx
        subst hx
        show 0 ≤ low ∧ low < high ∧ high ≤ most ∧ 0 ≤ (0 + (k : Int)) * 5 + drawV y2 5 ∧ (0 + (k : Int)) * 5 + drawV y2 5 < 5 * ((k + 1 : Nat) : Int)
        omega
  · rintro ⟨ys, xs⟩ hI
    rw [rngl_len] at hI
    have hs : SpIn xs most := hI.fin (by omega) h1 h2
    refine q_if (et_v (er_op (c_draw (k := 0) (xs := ys) (n := 2) (ea_cons (er_p rfl) (ea_cons er_int ea_nil)) rfl (Nat.le_of_ble_eq_true rfl) (by omega)) er_int ov_eq)) (fun _ => ?_) (fun _ => ?_)
    · refine s_asg (er_revL (er_p rfl) (lv_p (xs := xs) rfl)) (Nat.le_of_ble_eq_true rfl) (go_run ?_)
      refine s_ret (er_p (k := 2) rfl) ?_
      exact ret_p (os := [.lst ys.dropLast]) (k := 2) (ct := .lst xs.reverse) (h _ _ (spin_rev hs)) rfl ⟨.inr rfl, trivial⟩ (Nat.le_of_eq hM) rfl (Nat.le_of_ble_eq_true rfl) (Nat.le_of_ble_eq_true rfl) rfl rfl rfl
    · refine s_next (go_run ?_)
      refine s_ret (er_p (k := 1) rfl) ?_
      exact ret_p (os := [.lst ys.dropLast]) (k := 1) (ct := .lst xs) (h _ _ hs) rfl ⟨.inr rfl, trivial⟩ (Nat.le_of_eq hM) rfl (Nat.le_of_ble_eq_true rfl) (Nat.le_of_ble_eq_true rfl) rfl rfl rfl
end
end Z11

set_option maxHeartbeats 4000000
namespace Z11
open PySem PySem.Spec PyProof.Rows L2 VL
local macro_rules | `(tactic| walk_at "side") => `(tactic| first | assumption | rfl | omega | decide)
local macro_rules | `(tactic| walk_at "sd") => `(tactic| first | assumption | omega | rotate_left 1)
local macro_rules | `(tactic| walk_at "lv") => `(tactic| first | exact lv_d | exact lv_p rfl | exact dv_d | exact dv_p rfl)
local macro_rules | `(tactic| walk_at "ov") => `(tactic| first
  | ((with_reducible apply VL.gAdd); (first | exact ov_add))
  | ((with_reducible apply VL.gSub); exact ov_sub)
  | ((with_reducible apply VL.gMul); (refine ov_mul ?_); (first | (refine Or.inl ⟨?_, ?_⟩ <;> decide) | (refine Or.inr ⟨?_, ?_⟩ <;> decide) | walk_at "sd"))
  | ((with_reducible apply VL.gDiv); (refine ov_div ?_); (first | (refine ⟨?_, ?_⟩ <;> decide) | walk_at "sd"))
  | ((with_reducible apply VL.gMod); (refine ov_mod ?_); (first | decide | walk_at "sd"))
  | ((with_reducible apply VL.gPow); (refine ov_pow ?_); (first | (refine ⟨?_, ?_, ?_⟩ <;> decide) | walk_at "sd"))
  | ((with_reducible apply VL.gEq); first | exact ov_eq | exact ov_eqO | exact ov_eqOs | exact ov_eqss | exact ov_eqOO)
  | ((with_reducible apply VL.gNe); first | exact ov_ne)
  | ((with_reducible apply VL.gLt); first | exact ov_lt | exact ov_ltO)
  | ((with_reducible apply VL.gLe); first | exact ov_le | exact ov_leO)
  | ((with_reducible apply VL.gGt); first | exact ov_gt | exact ov_gtO)
  | ((with_reducible apply VL.gGe); exact ov_ge)
  | ((with_reducible apply VL.gIs); first | exact ov_isO | exact ov_isU | exact ov_isX)
  | ((with_reducible apply VL.gIsN); first | exact ov_isNO | exact ov_isNU | exact ov_isNX)
  | ((with_reducible apply VL.gIx); first | exact ov_ix20 | exact ov_ix21 | exact ov_ix30 | exact ov_ix31 | exact ov_ix32 | ((refine ov_ixLG (by walk_at "lv") ?_); (walk_at "sd")) | ((refine ov_ixTG ?_); (walk_at "sd"))))
local macro_rules | `(tactic| walk_at "cv") => `(tactic| first
  | ((with_reducible apply VL.gLen); first | exact cv_lenT | exact cv_lenL (by walk_at "lv"))
  | ((with_reducible apply VL.gInt); first | exact cv_int | exact cv_intB)
  | ((with_reducible apply VL.gAbs); exact cv_abs)
  | ((with_reducible apply VL.gMin); exact cv_min2)
  | ((with_reducible apply VL.gMax); exact cv_max2)
  | ((with_reducible apply VL.gList); first | exact cv_listT | exact cv_listL (by walk_at "lv"))
  | ((with_reducible apply VL.gTuple); first | exact cv_tupleT | exact cv_tupleL (by walk_at "lv"))
  | ((with_reducible apply VL.gIsi); first | exact cv_isi rfl | exact cv_isiP rfl rfl))
local macro_rules | `(tactic| walk_at "all") => `(tactic| repeat (first | exact AllD.nil | refine AllD.d ?_))
local macro_rules | `(tactic| walk_at "e") => `(tactic| first
  | ((with_reducible apply VL.gVar); first | exact er_d rfl | exact er_p rfl)
  | ((with_reducible apply VL.gC); first | exact er_int | exact er_bl | exact er_str | exact er_non | exact er_ty | assumption)
  | ((with_reducible apply er_op); (walk_at "e"); (walk_at "e"); (walk_at "ov"))
  | ((with_reducible apply er_cb); (walk_at "e"); (walk_at "cv"))
  | ((with_reducible apply VL.gENil); exact ea_nil)
  | ((with_reducible apply ea_cons); (walk_at "e"); (walk_at "e"))
  | ((with_reducible apply VL.gPop); (refine er_popG rfl rfl ?_); (walk_at "sd"))
  | ((with_reducible apply et_v); (walk_at "e"))
  | ((with_reducible apply er_ix); (walk_at "e"); (walk_at "e"); (walk_at "ov"))
  | ((with_reducible apply er_andV); (walk_at "e"); (intro hb_; (try simp only [decide_eq_true_eq] at hb_); (walk_at "e")))
  | ((with_reducible apply er_orV); (walk_at "e"); (intro hb_; (try simp only [decide_eq_false_iff_not] at hb_); (walk_at "e")))
  | ((with_reducible apply er_notV); (walk_at "e"))
  | ((with_reducible apply et_and); (walk_at "e"); (intro hb_; (try simp only [decide_eq_true_eq] at hb_); (walk_at "e")))
  | ((with_reducible apply et_or); (walk_at "e"); (intro hb_; (try simp only [decide_eq_false_iff_not] at hb_); (walk_at "e")))
  | ((with_reducible apply et_not); (walk_at "e"))
  | ((with_reducible apply VL.gTru); (apply et_truB); (walk_at "e"))
  | ((with_reducible apply er_bits); (walk_at "e"))
  | ((with_reducible apply er_neg); (walk_at "e"))
  | (with_reducible exact er_make0)
  | ((with_reducible apply er_t2); (walk_at "e"); done)
  | ((with_reducible apply er_t3); (walk_at "e"); done)
  | (walk_at "in")
  | (walk_at "call"))
local macro_rules | `(tactic| walk_at "in") => `(tactic| first
  | ((with_reducible apply VL.gIn); first | exact er_inT (by walk_at "e") (by walk_at "e") | exact er_inL (by walk_at "e") (by walk_at "e") (by walk_at "lv"))
  | ((with_reducible apply VL.gNotIn); first | exact er_notinT (by walk_at "e") (by walk_at "e") | exact er_notinL (by walk_at "e") (by walk_at "e") (by walk_at "lv")))
section
variable {P : Program} {K : Fg} {mg : Str → Option Value} {c : Cx0} {s s1 : List Slot} {o o1 os : List Cont} {E : XK} {ta : TA} {D : Ends} {u : TS} {i : Nat}
/-- steps walked: each leads on from where the first ones end -/
theorem Steps.cut {xs : List Sp} {ss : List (T2 Int Int)} {p : Int} (h : Steps xs ss p) : ∀ (k : Nat), k < ss.length → ∃ q x t r, Steps xs (ss.take k) q ∧ x ∈ xs ∧ ss[k]? = some ⟨x.a, t⟩ ∧ (t = 1 ∧ x.b = q ∧ x.c = r ∨ t = -1 ∧ x.c = q ∧ x.b = r) ∧ Steps xs (ss.take (k + 1)) r := by
  induction h with
  | nil => intro k hk; exact absurd hk (Nat.not_lt_zero _)
  | @snoc ss p q t x h hx ht ih =>
    intro k hk
    rw [List.length_append, List.length_singleton] at hk
    by_cases e : k = ss.length
    · subst e
      refine ⟨p, x, t, q, ?_, hx, ?_, ht, ?_⟩
      · rw [List.take_left]; exact h
      · rw [List.getElem?_append_right (Nat.le_refl _), Nat.sub_self]; rfl
      · rw [List.take_of_length_le (by rw [List.length_append, List.length_singleton]; omega)]
        exact .snoc h hx ht
    · obtain ⟨a, y, t', r, h1, h2, h3, h4, h5⟩ := ih k (by omega)
      refine ⟨a, y, t', r, ?_, h2, ?_, h4, ?_⟩
      · rw [List.take_append_of_le_length (by omega)]; exact h1
      · rw [List.getElem?_append_left (by omega)]; exact h3
      · rw [List.take_append_of_le_length (by omega)]; exact h5
theorem Steps.uniq {xs : List Sp} (nd : (xs.map (·.a)).Nodup) {ss : List (T2 Int Int)} {p : Int} (h : Steps xs ss p) : ∀ {q}, Steps xs ss q → q = p := by
  induction h with
  | nil =>
    intro q h
    generalize e : ([] : List (T2 Int Int)) = l at h
    cases h with
    | nil => rfl
    | snoc => simp at e
  | @snoc ss p q t x h hx ht ih =>
    intro q' h'
    generalize e : ss ++ [(⟨x.a, t⟩ : T2 Int Int)] = l at h'
    cases h' with
    | nil => simp at e
    | @snoc ss' p' _ t' x' g hx' ht' =>
      obtain ⟨e1, e2⟩ := app_last e
      subst e1
      simp at e2
      obtain ⟨e3, e4⟩ := e2
      have ex := sp_uniq nd hx hx' e3
      subst ex
      have := ih g
      omega
theorem found_one {xs : List Sp} (nd : (xs.map (·.a)).Nodup) {x : Sp} (hx : x ∈ xs) : (xs.filter fun y => decide (y.a = x.a)) = [x] := by
  induction xs with
  | nil => cases hx
  | cons y ys ih =>
    rw [List.map_cons, List.nodup_cons] at nd
    rcases List.mem_cons.mp hx with e | m
    · subst e
      rw [List.filter_cons_of_pos (by simp)]
      congr 1
      exact List.filter_eq_nil_iff.mpr fun z hz => by simp; exact fun e => nd.1 (e ▸ List.mem_map.mpr ⟨z, hz, rfl⟩)
    · rw [List.filter_cons_of_neg (by simp; exact fun e => nd.1 (e ▸ List.mem_map.mpr ⟨x, m, rfl⟩))]
      exact ih nd.2 m
end
end Z11

set_option maxHeartbeats 4000000
namespace Z11
open PySem PySem.Spec PyProof.Rows L2 VL
local macro_rules | `(tactic| walk_at "side") => `(tactic| first | assumption | rfl | omega | decide)
local macro_rules | `(tactic| walk_at "sd") => `(tactic| first | assumption | omega | rotate_left 1)
local macro_rules | `(tactic| walk_at "lv") => `(tactic| first | exact lv_d | exact lv_p rfl | exact dv_d | exact dv_p rfl)
local macro_rules | `(tactic| walk_at "ov") => `(tactic| first
  | ((with_reducible apply VL.gAdd); (first | exact ov_add))
  | ((with_reducible apply VL.gSub); exact ov_sub)
  | ((with_reducible apply VL.gMul); (refine ov_mul ?_); (first | (refine Or.inl ⟨?_, ?_⟩ <;> decide) | (refine Or.inr ⟨?_, ?_⟩ <;> decide) | walk_at "sd"))
  | ((with_reducible apply VL.gDiv); (refine ov_div ?_); (first | (refine ⟨?_, ?_⟩ <;> decide) | walk_at "sd"))
  | ((with_reducible apply VL.gMod); (refine ov_mod ?_); (first | decide | walk_at "sd"))
  | ((with_reducible apply VL.gPow); (refine ov_pow ?_); (first | (refine ⟨?_, ?_, ?_⟩ <;> decide) | walk_at "sd"))
  | ((with_reducible apply VL.gEq); first | exact ov_eq | exact ov_eqO | exact ov_eqOs | exact ov_eqss | exact ov_eqOO)
  | ((with_reducible apply VL.gNe); first | exact ov_ne)
  | ((with_reducible apply VL.gLt); first | exact ov_lt | exact ov_ltO)
  | ((with_reducible apply VL.gLe); first | exact ov_le | exact ov_leO)
  | ((with_reducible apply VL.gGt); first | exact ov_gt | exact ov_gtO)
  | ((with_reducible apply VL.gGe); exact ov_ge)
  | ((with_reducible apply VL.gIs); first | exact ov_isO | exact ov_isU | exact ov_isX)
  | ((with_reducible apply VL.gIsN); first | exact ov_isNO | exact ov_isNU | exact ov_isNX)
  | ((with_reducible apply VL.gIx); first | exact ov_ix20 | exact ov_ix21 | exact ov_ix30 | exact ov_ix31 | exact ov_ix32 | ((refine ov_ixLG (by walk_at "lv") ?_); (walk_at "sd")) | ((refine ov_ixTG ?_); (walk_at "sd"))))
local macro_rules | `(tactic| walk_at "cv") => `(tactic| first
  | ((with_reducible apply VL.gLen); first | exact cv_lenT | exact cv_lenL (by walk_at "lv"))
  | ((with_reducible apply VL.gInt); first | exact cv_int | exact cv_intB)
  | ((with_reducible apply VL.gAbs); exact cv_abs)
  | ((with_reducible apply VL.gMin); exact cv_min2)
  | ((with_reducible apply VL.gMax); exact cv_max2)
  | ((with_reducible apply VL.gList); first | exact cv_listT | exact cv_listL (by walk_at "lv"))
  | ((with_reducible apply VL.gTuple); first | exact cv_tupleT | exact cv_tupleL (by walk_at "lv"))
  | ((with_reducible apply VL.gIsi); first | exact cv_isi rfl | exact cv_isiP rfl rfl))
local macro_rules | `(tactic| walk_at "all") => `(tactic| repeat (first | exact AllD.nil | refine AllD.d ?_))
local macro_rules | `(tactic| walk_at "e") => `(tactic| first
  | ((with_reducible apply VL.gVar); first | exact er_d rfl | exact er_p rfl)
  | ((with_reducible apply VL.gC); first | exact er_int | exact er_bl | exact er_str | exact er_non | exact er_ty | assumption)
  | ((with_reducible apply er_op); (walk_at "e"); (walk_at "e"); (walk_at "ov"))
  | ((with_reducible apply er_cb); (walk_at "e"); (walk_at "cv"))
  | ((with_reducible apply VL.gENil); exact ea_nil)
  | ((with_reducible apply ea_cons); (walk_at "e"); (walk_at "e"))
  | ((with_reducible apply VL.gPop); (refine er_popG rfl rfl ?_); (walk_at "sd"))
  | ((with_reducible apply et_v); (walk_at "e"))
  | ((with_reducible apply er_ix); (walk_at "e"); (walk_at "e"); (walk_at "ov"))
  | ((with_reducible apply er_andV); (walk_at "e"); (intro hb_; (try simp only [decide_eq_true_eq] at hb_); (walk_at "e")))
  | ((with_reducible apply er_orV); (walk_at "e"); (intro hb_; (try simp only [decide_eq_false_iff_not] at hb_); (walk_at "e")))
  | ((with_reducible apply er_notV); (walk_at "e"))
  | ((with_reducible apply et_and); (walk_at "e"); (intro hb_; (try simp only [decide_eq_true_eq] at hb_); (walk_at "e")))
  | ((with_reducible apply et_or); (walk_at "e"); (intro hb_; (try simp only [decide_eq_false_iff_not] at hb_); (walk_at "e")))
  | ((with_reducible apply et_not); (walk_at "e"))
  | ((with_reducible apply VL.gTru); (apply et_truB); (walk_at "e"))
  | ((with_reducible apply er_bits); (walk_at "e"))
  | ((with_reducible apply er_neg); (walk_at "e"))
  | (with_reducible exact er_make0)
  | ((with_reducible apply er_t2); (walk_at "e"); done)
  | ((with_reducible apply er_t3); (walk_at "e"); done)
  | (walk_at "in")
  | (walk_at "call"))
local macro_rules | `(tactic| walk_at "in") => `(tactic| first
  | ((with_reducible apply VL.gIn); first | exact er_inT (by walk_at "e") (by walk_at "e") | exact er_inL (by walk_at "e") (by walk_at "e") (by walk_at "lv"))
  | ((with_reducible apply VL.gNotIn); first | exact er_notinT (by walk_at "e") (by walk_at "e") | exact er_notinL (by walk_at "e") (by walk_at "e") (by walk_at "lv")))
section
variable {P : Program} {K : Fg} {mg : Str → Option Value} {c : Cx0} {s s1 : List Slot} {o o1 os : List Cont} {E : XK} {ta : TA} {D : Ends} {u : TS} {i : Nat}
theorem cv_len2 {α β : Type} [Rp α] [Rp β] {x : T2 α β} : CV K c (uLen K) s o [.d x] s o (.d (2 : Int)) := cv_of fun as G σ H vs A h Q q => by
  obtain ⟨v, rfl, hv⟩ := h.one
  obtain ⟨t, v1, v2, rfl, hs, r1, r2⟩ := (show Rp.rep K G v x from hv)
  exact ⟨t, _, rfl, .inr (A.sub.sqT hs), q _ rfl⟩
theorem run__law_thread_ends (T : Txt P K mg) (c : Cx0) (ss : List Slot) (os : List Cont) (Q : VK) (E : XK) (hM : c.M.length = os.length) (h : F__law_thread_ends ss os (Rc K c Q) (Xc K c E)) : Run K c (t__law_thread_ends K E) { nx := fun _ H' => Q .non H', rt := Q } (ss ++ List.replicate (12 - ss.length) .u) os := by
  obtain ⟨steps, xs, used, p, rfl, rfl, nd, lx, ls, lu, hst, hnd, h⟩ := h
  show Run K c _ _ [.d steps, .p 0, .p 1, .u, .u, .u, .u, .u, .u, .u, .u, .u] [.lst xs, .lst used]
  have hM : c.M.length = 2 := hM
  unfold t__law_thread_ends
  refine q_asg er_int (Nat.le_of_ble_eq_true rfl) ?_
  refine run_sl (s1 := [.d steps, .p 0, .p 1, .d (0 : Int), .u, .u, .u, .u, .u, .u, .u, .u]) ?_ rfl
  refine q_for (α := T2 Int Int) (xs := steps.l) (I := fun k (w : Int × List Int) => Steps xs (steps.l.take k) w.1 ∧ w.2 = used ++ (steps.l.take k).map (·.a)) (f := fun w => [.d steps, .p 0, .p 1, .d w.1, .u, .u, .u, .u, .u, .u, .u, .u]) (g := fun w => [.lst xs, .lst w.2]) (f' := fun w x => [.d steps, .p 0, .p 1, .d w.1, .d x, .u, .u, .u, .u, .u, .u, .u]) (ei_seqT (er_d rfl)) (0, used) ⟨.nil, by simp⟩ (SlW.refl _) rfl rfl rfl (fun _ _ _ => trivial) (fun _ _ => eg_name (Nat.le_of_ble_eq_true rfl)) ?_ ?_
  · rintro c' hc hM' k ⟨q0, us⟩ st hk ⟨hI1, hI2⟩
    have hM' : c'.M.length = 2 := hM'
    have hkl : k < steps.l.length := (List.getElem?_eq_some_iff.mp hk).1
    obtain ⟨q, x, t, r, h1, hx, h3, h4, h5⟩ := hst.cut k hkl
    have eq : q0 = q := h1.uniq nd hI1
    subst eq
    rw [hk] at h3
    cases h3
    have hus : us = used ++ (steps.l.take k).map (·.a) := hI2
    have nin : x.a ∉ us := by
      have e2 : steps.l = steps.l.take k ++ ⟨x.a, t⟩ :: steps.l.drop (k + 1) := by
        have := List.take_append_drop k steps.l
        rw [List.drop_eq_getElem_cons hkl] at this
        rw [List.getElem?_eq_getElem hkl] at hk
        rw [Option.some.inj hk] at this
        exact this.symm
      rw [hus]
      intro m
      rw [e2, List.map_append, List.map_cons, ← List.append_assoc, List.nodup_append] at hnd
      exact hnd.2.2 _ m _ (by simp) rfl
    have lus : us.length < 8192 := by rw [hus, List.length_append, List.length_map, List.length_take]; omega
    have ht : t = 1 ∨ t = -1 := by omega
    refine q_when (et_or (et_not (et_truB (er_cb (ea_cons (er_d rfl) (ea_cons er_ty ea_nil)) (cv_isi rfl)))) fun _ => et_v (er_op (er_cb (ea_cons (er_d rfl) ea_nil) cv_len2) er_int ov_ne)) (fun b => by cases b) (fun _ => ?_)
    refine run_seq (s_asgG (er_d rfl) (eg_t2 (egs_cons (eg_name (Nat.le_of_ble_eq_true rfl)) (egs_cons (eg_name (Nat.le_of_ble_eq_true rfl)) egs_nil))) (go_run ?_))
    refine run_sl (s1 := [.d steps, .p 0, .p 1, .d q0, .d (⟨x.a, t⟩ : T2 Int Int), .d x.a, .d t, .u, .u, .u, .u, .u]) ?_ rfl
    refine q_when (et_or (et_truB (er_cb (ea_cons (er_d rfl) (ea_cons er_ty ea_nil)) (cv_isi rfl))) fun _ => et_or (et_truB (er_cb (ea_cons (er_d rfl) (ea_cons er_ty ea_nil)) (cv_isi rfl))) fun _ => et_or (et_v (er_notinT (xs := ([1, -1] : List Int)) (er_d rfl) (er_tup (xs := ([1, -1] : List Int)) (ea_cons er_int (ea_cons (er_neg er_int) ea_nil)) (by rw [szl]; decide)))) fun _ => et_v (er_inL (er_d rfl) (er_p rfl) (lv_p (xs := us) rfl))) (fun b => ?_) (fun _ => ?_)
    · rw [decide_eq_false nin] at b
      rcases ht with ht | ht <;> (subst ht; exact absurd b (by decide))
    have hf1 : (xs.filter fun y => decide (y.a = x.a)).map id = [x] := by rw [List.map_id]; exact found_one nd hx
    have comp : ER K c' (tLc (iSeq K (tVar 1)) (gName 11) (tB (tOp (uEq K) (uIx K (tVar 11) (tC (.int 0))) (tVar 5))) (tVar 11) [11]) [.d steps, .p 0, .p 1, .d q0, .d (⟨x.a, t⟩ : T2 Int Int), .d x.a, .d t, .u, .u, .u, .u, .u] [.lst xs, .lst us] [.d steps, .p 0, .p 1, .d q0, .d (⟨x.a, t⟩ : T2 Int Int), .d x.a, .d t, .u, .u, .u, .u, .u] ([.lst xs, .lst us] ++ [.lst ((xs.filter fun y => decide (y.a = x.a)).map id)]) (.p 2) :=
      er_lc (α := Sp) (β := Sp) (P := fun o => cget o 0 = .lst xs) (f' := fun y => [.d steps, .p 0, .p 1, .d q0, .d (⟨x.a, t⟩ : T2 Int Int), .d x.a, .d t, .u, .u, .u, .u, .d y]) (ei_seqP (er_p rfl) rfl) rfl (fun y => egw_name (Nat.le_of_ble_eq_true rfl) (by decide))
        (fun c' y _ => et_v (er_op (er_ix (er_d rfl) er_int ov_ix30) (er_d rfl) ov_eq)) (fun c' y _ _ => er_d rfl) (by rw [szl]; omega)
    rw [hf1] at comp
    refine q_asg comp (Nat.le_of_ble_eq_true rfl) ?_
    refine run_os (o1 := [.lst xs, .lst us, .lst [x]]) ?_ rfl
    refine run_sl (s1 := [.d steps, .p 0, .p 1, .d q0, .d (⟨x.a, t⟩ : T2 Int Int), .d x.a, .d t, .p 2, .u, .u, .u, .u]) ?_ rfl
    refine q_when (et_v (er_op (er_cb (ea_cons (er_p rfl) ea_nil) (cv_lenL (xs := [x]) (lv_p rfl))) er_int ov_ne)) (fun b => by cases b) (fun _ => ?_)
    refine run_seq (s_asgG (er_ix (er_p rfl) er_int (ov_ixL (xs := [x]) (x := x) (lv_p rfl) (atI_nat [x] 0))) (eg_t3 (egs_cons (eg_name (Nat.le_of_ble_eq_true rfl)) (egs_cons (eg_name (Nat.le_of_ble_eq_true rfl)) (egs_cons (eg_name (Nat.le_of_ble_eq_true rfl)) egs_nil)))) (go_run ?_))
    refine run_sl (s1 := [.d steps, .p 0, .p 1, .d q0, .d (⟨x.a, t⟩ : T2 Int Int), .d x.a, .d t, .p 2, .d x.a, .d x.b, .d x.c, .u]) ?_ rfl
    have fin : ∀ (u1 : L2.St → Hp → Prop) (lo hi : Int), lo = q0 → hi = r → Run K c' (tSeq (tIfS (tB (tOp (uNe K) (tVar 9) (tVar 3))) (tRet (tC .non)) tNext)
        (tSeq (tAsg (tVar 10) (gName 3)) (tDrop (tBM K "list" rAppend (tVar 2) (tCons (tVar 5) tNil))))) { nx := At K c' (fun w => Steps xs (steps.l.take (k + 1)) w.1 ∧ w.2 = used ++ (steps.l.take (k + 1)).map (·.a)) (fun w : Int × List Int => [.d steps, .p 0, .p 1, .d w.1, .u, .u, .u, .u, .u, .u, .u, .u]) (fun w => [.lst xs, .lst w.2]), rt := Q, ct := At K c' (fun w => Steps xs (steps.l.take (k + 1)) w.1 ∧ w.2 = used ++ (steps.l.take (k + 1)).map (·.a)) (fun w : Int × List Int => [.d steps, .p 0, .p 1, .d w.1, .u, .u, .u, .u, .u, .u, .u, .u]) (fun w => [.lst xs, .lst w.2]), bk := u1 } [.d steps, .p 0, .p 1, .d q0, .d (⟨x.a, t⟩ : T2 Int Int), .d x.a, .d t, .p 2, .d x.a, .d lo, .d hi, .u] [.lst xs, .lst us, .lst [x]] := by
      intro u1 lo hi e1 e2
      subst e1; subst e2
      refine q_when (et_v (er_op (er_d rfl) (er_d rfl) ov_ne)) (fun b => by simp at b) (fun _ => ?_)
      refine q_asg (er_d rfl) (Nat.le_of_ble_eq_true rfl) ?_
      refine s_append (x := x.a) (xs := us) (k := 1) rfl (er_d rfl) rfl ⟨_, _, _, rfl⟩ (by rw [szl]; omega) ?_
      refine go_at (hi, us ++ [x.a]) ⟨h5, ?_⟩ ⟨.inr rfl, .inr rfl, .inr rfl, .inr rfl, .inl rfl, .inl rfl, .inl rfl, .inl rfl, .inl rfl, .inl rfl, .inl rfl, .inl rfl, trivial⟩ ⟨.inr rfl, .inr rfl, trivial⟩ (Nat.le_of_eq hM') rfl rfl
      show us ++ [x.a] = used ++ (steps.l.take (k + 1)).map (·.a)
      rw [List.take_add_one, hk, hus]; simp
    rcases h4 with ⟨e1, e2, e3⟩ | ⟨e1, e2, e3⟩
    · subst e1
      exact q_when (et_v (er_op (er_d rfl) (er_neg er_int) ov_eq)) (fun b => by cases b) (fun _ => fin _ x.b x.c e2 e3)
    · subst e1
      refine q_if (et_v (er_op (er_d rfl) (er_neg er_int) ov_eq)) (fun _ => ?_) (fun b => by cases b)
      refine s_par (ea_cons (er_d rfl) (ea_cons (er_d rfl) ea_nil)) (Nat.le_of_ble_eq_true rfl) (Nat.le_of_ble_eq_true rfl) (go_run ?_)
      exact run_sl (fin _ x.c x.b e2 e3) rfl
  · rintro ⟨q, us⟩ ⟨hI1, hI2⟩
    rw [List.take_length] at hI1 hI2
    have eq : q = p := hst.uniq nd hI1
    subst eq
    have hus : us = used ++ steps.l.map (·.a) := hI2
    subst hus
    exact s_ret (er_d rfl) (ret_d h (OsW.refl _) (Nat.le_of_eq hM) rfl rfl)
end
end Z11

set_option maxHeartbeats 4000000
namespace Z11
open PySem PySem.Spec PyProof.Rows L2 VL
local macro_rules | `(tactic| walk_at "side") => `(tactic| first | assumption | rfl | omega | decide)
local macro_rules | `(tactic| walk_at "sd") => `(tactic| first | assumption | omega | rotate_left 1)
local macro_rules | `(tactic| walk_at "lv") => `(tactic| first | exact lv_d | exact lv_p rfl | exact dv_d | exact dv_p rfl)
local macro_rules | `(tactic| walk_at "ov") => `(tactic| first
  | ((with_reducible apply VL.gAdd); (first | exact ov_add))
  | ((with_reducible apply VL.gSub); exact ov_sub)
  | ((with_reducible apply VL.gMul); (refine ov_mul ?_); (first | (refine Or.inl ⟨?_, ?_⟩ <;> decide) | (refine Or.inr ⟨?_, ?_⟩ <;> decide) | walk_at "sd"))
  | ((with_reducible apply VL.gDiv); (refine ov_div ?_); (first | (refine ⟨?_, ?_⟩ <;> decide) | walk_at "sd"))
  | ((with_reducible apply VL.gMod); (refine ov_mod ?_); (first | decide | walk_at "sd"))
  | ((with_reducible apply VL.gPow); (refine ov_pow ?_); (first | (refine ⟨?_, ?_, ?_⟩ <;> decide) | walk_at "sd"))
  | ((with_reducible apply VL.gEq); first | exact ov_eq | exact ov_eqO | exact ov_eqOs | exact ov_eqss | exact ov_eqOO)
  | ((with_reducible apply VL.gNe); first | exact ov_ne)
  | ((with_reducible apply VL.gLt); first | exact ov_lt | exact ov_ltO)
  | ((with_reducible apply VL.gLe); first | exact ov_le | exact ov_leO)
  | ((with_reducible apply VL.gGt); first | exact ov_gt | exact ov_gtO)
  | ((with_reducible apply VL.gGe); exact ov_ge)
  | ((with_reducible apply VL.gIs); first | exact ov_isO | exact ov_isU | exact ov_isX)
  | ((with_reducible apply VL.gIsN); first | exact ov_isNO | exact ov_isNU | exact ov_isNX)
  | ((with_reducible apply VL.gIx); first | exact ov_ix20 | exact ov_ix21 | exact ov_ix30 | exact ov_ix31 | exact ov_ix32 | ((refine ov_ixLG (by walk_at "lv") ?_); (walk_at "sd")) | ((refine ov_ixTG ?_); (walk_at "sd"))))
local macro_rules | `(tactic| walk_at "cv") => `(tactic| first
  | ((with_reducible apply VL.gLen); first | exact cv_lenT | exact cv_lenL (by walk_at "lv"))
  | ((with_reducible apply VL.gInt); first | exact cv_int | exact cv_intB)
  | ((with_reducible apply VL.gAbs); exact cv_abs)
  | ((with_reducible apply VL.gMin); exact cv_min2)
  | ((with_reducible apply VL.gMax); exact cv_max2)
  | ((with_reducible apply VL.gList); first | exact cv_listT | exact cv_listL (by walk_at "lv"))
  | ((with_reducible apply VL.gTuple); first | exact cv_tupleT | exact cv_tupleL (by walk_at "lv"))
  | ((with_reducible apply VL.gIsi); first | exact cv_isi rfl | exact cv_isiP rfl rfl))
local macro_rules | `(tactic| walk_at "all") => `(tactic| repeat (first | exact AllD.nil | refine AllD.d ?_))
local macro_rules | `(tactic| walk_at "e") => `(tactic| first
  | ((with_reducible apply VL.gVar); first | exact er_d rfl | exact er_p rfl)
  | ((with_reducible apply VL.gC); first | exact er_int | exact er_bl | exact er_str | exact er_non | exact er_ty | assumption)
  | ((with_reducible apply er_op); (walk_at "e"); (walk_at "e"); (walk_at "ov"))
  | ((with_reducible apply er_cb); (walk_at "e"); (walk_at "cv"))
  | ((with_reducible apply VL.gENil); exact ea_nil)
  | ((with_reducible apply ea_cons); (walk_at "e"); (walk_at "e"))
  | ((with_reducible apply VL.gPop); (refine er_popG rfl rfl ?_); (walk_at "sd"))
  | ((with_reducible apply et_v); (walk_at "e"))
  | ((with_reducible apply er_ix); (walk_at "e"); (walk_at "e"); (walk_at "ov"))
  | ((with_reducible apply er_andV); (walk_at "e"); (intro hb_; (try simp only [decide_eq_true_eq] at hb_); (walk_at "e")))
  | ((with_reducible apply er_orV); (walk_at "e"); (intro hb_; (try simp only [decide_eq_false_iff_not] at hb_); (walk_at "e")))
  | ((with_reducible apply er_notV); (walk_at "e"))
  | ((with_reducible apply et_and); (walk_at "e"); (intro hb_; (try simp only [decide_eq_true_eq] at hb_); (walk_at "e")))
  | ((with_reducible apply et_or); (walk_at "e"); (intro hb_; (try simp only [decide_eq_false_iff_not] at hb_); (walk_at "e")))
  | ((with_reducible apply et_not); (walk_at "e"))
  | ((with_reducible apply VL.gTru); (apply et_truB); (walk_at "e"))
  | ((with_reducible apply er_bits); (walk_at "e"))
  | ((with_reducible apply er_neg); (walk_at "e"))
  | (with_reducible exact er_make0)
  | ((with_reducible apply er_t2); (walk_at "e"); done)
  | ((with_reducible apply er_t3); (walk_at "e"); done)
  | (walk_at "in")
  | (walk_at "call"))
local macro_rules | `(tactic| walk_at "in") => `(tactic| first
  | ((with_reducible apply VL.gIn); first | exact er_inT (by walk_at "e") (by walk_at "e") | exact er_inL (by walk_at "e") (by walk_at "e") (by walk_at "lv"))
  | ((with_reducible apply VL.gNotIn); first | exact er_notinT (by walk_at "e") (by walk_at "e") | exact er_notinL (by walk_at "e") (by walk_at "e") (by walk_at "lv")))
section
variable {P : Program} {K : Fg} {mg : Str → Option Value} {c : Cx0} {s s1 : List Slot} {o o1 os : List Cont} {E : XK} {ta : TA} {D : Ends} {u : TS} {i : Nat}
def zh (e m : Int) : Cont := .obj "Zigzag" [("_spans", .p 3), ("_end", .d e), ("_flows", .p 4), ("_many", .d m), ("_side", .p 6)]
theorem steps_in {xs : List Sp} {ss : List (T2 Int Int)} {p : Int} (h : Steps xs ss p) : ∀ n ∈ ss.map (·.a), ∃ x ∈ xs, x.a = n := by
  induction h with
  | nil => intro n hn; cases hn
  | @snoc ss p q t x h hx ht ih =>
    intro n hn
    rw [List.map_append, List.mem_append] at hn
    rcases hn with hn | hn
    · exact ih n hn
    · simp at hn; exact ⟨x, hx, hn.symm⟩
theorem nodes_len {xs : List Sp} {e : Int} {ths : List (Tup (T2 Int Int))} (hx : SpIn xs e) (h : ThOk xs e ths) : (nodesOf ths).length ≤ 1000 :=
  nodup_len 1000 _ h.nd fun y hy => by
    obtain ⟨t, ht, hy⟩ := List.mem_flatMap.mp hy
    obtain ⟨x, hxm, rfl⟩ := steps_in (h.st t ht) y hy
    have := hx.bd x hxm
    exact ⟨this.1, by omega⟩
theorem nodes_take {ths : List (Tup (T2 Int Int))} {k : Nat} {t : Tup (T2 Int Int)} (h : ths[k]? = some t) : nodesOf (ths.take (k + 1)) = nodesOf (ths.take k) ++ t.l.map (·.a) := by
  rw [List.take_add_one, h]; simp [nodesOf]
theorem nodes_pre {ths : List (Tup (T2 Int Int))} {k : Nat} : ∃ r, nodesOf ths = nodesOf (ths.take k) ++ r := ⟨nodesOf (ths.drop k), by
  unfold nodesOf; rw [← List.flatMap_append, List.take_append_drop]⟩
theorem run__law_holds (T : Txt P K mg) (c : Cx0) (ss : List Slot) (os : List Cont) (Q : VK) (E : XK) (hM : c.M.length = os.length) (h : F__law_holds ss os (Rc K c Q) (Xc K c E)) : Run K c (t__law_holds K E) { nx := fun _ H' => Q .non H', rt := Q } (ss ++ List.replicate (10 - ss.length) .u) os := by
  obtain ⟨xs, most, rfl, rfl, hx, h60, h⟩ := h
  show Run K c _ _ [.p 0, .d most, .u, .u, .u, .u, .u, .u, .u, .u] [.lst xs]
  have hM : c.M.length = 1 := hM
  unfold t__law_holds
  refine q_asgF (erf_makeR (ω := Fl × Int × List Int) (P := fun w => FlOk xs most w.2.1 w.1 ∧ Done xs most w.2.1 (fl w.1) w.2.2 ∧ w.2.2.Pairwise (· < ·) ∧ 0 ≤ w.2.1) (os' := fun w => [zi most w.2.1, .lst xs, .lst xs, .dct w.1, .gone, .lst w.2.2]) (ks := [2, 1]) (rss := [.p 0, .p 1, .d most]) (os := [.obj "Zigzag" [], .lst xs]) (ea_cons (er_cb (ea_cons (er_p rfl) ea_nil) (cv_listAL (lv_p (xs := xs) rfl))) (ea_cons (er_d rfl) ea_nil)) ⟨rfl, by decide, fun k hk => (show k < 3 from (by decide : ∀ k ∈ [2, 1], k < 3) k hk), rfl, rfl⟩ rfl rfl (fun R X q => ⟨xs, most, rfl, rfl, hx, fun f m side a b c d => q (f, m, side) ⟨a, b, c, d⟩⟩)) (fun _ => Nat.le_of_ble_eq_true rfl) fun w hw => ?_
  obtain ⟨f, m, side⟩ := w
  obtain ⟨hf, hd, pw, m0⟩ := hw
  have hf : FlOk xs most m f := hf
  have hd : Done xs most m (fl f) side := hd
  have pw : side.Pairwise (· < ·) := pw
  have m0 : 0 ≤ m := m0
  have cm := cut_many hf.bd hf.ex hd
  have sl : side.length ≤ 61 := nodup_len 61 side hd.nd fun y hy => by have := hd.rng y hy; omega
  have xl := hx.len
  have cl : (xs.filter (cross side)).length < 64 := Nat.lt_of_le_of_lt (List.length_filter_le _ _) xl
  refine run_os (o1 := [.lst xs, .lst xs, zh most m, .lst xs, .dct f, .gone, .lst side]) ?_ rfl
  refine run_sl (s1 := [.p 0, .d most, .p 2, .u, .u, .u, .u, .u, .u, .u]) ?_ rfl
  refine q_asg (er_methR (k0 := 2) (ks := [2, 3, 4, 6]) (rss := [.p 0]) (os := [z5 most m, .lst xs, .dct f, .lst side]) (os' := [z5 most m, .lst xs, .dct f, .lst side, .lst side]) (r := .p 4) (er_p rfl) rfl rfl ea_nil ⟨rfl, by decide, fun k hk => (show k < 7 from (by decide : ∀ k ∈ [2, 3, 4, 6], k < 7) k hk), rfl, rfl⟩ rfl rfl (fun R X q => ⟨xs, most, m, f, side, rfl, rfl, q⟩)) (Nat.le_of_ble_eq_true rfl) ?_
  refine run_os (o1 := [.lst xs, .lst xs, zh most m, .lst xs, .dct f, .gone, .lst side, .lst side]) ?_ rfl
  refine run_sl (s1 := [.p 0, .d most, .p 2, .p 7, .u, .u, .u, .u, .u, .u]) ?_ rfl
  refine q_when (et_not (et_truB (er_callD1 (rs := [.p 0, .d most]) (k := 7) (ct := .lst side) (ct' := .lst side) (x := true) (ea_cons (er_p rfl) (ea_cons (er_d rfl) ea_nil)) (fun R X q => ⟨side, most, rfl, rfl, pw, hd.zero, hd.out, hd.rng, by omega, q⟩) (Nat.le_of_ble_eq_true rfl) rfl rfl rfl rfl rfl))) (fun b => by cases b) (fun _ => ?_)
  refine run_os (o1 := [.lst xs, .lst xs, zh most m, .lst xs, .dct f, .gone, .lst side, .lst side]) ?_ rfl
  refine q_asg (er_lc (α := Sp) (β := Int) (P := fun o => cget o 0 = .lst xs) (bs := cross side) (fn := fun x => x.a) (f' := fun y => [.p 0, .d most, .p 2, .p 7, .u, .u, .u, .u, .u, .d y]) (ei_seqP (er_p rfl) rfl) rfl (fun y => egw_name (Nat.le_of_ble_eq_true rfl) (by decide))
    (fun c' x _ => et_v (er_op (er_inL (er_ix (er_d rfl) er_int ov_ix31) (er_p rfl) (lv_p (xs := side) rfl)) (er_inL (er_ix (er_d rfl) er_int ov_ix32) (er_p rfl) (lv_p (xs := side) rfl)) ov_neB)) (fun c' x _ _ => er_ix (er_d rfl) er_int ov_ix30) (by rw [szl]; omega)) (Nat.le_of_ble_eq_true rfl) ?_
  generalize hcr : (xs.filter (cross side)).map (fun x => x.a) = cr
  have crl : cr.length = (xs.filter (cross side)).length := by rw [← hcr, List.length_map]
  refine run_os (o1 := [.lst xs, .lst xs, zh most m, .lst xs, .dct f, .gone, .lst side, .lst side, .lst cr]) ?_ rfl
  refine run_sl (s1 := [.p 0, .d most, .p 2, .p 7, .p 8, .u, .u, .u, .u, .u]) ?_ rfl
  have ci : ER K c (tCall (spOf K F__law_ints) [] E (tCons (tMeth (He.ga K "Zigzag") "cut" (spOf K F_Zigzag_cut) [] E (tVar 2) tNil) (tCons (tCB (uSorted K) (tCons (tVar 4) tNil)) tNil))) [.p 0, .d most, .p 2, .p 7, .p 8, .u, .u, .u, .u, .u] [.lst xs, .lst xs, zh most m, .lst xs, .dct f, .gone, .lst side, .lst side, .lst cr] [.p 0, .d most, .p 2, .p 7, .p 8, .u, .u, .u, .u, .u] [.lst xs, .lst xs, zh most m, .lst xs, .dct f, .gone, .lst side, .lst side, .lst cr, .lst (srtI cr), .lst (srtI cr)] (.d true) := by
    have sL : (srtI cr).length = cr.length := (srtI_perm cr).length_eq
    refine er_callR (ks := [9, 10]) (rss := [.p 0, .p 1]) (os := [.lst (srtI cr), .lst (srtI cr)]) (os' := [.lst (srtI cr), .lst (srtI cr)]) (r := .d true) (o1 := [.lst xs, .lst xs, zh most m, .lst xs, .dct f, .gone, .lst side, .lst side, .lst cr, .lst (srtI cr), .lst (srtI cr)]) (rs := [.p 9, .p 10]) ?_ ⟨rfl, by decide, fun k hk => (show k < 11 from (by decide : ∀ k ∈ [9, 10], k < 11) k hk), rfl, rfl⟩ rfl rfl (fun R X q => ⟨srtI cr, srtI cr, rfl, rfl, by omega, by omega, by rw [decide_eq_true rfl]; exact q⟩)
    refine ea_cons (r := .p 9) (o1 := [.lst xs, .lst xs, zh most m, .lst xs, .dct f, .gone, .lst side, .lst side, .lst cr, .lst (srtI cr)]) ?_ (ea_cons (er_cb (ea_cons (er_p rfl) ea_nil) (cv_sortedI (lv_p (xs := cr) rfl))) ea_nil)
    exact er_methR (k0 := 2) (ks := [2, 3, 4, 6]) (rss := [.p 0]) (os := [z5 most m, .lst xs, .dct f, .lst side]) (os' := [z5 most m, .lst xs, .dct f, .lst side, .lst (srtI cr)]) (r := .p 4) (er_p rfl) rfl rfl ea_nil ⟨rfl, by decide, fun k hk => (show k < 9 from (by decide : ∀ k ∈ [2, 3, 4, 6], k < 9) k hk), rfl, rfl⟩ rfl rfl (fun R X q => ⟨xs, most, m, f, side, rfl, rfl, hx, by rw [hcr]; exact q⟩)
  refine q_when (et_not (et_truB ci)) (fun b => by cases b) (fun _ => ?_)
  generalize srtI cr = sc
  refine q_asgF (erf_methR (ω := List (Tup (T2 Int Int))) (P := fun ths => ThOk xs most ths ∧ (ths.length : Int) = m) (k0 := 2) (ks := [2, 3, 4, 6]) (rss := [.p 0]) (os := [z5 most m, .lst xs, .dct f, .lst side]) (os' := fun ths => [z5 most m, .lst xs, .dct f, .lst side, .lst ths]) (r := fun _ => .p 4) (er_p rfl) rfl rfl ea_nil ⟨rfl, by decide, fun k hk => (show k < 11 from (by decide : ∀ k ∈ [2, 3, 4, 6], k < 11) k hk), rfl, rfl⟩ rfl rfl (fun R X q => ⟨xs, most, m, f, side, rfl, rfl, hx, hf, m0, by omega, fun ths a b => q ths ⟨a, b⟩⟩)) (fun _ => Nat.le_of_ble_eq_true rfl) fun ths hth => ?_
  obtain ⟨ht, hl⟩ := hth
  have hl2 : ths.length = cr.length := by omega
  refine run_os (o1 := [.lst xs, .lst xs, zh most m, .lst xs, .dct f, .gone, .lst side, .lst side, .lst cr, .lst sc, .lst sc, .lst ths]) ?_ rfl
  refine run_sl (s1 := [.p 0, .d most, .p 2, .p 7, .p 8, .p 11, .u, .u, .u, .u]) ?_ rfl
  refine q_when (et_or (et_not (et_truB (er_cb (ea_cons (er_p rfl) (ea_cons er_ty ea_nil)) (cv_isiP (xs := ths) rfl rfl)))) fun _ => et_v (er_op (er_cb (ea_cons (er_p rfl) ea_nil) (cv_lenL (xs := ths) (lv_p rfl))) (er_cb (ea_cons (er_p rfl) ea_nil) (cv_lenL (xs := cr) (lv_p rfl))) ov_ne)) (fun b => by rw [hl2] at b; simp at b) (fun _ => ?_)
  refine q_asg (er_lst (xs := ([] : List Int)) ea_nil (Nat.zero_le _)) (Nat.le_of_ble_eq_true rfl) ?_
  refine run_os (o1 := [.lst xs, .lst xs, zh most m, .lst xs, .dct f, .gone, .lst side, .lst side, .lst cr, .lst sc, .lst sc, .lst ths, .lst ([] : List Int)]) ?_ rfl
  refine run_sl (s1 := [.p 0, .d most, .p 2, .p 7, .p 8, .p 11, .p 12, .u, .u, .u]) ?_ rfl
  refine q_for (α := Tup (T2 Int Int)) (xs := ths) (P := fun o => cget o 11 = .lst ths) (I := fun k (us : List Int) => us = nodesOf (ths.take k)) (f := fun _ => [.p 0, .d most, .p 2, .p 7, .p 8, .p 11, .p 12, .u, .u, .u]) (g := fun us => [.lst xs, .lst xs, zh most m, .lst xs, .dct f, .gone, .lst side, .lst side, .lst cr, .lst sc, .lst sc, .lst ths, .lst us]) (f' := fun _ x => [.p 0, .d most, .p 2, .p 7, .p 8, .p 11, .p 12, .d x, .u, .u]) (ei_seqP (er_p rfl) rfl) [] rfl (SlW.refl _) rfl rfl rfl (fun _ _ _ => rfl) (fun _ _ => eg_name (Nat.le_of_ble_eq_true rfl)) ?_ ?_
  · intro c' hc hM' k us x hk hI
    have hM' : c'.M.length = 13 := hM'
    have hxm : x ∈ ths := List.mem_of_getElem? hk
    have hkn := nodes_take hk
    have hI : us = nodesOf (ths.take k) := hI
    have nd2 : (us ++ x.l.map (·.a)).Nodup := by
      rw [hI, ← hkn]
      obtain ⟨r, e⟩ := nodes_pre (ths := ths) (k := k + 1)
      have := ht.nd
      rw [e, List.nodup_append] at this
      exact this.1
    have ul : (us ++ x.l.map (·.a)).length ≤ 1000 := by
      rw [hI, ← hkn]
      obtain ⟨r, e⟩ := nodes_pre (ths := ths) (k := k + 1)
      have := nodes_len hx ht
      rw [e, List.length_append] at this
      omega
    rw [List.length_append, List.length_map] at ul
    have ca : ER K c' (tCall (spOf K F__law_thread_ends) [] E (tCons (tVar 7) (tCons (tVar 0) (tCons (tVar 6) tNil)))) [.p 0, .d most, .p 2, .p 7, .p 8, .p 11, .p 12, .d x, .u, .u] [.lst xs, .lst xs, zh most m, .lst xs, .dct f, .gone, .lst side, .lst side, .lst cr, .lst sc, .lst sc, .lst ths, .lst us] [.p 0, .d most, .p 2, .p 7, .p 8, .p 11, .p 12, .d x, .u, .u] [.lst xs, .lst xs, zh most m, .lst xs, .dct f, .gone, .lst side, .lst side, .lst cr, .lst sc, .lst sc, .lst ths, .lst (us ++ x.l.map (·.a))] (.d most) :=
      er_callR (ks := [0, 12]) (rss := [.d x, .p 0, .p 1]) (os := [.lst xs, .lst us]) (os' := [.lst xs, .lst (us ++ x.l.map (·.a))]) (r := .d most) (s1 := [.p 0, .d most, .p 2, .p 7, .p 8, .p 11, .p 12, .d x, .u, .u]) (o1 := [.lst xs, .lst xs, zh most m, .lst xs, .dct f, .gone, .lst side, .lst side, .lst cr, .lst sc, .lst sc, .lst ths, .lst us]) (rs := [.d x, .p 0, .p 12]) (ea_cons (er_d rfl) (ea_cons (er_p rfl) (ea_cons (er_p rfl) ea_nil))) ⟨rfl, by decide, fun k hk => (show k < 13 from (by decide : ∀ k ∈ [0, 12], k < 13) k hk), rfl, rfl⟩ rfl rfl (fun R X q => ⟨x, xs, us, most, rfl, rfl, hx.ok.nd, xl, by omega, by omega, ht.st x hxm, nd2, q⟩)
    refine s_when (et_orF (et_is (b := !true) (et_not (et_truB (er_cb (ea_cons (er_d rfl) (ea_cons er_ty ea_nil)) (cv_isi rfl)))) rfl) (et_v (er_op ca (er_d rfl) ov_ne))) (fun b => by simp at b) (fun _ => ?_)
    refine go_os (o1 := [.lst xs, .lst xs, zh most m, .lst xs, .dct f, .gone, .lst side, .lst side, .lst cr, .lst sc, .lst sc, .lst ths, .lst (us ++ x.l.map (·.a))]) ?_ rfl
    refine go_at (us ++ x.l.map (·.a)) (by show us ++ x.l.map (·.a) = nodesOf (ths.take (k + 1)); rw [hkn, hI]) ⟨.inr rfl, .inr rfl, .inr rfl, .inr rfl, .inr rfl, .inr rfl, .inr rfl, .inl rfl, .inl rfl, .inl rfl, trivial⟩ (OsW.refl _) (Nat.le_of_eq hM') rfl rfl
  · intro us _
    refine q_append (x := most) (xs := side) (k := 7) rfl (er_d rfl) rfl ⟨_, _, _, rfl⟩ (by rw [szl]; omega) ?_
    refine run_os (o1 := [.lst xs, .lst xs, zh most m, .lst xs, .dct f, .gone, .lst side, .lst (side ++ [most]), .lst cr, .lst sc, .lst sc, .lst ths, .lst us]) ?_ rfl
    refine q_append (x := (Tup.mk [] : Tup (T2 Int Int))) (xs := ths) (k := 11) rfl (er_tup (xs := ([] : List (T2 Int Int))) ea_nil (Nat.zero_le _)) rfl ⟨_, _, _, rfl⟩ (by rw [szl]; omega) ?_
    refine run_os (o1 := [.lst xs, .lst xs, zh most m, .lst xs, .dct f, .gone, .lst side, .lst (side ++ [most]), .lst cr, .lst sc, .lst sc, .lst (ths ++ [(Tup.mk [] : Tup (T2 Int Int))]), .lst us]) ?_ rfl
    refine q_asgF (erf_methR (ω := List (Tup (T2 Int Int))) (P := fun ths => ThOk xs most ths ∧ (ths.length : Int) = m) (k0 := 2) (ks := [2, 3, 4, 6]) (rss := [.p 0]) (os := [z5 most m, .lst xs, .dct f, .lst side]) (os' := fun ths => [z5 most m, .lst xs, .dct f, .lst side, .lst ths]) (r := fun _ => .p 4) (er_p rfl) rfl rfl ea_nil ⟨rfl, by decide, fun k hk => (show k < 13 from (by decide : ∀ k ∈ [2, 3, 4, 6], k < 13) k hk), rfl, rfl⟩ rfl rfl (fun R X q => ⟨xs, most, m, f, side, rfl, rfl, hx, hf, m0, by omega, fun ths a b => q ths ⟨a, b⟩⟩)) (fun _ => Nat.le_of_ble_eq_true rfl) fun ag hag => ?_
    obtain ⟨_, hl3⟩ := hag
    have hl4 : ag.length = cr.length := by omega
    refine run_os (o1 := [.lst xs, .lst xs, zh most m, .lst xs, .dct f, .gone, .lst side, .lst (side ++ [most]), .lst cr, .lst sc, .lst sc, .lst (ths ++ [(Tup.mk [] : Tup (T2 Int Int))]), .lst us, .lst ag]) ?_ rfl
    refine run_sl (s1 := [.p 0, .d most, .p 2, .p 7, .p 8, .p 11, .p 12, .u, .p 13, .u]) ?_ rfl
    refine s_ret (er_andT (er_is (er_op (er_cb (ea_cons (er_p rfl) ea_nil) (cv_lenL (xs := ag) (lv_p rfl))) (er_cb (ea_cons (er_p rfl) ea_nil) (cv_lenL (xs := cr) (lv_p rfl))) ov_eq) (decide_eq_true (by rw [hl4])))
      (er_op (er_methR (k0 := 2) (ks := [2, 3, 4, 6]) (rss := [.p 0]) (os := [z5 most m, .lst xs, .dct f, .lst side]) (os' := [z5 most m, .lst xs, .dct f, .lst side, .lst side]) (r := .p 4) (er_p rfl) rfl rfl ea_nil ⟨rfl, by decide, fun k hk => (show k < 14 from (by decide : ∀ k ∈ [2, 3, 4, 6], k < 14) k hk), rfl, rfl⟩ rfl rfl (fun R X q => ⟨xs, most, m, f, side, rfl, rfl, q⟩)) (er_sl (xs := side ++ [most]) (er_p rfl) eo_none (eo_some (er_neg er_int)) (lv_p rfl)) (ov_eqLI (xs := side) (ys := cutA (side ++ [most]) none (some (-1))) (lv_p rfl) (lv_p rfl) (by omega) (by rw [cut_last]; omega)))) ?_
    rw [cut_last, decide_eq_true rfl]
    exact ret_d h ⟨.inr rfl, trivial⟩ (Nat.le_of_eq hM) rfl rfl
end
end Z11

set_option maxHeartbeats 4000000
namespace Z11
open PySem PySem.Spec PyProof.Rows L2 VL
local macro_rules | `(tactic| walk_at "side") => `(tactic| first | assumption | rfl | omega | decide)
local macro_rules | `(tactic| walk_at "sd") => `(tactic| first | assumption | omega | rotate_left 1)
local macro_rules | `(tactic| walk_at "lv") => `(tactic| first | exact lv_d | exact lv_p rfl | exact dv_d | exact dv_p rfl)
local macro_rules | `(tactic| walk_at "ov") => `(tactic| first
  | ((with_reducible apply VL.gAdd); (first | exact ov_add))
  | ((with_reducible apply VL.gSub); exact ov_sub)
  | ((with_reducible apply VL.gMul); (refine ov_mul ?_); (first | (refine Or.inl ⟨?_, ?_⟩ <;> decide) | (refine Or.inr ⟨?_, ?_⟩ <;> decide) | walk_at "sd"))
  | ((with_reducible apply VL.gDiv); (refine ov_div ?_); (first | (refine ⟨?_, ?_⟩ <;> decide) | walk_at "sd"))
  | ((with_reducible apply VL.gMod); (refine ov_mod ?_); (first | decide | walk_at "sd"))
  | ((with_reducible apply VL.gPow); (refine ov_pow ?_); (first | (refine ⟨?_, ?_, ?_⟩ <;> decide) | walk_at "sd"))
  | ((with_reducible apply VL.gEq); first | exact ov_eq | exact ov_eqO | exact ov_eqOs | exact ov_eqss | exact ov_eqOO)
  | ((with_reducible apply VL.gNe); first | exact ov_ne)
  | ((with_reducible apply VL.gLt); first | exact ov_lt | exact ov_ltO)
  | ((with_reducible apply VL.gLe); first | exact ov_le | exact ov_leO)
  | ((with_reducible apply VL.gGt); first | exact ov_gt | exact ov_gtO)
  | ((with_reducible apply VL.gGe); exact ov_ge)
  | ((with_reducible apply VL.gIs); first | exact ov_isO | exact ov_isU | exact ov_isX)
  | ((with_reducible apply VL.gIsN); first | exact ov_isNO | exact ov_isNU | exact ov_isNX)
  | ((with_reducible apply VL.gIx); first | exact ov_ix20 | exact ov_ix21 | exact ov_ix30 | exact ov_ix31 | exact ov_ix32 | ((refine ov_ixLG (by walk_at "lv") ?_); (walk_at "sd")) | ((refine ov_ixTG ?_); (walk_at "sd"))))
local macro_rules | `(tactic| walk_at "cv") => `(tactic| first
  | ((with_reducible apply VL.gLen); first | exact cv_lenT | exact cv_lenL (by walk_at "lv"))
  | ((with_reducible apply VL.gInt); first | exact cv_int | exact cv_intB)
  | ((with_reducible apply VL.gAbs); exact cv_abs)
  | ((with_reducible apply VL.gMin); exact cv_min2)
  | ((with_reducible apply VL.gMax); exact cv_max2)
  | ((with_reducible apply VL.gList); first | exact cv_listT | exact cv_listL (by walk_at "lv"))
  | ((with_reducible apply VL.gTuple); first | exact cv_tupleT | exact cv_tupleL (by walk_at "lv"))
  | ((with_reducible apply VL.gIsi); first | exact cv_isi rfl | exact cv_isiP rfl rfl))
local macro_rules | `(tactic| walk_at "all") => `(tactic| repeat (first | exact AllD.nil | refine AllD.d ?_))
local macro_rules | `(tactic| walk_at "e") => `(tactic| first
  | ((with_reducible apply VL.gVar); first | exact er_d rfl | exact er_p rfl)
  | ((with_reducible apply VL.gC); first | exact er_int | exact er_bl | exact er_str | exact er_non | exact er_ty | assumption)
  | ((with_reducible apply er_op); (walk_at "e"); (walk_at "e"); (walk_at "ov"))
  | ((with_reducible apply er_cb); (walk_at "e"); (walk_at "cv"))
  | ((with_reducible apply VL.gENil); exact ea_nil)
  | ((with_reducible apply ea_cons); (walk_at "e"); (walk_at "e"))
  | ((with_reducible apply VL.gPop); (refine er_popG rfl rfl ?_); (walk_at "sd"))
  | ((with_reducible apply et_v); (walk_at "e"))
  | ((with_reducible apply er_ix); (walk_at "e"); (walk_at "e"); (walk_at "ov"))
  | ((with_reducible apply er_andV); (walk_at "e"); (intro hb_; (try simp only [decide_eq_true_eq] at hb_); (walk_at "e")))
  | ((with_reducible apply er_orV); (walk_at "e"); (intro hb_; (try simp only [decide_eq_false_iff_not] at hb_); (walk_at "e")))
  | ((with_reducible apply er_notV); (walk_at "e"))
  | ((with_reducible apply et_and); (walk_at "e"); (intro hb_; (try simp only [decide_eq_true_eq] at hb_); (walk_at "e")))
  | ((with_reducible apply et_or); (walk_at "e"); (intro hb_; (try simp only [decide_eq_false_iff_not] at hb_); (walk_at "e")))
  | ((with_reducible apply et_not); (walk_at "e"))
  | ((with_reducible apply VL.gTru); (apply et_truB); (walk_at "e"))
  | ((with_reducible apply er_bits); (walk_at "e"))
  | ((with_reducible apply er_neg); (walk_at "e"))
  | (with_reducible exact er_make0)
  | ((with_reducible apply er_t2); (walk_at "e"); done)
  | ((with_reducible apply er_t3); (walk_at "e"); done)
  | (walk_at "in")
  | (walk_at "call"))
local macro_rules | `(tactic| walk_at "in") => `(tactic| first
  | ((with_reducible apply VL.gIn); first | exact er_inT (by walk_at "e") (by walk_at "e") | exact er_inL (by walk_at "e") (by walk_at "e") (by walk_at "lv"))
  | ((with_reducible apply VL.gNotIn); first | exact er_notinT (by walk_at "e") (by walk_at "e") | exact er_notinL (by walk_at "e") (by walk_at "e") (by walk_at "lv")))
section
variable {P : Program} {K : Fg} {mg : Str → Option Value} {c : Cx0} {s s1 : List Slot} {o o1 os : List Cont} {E : XK} {ta : TA} {D : Ends} {u : TS} {i : Nat}
def shortL (most : Int) : List Sp := (rngl 0 most.toNat).map fun x => (⟨x, x, x + 1⟩ : Sp)
def ladL (n : Nat) : List Sp := (rngl 0 n).map fun x => (⟨x, x, x + 2⟩ : Sp)
theorem short_in {most : Int} (h1 : 1 ≤ most) (h2 : most ≤ 9) : SpIn (shortL most ++ [⟨most, 0, most⟩]) most := by
  have mem : ∀ x ∈ shortL most ++ [(⟨most, 0, most⟩ : Sp)], 0 ≤ x.b ∧ x.b < x.c ∧ x.c ≤ most ∧ 0 ≤ x.a ∧ x.a ≤ most := by
    intro x hx
    rcases List.mem_append.mp hx with hx | hx
    · obtain ⟨y, hy, rfl⟩ := List.mem_map.mp hx
      have := rngl_mem.mp hy
      show 0 ≤ y ∧ y < y + 1 ∧ y + 1 ≤ most ∧ 0 ≤ y ∧ y ≤ most
      omega
    · have hx : x = ⟨most, 0, most⟩ := by simpa using hx
      subst hx
      show (0 : Int) ≤ 0 ∧ 0 < most ∧ most ≤ most ∧ 0 ≤ most ∧ most ≤ most
      omega
  refine ⟨⟨?_, fun x hx => ?_, h1⟩, ?_, by omega, fun x hx => ?_⟩
  · have e : (shortL most).map (·.a) = rngl 0 most.toNat := by unfold shortL; rw [List.map_map]; exact List.map_id _
    rw [List.map_append, e, List.nodup_append]
    refine ⟨rngl_nodup _ _, by simp, fun a ha b hb z => ?_⟩
    have := rngl_mem.mp ha
    simp at hb
    omega
  · have := mem x hx; omega
  · rw [List.length_append]; unfold shortL; rw [List.length_map, rngl_len]; simp; omega
  · have := mem x hx; omega
theorem lad_in : SpIn (cutA (ladL 58) (some 1) none ++ [⟨70, 0, 59⟩, ⟨71, 1, 60⟩]) 60 := ⟨⟨by decide +kernel, by decide +kernel, by decide⟩, by decide +kernel, by decide, by decide +kernel⟩
theorem nil_in {most : Int} (h1 : 1 ≤ most) (h2 : most ≤ 60) : SpIn [] most := ⟨⟨by simp, (fun x hx => by cases hx), h1⟩, by decide, by omega, (fun x hx => by cases hx)⟩
theorem run_law (T : Txt P K mg) (c : Cx0) (ss : List Slot) (os : List Cont) (Q : VK) (E : XK) (hM : c.M.length = os.length) (h : F_law ss os (Rc K c Q) (Xc K c E)) : Run K c (t_law K E) { nx := fun _ H' => Q .non H', rt := Q } (ss ++ List.replicate (8 - ss.length) .u) os := by
  obtain ⟨ns, rfl, rfl, hn, h⟩ := h
  show Run K c _ _ [.d ns, .u, .u, .u, .u, .u, .u, .u] []
  have hM : c.M.length = 0 := hM
  unfold t_law
  refine q_asgF (erf_call (ω := List Int) (P := fun _ => True) (os := fun ys => [.lst ys]) (r := fun _ => .p 0) (ea_cons (er_d rfl) ea_nil) (fun R X q => ⟨ns, rfl, rfl, fun ys => q ys trivial⟩) rfl (fun _ => rfl)) (fun _ => Nat.le_of_ble_eq_true rfl) fun ys _ => ?_
  refine run_os (o1 := [.lst ys]) ?_ rfl
  refine run_sl (s1 := [.d ns, .p 0, .u, .u, .u, .u, .u, .u]) ?_ rfl
  refine q_asg (er_op er_int (c_draw (k := 0) (xs := ys) (n := 9) (ea_cons (er_p rfl) (ea_cons er_int ea_nil)) rfl (Nat.le_of_ble_eq_true rfl) (by decide)) ov_add) (Nat.le_of_ble_eq_true rfl) ?_
  have r0 := drawV_range ys (n := 9) (by omega)
  generalize hm : 1 + drawV ys 9 = most
  have m1 : 1 ≤ most := by omega
  have m2 : most ≤ 9 := by omega
  generalize ys.dropLast = y1
  refine run_os (o1 := [.lst y1]) ?_ rfl
  refine run_sl (s1 := [.d ns, .p 0, .d most, .u, .u, .u, .u, .u]) ?_ rfl
  have r1 := drawV_range y1 (n := 21) (by omega)
  refine q_asgF (erf_callR (ω := List Int × List Sp) (P := fun w => SpIn w.2 most) (ks := [0]) (rss := [.p 0, .d (drawV y1 21), .d most]) (os := [.lst y1.dropLast]) (os' := fun w => [.lst w.1, .lst w.2]) (rw_ := fun _ => .p 1) (ea_cons (er_p rfl) (ea_cons (c_draw (k := 0) (xs := y1) (n := 21) (ea_cons (er_p rfl) (ea_cons er_int ea_nil)) rfl (Nat.le_of_ble_eq_true rfl) (by decide)) (ea_cons (er_d rfl) ea_nil))) ⟨rfl, by decide, fun k hk => (show k < 1 from (by decide : ∀ k ∈ [0], k < 1) k hk), rfl, rfl⟩ rfl rfl (fun R X q => ⟨y1.dropLast, drawV y1 21, most, rfl, rfl, by omega, by omega, by omega, by omega, fun zs xs hx => q (zs, xs) hx⟩)) (fun _ => Nat.le_of_ble_eq_true rfl) fun w hw => ?_
  obtain ⟨y2, xs⟩ := w
  have hx : SpIn xs most := hw
  refine run_os (o1 := [.lst y2, .lst xs]) ?_ rfl
  refine run_sl (s1 := [.d ns, .p 0, .d most, .p 1, .u, .u, .u, .u]) ?_ rfl
  refine q_when (et_not (et_truB (er_callD1 (rs := [.p 0, .d most]) (k := 1) (ct := .lst xs) (ct' := .lst xs) (x := true) (ea_cons (er_p rfl) (ea_cons (er_d rfl) ea_nil)) (fun R X q => ⟨xs, most, rfl, rfl, hx, by omega, q⟩) (Nat.le_of_ble_eq_true rfl) rfl rfl rfl rfl rfl))) (fun b => by cases b) (fun _ => ?_)
  refine run_os (o1 := [.lst y2, .lst xs]) ?_ rfl
  refine q_asg (er_lc (α := Int) (β := Sp) (P := fun _ => True) (bs := fun _ => true) (fn := fun x => (⟨x, x, x + 1⟩ : Sp)) (f' := fun x => [.d ns, .p 0, .d most, .p 1, .u, .u, .u, .d x]) (ei_rng1 (n := most) (ea_cons (er_d rfl) ea_nil) ⟨by omega, by omega⟩) trivial (fun x => egw_name (Nat.le_of_ble_eq_true rfl) (by decide)) (fun c' x _ => et_yes) (fun c' x _ _ => er_t3 (ea_cons (er_d rfl) (ea_cons (er_d rfl) (ea_cons (er_op (er_d rfl) er_int ov_add) ea_nil)))) (by rw [rngl_len, szl]; omega)) (Nat.le_of_ble_eq_true rfl) ?_
  rw [List.filter_eq_self.mpr (fun _ _ => rfl)]
  refine run_os (o1 := [.lst y2, .lst xs, .lst (shortL most)]) ?_ rfl
  refine run_sl (s1 := [.d ns, .p 0, .d most, .p 1, .p 2, .u, .u, .u]) ?_ rfl
  have sl1 : (shortL most).length = most.toNat := by unfold shortL; rw [List.length_map, rngl_len]
  refine q_when (et_orF (et_not (et_truB (er_callD1 (rs := [.p 0, .d most]) (k := 4) (ct := .lst (shortL most ++ [(⟨most, 0, most⟩ : Sp)])) (ct' := .lst (shortL most ++ [(⟨most, 0, most⟩ : Sp)])) (x := true) (ea_cons (er_op (er_p rfl) (er_lst (xs := [(⟨most, 0, most⟩ : Sp)]) (ea_cons (er_t3 (ea_cons (er_d rfl) (ea_cons er_int (ea_cons (er_d rfl) ea_nil)))) ea_nil) (by rw [szl]; simp)) (ov_catP (xs := shortL most) (ys := [(⟨most, 0, most⟩ : Sp)]) rfl rfl (by rw [szl, sl1]; simp; omega))) (ea_cons (er_d rfl) ea_nil)) (fun R X q => ⟨(shortL most ++ [(⟨most, 0, most⟩ : Sp)]), most, rfl, rfl, short_in m1 m2, by omega, q⟩) (Nat.le_of_ble_eq_true rfl) rfl rfl rfl rfl rfl))) (et_not (et_truB (er_callD1 (rs := [.p 0, .d most]) (k := 5) (ct := .lst ([] : List Sp)) (ct' := .lst ([] : List Sp)) (x := true) (ea_cons (er_lst (xs := ([] : List Sp)) ea_nil (Nat.zero_le _)) (ea_cons (er_d rfl) ea_nil)) (fun R X q => ⟨([] : List Sp), most, rfl, rfl, nil_in m1 (by omega), by omega, q⟩) (Nat.le_of_ble_eq_true rfl) rfl rfl rfl rfl rfl)))) (fun b => by cases b) (fun _ => ?_)
  generalize shortL most ++ [(⟨most, 0, most⟩ : Sp)] = sh2
  generalize shortL most = sh
  refine run_os (o1 := [.lst y2, .lst xs, .lst sh, .lst [(⟨most, 0, most⟩ : Sp)], .lst sh2, .lst ([] : List Sp)]) ?_ rfl
  refine q_when (et_v (er_op (c_draw (k := 0) (xs := y2) (n := 12) (ea_cons (er_p rfl) (ea_cons er_int ea_nil)) rfl (Nat.le_of_ble_eq_true rfl) (by decide)) er_int ov_ne)) (fun b => ?_) (fun b => ?_)
  · exact s_ret er_bl (ret_d h OsW.nil (by rw [hM]; exact Nat.le_refl _) rfl rfl)
  refine run_os (o1 := [.lst y2.dropLast, .lst xs, .lst sh, .lst [(⟨most, 0, most⟩ : Sp)], .lst sh2, .lst ([] : List Sp)]) ?_ rfl
  generalize y2.dropLast = y3
  refine q_asg (er_lst (xs := ([] : List Sp)) ea_nil (Nat.zero_le _)) (Nat.le_of_ble_eq_true rfl) ?_
  refine run_os (o1 := [.lst y3, .lst xs, .lst sh, .lst [(⟨most, 0, most⟩ : Sp)], .lst sh2, .lst ([] : List Sp), .lst ([] : List Sp)]) ?_ rfl
  refine run_sl (s1 := [.d ns, .p 0, .d most, .p 1, .p 2, .p 6, .u, .u]) ?_ rfl
  refine q_for (α := Int) (I := fun k (w : List Sp) => w = ladL k) (f := fun _ => [.d ns, .p 0, .d most, .p 1, .p 2, .p 6, .u, .u]) (g := fun w => [.lst y3, .lst xs, .lst sh, .lst [(⟨most, 0, most⟩ : Sp)], .lst sh2, .lst ([] : List Sp), .lst w]) (f' := fun _ x => [.d ns, .p 0, .d most, .p 1, .p 2, .p 6, .d x, .u]) (ei_rng1 (n := 58) (ea_cons er_int ea_nil) ⟨by omega, by omega⟩) [] rfl (SlW.refl _) rfl rfl rfl (fun _ _ _ => trivial) (fun _ _ => eg_name (Nat.le_of_ble_eq_true rfl)) ?_ ?_
  · rintro c' hc hM' k w x hxk hI
    obtain ⟨hk, rfl⟩ := rngl_get.mp hxk
    have hk : k < 58 := hk
    have hM' : c'.M.length = 7 := hM'
    have hI : w = ladL k := hI
    subst hI
    refine s_append (x := (⟨0 + (k : Int), 0 + (k : Int), 0 + (k : Int) + 2⟩ : Sp)) (xs := ladL k) (k := 6) rfl (er_t3 (ea_cons (er_d rfl) (ea_cons (er_d rfl) (ea_cons (er_op (er_d rfl) er_int ov_add) ea_nil)))) rfl ⟨_, _, _, rfl⟩ (by rw [szl]; unfold ladL; rw [List.length_map, rngl_len]; omega) ?_
    refine go_at (ladL (k + 1)) rfl ⟨.inr rfl, .inr rfl, .inr rfl, .inr rfl, .inr rfl, .inr rfl, .inl rfl, .inl rfl, trivial⟩ ⟨.inr rfl, .inr rfl, .inr rfl, .inr rfl, .inr rfl, .inr rfl, .inr ?_, trivial⟩ (Nat.le_of_eq hM') rfl rfl
    unfold ladL rngl
    rw [List.range_succ, List.map_append, List.map_append]
    rfl
  · intro w hI
    have hI : w = ladL 58 := hI
    subst hI
    have c1 : ERF K c (tCall (spOf K F__law_holds) [] E (tCons (tCall (spOf K F__law_spans_drawn) [] E (tCons (tVar 1) (tCons (tC (.int 40)) (tCons (tC (.int 60)) tNil)))) (tCons (tC (.int 60)) tNil))) [.d ns, .p 0, .d most, .p 1, .p 2, .p 6, .u, .u] [.lst y3, .lst xs, .lst sh, .lst [(⟨most, 0, most⟩ : Sp)], .lst sh2, .lst ([] : List Sp), .lst (ladL 58)] (fun w : List Int × List Sp => SpIn w.2 60) (fun _ => [.d ns, .p 0, .d most, .p 1, .p 2, .p 6, .u, .u]) (fun w => [.lst w.1, .lst xs, .lst sh, .lst [(⟨most, 0, most⟩ : Sp)], .lst sh2, .lst ([] : List Sp), .lst (ladL 58), .lst w.2]) (fun _ => .d true) :=
      erf_callRF (ks := [7]) (s1 := fun (_ : List Int × List Sp) => [.d ns, .p 0, .d most, .p 1, .p 2, .p 6, .u, .u]) (o1 := fun (w : List Int × List Sp) => [.lst w.1, .lst xs, .lst sh, .lst [(⟨most, 0, most⟩ : Sp)], .lst sh2, .lst ([] : List Sp), .lst (ladL 58), .lst w.2]) (rs := fun (_ : List Int × List Sp) => [.p 7, .d (60 : Int)]) (rss := fun (_ : List Int × List Sp) => [.p 0, .d (60 : Int)]) (os := fun (w : List Int × List Sp) => [.lst w.2]) (os' := fun (w : List Int × List Sp) => [.lst w.2]) (r := fun _ => .d true)
        (eaf_cons (s1 := fun (_ : List Int × List Sp) => [.d ns, .p 0, .d most, .p 1, .p 2, .p 6, .u, .u]) (o1 := fun (w : List Int × List Sp) => [.lst w.1, .lst xs, .lst sh, .lst [(⟨most, 0, most⟩ : Sp)], .lst sh2, .lst ([] : List Sp), .lst (ladL 58), .lst w.2]) (r := fun _ => .p 7) (rs := fun _ => [.d (60 : Int)])
          (erf_callR (ω := List Int × List Sp) (P := fun w => SpIn w.2 60) (s1 := [.d ns, .p 0, .d most, .p 1, .p 2, .p 6, .u, .u]) (o1 := [.lst y3, .lst xs, .lst sh, .lst [(⟨most, 0, most⟩ : Sp)], .lst sh2, .lst ([] : List Sp), .lst (ladL 58)]) (rs := [.p 0, .d (40 : Int), .d (60 : Int)]) (ks := [0]) (rss := [.p 0, .d (40 : Int), .d (60 : Int)]) (os := [.lst y3]) (os' := fun w => [.lst w.1, .lst w.2]) (rw_ := fun _ => .p 1) (ea_cons (er_p rfl) (ea_cons er_int (ea_cons er_int ea_nil))) ⟨rfl, by decide, fun k hk => (show k < 7 from (by decide : ∀ k ∈ [0], k < 7) k hk), rfl, rfl⟩ rfl rfl (fun R X q => ⟨y3, 40, 60, rfl, rfl, by omega, by omega, by omega, by omega, fun zs xs hx => q (zs, xs) hx⟩))
          (fun w _ => ea_cons er_int ea_nil))
        (fun w _ => ⟨rfl, by decide, fun k hk => (show k < 8 from (by decide : ∀ k ∈ [7], k < 8) k hk), rfl, rfl⟩) (fun _ => rfl) (fun _ => rfl) (fun w hw R X q => ⟨w.2, 60, rfl, rfl, hw, by omega, q⟩)
    refine s_retF (erf_andT (s2 := fun (_ : List Int × List Sp) => [.d ns, .p 0, .d most, .p 1, .p 2, .p 6, .u, .u]) (o2 := fun (w : List Int × List Sp) => [.lst w.1, .lst xs, .lst sh, .lst [(⟨most, 0, most⟩ : Sp)], .lst sh2, .lst ([] : List Sp), .lst (ladL 58), .lst w.2, .lst (cutA (ladL 58) (some 1) none), .lst [(⟨70, 0, 59⟩ : Sp), ⟨71, 1, 60⟩], .lst (cutA (ladL 58) (some 1) none ++ [(⟨70, 0, 59⟩ : Sp), ⟨71, 1, 60⟩])]) (r := fun _ => .d true) c1 fun w _ => ?_) (fun w _ => ret_d h OsW.nil (by rw [hM]; exact Nat.le_refl _) rfl rfl)
    exact er_callD1 (rs := [.p 0, .d (60 : Int)]) (k := 10) (ct := .lst (cutA (ladL 58) (some 1) none ++ [(⟨70, 0, 59⟩ : Sp), ⟨71, 1, 60⟩])) (ct' := .lst (cutA (ladL 58) (some 1) none ++ [(⟨70, 0, 59⟩ : Sp), ⟨71, 1, 60⟩])) (x := true)
      (ea_cons (er_op (er_sl (xs := ladL 58) (er_p rfl) (eo_some er_int) eo_none (lv_p rfl)) (er_lst (xs := [(⟨70, 0, 59⟩ : Sp), ⟨71, 1, 60⟩]) (ea_cons (er_t3 (ea_cons er_int (ea_cons er_int (ea_cons er_int ea_nil)))) (ea_cons (er_t3 (ea_cons er_int (ea_cons er_int (ea_cons er_int ea_nil)))) ea_nil)) (by rw [szl]; decide)) (ov_catP (xs := cutA (ladL 58) (some 1) none) (ys := [(⟨70, 0, 59⟩ : Sp), ⟨71, 1, 60⟩]) rfl rfl (by rw [szl]; decide +kernel))) (ea_cons er_int ea_nil))
      (fun R X q => ⟨_, 60, rfl, rfl, lad_in, by omega, q⟩) (Nat.le_of_ble_eq_true rfl) rfl rfl rfl rfl rfl
end
end Z11

set_option maxHeartbeats 4000000
namespace Z11
open PySem PySem.Spec PyProof.Rows L2 VL
open Txt
section
variable {P : Program} {w : World} {K : Fg} {mg : Str → Option Value} {base : Heap}
theorem good_Zigzag__search (T : Txt P K mg) : GoodM P w K mg base "Zigzag" "_search" L_Zigzag__search ["self"] F_Zigzag__search := ok_Zigzag__search T  (fun c ss os Q E hM h => run_Zigzag__search T c ss os Q E hM h) (fun ss os R X h => by first | (obtain ⟨rfl, _⟩ := h; rfl) | (obtain ⟨_, rfl, _⟩ := h; rfl) | (obtain ⟨_, _, rfl, _⟩ := h; rfl) | (obtain ⟨_, _, _, rfl, _⟩ := h; rfl) | (obtain ⟨_, _, _, _, rfl, _⟩ := h; rfl) | (obtain ⟨_, _, _, _, _, rfl, _⟩ := h; rfl) | (obtain ⟨_, _, _, _, _, _, rfl, _⟩ := h; rfl) | (obtain ⟨_, _, _, _, _, _, _, rfl, _⟩ := h; rfl) | (obtain ⟨_, _, _, _, _, _, _, _, rfl, _⟩ := h; rfl))
theorem good_Zigzag__push (T : Txt P K mg) : GoodM P w K mg base "Zigzag" "_push" L_Zigzag__push ["self", "moves"] F_Zigzag__push := ok_Zigzag__push T  (fun c ss os Q E hM h => run_Zigzag__push T c ss os Q E hM h) (fun ss os R X h => by first | (obtain ⟨rfl, _⟩ := h; rfl) | (obtain ⟨_, rfl, _⟩ := h; rfl) | (obtain ⟨_, _, rfl, _⟩ := h; rfl) | (obtain ⟨_, _, _, rfl, _⟩ := h; rfl) | (obtain ⟨_, _, _, _, rfl, _⟩ := h; rfl) | (obtain ⟨_, _, _, _, _, rfl, _⟩ := h; rfl) | (obtain ⟨_, _, _, _, _, _, rfl, _⟩ := h; rfl) | (obtain ⟨_, _, _, _, _, _, _, rfl, _⟩ := h; rfl) | (obtain ⟨_, _, _, _, _, _, _, _, rfl, _⟩ := h; rfl))
theorem good_Zigzag__leaving (T : Txt P K mg) : GoodM P w K mg base "Zigzag" "_leaving" L_Zigzag__leaving ["self", "place", "left"] F_Zigzag__leaving := ok_Zigzag__leaving T  (fun c ss os Q E hM h => run_Zigzag__leaving T c ss os Q E hM h) (fun ss os R X h => by first | (obtain ⟨rfl, _⟩ := h; rfl) | (obtain ⟨_, rfl, _⟩ := h; rfl) | (obtain ⟨_, _, rfl, _⟩ := h; rfl) | (obtain ⟨_, _, _, rfl, _⟩ := h; rfl) | (obtain ⟨_, _, _, _, rfl, _⟩ := h; rfl) | (obtain ⟨_, _, _, _, _, rfl, _⟩ := h; rfl) | (obtain ⟨_, _, _, _, _, _, rfl, _⟩ := h; rfl) | (obtain ⟨_, _, _, _, _, _, _, rfl, _⟩ := h; rfl) | (obtain ⟨_, _, _, _, _, _, _, _, rfl, _⟩ := h; rfl))
theorem good_Zigzag_threads (T : Txt P K mg) : GoodM P w K mg base "Zigzag" "threads" L_Zigzag_threads ["self"] F_Zigzag_threads := ok_Zigzag_threads T (good_Zigzag__leaving T) (fun c ss os Q E hM h => run_Zigzag_threads T c ss os Q E hM h) (fun ss os R X h => by first | (obtain ⟨rfl, _⟩ := h; rfl) | (obtain ⟨_, rfl, _⟩ := h; rfl) | (obtain ⟨_, _, rfl, _⟩ := h; rfl) | (obtain ⟨_, _, _, rfl, _⟩ := h; rfl) | (obtain ⟨_, _, _, _, rfl, _⟩ := h; rfl) | (obtain ⟨_, _, _, _, _, rfl, _⟩ := h; rfl) | (obtain ⟨_, _, _, _, _, _, rfl, _⟩ := h; rfl) | (obtain ⟨_, _, _, _, _, _, _, rfl, _⟩ := h; rfl) | (obtain ⟨_, _, _, _, _, _, _, _, rfl, _⟩ := h; rfl))
theorem good_Zigzag_side (T : Txt P K mg) : GoodM P w K mg base "Zigzag" "side" L_Zigzag_side ["self"] F_Zigzag_side := ok_Zigzag_side T  (fun c ss os Q E hM h => run_Zigzag_side T c ss os Q E hM h) (fun ss os R X h => by first | (obtain ⟨rfl, _⟩ := h; rfl) | (obtain ⟨_, rfl, _⟩ := h; rfl) | (obtain ⟨_, _, rfl, _⟩ := h; rfl) | (obtain ⟨_, _, _, rfl, _⟩ := h; rfl) | (obtain ⟨_, _, _, _, rfl, _⟩ := h; rfl) | (obtain ⟨_, _, _, _, _, rfl, _⟩ := h; rfl) | (obtain ⟨_, _, _, _, _, _, rfl, _⟩ := h; rfl) | (obtain ⟨_, _, _, _, _, _, _, rfl, _⟩ := h; rfl) | (obtain ⟨_, _, _, _, _, _, _, _, rfl, _⟩ := h; rfl))
theorem good_Zigzag_cut (T : Txt P K mg) : GoodM P w K mg base "Zigzag" "cut" L_Zigzag_cut ["self"] F_Zigzag_cut := ok_Zigzag_cut T  (fun c ss os Q E hM h => run_Zigzag_cut T c ss os Q E hM h) (fun ss os R X h => by first | (obtain ⟨rfl, _⟩ := h; rfl) | (obtain ⟨_, rfl, _⟩ := h; rfl) | (obtain ⟨_, _, rfl, _⟩ := h; rfl) | (obtain ⟨_, _, _, rfl, _⟩ := h; rfl) | (obtain ⟨_, _, _, _, rfl, _⟩ := h; rfl) | (obtain ⟨_, _, _, _, _, rfl, _⟩ := h; rfl) | (obtain ⟨_, _, _, _, _, _, rfl, _⟩ := h; rfl) | (obtain ⟨_, _, _, _, _, _, _, rfl, _⟩ := h; rfl) | (obtain ⟨_, _, _, _, _, _, _, _, rfl, _⟩ := h; rfl))
theorem good_Zigzag___init__ (T : Txt P K mg) : GoodI P w K mg base "Zigzag" L_Zigzag___init__ ["self", "spans", "end"] F_Zigzag___init__ := ok_Zigzag___init__ T (good_Zigzag__push T) (good_Zigzag__search T) (fun c ss os Q E hM h => run_Zigzag___init__ T c ss os Q E hM h) (fun ss os R X h => by first | (obtain ⟨rfl, _⟩ := h; rfl) | (obtain ⟨_, rfl, _⟩ := h; rfl) | (obtain ⟨_, _, rfl, _⟩ := h; rfl) | (obtain ⟨_, _, _, rfl, _⟩ := h; rfl) | (obtain ⟨_, _, _, _, rfl, _⟩ := h; rfl) | (obtain ⟨_, _, _, _, _, rfl, _⟩ := h; rfl) | (obtain ⟨_, _, _, _, _, _, rfl, _⟩ := h; rfl) | (obtain ⟨_, _, _, _, _, _, _, rfl, _⟩ := h; rfl) | (obtain ⟨_, _, _, _, _, _, _, _, rfl, _⟩ := h; rfl))
theorem good__law_stream (T : Txt P K mg) : Good P w K mg base "_law_stream" L__law_stream ["script"] F__law_stream := ok__law_stream T  (fun c ss os Q E hM h => run__law_stream T c ss os Q E hM h) (fun ss os R X h => by first | (obtain ⟨rfl, _⟩ := h; rfl) | (obtain ⟨_, rfl, _⟩ := h; rfl) | (obtain ⟨_, _, rfl, _⟩ := h; rfl) | (obtain ⟨_, _, _, rfl, _⟩ := h; rfl) | (obtain ⟨_, _, _, _, rfl, _⟩ := h; rfl) | (obtain ⟨_, _, _, _, _, rfl, _⟩ := h; rfl) | (obtain ⟨_, _, _, _, _, _, rfl, _⟩ := h; rfl) | (obtain ⟨_, _, _, _, _, _, _, rfl, _⟩ := h; rfl) | (obtain ⟨_, _, _, _, _, _, _, _, rfl, _⟩ := h; rfl))
theorem good__law_draw (T : Txt P K mg) : Good P w K mg base "_law_draw" L__law_draw ["stream", "many"] F__law_draw := ok__law_draw T  (fun c ss os Q E hM h => run__law_draw T c ss os Q E hM h) (fun ss os R X h => by first | (obtain ⟨rfl, _⟩ := h; rfl) | (obtain ⟨_, rfl, _⟩ := h; rfl) | (obtain ⟨_, _, rfl, _⟩ := h; rfl) | (obtain ⟨_, _, _, rfl, _⟩ := h; rfl) | (obtain ⟨_, _, _, _, rfl, _⟩ := h; rfl) | (obtain ⟨_, _, _, _, _, rfl, _⟩ := h; rfl) | (obtain ⟨_, _, _, _, _, _, rfl, _⟩ := h; rfl) | (obtain ⟨_, _, _, _, _, _, _, rfl, _⟩ := h; rfl) | (obtain ⟨_, _, _, _, _, _, _, _, rfl, _⟩ := h; rfl))
theorem good__law_ints (T : Txt P K mg) : Good P w K mg base "_law_ints" L__law_ints ["told", "due"] F__law_ints := ok__law_ints T  (fun c ss os Q E hM h => run__law_ints T c ss os Q E hM h) (fun ss os R X h => by first | (obtain ⟨rfl, _⟩ := h; rfl) | (obtain ⟨_, rfl, _⟩ := h; rfl) | (obtain ⟨_, _, rfl, _⟩ := h; rfl) | (obtain ⟨_, _, _, rfl, _⟩ := h; rfl) | (obtain ⟨_, _, _, _, rfl, _⟩ := h; rfl) | (obtain ⟨_, _, _, _, _, rfl, _⟩ := h; rfl) | (obtain ⟨_, _, _, _, _, _, rfl, _⟩ := h; rfl) | (obtain ⟨_, _, _, _, _, _, _, rfl, _⟩ := h; rfl) | (obtain ⟨_, _, _, _, _, _, _, _, rfl, _⟩ := h; rfl))
theorem good__law_spans_drawn (T : Txt P K mg) : Good P w K mg base "_law_spans_drawn" L__law_spans_drawn ["stream", "many", "most"] F__law_spans_drawn := ok__law_spans_drawn T (good__law_draw T) (fun c ss os Q E hM h => run__law_spans_drawn T c ss os Q E hM h) (fun ss os R X h => by first | (obtain ⟨rfl, _⟩ := h; rfl) | (obtain ⟨_, rfl, _⟩ := h; rfl) | (obtain ⟨_, _, rfl, _⟩ := h; rfl) | (obtain ⟨_, _, _, rfl, _⟩ := h; rfl) | (obtain ⟨_, _, _, _, rfl, _⟩ := h; rfl) | (obtain ⟨_, _, _, _, _, rfl, _⟩ := h; rfl) | (obtain ⟨_, _, _, _, _, _, rfl, _⟩ := h; rfl) | (obtain ⟨_, _, _, _, _, _, _, rfl, _⟩ := h; rfl) | (obtain ⟨_, _, _, _, _, _, _, _, rfl, _⟩ := h; rfl))
theorem good__law_thread_ends (T : Txt P K mg) : Good P w K mg base "_law_thread_ends" L__law_thread_ends ["steps", "spans", "used"] F__law_thread_ends := ok__law_thread_ends T  (fun c ss os Q E hM h => run__law_thread_ends T c ss os Q E hM h) (fun ss os R X h => by first | (obtain ⟨rfl, _⟩ := h; rfl) | (obtain ⟨_, rfl, _⟩ := h; rfl) | (obtain ⟨_, _, rfl, _⟩ := h; rfl) | (obtain ⟨_, _, _, rfl, _⟩ := h; rfl) | (obtain ⟨_, _, _, _, rfl, _⟩ := h; rfl) | (obtain ⟨_, _, _, _, _, rfl, _⟩ := h; rfl) | (obtain ⟨_, _, _, _, _, _, rfl, _⟩ := h; rfl) | (obtain ⟨_, _, _, _, _, _, _, rfl, _⟩ := h; rfl) | (obtain ⟨_, _, _, _, _, _, _, _, rfl, _⟩ := h; rfl))
theorem good__law_side (T : Txt P K mg) : Good P w K mg base "_law_side" L__law_side ["side", "most"] F__law_side := ok__law_side T  (fun c ss os Q E hM h => run__law_side T c ss os Q E hM h) (fun ss os R X h => by first | (obtain ⟨rfl, _⟩ := h; rfl) | (obtain ⟨_, rfl, _⟩ := h; rfl) | (obtain ⟨_, _, rfl, _⟩ := h; rfl) | (obtain ⟨_, _, _, rfl, _⟩ := h; rfl) | (obtain ⟨_, _, _, _, rfl, _⟩ := h; rfl) | (obtain ⟨_, _, _, _, _, rfl, _⟩ := h; rfl) | (obtain ⟨_, _, _, _, _, _, rfl, _⟩ := h; rfl) | (obtain ⟨_, _, _, _, _, _, _, rfl, _⟩ := h; rfl) | (obtain ⟨_, _, _, _, _, _, _, _, rfl, _⟩ := h; rfl))
theorem good__law_holds (T : Txt P K mg) : Good P w K mg base "_law_holds" L__law_holds ["spans", "most"] F__law_holds := ok__law_holds T (good_Zigzag___init__ T) (good_Zigzag_cut T) (good_Zigzag_side T) (good_Zigzag_threads T) (good__law_ints T) (good__law_side T) (good__law_thread_ends T) (fun c ss os Q E hM h => run__law_holds T c ss os Q E hM h) (fun ss os R X h => by first | (obtain ⟨rfl, _⟩ := h; rfl) | (obtain ⟨_, rfl, _⟩ := h; rfl) | (obtain ⟨_, _, rfl, _⟩ := h; rfl) | (obtain ⟨_, _, _, rfl, _⟩ := h; rfl) | (obtain ⟨_, _, _, _, rfl, _⟩ := h; rfl) | (obtain ⟨_, _, _, _, _, rfl, _⟩ := h; rfl) | (obtain ⟨_, _, _, _, _, _, rfl, _⟩ := h; rfl) | (obtain ⟨_, _, _, _, _, _, _, rfl, _⟩ := h; rfl) | (obtain ⟨_, _, _, _, _, _, _, _, rfl, _⟩ := h; rfl))
theorem fn_law_ok {fd : FuncData} (FD : FunD K "law" "law" (defArgs s_law) (defBody s_law) (defScope s_law) [] [] (He.ga K "law") fd) (T : Txt P K mg) : FnOk P w K mg base (L2.CX P w) L_law (He.ga K "law") fd ["script"] (spOf K F_law) := okf_law FD T (good__law_draw T) (good__law_holds T) (good__law_spans_drawn T) (good__law_stream T) (fun c ss os Q E hM h => run_law T c ss os Q E hM h) (fun ss os R X h => by obtain ⟨_, rfl, _⟩ := h; rfl)
theorem the_law {P : Program} {w : World} {K : Fg} {h : Heap} {mg : Str → Option Value} {fa0 : Addr} (hP : P.main.file = mainFile) (hsup : (P.main.scope.names.lookup ("super" : Str)).isSome = false) (X : K.In h) (G : h.Ns mainGlobals mg) (hfa : mg ("law" : Str) = some (.ref fa0)) (c : HV.SaysV fa fn sx ex K) :
    ∃ (fd : FuncData), (∀ (s : Shared) (u : Value), BindsTo s fd ⟨[u], []⟩ [("script", u)]) ∧ ∀ base : Heap, K.In base → base.Ns mainGlobals mg → FnOk P w K mg base (L2.CX P w) L_law fa0 fd ["script"] (spOf K F_law) := by
  have T := txt (P := P) hP hsup X G c
  obtain ⟨fd, FD⟩ := T.fn_law
  have e := hfa.symm.trans T.m_law
  cases e
  have b := FunD.bindsA (ps := ["script"]) FD fun _ _ _ _ _ _ us hl => match us, hl with | [_], _ => rfl
  exact ⟨fd, fun s u => b s [u] rfl, fun base _ _ => fn_law_ok FD T⟩
end
end Z11
open PySem PySem.W PySem.Calls PyProof.Rows
theorem PySem.Challenge.cw_foldsunseen_k11_zigzags_holds : PySem.Challenge.rw_foldsunseen_k11_zigzags.Holds := by
  w_on; o_law
  refine HandSHeadRun.head_any (r := OpenLaw.row PySem.Challenge.rw_foldsunseen_k11_zigzags) (q := view (OpenLaw.row PySem.Challenge.rw_foldsunseen_k11_zigzags).prog [10]) (H := Z11.hk) (ob := Z11.ob) (M := 6000) (loose := Z11.names) (d := HandSHeadRun.topDef (OpenLaw.row PySem.Challenge.rw_foldsunseen_k11_zigzags).prog 10) (kwd := []) Z11.ob_eq
    (by kernel_rfl) (fun s => by kernel_rfl) Z11.run (by kernel_rfl) (by kernel_rfl) (by kernel_rfl) (by rfl) (by first | assumption | decide +kernel) (by decide +kernel) ⟨rfl, rfl, rfl, rfl, rfl, by decide +kernel⟩ ?hw ?hc
  case hw => w_witness2
  case hc =>
    refine VL.walk_ofV (l := PySem.Challenge.rw_foldsunseen_k11_zigzags) (n := 63) (k := Z11.L_law) (x := "script") rfl (by decide) (by kernel_rfl) ⟨rfl, by decide, by decide⟩ ?F
    intro w mg fa0 h Y G hmg0
    obtain ⟨K, KX, c⟩ := Y
    have hmg : mg ("law" : PySem.Str) = some (.ref fa0) := by
      have e : (HandSHeadRun.topDef (OpenLaw.row PySem.Challenge.rw_foldsunseen_k11_zigzags).prog 10).name = ("law" : PySem.Str) := by kernel_rfl
      rw [← e]
      exact hmg0
    obtain ⟨fd, hb, hF⟩ := Z11.the_law (P := (PySem.Challenge.rw_foldsunseen_k11_zigzags).prog) (w := w) (by kernel_rfl) (by kernel_rfl) KX G hmg c
    exact ⟨K, fd, VL.spOf K Z11.F_law, KX, hb, fun H a ns hl _ hS => VL.law_sp (fun ns R X hl q => ⟨ns, rfl, rfl, hl, q⟩) hl hS, hF⟩

