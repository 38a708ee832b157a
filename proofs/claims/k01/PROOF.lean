import PyProof.Rows.All
import Wide.All
import OpenK.AllK
import Wide.FinOn
import HandS.ForMost
import HandS.ForExc
import HandS.TryMany
import HandS.Wide
import HandS.TupAny
import HandS.IsInst
import HandS.CallSlots
import HandS.Defaults
import HandS.Zip
import HandS.Steps
import HandS.Head0
import HandS.Head1
import HandS.Head2
import HandS.HeadEnd
import HandS.HeadHook1
import HandS.HeadHook2
import HandS.Deep
import PySem.Challenge.RW_proofshare_k01_terms_counted
set_option Elab.async false
set_option linter.all false
set_option maxRecDepth 100000
set_option maxHeartbeats 0
section
namespace Mz
open PySem PySem.Spec PyProof.Rows L2

/-! ### values, cells, results -/
inductive W where
  | non
  | bl (b : Bool)
  | int (i : Int)
  | str (s : Str)
  | tup (ws : List W)
  | lst (ws : List W)
  | scr (ws : List W)
  | dct (ks : List Key) (ws : List W)
  | ref (i : Nat)
inductive Cell where
  | lst (ws : List W)
  | dk (ks : List Key) (ws : List W)
  | dead
abbrev Sto := List Cell
/-- an exception: its class's name, its fields -/
structure Exn where
  cls : Str
  fs : List (Str × W)
inductive Res (α : Type) where
  | ok (a : α) (st : Sto)
  | err (x : Exn) (st : Sto)
  | stuck
def Res.bind {α β : Type} (r : Res α) (k : α → Sto → Res β) : Res β := match r with
  | .ok a st => k a st
  | .err x st => .err x st
  | .stuck => .stuck
abbrev Rho := List (Option W)
abbrev lim : Nat := 16777216

section
variable (K : PySem.W.Frag) (F : Hp) (as : List Addr)
mutual
inductive Rep : V → W → Prop
  | non : Rep .non .non
  | bl (b : Bool) : Rep (.bl b) (.bl b)
  | int (i : Int) : Rep (.int i) (.int i)
  | str (s : Str) : Rep (.str s) (.str s)
  | tup {a : Addr} {vs : List V} {ws : List W} : SqT K F a vs → RepL vs ws → Rep (.ref a) (.tup ws)
  | lst {a : Addr} {vs : List V} {ws : List W} : F a = some (.lst vs) → RepL vs ws → Rep (.ref a) (.lst ws)
  | scr {a : Addr} {vs : List V} {ws : List W} : SqL K F a vs → RepL vs ws → Rep (.ref a) (.scr ws)
  | dct {a : Addr} {kvs : List (Key × V)} {ks : List Key} {ws : List W} : Rd F a (.dK kvs) → kvs.map (·.1) = ks → RepL (kvs.map (·.2)) ws → Rep (.ref a) (.dct ks ws)
  | ref {a : Addr} {i : Nat} : as[i]? = some a → Rep (.ref a) (.ref i)
inductive RepL : List V → List W → Prop
  | nil : RepL [] []
  | cons {v : V} {w : W} {vs : List V} {ws : List W} : Rep v w → RepL vs ws → RepL (v :: vs) (w :: ws)
end
end
/-- the frozen part grows -/
def Ex (F F' : Hp) : Prop := ∀ a o, F a = some o → F' a = some o
theorem Ex.refl (F : Hp) : Ex F F := fun _ _ h => h
theorem Ex.trans {F F1 F2 : Hp} (a : Ex F F1) (b : Ex F1 F2) : Ex F F2 := fun x o h => b x o (a x o h)
theorem Ex.new {F : Hp} {p : Addr} {o : HO} (h : F p = none) : Ex F (upd F p o) := fun a u e => by
  rw [upd_ne (ne_of_none e h)]; exact e
theorem Ex.rd {F F' : Hp} {a : Addr} {u : HO} (e : Ex F F') (h : Rd F a u) : Rd F' a u := by
  rcases h with h | ⟨o, h⟩
  · exact .inl (e _ _ h)
  · exact .inr ⟨o, e _ _ h⟩
theorem Ex.sqt {K : PySem.W.Frag} {F F' : Hp} {a : Addr} {xs : List V} (e : Ex F F') (h : SqT K F a xs) : SqT K F' a xs := by
  rcases h with h | h
  · exact .inl (e.rd h)
  · exact .inr h
theorem Ex.sql {K : PySem.W.Frag} {F F' : Hp} {a : Addr} {xs : List V} (e : Ex F F') (h : SqL K F a xs) : SqL K F' a xs := by
  rcases h with h | h
  · exact .inl (e.rd h)
  · exact .inr h
def Pre (as as' : List Addr) : Prop := ∀ (i : Nat) (a : Addr), as[i]? = some a → as'[i]? = some a
theorem Pre.refl (as : List Addr) : Pre as as := fun _ _ h => h
theorem Pre.trans {a b c : List Addr} (h : Pre a b) (k : Pre b c) : Pre a c := fun i x e => k i x (h i x e)
theorem Pre.snoc (as : List Addr) (p : Addr) : Pre as (as ++ [p]) := fun i a h => by
  have hl : i < as.length := by
    rcases Nat.lt_or_ge i as.length with h1 | h1
    · exact h1
    · rw [List.getElem?_eq_none h1] at h; cases h
  rw [List.getElem?_append_left hl]; exact h
section
variable {K : PySem.W.Frag} {F F' : Hp} {as as' : List Addr}
mutual
theorem Rep.mono (e : Ex F F') (p : Pre as as') : ∀ {w : W} {v : V}, Rep K F as v w → Rep K F' as' v w
  | _, _, .non => .non
  | _, _, .bl b => .bl b
  | _, _, .int i => .int i
  | _, _, .str s => .str s
  | _, _, .tup h l => .tup (e.sqt h) (RepL.mono e p l)
  | _, _, .lst h l => .lst (e _ _ h) (RepL.mono e p l)
  | _, _, .scr h l => .scr (e.sql h) (RepL.mono e p l)
  | _, _, .dct h k l => .dct (e.rd h) k (RepL.mono e p l)
  | _, _, .ref h => .ref (p _ _ h)
theorem RepL.mono (e : Ex F F') (p : Pre as as') : ∀ {ws : List W} {vs : List V}, RepL K F as vs ws → RepL K F' as' vs ws
  | _, _, .nil => .nil
  | _, _, .cons h l => .cons (Rep.mono e p h) (RepL.mono e p l)
end
theorem RepL.length : ∀ {ws : List W} {vs : List V}, RepL K F as vs ws → vs.length = ws.length
  | _, _, .nil => rfl
  | _, _, .cons _ l => by rw [List.length_cons, List.length_cons, RepL.length l]
theorem RepL.get : ∀ {ws : List W} {vs : List V} {i : Nat} {w : W}, RepL K F as vs ws → ws[i]? = some w → ∃ v, vs[i]? = some v ∧ Rep K F as v w
  | _, _, _, _, .nil, h => by simp at h
  | _, _, 0, _, .cons h _, e => by simp at e; subst e; exact ⟨_, rfl, h⟩
  | _, _, i + 1, w, .cons _ l, e => by
    obtain ⟨v, h1, h2⟩ := RepL.get (i := i) (w := w) l (by simpa using e)
    exact ⟨v, by simpa using h1, h2⟩
theorem RepL.get' : ∀ {ws : List W} {vs : List V} {i : Nat} {v : V}, RepL K F as vs ws → vs[i]? = some v → ∃ w, ws[i]? = some w ∧ Rep K F as v w
  | _, _, _, _, .nil, h => by simp at h
  | _, _, 0, _, .cons h _, e => by simp at e; subst e; exact ⟨_, rfl, h⟩
  | _, _, i + 1, w, .cons _ l, e => by
    obtain ⟨v, h1, h2⟩ := RepL.get' (i := i) (v := w) l (by simpa using e)
    exact ⟨v, by simpa using h1, h2⟩
theorem RepL.append : ∀ {ws ws' : List W} {vs vs' : List V}, RepL K F as vs ws → RepL K F as vs' ws' → RepL K F as (vs ++ vs') (ws ++ ws')
  | _, _, _, _, .nil, h => h
  | _, _, _, _, .cons h l, k => .cons h (RepL.append l k)
theorem RepL.take : ∀ {ws : List W} {vs : List V} (n : Nat), RepL K F as vs ws → RepL K F as (vs.take n) (ws.take n)
  | _, _, 0, _ => .nil
  | _, _, _ + 1, .nil => .nil
  | _, _, n + 1, .cons h l => .cons h (RepL.take n l)
theorem RepL.drop : ∀ {ws : List W} {vs : List V} (n : Nat), RepL K F as vs ws → RepL K F as (vs.drop n) (ws.drop n)
  | _, _, 0, h => h
  | _, _, _ + 1, .nil => .nil
  | _, _, n + 1, .cons _ l => RepL.drop n l
theorem RepL.set {v : V} {w : W} (r : Rep K F as v w) : ∀ {ws : List W} {vs : List V} (i : Nat), RepL K F as vs ws → RepL K F as (vs.set i v) (ws.set i w)
  | _, _, _, .nil => .nil
  | _, _, 0, .cons _ l => .cons r l
  | _, _, i + 1, .cons h l => .cons h (RepL.set r i l)
theorem RepL.dropLast : ∀ {ws : List W} {vs : List V}, RepL K F as vs ws → RepL K F as vs.dropLast ws.dropLast
  | _, _, .nil => .nil
  | _, _, .cons _ .nil => .nil
  | _, _, .cons h (.cons h2 l) => by
    have q := RepL.dropLast (.cons h2 l)
    simpa [List.dropLast] using RepL.cons h q
theorem RepL.rev : ∀ {ws : List W} {vs : List V}, RepL K F as vs ws → RepL K F as vs.reverse ws.reverse
  | _, _, .nil => .nil
  | _, _, .cons h l => by
    rw [List.reverse_cons, List.reverse_cons]
    exact RepL.append (RepL.rev l) (.cons h .nil)
theorem RepL.single {v : V} {w : W} (h : Rep K F as v w) : RepL K F as [v] [w] := .cons h .nil
theorem RepL.rep {v : V} {w : W} (h : Rep K F as v w) : ∀ n, RepL K F as (List.replicate n v) (List.replicate n w)
  | 0 => .nil
  | n + 1 => .cons h (RepL.rep h n)
theorem RepL.reps {vs : List V} {ws : List W} (h : RepL K F as vs ws) : ∀ n, RepL K F as (List.replicate n vs).flatten (List.replicate n ws).flatten
  | 0 => .nil
  | n + 1 => by
    rw [List.replicate_succ, List.replicate_succ, List.flatten_cons, List.flatten_cons]
    exact RepL.append h (RepL.reps h n)
end
/-! ### the state -/
def CellOk (K : PySem.W.Frag) (F H : Hp) (as : List Addr) (a : Addr) : Cell → Prop
  | .lst ws => ∃ vs, H a = some (.lst vs) ∧ RepL K F as vs ws
  | .dk ks ws => ∃ kvs : List (Key × V), H a = some (.dK kvs) ∧ kvs.map (·.1) = ks ∧ RepL K F as (kvs.map (·.2)) ws
  | .dead => ∃ o, H a = some o
structure Sat (K : PySem.W.Frag) (Pr F H : Hp) (as : List Addr) (st : Sto) : Prop where
  ext : Ex F H
  len : as.length = st.length
  inj : ∀ (i j : Nat) (a : Addr), as[i]? = some a → as[j]? = some a → i = j
  out : ∀ (i : Nat) (a : Addr), as[i]? = some a → st[i]? ≠ some .dead → F a = none
  cel : ∀ (i : Nat) (a : Addr) (c : Cell), as[i]? = some a → st[i]? = some c → CellOk K F H as a c
  prv : ∀ (a : Addr) (o : HO), Pr a = some o → H a = some o ∧ F a = none ∧ ∀ i : Nat, as[i]? ≠ some a
section
variable {K : PySem.W.Frag} {Pr F F' H : Hp} {as as' : List Addr} {st : Sto} {a p : Addr} {c : Cell} {o : HO}
theorem CellOk.there (h : CellOk K F H as a c) : ∃ o, H a = some o := by
  cases c with
  | lst ws => obtain ⟨vs, h, _⟩ := h; exact ⟨_, h⟩
  | dk ks ws => obtain ⟨vs, h, _⟩ := h; exact ⟨_, h⟩
  | dead => exact h
theorem CellOk.mono {H' : Hp} (h : CellOk K F H as a c) (hs : H' a = H a) (e : Ex F F') (p : Pre as as') : CellOk K F' H' as' a c := by
  cases c with
  | lst ws => obtain ⟨vs, h, l⟩ := h; exact ⟨vs, hs.trans h, l.mono e p⟩
  | dk ks ws => obtain ⟨vs, h, k, l⟩ := h; exact ⟨vs, hs.trans h, k, l.mono e p⟩
  | dead => obtain ⟨o, h⟩ := h; exact ⟨o, hs.trans h⟩
theorem Sat.at {i : Nat} (S : Sat K Pr F H as st) (h : st[i]? = some c) : ∃ a, as[i]? = some a := by
  have hl : i < st.length := by
    rcases Nat.lt_or_ge i st.length with h1 | h1
    · exact h1
    · rw [List.getElem?_eq_none h1] at h; cases h
  rw [← S.len] at hl
  exact ⟨_, List.getElem?_eq_getElem hl⟩
theorem Sat.at' {i : Nat} (S : Sat K Pr F H as st) (h : as[i]? = some a) : ∃ c, st[i]? = some c := by
  have hl : i < as.length := by
    rcases Nat.lt_or_ge i as.length with h1 | h1
    · exact h1
    · rw [List.getElem?_eq_none h1] at h; cases h
  rw [S.len] at hl
  exact ⟨_, List.getElem?_eq_getElem hl⟩
theorem Sat.ne {i : Nat} (S : Sat K Pr F H as st) (h : as[i]? = some a) (hp : H p = none) : a ≠ p := by
  obtain ⟨c, hc⟩ := S.at' h
  obtain ⟨o, ho⟩ := (S.cel i a c h hc).there
  exact ne_of_none ho hp
/-- a new frozen object -/
theorem Sat.froz (S : Sat K Pr F H as st) (hp : H p = none) : Sat K Pr (upd F p o) (upd H p o) as st ∧ Ex F (upd F p o) := by
  have fp : F p = none := by
    cases e : F p with
    | none => rfl
    | some u => rw [S.ext _ _ e] at hp; cases hp
  have ex : Ex F (upd F p o) := Ex.new fp
  refine ⟨⟨fun a u e => ?_, S.len, S.inj, fun i a h hd => ?_, fun i a c h hc => ?_, fun a u e => ?_⟩, ex⟩
  · by_cases q : a = p
    · subst q; rw [upd_same] at e ⊢; exact e
    · rw [upd_ne q] at e ⊢; exact S.ext _ _ e
  · rw [upd_ne (S.ne h hp)]; exact S.out i a h hd
  · exact (S.cel i a c h hc).mono (upd_ne (S.ne h hp)) ex (Pre.refl _)
  · obtain ⟨h1, h2, h3⟩ := S.prv a u e
    have q : a ≠ p := ne_of_none h1 hp
    exact ⟨by rw [upd_ne q]; exact h1, by rw [upd_ne q]; exact h2, h3⟩
theorem Sat.fresh (S : Sat K Pr F H as st) (hp : H p = none) : F p = none := by
  cases e : F p with
  | none => rfl
  | some u => rw [S.ext _ _ e] at hp; cases hp
/-- a new cell -/
theorem Sat.cell (S : Sat K Pr F H as st) (hp : H p = none) (hc : CellOk K F (upd H p o) (as ++ [p]) p c) : Sat K Pr F (upd H p o) (as ++ [p]) (st ++ [c]) ∧ Pre as (as ++ [p]) ∧ (as ++ [p])[st.length]? = some p := by
  have pr := Pre.snoc as p
  have last : (as ++ [p])[st.length]? = some p := by
    rw [← S.len, List.getElem?_append_right (Nat.le_refl _), Nat.sub_self]; rfl
  have cases' : ∀ (i : Nat) (a : Addr), (as ++ [p])[i]? = some a → as[i]? = some a ∨ (i = st.length ∧ a = p) := fun i a h => by
    rcases Nat.lt_trichotomy i as.length with h1 | h1 | h1
    · rw [List.getElem?_append_left h1] at h; exact .inl h
    · subst h1
      rw [S.len, last] at h
      exact .inr ⟨S.len, (Option.some.inj h).symm⟩
    · rw [List.getElem?_eq_none (by rw [List.length_append, List.length_singleton]; omega)] at h; cases h
  refine ⟨⟨fun a u e => ?_, ?_, fun i j a hi hj => ?_, fun i a h hd => ?_, fun i a c' h hc' => ?_, fun a u e => ?_⟩, pr, last⟩
  · rw [upd_ne (ne_of_none (S.ext _ _ e) hp)]; exact S.ext _ _ e
  · rw [List.length_append, List.length_append, S.len]; rfl
  · rcases cases' i a hi with h1 | ⟨h1, h2⟩ <;> rcases cases' j a hj with k1 | ⟨k1, k2⟩
    · exact S.inj i j a h1 k1
    · exact absurd k2 (S.ne h1 hp)
    · exact absurd h2 (S.ne k1 hp)
    · omega
  · rcases cases' i a h with h1 | ⟨h1, h2⟩
    · refine S.out i a h1 fun z => hd ?_
      have hl : i < st.length := by
        rcases Nat.lt_or_ge i st.length with h1' | h1'
        · exact h1'
        · rw [List.getElem?_eq_none h1'] at z; cases z
      rw [List.getElem?_append_left hl]; exact z
    · subst h2; exact S.fresh hp
  · rcases cases' i a h with h1 | ⟨h1, h2⟩
    · have hl : i < st.length := by
        rw [← S.len]
        rcases Nat.lt_or_ge i as.length with h1' | h1'
        · exact h1'
        · rw [List.getElem?_eq_none h1'] at h1; cases h1
      rw [List.getElem?_append_left hl] at hc'
      exact (S.cel i a c' h1 hc').mono (upd_ne (S.ne h1 hp)) (Ex.refl _) pr
    · subst h1; subst h2
      rw [List.getElem?_append_right (Nat.le_refl _), Nat.sub_self] at hc'
      have e : c = c' := Option.some.inj hc'
      subst e
      exact hc
  · obtain ⟨h1, h2, h3⟩ := S.prv a u e
    have q : a ≠ p := ne_of_none h1 hp
    refine ⟨by rw [upd_ne q]; exact h1, h2, fun i h => ?_⟩
    rcases cases' i a h with k | ⟨_, k⟩
    · exact h3 i k
    · exact q k
/-- a cell is written -/
theorem Sat.write {i : Nat} {c0 : Cell} (S : Sat K Pr F H as st) (ha : as[i]? = some a) (h0 : st[i]? = some c0) (hd0 : c0 ≠ .dead) (hc : CellOk K F (upd H a o) as a c) : Sat K Pr F (upd H a o) as (st.set i c) := by
  have fa : F a = none := S.out i a ha fun z => hd0 (Option.some.inj (h0.symm.trans z))
  refine ⟨fun b u e => ?_, ?_, S.inj, fun j b h hd => ?_, fun j b c' h hc' => ?_, fun b u e => ?_⟩
  · have : b ≠ a := fun q => by subst q; rw [fa] at e; cases e
    rw [upd_ne this]; exact S.ext _ _ e
  · rw [List.length_set]; exact S.len
  · by_cases q : j = i
    · subst q
      have e : a = b := Option.some.inj (ha.symm.trans h)
      subst e; exact fa
    · rw [List.getElem?_set_ne (fun z => q z.symm)] at hd
      exact S.out j b h hd
  · by_cases q : j = i
    · subst q
      have e : a = b := Option.some.inj (ha.symm.trans h)
      subst e
      have hl : j < st.length := by
        rw [← S.len]
        rcases Nat.lt_or_ge j as.length with h1' | h1'
        · exact h1'
        · rw [List.getElem?_eq_none h1'] at h; cases h
      rw [List.getElem?_set_self hl] at hc'
      have e2 : c = c' := Option.some.inj hc'
      subst e2
      exact hc
    · rw [List.getElem?_set_ne (fun z => q z.symm)] at hc'
      have nb : b ≠ a := fun z => q (S.inj j i b h (by rw [z]; exact ha))
      exact (S.cel j b c' h hc').mono (upd_ne nb) (Ex.refl _) (Pre.refl _)
  · obtain ⟨h1, h2, h3⟩ := S.prv b u e
    exact ⟨by rw [upd_ne (fun z => h3 i (by rw [z]; exact ha))]; exact h1, h2, h3⟩
end
section
variable {K : PySem.W.Frag} {Pr F H : Hp} {as : List Addr} {st : Sto} {a : Addr}
/-- a cell is written no more: its object is frozen, the cell is dead -/
theorem Sat.rest {i : Nat} {c0 : Cell} {o : HO} (S : Sat K Pr F H as st) (ha : as[i]? = some a) (h0 : st[i]? = some c0) (hd0 : c0 ≠ .dead) (ho : H a = some o) : Sat K Pr (upd F a o) H as (st.set i .dead) ∧ Ex F (upd F a o) := by
  have fa : F a = none := S.out i a ha fun z => hd0 (Option.some.inj (h0.symm.trans z))
  have ex : Ex F (upd F a o) := Ex.new fa
  have hl : i < st.length := by
    rcases Nat.lt_or_ge i st.length with h1' | h1'
    · exact h1'
    · rw [List.getElem?_eq_none h1'] at h0; cases h0
  refine ⟨⟨fun b u e => ?_, ?_, S.inj, fun j b h hd => ?_, fun j b c' h hc' => ?_, fun b u e => ?_⟩, ex⟩
  · by_cases q : b = a
    · subst q; rw [upd_same] at e; rw [ho]; exact e
    · rw [upd_ne q] at e; exact S.ext _ _ e
  · rw [List.length_set]; exact S.len
  · by_cases q : j = i
    · subst q
      rw [List.getElem?_set_self hl] at hd
      exact absurd rfl hd
    · rw [List.getElem?_set_ne (fun z => q z.symm)] at hd
      rw [upd_ne (fun z => q (S.inj j i b h (by rw [z]; exact ha)))]
      exact S.out j b h hd
  · by_cases q : j = i
    · subst q
      rw [List.getElem?_set_self hl] at hc'
      have e : a = b := Option.some.inj (ha.symm.trans h)
      subst e
      have e2 : Cell.dead = c' := Option.some.inj hc'
      subst e2
      exact ⟨o, ho⟩
    · rw [List.getElem?_set_ne (fun z => q z.symm)] at hc'
      exact (S.cel j b c' h hc').mono rfl ex (Pre.refl _)
  · obtain ⟨h1, h2, h3⟩ := S.prv b u e
    exact ⟨h1, by rw [upd_ne (fun z => h3 i (by rw [z]; exact ha))]; exact h2, h3⟩
end
/-! ### slots -/
structure Slots (K : PySem.W.Frag) (F : Hp) (as : List Addr) (σ : L2.St) (ρ : Rho) : Prop where
  len : ρ.length = σ.length
  get : ∀ (i : Nat) (w : W), ρ[i]? = some (some w) → ∃ v, σ[i]? = some (some v) ∧ Rep K F as v w
section
variable {K : PySem.W.Frag} {F F' H : Hp} {as as' : List Addr} {σ : L2.St} {ρ : Rho}
theorem Slots.mono (h : Slots K F as σ ρ) (e : Ex F F') (p : Pre as as') : Slots K F' as' σ ρ :=
  ⟨h.len, fun i w q => by obtain ⟨v, h1, h2⟩ := h.get i w q; exact ⟨v, h1, h2.mono e p⟩⟩
theorem Slots.set {i : Nat} {v : V} {w : W} (h : Slots K F as σ ρ) (r : Rep K F as v w) : Slots K F as (σ.set i (some v)) (ρ.set i (some w)) := by
  refine ⟨by rw [List.length_set, List.length_set]; exact h.len, fun j x q => ?_⟩
  by_cases e : i = j
  · subst e
    by_cases hl : i < ρ.length
    · rw [List.getElem?_set_self hl] at q
      have e2 : w = x := Option.some.inj (Option.some.inj q)
      subst e2
      exact ⟨v, List.getElem?_set_self (h.len ▸ hl), r⟩
    · rw [List.getElem?_eq_none (by rw [List.length_set]; omega)] at q; cases q
  · rw [List.getElem?_set_ne e] at q
    rw [List.getElem?_set_ne e]
    exact h.get j x q
theorem Slots.unset {i : Nat} (h : Slots K F as σ ρ) : Slots K F as (σ.set i none) (ρ.set i none) := by
  refine ⟨by rw [List.length_set, List.length_set]; exact h.len, fun j x q => ?_⟩
  by_cases e : i = j
  · subst e
    by_cases hl : i < ρ.length
    · rw [List.getElem?_set_self hl] at q; cases (Option.some.inj q)
    · rw [List.getElem?_eq_none (by rw [List.length_set]; omega)] at q; cases q
  · rw [List.getElem?_set_ne e] at q
    rw [List.getElem?_set_ne e]
    exact h.get j x q
end
/-! ### ends -/
abbrev WH := Value → Option Addr → Hp → Prop
/-- what a made exception is: class by name, fields -/
def ExOk (K : PySem.W.Frag) (F H : Hp) (as : List Addr) (cls : Value) (d : Option Addr) (x : Exn) : Prop :=
  cls = .ref (He.ga K x.cls) ∧ ((x.fs = [] ∧ d = none) ∨ ∃ dd vs, d = some dd ∧ H dd = some (.xd vs) ∧ vs.map (·.1) = x.fs.map (·.1) ∧ RepL K F as (vs.map (·.2)) (x.fs.map (·.2)))
def Post {α β : Type} (K : PySem.W.Frag) (Pr : Hp) (R : Hp → Hp → List Addr → β → α → Prop) (Wh : WH) (F : Hp) (as : List Addr) (Q : β → Hp → Prop) : Res α → Prop
  | .stuck => False
  | .ok a st => ∀ b H' F' as', Ex F F' → Pre as as' → Sat K Pr F' H' as' st → R F' H' as' b a → Q b H'
  | .err x st => ∀ cls d H' F' as', Ex F F' → Pre as as' → Sat K Pr F' H' as' st → ExOk K F' H' as' cls d x → Wh cls d H'
abbrev RV (K : PySem.W.Frag) : Hp → Hp → List Addr → V → W → Prop := fun F _ as v w => Rep K F as v w
abbrev RVs (K : PySem.W.Frag) : Hp → Hp → List Addr → List V → List W → Prop := fun F _ as v w => RepL K F as v w
abbrev RB : Hp → Hp → List Addr → Bool → Bool → Prop := fun _ _ _ b c => b = c
/-- a fresh list: neither frozen nor a cell -/
def RF (K : PySem.W.Frag) (Pr : Hp) : Hp → Hp → List Addr → V → List W → Prop := fun F H as v ws => ∃ p vs, v = .ref p ∧ Pr p = none ∧ F p = none ∧ (∀ i : Nat, as[i]? ≠ some p) ∧ H p = some (.lst vs) ∧ RepL K F as vs ws
section
variable {K : PySem.W.Frag} {Pr F F' H : Hp} {as as' : List Addr} {Wh : WH}
theorem Post.mono {α β : Type} {R : Hp → Hp → List Addr → β → α → Prop} {Q : β → Hp → Prop} {r : Res α} (h : Post K Pr R Wh F as Q r) (e : Ex F F') (p : Pre as as') : Post K Pr R Wh F' as' Q r := by
  cases r with
  | stuck => exact h
  | ok a st => exact fun b H' F2 as2 e2 p2 S r => h b H' F2 as2 (e.trans e2) (p.trans p2) S r
  | err x st => exact fun c d H' F2 as2 e2 p2 S r => h c d H' F2 as2 (e.trans e2) (p.trans p2) S r
/-- the first of two: what it must reach -/
theorem Post.bind {α β γ δ : Type} {R : Hp → Hp → List Addr → β → α → Prop} {R' : Hp → Hp → List Addr → δ → γ → Prop} {Q : δ → Hp → Prop} {Q1 : β → Hp → Prop} {r : Res α} {k : α → Sto → Res γ}
    (h : Post K Pr R' Wh F as Q (r.bind k))
    (hk : ∀ a st1 b H1 F1 as1, r = .ok a st1 → Ex F F1 → Pre as as1 → Sat K Pr F1 H1 as1 st1 → R F1 H1 as1 b a → Post K Pr R' Wh F1 as1 Q (k a st1) → Q1 b H1) : Post K Pr R Wh F as Q1 r := by
  cases r with
  | stuck => exact h
  | err x st => exact h
  | ok a st => exact fun b H1 F1 as1 e p S rr => hk a st b H1 F1 as1 rfl e p S rr (Post.mono (r := k a st) h e p)
end
end Mz
end
section
namespace Mz
open PySem PySem.Spec PyProof.Rows L2

/-! ### the small language -/
inductive BO where
  | add | sub | mul | fdiv | mod | pow
inductive CO where
  | eq | ne | lt | le | gt | ge | isN | notN | isin | notin
mutual
inductive E where
  | var (i : Nat) | int (i : Int) | str (s : Str) | bl (b : Bool) | non
  | gint (x : Str) (i : Int) | gstr (x : Str) (s : Str)
  | bin (op : BO) (a b : E) | neg (a : E)
  | cmp (op : CO) (a b : E)
  | chain (op op' : CO) (a b c : E)
  | andE (es : List E) | orE (es : List E)
  | not (a : E)
  | ite (c a b : E)
  | tup (es : List E)
  | frz (l : L) | new (l : L)
  | ix (a i : E)
  | sl (a : E) (lo hi : Option E)
  | call (f : Nat) (es : List E)
  | len (a : E) | sum (a : E) | intof (a : E) | strof (a : E) | min2 (a b : E) | max2 (a b : E)
  | isi (a : E) (t : String)
  | join (s a : E)
  | get (d k x : E)
  | tupof (a : E)
  | dictof (a : E)
  | popE (a : E)
  | app (o a : E)
  | ext (o a : E)
  | frzE (a : E)
  | nev
inductive L where
  | disp (es : List E)
  | lc (vs : List (Str × Nat)) (tg : List Nat) (single : Bool) (it : It) (cond : List E) (elt : E)
  | cat (a b : E)
  | ofE (a : E)
  | sorted (a : E)
  | sl (a : E) (lo hi : Option E)
  | rep (a n : E)
inductive It where
  | seq (a : E) | range1 (a : E) | range2 (a b : E) | range3 (a b c : E) | enum (a : E) | zip (a b : E)
end
/-- targets: names by slots -/
inductive Tg where
  | name (i : Nat)
  | tup (is : List Nat)
/-! ### values -/
mutual
def okD : W → Bool
  | .non | .bl _ | .int _ => true
  | .str _ => true
  | .tup ws | .lst ws => okDs ws
  | .scr _ | .dct _ _ | .ref _ => false
def okDs : List W → Bool
  | [] => true
  | w :: ws => okD w && okDs ws
end
mutual
def toD : W → PyData
  | .non => .none
  | .bl b => .bool b
  | .int i => .int i
  | .str s => .str s
  | .tup ws => .tuple (toDs ws)
  | .lst ws => .list (toDs ws)
  | .scr _ | .dct _ _ | .ref _ => .none
def toDs : List W → List PyData
  | [] => []
  | w :: ws => toD w :: toDs ws
end
/-- a reference to a list read as the list -/
def deref (st : Sto) : W → W
  | .ref i => match st[i]? with
    | some (.lst ws) => .lst ws
    | _ => .ref i
  | w => w
def listOf (st : Sto) (w : W) : Option (List W) := match deref st w with
  | .lst ws => some ws
  | _ => none
def seqOf (st : Sto) (w : W) : Option (List W) := match deref st w with
  | .lst ws => some ws
  | .tup ws => some ws
  | _ => none
def flatW : W → Bool
  | .non | .bl _ | .int _ | .str _ => true
  | _ => false
def ret {α : Type} (st : Sto) : Option α → Res α
  | some a => .ok a st
  | none => .stuck
def guardR {α : Type} (c : Bool) (r : Res α) : Res α := if c = true then r else .stuck
/-- == of data -/
def eqvW (st : Sto) (a b : W) : Option Bool :=
  let a := deref st a
  let b := deref st b
  if (okD a && okD b && (toD a).canLay0 && (toD b).canLay0 && decide (min (toD a).depth (toD b).depth ≤ 400)) = true then some (PyData.eqv (toD a) (toD b)) else none
def binW (st : Sto) : BO → W → W → Option W
  | .add, .int i, .int j => some (.int (i + j))
  | .add, .str x, .str y => if x.length + y.length ≤ lim then some (.str (x ++ y)) else none
  | .add, .tup x, .tup y => if x.length + y.length ≤ lim then some (.tup (x ++ y)) else none
  | .sub, .int i, .int j => some (.int (i - j))
  | .mul, .int i, .int j => if ((-(2 ^ 64) < i ∧ i < 2 ^ 64) ∨ (-(2 ^ 64) < j ∧ j < 2 ^ 64)) then some (.int (i * j)) else none
  | .mul, .str x, .int n => if 2 ≤ n ∧ n ≤ 1000 ∧ x.length ≤ 1000 then some (.str (Txt.mul x n)) else none
  | .fdiv, .int i, .int j => if 0 < j ∧ j < 2 ^ 62 then some (.int (i / j)) else none
  | .mod, .int i, .int j => if 0 < j then some (.int (i % j)) else none
  | .pow, .int i, .int j => if 0 ≤ j ∧ j ≤ 1000000 ∧ i.natAbs < 2 ^ 64 then some (.int (i ^ j.toNat)) else none
  | _, _, _ => none
/-- x in s -/
def inW (st : Sto) (x s : W) : Option Bool :=
  match deref st s with
  | .tup ws => if (flatW x && ws.all flatW) = true then some (ws.any fun w => PyData.eqv (toD w) (toD x)) else none
  | .lst ws => if (flatW x && ws.all flatW) = true then some (ws.any fun w => PyData.eqv (toD w) (toD x)) else
      if (okD x && okDs ws && (toD x).canLay0 && PyData.canLayAll0 (toDs ws) && decide ((toD x).depth ≤ 60) && decide (PyData.depthAll (toDs ws) ≤ 60)) = true then some (ws.any fun w => PyData.eqv (toD w) (toD x)) else none
  | .str z => match x with
    | .str c => match c.cps.toList with
      | [k] => some (decide (k ∈ z.cps.toList))
      | _ => none
    | _ => none
  | _ => none
def cmpW (st : Sto) : CO → W → W → Option Bool
  | .eq, x, y => eqvW st x y
  | .ne, x, y => (eqvW st x y).map (! ·)
  | .lt, .int i, .int j => some (decide (i < j))
  | .le, .int i, .int j => some (decide (i ≤ j))
  | .gt, .int i, .int j => some (decide (j < i))
  | .ge, .int i, .int j => some (decide (j ≤ i))
  | .le, .str x, .str y => some (!decide (y.cps.toList < x.cps.toList))
  | .isN, x, .non => some (match x with | .non => true | _ => false)
  | .notN, x, .non => some (match x with | .non => false | _ => true)
  | .isin, x, y => inW st x y
  | .notin, x, y => (inW st x y).map (! ·)
  | _, _, _ => none
/-- a place by an index of any sign -/
def ixW (st : Sto) (a i : W) : Option W := match i with
  | .int i => match deref st a with
    | .tup ws => atI ws i
    | .lst ws => atI ws i
    | .scr ws => atI ws i
    | .str z => if z.length ≤ lim then (atI z.cps.toList i).map fun c => .str ⟨#[c]⟩ else none
    | _ => none
  | _ => none
def cutL {α : Type} (xs : List α) (lo hi : Option Int) : List α := (xs.drop (HT.sIx xs.length 0 lo)).take (HT.sIx xs.length xs.length hi - HT.sIx xs.length 0 lo)
def lenW (st : Sto) (a : W) : Option Nat := match deref st a with
  | .tup ws => some ws.length
  | .lst ws => some ws.length
  | .scr ws => some ws.length
  | .str z => if z.length ≤ lim then some z.length else none
  | _ => none
def intsOf : List W → Option (List Int)
  | [] => some []
  | .int i :: r => (intsOf r).map (i :: ·)
  | _ => none
def strsOf : List W → Option (List Str)
  | [] => some []
  | .str i :: r => (strsOf r).map (i :: ·)
  | _ => none
def pairsOf : List W → Option (List (Str × W))
  | [] => some []
  | .tup [.str k, v] :: r => (pairsOf r).map ((k, v) :: ·)
  | _ => none
def typW (st : Sto) : W → Option String
  | .non => some "NoneType"
  | .bl _ => some "bool"
  | .int _ => some "int"
  | .str _ => some "str"
  | .tup _ => some "tuple"
  | .lst _ | .scr _ => some "list"
  | .dct _ _ => some "dict"
  | .ref i => match st[i]? with
    | some (.lst _) => some "list"
    | some (.dk _ _) => some "dict"
    | _ => none
/-- sorted of texts: insertion -/
def insS (x : Str) : List Str → List Str
  | [] => [x]
  | y :: r => if Spec.ltCps y.cps.toList x.cps.toList = true then y :: insS x r else x :: y :: r
def sortS : List Str → List Str
  | [] => []
  | x :: r => insS x (sortS r)
def getK : List Key → List W → Key → Option W
  | k :: ks, w :: ws, x => if k = x then some w else getK ks ws x
  | _, _, _ => none
def keyW : W → Option Key
  | .int i => some (.inl i)
  | .str s => some (.inr s)
  | _ => none
def dictOf (st : Sto) : W → Option (List Key × List W)
  | .dct ks ws => some (ks, ws)
  | .ref i => match st[i]? with
    | some (.dk ks ws) => some (ks, ws)
    | _ => none
  | _ => none
def wipeR (ρ : Rho) : List Nat → Rho
  | [] => ρ
  | v :: vs => (wipeR ρ vs).set v none
def setAll : List Nat → List W → Rho → Option Rho
  | [], [], ρ => some ρ
  | i :: is, w :: ws, ρ => setAll is ws (ρ.set i (some w))
  | _, _, _ => none
def setTg (tg : List Nat) (single : Bool) (w : W) (ρ : Rho) : Option Rho :=
  match single, tg, w with
  | true, [i], w => some (ρ.set i (some w))
  | false, is, .tup ws => setAll is ws ρ
  | _, _, _ => none
def Res.noerr {α : Type} : Res α → Res α
  | .ok a st => .ok a st
  | _ => .stuck
def lcGo (f : W → Sto → Res (Option W)) : List W → Sto → Res (List W)
  | [], st => .ok [] st
  | w :: ws, st => (f w st).bind fun o st1 => (lcGo f ws st1).bind fun r st2 => .ok (o.toList ++ r) st2
def rangeL (lo : Int) (n : Nat) : List W := (List.range n).map fun i => .int (lo + (i : Nat))
def intW : W → Option Int
  | .int n => some n
  | _ => none
def smallI (i : Int) : Bool := decide (-4611686018427387904 ≤ i) && decide (i < 4611686018427387904)
/-! ### the evaluator -/
section
variable (cl : Nat → List W → Sto → Res W)
def andW (r : Res W) (k : Sto → Res W) : Res W := r.bind fun x st => match x with
  | .bl true => k st
  | .bl false => .ok (.bl false) st
  | _ => .stuck
def orW (r : Res W) (k : Sto → Res W) : Res W := r.bind fun x st => match x with
  | .bl false => k st
  | .bl true => .ok (.bl true) st
  | _ => .stuck
def boolW (r : Res W) : Res Bool := r.bind fun x st => match x with
  | .bl b => .ok b st
  | _ => .stuck
mutual
@[simp] def ev : E → Rho → Sto → Res W
  | .var i, ρ, st => match ρ[i]? with
    | some (some w) => .ok w st
    | _ => .stuck
  | .int i, _, st => .ok (.int i) st
  | .str s, _, st => .ok (.str s) st
  | .bl b, _, st => .ok (.bl b) st
  | .non, _, st => .ok .non st
  | .gint _ i, _, st => .ok (.int i) st
  | .gstr _ s, _, st => .ok (.str s) st
  | .bin op a b, ρ, st => (ev a ρ st).bind fun x st => (ev b ρ st).bind fun y st => ret st (binW st op x y)
  | .neg a, ρ, st => (ev a ρ st).bind fun x st => match x with
    | .int i => .ok (.int (-i)) st
    | _ => .stuck
  | .cmp op a b, ρ, st => (ev a ρ st).bind fun x st => (ev b ρ st).bind fun y st => ret st ((cmpW st op x y).map W.bl)
  | .chain op op' a b c, ρ, st => (ev a ρ st).bind fun x st => (ev b ρ st).bind fun y st =>
      match cmpW st op x y with
      | some true => (ev c ρ st).bind fun z st => ret st ((cmpW st op' y z).map W.bl)
      | some false => .ok (.bl false) st
      | none => .stuck
  | .andE es, ρ, st => evAnd es ρ st
  | .orE es, ρ, st => evOr es ρ st
  | .not a, ρ, st => (ev a ρ st).bind fun x st => match x with
    | .bl b => .ok (.bl (!b)) st
    | _ => .stuck
  | .ite c a b, ρ, st => (ev c ρ st).bind fun x st => match x with
    | .bl true => ev a ρ st
    | .bl false => ev b ρ st
    | _ => .stuck
  | .tup es, ρ, st => (evs es ρ st).bind fun ws st => guardR (decide (ws.length ≤ lim)) (.ok (.tup ws) st)
  | .frz l, ρ, st => (evL l ρ st).bind fun ws st => .ok (.lst ws) st
  | .new l, ρ, st => (evL l ρ st).bind fun ws st => .ok (.ref st.length) (st ++ [.lst ws])
  | .ix a i, ρ, st => (ev a ρ st).bind fun x st => (ev i ρ st).bind fun y st => ret st (ixW st x y)
  | .sl a lo hi, ρ, st => (ev a ρ st).bind fun x st => (evO lo ρ st).bind fun l st => (evO hi ρ st).bind fun h st => match x with
    | .tup ws => .ok (.tup (cutL ws l h)) st
    | .str z => guardR (decide (z.length ≤ lim)) (.ok (.str (cutS z l h)) st)
    | _ => .stuck
  | .call f es, ρ, st => (evs es ρ st).bind fun ws st => cl f ws st
  | .len a, ρ, st => (ev a ρ st).bind fun x st => ret st ((lenW st x).map fun n => .int n)
  | .sum a, ρ, st => (ev a ρ st).bind fun x st => ret st (((listOf st x).bind intsOf).map fun l => .int l.sum)
  | .intof a, ρ, st => (ev a ρ st).bind fun x st => match x with
    | .int i => .ok (.int i) st
    | .bl b => .ok (.int (if b then 1 else 0)) st
    | _ => .stuck
  | .strof a, ρ, st => (ev a ρ st).bind fun x st => match x with
    | .int i => guardR (decide (i.natAbs.log2 < 1920)) (.ok (.str (toString i)) st)
    | _ => .stuck
  | .min2 a b, ρ, st => (ev a ρ st).bind fun x st => (ev b ρ st).bind fun y st => match x, y with
    | .int i, .int j => .ok (.int (if j < i then j else i)) st
    | _, _ => .stuck
  | .max2 a b, ρ, st => (ev a ρ st).bind fun x st => (ev b ρ st).bind fun y st => match x, y with
    | .int i, .int j => .ok (.int (if j > i then j else i)) st
    | _, _ => .stuck
  | .isi a t, ρ, st => (ev a ρ st).bind fun x st => ret st (((typW st x).bind fun u => kitB u t).map W.bl)
  | .join s a, ρ, st => (ev s ρ st).bind fun x st => match x with
    | .str z => (ev a ρ st).bind fun y st => ret st (((seqOf st y).bind strsOf).bind fun l => if (l.map (·.length)).sum + l.length * z.length ≤ 16777216 then some (.str (Txt.join z l)) else none)
    | _ => .stuck
  | .get d k x, ρ, st => (ev d ρ st).bind fun dv st => match dictOf st dv with
    | some _ => (ev k ρ st).bind fun kv st => (ev x ρ st).bind fun xv st =>
      ret st ((dictOf st dv).bind fun p => (keyW kv).map fun k => (getK p.1 p.2 k).getD xv)
    | none => .stuck
  | .tupof a, ρ, st => (ev a ρ st).bind fun x st => ret st ((seqOf st x).map .tup)
  | .dictof a, _, _ => .stuck
  | .popE a, ρ, st => (ev a ρ st).bind fun x st => match x with
    | .ref i => match st[i]? with
      | some (.lst ws) => match ws[ws.length - 1]? with
        | some w => .ok w (st.set i (.lst ws.dropLast))
        | none => .stuck
      | _ => .stuck
    | _ => .stuck
  | .app o a, ρ, st => (ev o ρ st).bind fun x st => match x with
    | .ref i => match st[i]? with
      | some (.lst _) => (ev a ρ st).bind fun y st => match st[i]? with
        | some (.lst ws) => guardR (decide (ws.length < lim)) (.ok .non (st.set i (.lst (ws ++ [y]))))
        | _ => .stuck
      | _ => .stuck
    | _ => .stuck
  | .ext o a, ρ, st => (ev o ρ st).bind fun x st => match x with
    | .ref i => match st[i]? with
      | some (.lst _) => (ev a ρ st).bind fun y st => match st[i]? with
        | some (.lst ws) => match seqOf st y with
          | some us => guardR (decide (ws.length + us.length ≤ lim)) (.ok .non (st.set i (.lst (ws ++ us))))
          | none => .stuck
        | _ => .stuck
      | _ => .stuck
    | _ => .stuck
  | .frzE a, ρ, st => (ev a ρ st).bind fun x st => match x with
    | .ref i => match st[i]? with
      | some (.lst ws) => .ok (.lst ws) (st.set i .dead)
      | _ => .stuck
    | _ => .stuck
  | .nev, _, _ => .stuck
@[simp] def evs : List E → Rho → Sto → Res (List W)
  | [], _, st => .ok [] st
  | e :: es, ρ, st => (ev e ρ st).bind fun w st => (evs es ρ st).bind fun ws st => .ok (w :: ws) st
@[simp] def evAnd : List E → Rho → Sto → Res W
  | [], _, _ => .stuck
  | [e], ρ, st => ev e ρ st
  | e :: e2 :: es, ρ, st => andW (ev e ρ st) fun st => evAnd (e2 :: es) ρ st
@[simp] def evOr : List E → Rho → Sto → Res W
  | [], _, _ => .stuck
  | [e], ρ, st => ev e ρ st
  | e :: e2 :: es, ρ, st => orW (ev e ρ st) fun st => evOr (e2 :: es) ρ st
@[simp] def evO : Option E → Rho → Sto → Res (Option Int)
  | none, _, st => .ok none st
  | some e, ρ, st => (ev e ρ st).bind fun w st => match w with
    | .int i => .ok (some i) st
    | _ => .stuck
def evL : L → Rho → Sto → Res (List W)
  | .disp es, ρ, st => (evs es ρ st).bind fun ws st => guardR (decide (ws.length ≤ lim)) (.ok ws st)
  | .lc vs tg single it cond elt, ρ, st => (evIt it ρ st).bind fun items st =>
      guardR (decide (items.length ≤ lim)) (lcGo (fun w st => match setTg tg single w (wipeR ρ (vs.map (·.2))) with
        | some ρ' => (evConds cond ρ' st).noerr.bind fun b st => if b = true then (ev elt ρ' st).noerr.bind fun y st => .ok (some y) st else .ok none st
        | none => .stuck) items st)
  | .cat a b, ρ, st => (ev a ρ st).bind fun x st => (ev b ρ st).bind fun y st =>
      ret st ((listOf st x).bind fun xs => (listOf st y).bind fun ys => if xs.length + ys.length ≤ lim then some (xs ++ ys) else none)
  | .ofE a, ρ, st => (ev a ρ st).bind fun x st => ret st (seqOf st x)
  | .sorted a, ρ, st => (ev a ρ st).bind fun x st => ret st (((listOf st x).bind strsOf).bind fun l => if l.length < 64 then some ((sortS l).map W.str) else none)
  | .sl a lo hi, ρ, st => (ev a ρ st).bind fun x st => (evO lo ρ st).bind fun l st => (evO hi ρ st).bind fun h st => ret st ((listOf st x).map fun ws => cutL ws l h)
  | .rep a n, ρ, st => (ev a ρ st).bind fun x st => (ev n ρ st).bind fun y st => match y with
    | .int k => ret st ((listOf st x).bind fun ws => if (-(2 ^ 62) ≤ k ∧ k < 2 ^ 62 ∧ ws.length * k.toNat ≤ lim) then some (List.replicate k.toNat ws).flatten else none)
    | _ => .stuck
@[simp] def evConds : List E → Rho → Sto → Res Bool
  | [], _, st => .ok true st
  | [e], ρ, st => boolW (ev e ρ st)
  | _, _, _ => .stuck
@[simp] def evIt : It → Rho → Sto → Res (List W)
  | .seq a, ρ, st => (ev a ρ st).bind fun x st => match x with
    | .tup ws => .ok ws st
    | .lst ws => .ok ws st
    | .str z => .ok (z.cps.toList.map fun c => .str ⟨#[c]⟩) st
    | _ => .stuck
  | .range1 a, ρ, st => (ev a ρ st).bind fun x st => (ret st (intW x)).bind fun n st => guardR (smallI n) (.ok (rangeL 0 n.toNat) st)
  | .range2 a b, ρ, st => (ev a ρ st).bind fun x st => (ev b ρ st).bind fun y st => match x, y with
    | .int i, .int j => guardR (smallI i && smallI j) (.ok (rangeL i (j - i).toNat) st)
    | _, _ => .stuck
  | .range3 _ _ _, _, _ => .stuck
  | .enum _, _, _ => .stuck
  | .zip _ _, _, _ => .stuck
end
end
/-! ### the checker -/
structure Gam where
  fn : List Str
  gi : List (Str × Int)
  gs : List (Str × Str)
  fr : List Str
def nameOp : Operator → BO → Bool
  | .Add, .add | .Sub, .sub | .Mult, .mul | .FloorDiv, .fdiv | .Mod, .mod | .Pow, .pow => true
  | _, _ => false
def cmpOp : CmpOp → CO → Bool
  | .Eq, .eq | .NotEq, .ne | .Lt, .lt | .LtE, .le | .Gt, .gt | .GtE, .ge | .In, .isin | .NotIn, .notin => true
  | .Is, .isN | .IsNot, .notN => true
  | _, _ => false
def isGl (sc : Scope) (x : Str) : Bool := match sc.names.lookup x with
  | some .globalImplicit => true
  | _ => false
def isVis (sc : Scope) (x : Str) : Bool := match sc.names.lookup x with
  | some .local | some .cell | some .free => true
  | _ => false
def isLoc (sc : Scope) (x : Str) : Bool := match sc.names.lookup x with
  | some .local => true
  | _ => false
def notDunder (x : Str) : Bool := !(x == ("__debug__" : Str)) && !(x == ("__classdict__" : Str)) && !decide (x = ("__name__" : Str))
def bfree (G : Gam) (sc : Scope) (x : Str) : Bool := isGl sc x && decide (x ∈ G.fr)
def isLC (sc : Scope) (x : Str) : Bool := match sc.names.lookup x with
  | some .local | some .cell => true
  | _ => false
/-- no star, nothing that the model treats by its form -/
def plainE : Expr → Bool
  | .Starred .. => false
  | .Set .. => false
  | .NamedExpr .. => false
  | _ => true
def plainEs : List Expr → Bool
  | [] => true
  | e :: es => plainE e && plainEs es
def slot (N : List Str) (sc : Scope) (e : Expr) (i : Nat) : Bool := match e with
  | .Name x _ => decide (N[i]? = some x) && isLC sc x && notDunder x
  | _ => false
def slots (N : List Str) (sc : Scope) : List Expr → List Nat → Bool
  | [], [] => true
  | e :: es, i :: is => slot N sc e i && slots N sc es is
  | _, _ => false
def chkTg (N : List Str) (sc : Scope) (tg : List Nat) (single : Bool) (e : Expr) : Bool := match single, tg, e with
  | true, [i], e => slot N sc e i
  | false, is, .Tuple es _ _ => slots N sc es is
  | _, _, _ => false
/-- f(args) of a name x -/
def isCall (x : Str) : Expr → Option (List Expr)
  | .Call (.Name y _) es [] _ => if y = x then some es else none
  | _ => none
mutual
def tst : E → Bool
  | .ite _ _ _ => false
  | .nev => false
  | .frzE _ => false
  | .not a => tst a
  | .andE es => tsts es
  | .orE es => tsts es
  | _ => true
def tsts : List E → Bool
  | [] => true
  | e :: es => tst e && tsts es
end
mutual
def chk (G : Gam) (N : List Str) (sc : Scope) : E → Expr → Bool
  | .var i, e => (match e with
    | .Name x _ => decide (N[i]? = some x) && isVis sc x && notDunder x
    | _ => false)
  | .int i, e => (match e with
    | .Constant (.int j) _ _ => decide (i = j)
    | _ => false)
  | .str s, e => (match e with
    | .Constant (.str t) _ _ => decide (s = t)
    | _ => false)
  | .bl b, e => (match e with
    | .Constant (.bool c) _ _ => b == c
    | _ => false)
  | .non, e => (match e with
    | .Constant .none _ _ => true
    | _ => false)
  | .gint x i, e => (match e with
    | .Name y _ => decide (x = y) && isGl sc x && notDunder x && decide ((x, i) ∈ G.gi)
    | _ => false)
  | .gstr x s, e => (match e with
    | .Name y _ => decide (x = y) && isGl sc x && notDunder x && decide ((x, s) ∈ G.gs)
    | _ => false)
  | .bin op a b, e => (match e with
    | .BinOp l o r _ => nameOp o op && chk G N sc a l && chk G N sc b r
    | _ => false)
  | .neg a, e => (match e with
    | .UnaryOp .USub x _ => chk G N sc a x
    | _ => false)
  | .cmp op a b, e => (match e with
    | .Compare l [o] [r] _ => cmpOp o op && plainE r && chk G N sc a l && chk G N sc b r
    | _ => false)
  | .chain op op' a b c, e => (match e with
    | .Compare l [o, o'] [m, r] _ => cmpOp o op && cmpOp o' op' && plainE m && plainE r && chk G N sc a l && chk G N sc b m && chk G N sc c r
    | _ => false)
  | .andE es, e => (match e with
    | .BoolOp .And xs _ => chks G N sc es xs
    | _ => false)
  | .orE es, e => (match e with
    | .BoolOp .Or xs _ => chks G N sc es xs
    | _ => false)
  | .not a, e => (match e with
    | .UnaryOp .Not x _ => chk G N sc a x
    | _ => false)
  | .ite c a b, e => (match e with
    | .IfExp t x y _ => tst c && chk G N sc c t && chk G N sc a x && chk G N sc b y
    | _ => false)
  | .tup es, e => (match e with
    | .Tuple xs _ _ => plainEs xs && chks G N sc es xs
    | _ => false)
  | .frz l, e => chkL G N sc l e
  | .new l, e => chkL G N sc l e
  | .ix a i, e => (match e with
    | .Subscript x y _ => (match y with
      | .Slice .. => false
      | _ => plainE y && chk G N sc a x && chk G N sc i y)
    | _ => false)
  | .sl a lo hi, e => (match e with
    | .Subscript x (.Slice l h none _) _ => chk G N sc a x && chkO G N sc lo l && chkO G N sc hi h
    | _ => false)
  | .call f es, e => (match e with
    | .Call (.Name x _) xs [] _ => decide (G.fn[f]? = some x) && isGl sc x && notDunder x && plainEs xs && !xs.isEmpty && chks G N sc es xs
    | _ => false)
  | .len a, e => (match isCall "len" e with
    | some [x] => bfree G sc "len" && plainE x && chk G N sc a x
    | _ => false)
  | .sum a, e => (match isCall "sum" e with
    | some [x] => bfree G sc "sum" && plainE x && chk G N sc a x
    | _ => false)
  | .intof a, e => (match isCall "int" e with
    | some [x] => bfree G sc "int" && plainE x && chk G N sc a x
    | _ => false)
  | .strof a, e => (match isCall "str" e with
    | some [x] => bfree G sc "str" && plainE x && chk G N sc a x
    | _ => false)
  | .min2 a b, e => (match isCall "min" e with
    | some [x, y] => bfree G sc "min" && plainE x && plainE y && chk G N sc a x && chk G N sc b y
    | _ => false)
  | .max2 a b, e => (match isCall "max" e with
    | some [x, y] => bfree G sc "max" && plainE x && plainE y && chk G N sc a x && chk G N sc b y
    | _ => false)
  | .isi a t, e => (match isCall "isinstance" e with
    | some [x, .Name y _] => bfree G sc "isinstance" && plainE x && chk G N sc a x && isGl sc y && notDunder y && decide (y ∈ G.fr) && decide (bootBuiltins y = some (.type t))
    | _ => false)
  | .join s a, e => (match e with
    | .Call (.Attribute o m ap) [x] [] p => decide (m = "join") && (ap.endLine == p.line) && (match o with | .Call .. => false | _ => true) && plainE x && chk G N sc s o && chk G N sc a x
    | _ => false)
  | .get d k x, e => (match e with
    | .Call (.Attribute o m ap) [y, z] [] p => decide (m = "get") && (ap.endLine == p.line) && (match o with | .Call .. => false | _ => true) && plainE y && plainE z && chk G N sc d o && chk G N sc k y && chk G N sc x z
    | _ => false)
  | .tupof a, e => (match isCall "tuple" e with
    | some [x] => bfree G sc "tuple" && plainE x && chk G N sc a x
    | _ => false)
  | .dictof a, e => (match isCall "dict" e with
    | some [x] => bfree G sc "dict" && plainE x && chk G N sc a x
    | _ => false)
  | .popE a, e => (match e with
    | .Call (.Attribute o m ap) [] [] p => decide (m = "pop") && (ap.endLine == p.line) && (match o with | .Call .. => false | _ => true) && chk G N sc a o
    | _ => false)
  | .app b a, e => (match e with
    | .Call (.Attribute o m ap) [x] [] p => decide (m = "append") && (ap.endLine == p.line) && (match o with | .Call .. => false | _ => true) && plainE x && chk G N sc b o && chk G N sc a x
    | _ => false)
  | .ext b a, e => (match e with
    | .Call (.Attribute o m ap) [x] [] p => decide (m = "extend") && (ap.endLine == p.line) && (match o with | .Call .. => false | _ => true) && plainE x && chk G N sc b o && chk G N sc a x
    | _ => false)
  | .frzE a, e => chk G N sc a e
  | .nev, _ => true
def chks (G : Gam) (N : List Str) (sc : Scope) : List E → List Expr → Bool
  | [], xs => xs.isEmpty
  | e :: es, xs => (match xs with
    | x :: xs => chk G N sc e x && chks G N sc es xs
    | [] => false)
def chkO (G : Gam) (N : List Str) (sc : Scope) : Option E → Option Expr → Bool
  | none, x => x.isNone
  | some e, x => (match x with
    | some x => chk G N sc e x
    | none => false)
def chkL (G : Gam) (N : List Str) (sc : Scope) : L → Expr → Bool
  | .disp es, e => (match e with
    | .List xs _ => plainEs xs && chks G N sc es xs
    | _ => false)
  | .lc vs tg single it cond elt, e => (match e with
    | .ListComp x [⟨t, i, ifs, 0⟩] scope _ => blkC N sc scope vs && (tg.all fun i => decide (i ∈ vs.map (·.2))) && chkTg N scope tg single t && chkIt G N sc single it i && decide (cond.length ≤ 1) && tsts cond && chks G N scope cond ifs && chk G N scope elt x
    | _ => false)
  | .cat a b, e => (match e with
    | .BinOp l .Add r _ => chk G N sc a l && chk G N sc b r
    | _ => false)
  | .ofE a, e => (match isCall "list" e with
    | some [x] => bfree G sc "list" && plainE x && chk G N sc a x
    | _ => false)
  | .sorted a, e => (match isCall "sorted" e with
    | some [x] => bfree G sc "sorted" && plainE x && chk G N sc a x
    | _ => false)
  | .sl a lo hi, e => (match e with
    | .Subscript x (.Slice l h none _) _ => chk G N sc a x && chkO G N sc lo l && chkO G N sc hi h
    | _ => false)
  | .rep a n, e => (match e with
    | .BinOp l .Mult r _ => chk G N sc a l && chk G N sc n r
    | _ => false)
def chkIt (G : Gam) (N : List Str) (sc : Scope) (single : Bool) : It → Expr → Bool
  | .seq a, e => plainE e && chk G N sc a e
  | .range1 a, e => (match isCall "range" e with
    | some [x] => bfree G sc "range" && plainE x && chk G N sc a x
    | _ => false)
  | .range2 a b, e => (match isCall "range" e with
    | some [x, y] => bfree G sc "range" && plainE x && plainE y && chk G N sc a x && chk G N sc b y
    | _ => false)
  | .range3 _ _ _, _ => false
  | .enum _, _ => false
  | .zip _ _, _ => false
end
end Mz
end
section
namespace Mz
open PySem PySem.Spec PyProof.Rows L2

/-! ### the weakest readings -/
section
variable (X : Cx)
def tOf (e : Expr) : TE := fun σ H Q => ∀ (pins : List (Addr × Obj)) (s : Shared), Inv X pins σ H s → wpAny (model X.prog X.w) X.A (eval e X.env) (EP X pins σ Q) X.xe s
def tOfT (e : Expr) : TT := fun σ H Q => ∀ (pins : List (Addr × Obj)) (s : Shared), Inv X pins σ H s → wpAny (model X.prog X.w) X.A (isTrue e X.env (eval e X.env)) (TP X pins σ Q) X.xe s
def tOfA (es : List Expr) : TA := fun σ H Q => ∀ (pos : Pos) (pins : List (Addr × Obj)) (s : Shared), Inv X pins σ H s → wpAny (model X.prog X.w) X.A (spliced (backTo pos (starEach es X.env))) (AP X pins σ Q) X.xe s
def tOfO (e : Option Expr) : TO := fun σ H Q => ∀ (pins : List (Addr × Obj)) (s : Shared), Inv X pins σ H s → wpAny (model X.prog X.w) X.A (evalPart e X.env) (fun u s' => ∃ o H', Inv X pins σ H' s' ∧ IsPart u o ∧ Q o H') X.xe s
def tOfS (st : Stmt) : TS := fun D σ H => ∀ (pins : List (Addr × Obj)) (s : Shared), Inv X pins σ H s → wpAny (model X.prog X.w) X.A (exec st X.env) (SP X pins D) X.xe s
def tOfSs (sts : List Stmt) : TS := fun D σ H => ∀ (pins : List (Addr × Obj)) (s : Shared), Inv X pins σ H s → wpAny (model X.prog X.w) X.A (execs sts X.env) (SP X pins D) X.xe s
def rOf (f : Value → Value → Sem Value) : R2 := fun x y H Q => ∀ (pins : List (Addr × Obj)) (s : Shared) (σ : L2.St) (v u : Value), Inv X pins σ H s → RelV x v → RelV y u → wpAny (model X.prog X.w) X.A (f v u) (EP X pins σ Q) X.xe s
def cOf (f : Value) : List V → Hp → VK → Prop := fun xs H Q => ∀ (pins : List (Addr × Obj)) (s : Shared) (σ : L2.St) (us : List Value), Inv X pins σ H s → Vals xs us → wpAny (model X.prog X.w) X.A (call f us) (EP X pins σ Q) X.xe s
end
section
variable {X : Cx}
theorem pe_of (e : Expr) : PE X e (tOf X e) := ⟨fun pins s σ H Q I h => h pins s I⟩
theorem pt_of (e : Expr) : PT X e (tOfT X e) := ⟨fun pins s σ H Q I h => h pins s I⟩
theorem pa_of (es : List Expr) : PA X es (tOfA X es) := ⟨fun pos pins s σ H Q I h => h pos pins s I⟩
theorem po_of (e : Option Expr) : PO X e (tOfO X e) := ⟨fun pins s σ H Q I h => h pins s I⟩
theorem ps_of (e : Stmt) : PS X e (tOfS X e) := ⟨fun pins s σ H D I h => h pins s I⟩
theorem pss_of (e : List Stmt) : PSs X e (tOfSs X e) := ⟨fun pins s σ H D I h => h pins s I⟩
theorem or_of (f : Value → Value → Sem Value) : OpR X f (rOf X f) := fun pins s σ H x y v u Q I rx ry h => h pins s σ v u I rx ry
theorem cr_of (f : Value) : CallR X f (cOf X f) := fun pins s σ H xs us Q I r h => h pins s σ us I r
theorem toE {e : Expr} {t : TE} (h : PE X e t) {σ : L2.St} {H : Hp} {Q : VK} (q : t σ H Q) : tOf X e σ H Q := fun pins s I => h.run pins s σ H Q I q
theorem toT {e : Expr} {t : TT} (h : PT X e t) {σ : L2.St} {H : Hp} {Q : Bool → Hp → Prop} (q : t σ H Q) : tOfT X e σ H Q := fun pins s I => h.run pins s σ H Q I q
theorem toA {e : List Expr} {t : TA} (h : PA X e t) {σ : L2.St} {H : Hp} {Q : List V → Hp → Prop} (q : t σ H Q) : tOfA X e σ H Q := fun pos pins s I => h.run pos pins s σ H Q I q
theorem toO {e : Option Expr} {t : TO} (h : PO X e t) {σ : L2.St} {H : Hp} {Q : Option Int → Hp → Prop} (q : t σ H Q) : tOfO X e σ H Q := fun pins s I => h.run pins s σ H Q I q
theorem toS {e : Stmt} {t : TS} (h : PS X e t) {D : Ends} {σ : L2.St} {H : Hp} (q : t D σ H) : tOfS X e D σ H := fun pins s I => h.run pins s σ H D I q
theorem toSs {e : List Stmt} {t : TS} (h : PSs X e t) {D : Ends} {σ : L2.St} {H : Hp} (q : t D σ H) : tOfSs X e D σ H := fun pins s I => h.run pins s σ H D I q
theorem toR {f : Value → Value → Sem Value} {r : R2} (h : OpR X f r) {x y : V} {H : Hp} {Q : VK} (q : r x y H Q) : rOf X f x y H Q := fun pins s σ v u I rx ry => h pins s σ H x y v u Q I rx ry q
theorem toC {f : Value} {r : List V → Hp → VK → Prop} (h : CallR X f r) {xs : List V} {H : Hp} {Q : VK} (q : r xs H Q) : cOf X f xs H Q := fun pins s σ us I r => h pins s σ H xs us Q I r q
end
/-! ### a callee's promise -/
def spOf (K : PySem.W.Frag) (g : List W → Sto → Res W) (n : Nat) : Sp := fun vs H Q E => vs.length = n ∧ ∃ Pr F as st ws, Sat K Pr F H as st ∧ RepL K F as vs ws ∧ Post K Pr (RV K) E F as Q (g ws st)
/-- the names of a def or a block -/
structure ScOk (X : Cx) (N : List Str) (sc : Scope) : Prop where
  n : X.N = N
  nd : N.Nodup
  kind : sc.kind = .function
  keep : ∀ x k, sc.names.lookup x = some k → k ≠ .free → X.env.scope.names.lookup x = some k
  free : ∀ x, sc.names.lookup x = some .free → X.env.scope.names.lookup x = some .free ∨ X.env.scope.names.lookup x = some .cell
  fnc : ∀ x, sc.names.lookup x = some .cell → X.fn x = true
structure EnvOk (X : Cx) (Wx : WX) (G : Gam) (cl : Nat → List W → Sto → Res W) : Prop where
  calm : X.calm = true
  gi : ∀ x i, (x, i) ∈ G.gi → ∃ t, X.mg x = some (.int i t)
  gs : ∀ x i, (x, i) ∈ G.gs → ∃ t, X.mg x = some (.str i t)
  fr : ∀ x, x ∈ G.fr → X.mg x = none
  un : X.A.units + 410 < cLine
  tk : Takes X Wx
  call : ∀ f x, G.fn[f]? = some x → ∃ a fd ps k, X.mg x = some (.ref a) ∧ PySem.W.keepIn X.K (.ref a) = true ∧ Binds X.K fd ps [] ∧ FnOk X.prog X.w X.K X.mg X.base (L2.CX X.prog X.w) k a fd ps (spOf X.K (cl f) ps.length) ∧ Room k X.A ∧ ∀ ws st, ws.length ≠ ps.length → cl f ws st = .stuck
section
variable {X : Cx} {N : List Str} {sc : Scope} {x : Str}
theorem vis_of (o : ScOk X N sc) (h : isVis sc x = true) : Vis X.env.scope x := by
  unfold isVis at h
  split at h
  · rename_i e; exact .inl (o.keep x _ e (by intro z; cases z))
  · rename_i e; exact .inr (.inl (o.keep x _ e (by intro z; cases z)))
  · rename_i e
    rcases o.free x e with q | q
    · exact .inr (.inr q)
    · exact .inr (.inl q)
  · cases h
theorem loc_of (o : ScOk X N sc) (h : isLoc sc x = true) : X.env.scope.names.lookup x = some .local := by
  unfold isLoc at h
  split at h
  · rename_i e; exact o.keep x _ e (by intro z; cases z)
  · cases h
theorem lc_of (o : ScOk X N sc) (h : isLC sc x = true) : Loc X.env.scope x ∧ (X.fn x = true ∨ X.env.scope.names.lookup x = some .local) := by
  unfold isLC at h
  split at h
  · rename_i e
    have q := o.keep x _ e (by intro z; cases z)
    exact ⟨.inl q, .inr q⟩
  · rename_i e
    have q := o.keep x _ e (by intro z; cases z)
    exact ⟨.inr q, .inl (o.fnc x e)⟩
  · cases h
theorem gl_of (o : ScOk X N sc) (h : isGl sc x = true) : Gl X x := by
  unfold isGl at h
  split at h
  · rename_i e; exact o.keep x _ e (by intro z; cases z)
  · cases h
theorem dun1 (h : notDunder x = true) : (x == ("__debug__" : Str)) = false := by
  unfold notDunder at h
  simp only [Bool.and_eq_true, Bool.not_eq_true'] at h
  exact h.1.1
theorem dun2 (h : notDunder x = true) : (x == ("__classdict__" : Str)) = false := by
  unfold notDunder at h
  simp only [Bool.and_eq_true, Bool.not_eq_true'] at h
  exact h.1.2
theorem dun3 (h : notDunder x = true) : x ≠ "__name__" := by
  unfold notDunder at h
  simp only [Bool.and_eq_true, Bool.not_eq_true', decide_eq_false_iff_not] at h
  exact h.2
theorem star_of {e : Expr} {es : List Expr} {env : Env} (h : plainE e = true) : starEach (e :: es) env = (false, eval e env) :: starEach es env := by
  cases e <;> first | rfl | (simp [plainE] at h)
theorem mark_of {e : Expr} {op : CmpOp} (h : plainE e = true) : behindInMarks op e = false := by
  cases e <;> first | rfl | (simp [plainE] at h)
theorem back_of {env : Env} {pos : Pos} : ∀ {es : List Expr}, plainEs es = true → (backTo pos (starEach es env)).any (·.1) = false
  | [], _ => rfl
  | e :: es, h => by
    simp only [plainEs, Bool.and_eq_true] at h
    rw [star_of h.1]
    show (false || (backTo pos (starEach es env)).any (·.1)) = false
    rw [back_of h.2]; rfl
theorem isnt_slice {e : Expr} (h : ∀ l u s p, e ≠ .Slice l u s p) : PlainIx e := by
  intro o i
  cases e with
  | Slice l u s p => exact absurd rfl (h l u s p)
  | _ => rfl
end
/-! ### what it is to be sound -/
section
variable (X : Cx) (Wx : WX)
def SndE (e : Expr) (f : Rho → Sto → Res W) : Prop := ∀ σ ρ Pr H F as st (Q : VK), Slots X.K F as σ ρ → Sat X.K Pr F H as st → Post X.K Pr (RV X.K) (WE Wx σ) F as Q (f ρ st) → tOf X e σ H Q
def SndF (e : Expr) (f : Rho → Sto → Res (List W)) : Prop := ∀ σ ρ Pr H F as st (Q : VK), Slots X.K F as σ ρ → Sat X.K Pr F H as st → Post X.K Pr (RF X.K Pr) (WE Wx σ) F as Q (f ρ st) → tOf X e σ H Q
def SndA (es : List Expr) (f : Rho → Sto → Res (List W)) : Prop := ∀ σ ρ Pr H F as st (Q : List V → Hp → Prop), Slots X.K F as σ ρ → Sat X.K Pr F H as st → Post X.K Pr (RVs X.K) (WE Wx σ) F as Q (f ρ st) → tOfA X es σ H Q
def SndT (e : Expr) (f : Rho → Sto → Res Bool) : Prop := ∀ σ ρ Pr H F as st (Q : Bool → Hp → Prop), Slots X.K F as σ ρ → Sat X.K Pr F H as st → Post X.K Pr RB (WE Wx σ) F as Q (f ρ st) → tOfT X e σ H Q
def SndO (e : Option Expr) (f : Rho → Sto → Res (Option Int)) : Prop := ∀ σ ρ Pr H F as st (Q : Option Int → Hp → Prop), Slots X.K F as σ ρ → Sat X.K Pr F H as st → Post X.K Pr (fun _ _ _ (a b : Option Int) => a = b) (WE Wx σ) F as Q (f ρ st) → tOfO X e σ H Q
end
theorem Post.here {α β : Type} {K : PySem.W.Frag} {Pr F H : Hp} {as : List Addr} {Wh : WH} {R : Hp → Hp → List Addr → β → α → Prop} {Q : β → Hp → Prop} {a : α} {st : Sto} {b : β} (h : Post K Pr R Wh F as Q (.ok a st)) (S : Sat K Pr F H as st) (r : R F H as b a) : Q b H := h b H F as (Ex.refl _) (Pre.refl _) S r
theorem Post.ret {α β : Type} {K : PySem.W.Frag} {Pr F : Hp} {as : List Addr} {Wh : WH} {R : Hp → Hp → List Addr → β → α → Prop} {Q : β → Hp → Prop} {o : Option α} {st : Sto} (h : Post K Pr R Wh F as Q (Mz.ret st o)) : ∃ a, o = some a ∧ Post K Pr R Wh F as Q (.ok a st) := by
  cases o with
  | none => exact h.elim
  | some a => exact ⟨a, rfl, h⟩
theorem Post.guard {α β : Type} {K : PySem.W.Frag} {Pr F : Hp} {as : List Addr} {Wh : WH} {R : Hp → Hp → List Addr → β → α → Prop} {Q : β → Hp → Prop} {c : Bool} {r : Res α} (h : Post K Pr R Wh F as Q (guardR c r)) : c = true ∧ Post K Pr R Wh F as Q r := by
  cases c with
  | false => exact h.elim
  | true => exact ⟨rfl, h⟩
section
variable {X : Cx} {Wx : WX} {N : List Str} {sc : Scope} {G : Gam} {cl : Nat → List W → Sto → Res W}
theorem lim_eq : sizeLine = lim := by rw [sizeLine_eq]
/-- two operands -/
theorem snd2 {a b : Expr} {fa fb : Rho → Sto → Res W} {r : R2} {k : W → W → Sto → Res W} (ha : SndE X Wx a fa) (hb : SndE X Wx b fb)
    (hr : ∀ σ x y wx wy Pr H F as st Q, Sat X.K Pr F H as st → Rep X.K F as x wx → Rep X.K F as y wy → Post X.K Pr (RV X.K) (WE Wx σ) F as Q (k wx wy st) → r x y H Q) :
    ∀ σ ρ Pr H F as st (Q : VK), Slots X.K F as σ ρ → Sat X.K Pr F H as st → Post X.K Pr (RV X.K) (WE Wx σ) F as Q ((fa ρ st).bind fun x st => (fb ρ st).bind fun y st => k x y st) → tOp r (tOf X a) (tOf X b) σ H Q := by
  intro σ ρ Pr H F as st Q L S P
  refine ha σ ρ Pr H F as st _ L S (Post.bind P fun wx st1 x H1 F1 as1 _ e1 p1 S1 rx P1 => ?_)
  refine hb σ ρ Pr H1 F1 as1 st1 _ (L.mono e1 p1) S1 (Post.bind P1 fun wy st2 y H2 F2 as2 _ e2 p2 S2 ry P2 => ?_)
  exact hr σ x y wx wy Pr H2 F2 as2 st2 Q S2 (Rep.mono e2 p2 rx) ry P2
theorem snd1 {a : Expr} {fa : Rho → Sto → Res W} {r : V → Hp → VK → Prop} {k : W → Sto → Res W} (ha : SndE X Wx a fa)
    (hr : ∀ σ x wx Pr H F as st Q, Sat X.K Pr F H as st → Rep X.K F as x wx → Post X.K Pr (RV X.K) (WE Wx σ) F as Q (k wx st) → r x H Q) :
    ∀ σ ρ Pr H F as st (Q : VK), Slots X.K F as σ ρ → Sat X.K Pr F H as st → Post X.K Pr (RV X.K) (WE Wx σ) F as Q ((fa ρ st).bind fun x st => k x st) → tUn r (tOf X a) σ H Q := by
  intro σ ρ Pr H F as st Q L S P
  exact ha σ ρ Pr H F as st _ L S (Post.bind P fun wx st1 x H1 F1 as1 _ e1 p1 S1 rx P1 => hr σ x wx Pr H1 F1 as1 st1 Q S1 rx P1)
/-! ### leaves -/
theorem snd_var (o : ScOk X N sc) {i : Nat} {x : Str} {pos : Pos} (h1 : N[i]? = some x) (h2 : isVis sc x = true) (h3 : notDunder x = true) : SndE X Wx (.Name x pos) (ev cl (.var i)) := by
  intro σ ρ Pr H F as st Q L S P
  refine toE (pe_var (i := i) (o.n ▸ h1) (vis_of o h2) (dun1 h3) (dun2 h3)) ?_
  rw [ev] at P
  split at P
  · rename_i w e
    obtain ⟨v, hv, r⟩ := L.get i w e
    exact ⟨v, hv, P.here S r⟩
  · exact P.elim
theorem snd_int {i : Int} {j : Nat} {pos : Pos} : SndE X Wx (.Constant (.int i) j pos) (ev cl (.int i)) := by
  intro σ ρ Pr H F as st Q L S P
  rw [ev] at P
  exact toE pe_int (P.here S (.int i))
theorem snd_str {i : Str} {j : Nat} {pos : Pos} : SndE X Wx (.Constant (.str i) j pos) (ev cl (.str i)) := by
  intro σ ρ Pr H F as st Q L S P
  rw [ev] at P
  exact toE pe_str (P.here S (.str i))
theorem snd_bl {i : Bool} {j : Nat} {pos : Pos} : SndE X Wx (.Constant (.bool i) j pos) (ev cl (.bl i)) := by
  intro σ ρ Pr H F as st Q L S P
  rw [ev] at P
  exact toE pe_bl (P.here S (.bl i))
theorem snd_non {j : Nat} {pos : Pos} : SndE X Wx (.Constant .none j pos) (ev cl .non) := by
  intro σ ρ Pr H F as st Q L S P
  rw [ev] at P
  exact toE pe_non (P.here S .non)
theorem snd_gint (o : ScOk X N sc) (en : EnvOk X Wx G cl) {i : Int} {x : Str} {pos : Pos} (h1 : isGl sc x = true) (h2 : notDunder x = true) (h3 : (x, i) ∈ G.gi) : SndE X Wx (.Name x pos) (ev cl (.gint x i)) := by
  intro σ ρ Pr H F as st Q L S P
  rw [ev] at P
  obtain ⟨t, ht⟩ := en.gi x i h3
  exact toE (pe_glob (gl_of o h1) ht (v := .int i) ⟨t, rfl⟩ (dun1 h2)) (P.here S (.int i))
theorem snd_gstr (o : ScOk X N sc) (en : EnvOk X Wx G cl) {i : Str} {x : Str} {pos : Pos} (h1 : isGl sc x = true) (h2 : notDunder x = true) (h3 : (x, i) ∈ G.gs) : SndE X Wx (.Name x pos) (ev cl (.gstr x i)) := by
  intro σ ρ Pr H F as st Q L S P
  rw [ev] at P
  obtain ⟨t, ht⟩ := en.gs x i h3
  exact toE (pe_glob (gl_of o h1) ht (v := .str i) ⟨t, rfl⟩ (dun1 h2)) (P.here S (.str i))
/-! ### operators -/
theorem rep_int {K : PySem.W.Frag} {F : Hp} {as : List Addr} {v : V} {i : Int} (h : Rep K F as v (.int i)) : v = .int i := by cases h; rfl
theorem rep_str {K : PySem.W.Frag} {F : Hp} {as : List Addr} {v : V} {i : Str} (h : Rep K F as v (.str i)) : v = .str i := by cases h; rfl
theorem rep_bl {K : PySem.W.Frag} {F : Hp} {as : List Addr} {v : V} {i : Bool} (h : Rep K F as v (.bl i)) : v = .bl i := by cases h; rfl
theorem rep_non {K : PySem.W.Frag} {F : Hp} {as : List Addr} {v : V} (h : Rep K F as v .non) : v = .non := by cases h; rfl
theorem log2_lt {j : Int} (h0 : 0 < j) (h : j < 2 ^ 62) : j.natAbs.log2 < 9000 := by
  have h1 : j.natAbs < 2 ^ 62 := by omega
  exact Nat.lt_of_lt_of_le ((Nat.log2_lt (by omega)).mpr h1) (by decide)
theorem repl_nil {K : PySem.W.Frag} {F : Hp} {as : List Addr} {ws : List W} (h : RepL K F as [] ws) : ws = [] := by cases h; rfl
theorem repl_nil' {K : PySem.W.Frag} {F : Hp} {as : List Addr} {vs : List V} (h : RepL K F as vs []) : vs = [] := by cases h; rfl
theorem cat_tup {x y : V} {xs ys : List W} {Pr H F : Hp} {as : List Addr} {st : Sto} {Q : VK} {Wh : WH} (hl : xs.length + ys.length ≤ lim) (S : Sat X.K Pr F H as st) (rx : Rep X.K F as x (.tup xs)) (ry : Rep X.K F as y (.tup ys))
    (P : Post X.K Pr (RV X.K) Wh F as Q (.ok (.tup (xs ++ ys)) st)) : rCatA X.K x y H Q := by
  cases rx with
  | @tup a vs _ hx lx => cases ry with
    | @tup b us _ hy ly =>
      refine ⟨_, _, _, _, rfl, rfl, S.ext.sqt hx, S.ext.sqt hy, by rw [lx.length, ly.length, lim_eq]; exact hl, fun e => ?_, fun e e' => ?_, fun e e' p hp => ?_⟩
      · subst e
        have := repl_nil lx
        subst this
        exact P.here S (.tup hy ly)
      · subst e'
        have := repl_nil ly
        subst this
        rw [List.append_nil] at P
        exact P.here S (.tup hx lx)
      · obtain ⟨S', ex⟩ := S.froz (o := .tup (vs ++ us)) hp
        exact P _ _ _ as ex (Pre.refl _) S' (.tup (SqT.of upd_same) (RepL.append (lx.mono ex (Pre.refl _)) (ly.mono ex (Pre.refl _))))
theorem op_mulS : OpR X (binaryOp .Mult) (fun x y H Q => ∃ (z : Str) (n : Int), x = .str z ∧ y = .int n ∧ 2 ≤ n ∧ n ≤ 1000 ∧ z.length ≤ 1000 ∧ Q (.str (Txt.mul z n)) H) := by
  intro pins s σ H x y v u Q I rx ry h
  obtain ⟨z, n, rfl, rfl, h2, h3, hl, q⟩ := h
  obtain ⟨t, rfl⟩ := rx
  obtain ⟨t', rfl⟩ := ry
  refine SB.mul ⟨?_, fun _ _ => ?_, fun _ _ => ?_⟩ fun t' k => ⟨.str _, H, I.tok _, ⟨t', rfl⟩, q⟩
  · simp only [Bool.or_eq_false_iff, decide_eq_false_iff_not]
    constructor <;> omega
  · have h4 : (1000 : Int) ≤ (2 ^ 63 - 1) / n := by
      rw [Int.le_ediv_iff_mul_le (by omega)]
      omega
    omega
  · have h5 : z.length * n.toNat ≤ 1000 * 1000 := Nat.mul_le_mul hl (by omega)
    unfold Builtin.Str.tooLong
    simp only [decide_eq_false_iff_not]
    have : sizeLine = 16777216 := sizeLine_eq
    omega
theorem snd_bin {o : Operator} {op : BO} {a b : Expr} {pos : Pos} {ea eb : E} (h : nameOp o op = true) (ha : SndE X Wx a (ev cl ea)) (hb : SndE X Wx b (ev cl eb)) : SndE X Wx (.BinOp a o b pos) (ev cl (.bin op ea eb)) := by
  intro σ ρ Pr H F as st Q L S P
  rw [ev] at P
  refine toE (pe_op (or_of _) (pe_of a) (pe_of b)) (snd2 ha hb (fun σ x y wx wy Pr H F as st Q S rx ry P => ?_) σ ρ Pr H F as st Q L S P)
  obtain ⟨z, hz, P⟩ := P.ret
  unfold binW at hz
  split at hz
  all_goals first | (cases hz; done) | (cases o <;> simp only [nameOp] at h <;> first | exact absurd h Bool.false_ne_true | skip) | skip
  · cases hz
    cases rx; cases ry
    exact toR op_add ⟨_, _, rfl, rfl, P.here S (.int _)⟩
  · split at hz
    · rename_i hl
      cases hz
      cases rx; cases ry
      exact toR op_add_str ⟨_, _, rfl, rfl, lim_eq ▸ hl, P.here S (.str _)⟩
    · cases hz
  · split at hz
    · rename_i hl
      cases hz
      exact toR op_catA (cat_tup hl S rx ry P)
    · cases hz
  · cases hz
    cases rx; cases ry
    exact toR op_sub ⟨_, _, rfl, rfl, P.here S (.int _)⟩
  · split at hz
    · rename_i hl
      cases hz
      cases rx; cases ry
      exact toR op_mul ⟨_, _, rfl, rfl, hl, P.here S (.int _)⟩
    · cases hz
  · split at hz
    · rename_i hl
      cases hz
      cases rx; cases ry
      exact toR op_mulS ⟨_, _, rfl, rfl, hl.1, hl.2.1, hl.2.2, P.here S (.str _)⟩
    · cases hz
  · split at hz
    · rename_i hl
      cases hz
      cases rx; cases ry
      exact toR op_fdivW ⟨_, _, rfl, rfl, ⟨hl.1, log2_lt hl.1 hl.2⟩, P.here S (.int _)⟩
    · cases hz
  · split at hz
    · rename_i hl
      cases hz
      cases rx; cases ry
      exact toR op_mod ⟨_, _, rfl, rfl, hl, P.here S (.int _)⟩
    · cases hz
  · split at hz
    · rename_i hl
      cases hz
      cases rx; cases ry
      exact toR op_pow ⟨_, _, rfl, rfl, hl, P.here S (.int _)⟩
    · cases hz
end
end Mz
end
section
namespace Mz
open PySem PySem.Spec PyProof.Rows L2
/-! ### data -/
section
variable {K : PySem.W.Frag} {Pr F H : Hp} {as : List Addr} {st : Sto}
mutual
theorem rep_dp (e : Ex F H) : ∀ {w : W} {v : V}, Rep K F as v w → okD w = true → Dp K H v (toD w)
  | .non, _, h, _ => by cases h; exact .non
  | .bl b, _, h, _ => by cases h; exact .bl b
  | .int i, _, h, _ => by cases h; exact .int i
  | .str i, _, h, _ => by cases h; exact .str i
  | .tup ws, _, h, o => by cases h with | tup h l => exact .tup (e.sqt h) (repl_dp e l o)
  | .lst ws, _, h, o => by cases h with | lst h l => exact .lst (SqL.of (e _ _ h)) (repl_dp e l o)
  | .scr _, _, _, o => by cases o
  | .dct _ _, _, _, o => by cases o
  | .ref _, _, _, o => by cases o
theorem repl_dp (e : Ex F H) : ∀ {ws : List W} {vs : List V}, RepL K F as vs ws → okDs ws = true → DpAll K H vs (toDs ws)
  | [], _, h, _ => by cases h; exact .nil
  | w :: ws, _, h, o => by
    have o' : okD w = true ∧ okDs ws = true := by simpa [okDs] using o
    cases h with | cons h l => exact .cons (rep_dp e h o'.1) (repl_dp e l o'.2)
end
/-- a list, as it is read now -/
theorem deref_lst (S : Sat K Pr F H as st) {w : W} {v : V} {ws : List W} (r : Rep K F as v w) (e : deref st w = .lst ws) : ∃ a vs, v = .ref a ∧ H a = some (.lst vs) ∧ RepL K F as vs ws := by
  cases r with
  | lst h l => cases e; exact ⟨_, _, rfl, S.ext _ _ h, l⟩
  | @ref a i h =>
    unfold deref at e
    simp only at e
    cases hc : st[i]? with
    | none => rw [hc] at e; cases e
    | some c =>
      rw [hc] at e
      cases c with
      | lst ws' =>
        cases e
        obtain ⟨vs, h1, h2⟩ := S.cel i a _ h hc
        exact ⟨a, vs, rfl, h1, h2⟩
      | dk _ _ => cases e
      | dead => cases e
  | non => cases e
  | bl _ => cases e
  | int _ => cases e
  | str _ => cases e
  | tup _ _ => cases e
  | scr _ _ => cases e
  | dct _ _ _ => cases e
theorem deref_tup (S : Sat K Pr F H as st) {w : W} {v : V} {ws : List W} (r : Rep K F as v w) (e : deref st w = .tup ws) : ∃ a vs, v = .ref a ∧ SqT K H a vs ∧ RepL K F as vs ws := by
  cases r with
  | tup h l => cases e; exact ⟨_, _, rfl, S.ext.sqt h, l⟩
  | @ref a i h =>
    unfold deref at e
    simp only at e
    cases hc : st[i]? with
    | none => rw [hc] at e; cases e
    | some c => rw [hc] at e; cases c <;> cases e
  | non => cases e
  | bl _ => cases e
  | int _ => cases e
  | str _ => cases e
  | lst _ _ => cases e
  | scr _ _ => cases e
  | dct _ _ _ => cases e
theorem deref_scr (S : Sat K Pr F H as st) {w : W} {v : V} {ws : List W} (r : Rep K F as v w) (e : deref st w = .scr ws) : ∃ a vs, v = .ref a ∧ SqL K H a vs ∧ RepL K F as vs ws := by
  cases r with
  | scr h l => cases e; exact ⟨_, _, rfl, S.ext.sql h, l⟩
  | @ref a i h =>
    unfold deref at e
    simp only at e
    cases hc : st[i]? with
    | none => rw [hc] at e; cases e
    | some c => rw [hc] at e; cases c <;> cases e
  | non => cases e
  | bl _ => cases e
  | int _ => cases e
  | str _ => cases e
  | lst _ _ => cases e
  | tup _ _ => cases e
  | dct _ _ _ => cases e
theorem deref_str {w : W} {v : V} {z : Str} (r : Rep K F as v w) (e : deref st w = .str z) : v = .str z := by
  cases r with
  | str s => cases e; rfl
  | @ref a i h =>
    unfold deref at e
    simp only at e
    cases hc : st[i]? with
    | none => rw [hc] at e; cases e
    | some c => rw [hc] at e; cases c <;> cases e
  | non => cases e
  | bl _ => cases e
  | int _ => cases e
  | lst _ _ => cases e
  | scr _ _ => cases e
  | tup _ _ => cases e
  | dct _ _ _ => cases e
theorem deref_dp (S : Sat K Pr F H as st) {w : W} {v : V} (r : Rep K F as v w) (o : okD (deref st w) = true) : Dp K H v (toD (deref st w)) := by
  cases hd : deref st w with
  | lst ws =>
    rw [hd] at o
    obtain ⟨a, vs, rfl, h1, h2⟩ := deref_lst S r hd
    exact .lst (SqL.of h1) (repl_dp S.ext h2 o)
  | tup ws =>
    rw [hd] at o
    obtain ⟨a, vs, rfl, h1, h2⟩ := deref_tup S r hd
    exact .tup h1 (repl_dp S.ext h2 o)
  | str z => rw [deref_str r hd]; exact .str z
  | non => cases r with
    | non => exact .non
    | @ref a i h => 
      unfold deref at hd; simp only at hd
      cases hc : st[i]? with
      | none => rw [hc] at hd; cases hd
      | some c => rw [hc] at hd; cases c <;> cases hd
    | _ => cases hd
  | bl b => cases r with
    | bl b' => cases hd; exact .bl b
    | @ref a i h => 
      unfold deref at hd; simp only at hd
      cases hc : st[i]? with
      | none => rw [hc] at hd; cases hd
      | some c => rw [hc] at hd; cases c <;> cases hd
    | _ => cases hd
  | int b => cases r with
    | int b' => cases hd; exact .int b
    | @ref a i h => 
      unfold deref at hd; simp only at hd
      cases hc : st[i]? with
      | none => rw [hc] at hd; cases hd
      | some c => rw [hc] at hd; cases c <;> cases hd
    | _ => cases hd
  | scr _ => rw [hd] at o; cases o
  | dct _ _ => rw [hd] at o; cases o
  | ref _ => rw [hd] at o; cases o
theorem flat_of {w : W} {v : V} (r : Rep K F as v w) (f : flatW w = true) : flatV v = true := by
  cases r <;> first | rfl | cases f
theorem flats_of : ∀ {ws : List W} {vs : List V}, RepL K F as vs ws → ws.all flatW = true → vs.all flatV = true
  | _, _, .nil, _ => rfl
  | _, _, .cons h l, f => by
    simp only [List.all_cons, Bool.and_eq_true] at f ⊢
    exact ⟨flat_of h f.1, flats_of l f.2⟩
theorem eqV_eqv {w w' : W} {v v' : V} (r : Rep K F as v w) (r' : Rep K F as v' w') (f : flatW w = true) (f' : flatW w' = true) : eqV v v' = PyData.eqv (toD w) (toD w') := by
  cases r <;> first | (cases f; done) | (cases r' <;> first | (cases f'; done) | rfl)
theorem inV_eqv {w : W} {v : V} (r : Rep K F as v w) (f : flatW w = true) : ∀ {ws : List W} {vs : List V}, RepL K F as vs ws → ws.all flatW = true → inV v vs = ws.any fun y => PyData.eqv (toD y) (toD w)
  | _, _, .nil, _ => rfl
  | _, _, .cons h l, g => by
    simp only [List.all_cons, Bool.and_eq_true] at g
    have ih := inV_eqv r f l g.2
    unfold inV at ih ⊢
    rw [List.any_cons, List.any_cons, ih, eqV_eqv h r g.1 f]
theorem any_toDs (x : PyData) : ∀ ws : List W, ((toDs ws).any fun z => PyData.eqv z x) = ws.any fun y => PyData.eqv (toD y) x
  | [] => rfl
  | w :: ws => by rw [toDs, List.any_cons, List.any_cons, any_toDs x ws]
end
section
variable {X : Cx} {Wx : WX} {N : List Str} {sc : Scope} {G : Gam} {cl : Nat → List W → Sto → Res W}
theorem op_eqA (hu : X.A.units + 410 < cLine) : OpR X (compareOp .Eq) (fun x y H Q => ∃ d e, Dp X.K H x d ∧ Dp X.K H y e ∧ d.canLay0 = true ∧ e.canLay0 = true ∧ min d.depth e.depth ≤ 400 ∧ Q (.bl (PyData.eqv d e)) H) := by
  intro pins s σ H x y v u Q I rx ry h
  obtain ⟨d, e, hd, he, sd, se, dd, q⟩ := h
  obtain ⟨as, r1⟩ := Dp.reads I d x v hd rx
  obtain ⟨bs, r2⟩ := Dp.reads I e y u he ry
  exact SeqAt.compareEq_reads r1 r2 sd se (by omega) ⟨.bl _, H, I, rfl, q⟩
theorem op_neA (hu : X.A.units + 410 < cLine) : OpR X (compareOp .NotEq) (fun x y H Q => ∃ d e, Dp X.K H x d ∧ Dp X.K H y e ∧ d.canLay0 = true ∧ e.canLay0 = true ∧ min d.depth e.depth ≤ 400 ∧ Q (.bl (!PyData.eqv d e)) H) := by
  intro pins s σ H x y v u Q I rx ry h
  obtain ⟨d, e, hd, he, sd, se, dd, q⟩ := h
  obtain ⟨as, r1⟩ := Dp.reads I d x v hd rx
  obtain ⟨bs, r2⟩ := Dp.reads I e y u he ry
  exact SeqAt.compareNe_reads r1 r2 sd se (by omega) ⟨.bl _, H, I, rfl, q⟩
theorem eqv_of {st : Sto} {a b : W} {c : Bool} (h : eqvW st a b = some c) : okD (deref st a) = true ∧ okD (deref st b) = true ∧ (toD (deref st a)).canLay0 = true ∧ (toD (deref st b)).canLay0 = true ∧ min (toD (deref st a)).depth (toD (deref st b)).depth ≤ 400 ∧ c = PyData.eqv (toD (deref st a)) (toD (deref st b)) := by
  unfold eqvW at h
  simp only at h
  split at h
  · rename_i q
    simp only [Bool.and_eq_true, decide_eq_true_eq] at q
    exact ⟨q.1.1.1.1, q.1.1.1.2, q.1.1.2, q.1.2, q.2, (Option.some.inj h).symm⟩
  · cases h
/-- x in s, x not in s -/
theorem in_ok (hu : X.A.units + 410 < cLine) {x y : V} {wx wy : W} {Pr H F : Hp} {as : List Addr} {st : Sto} {Q : VK} {c : Bool} (S : Sat X.K Pr F H as st) (rx : Rep X.K F as x wx) (ry : Rep X.K F as y wy) (h : inW st wx wy = some c) :
    (Q (.bl c) H → rOf X (compareOp .In) x y H Q) ∧ (Q (.bl (!c)) H → rOf X (compareOp .NotIn) x y H Q) := by
  unfold inW at h
  split at h
  · rename_i ws hd
    obtain ⟨a, vs, rfl, h1, l⟩ := deref_tup S ry hd
    split at h
    · rename_i f
      simp only [Bool.and_eq_true] at f
      cases h
      have e := inV_eqv rx f.1 l f.2
      exact ⟨fun q => toR op_in_seq ⟨a, vs, rfl, .inr h1, flat_of rx f.1, flats_of l f.2, by rw [if_neg Bool.false_ne_true, e]; exact q⟩,
        fun q => toR op_notIn_seq ⟨a, vs, rfl, .inr h1, flat_of rx f.1, flats_of l f.2, by rw [if_pos rfl, e]; exact q⟩⟩
    · cases h
  · rename_i ws hd
    obtain ⟨a, vs, rfl, h1, l⟩ := deref_lst S ry hd
    split at h
    · rename_i f
      simp only [Bool.and_eq_true] at f
      cases h
      have e := inV_eqv rx f.1 l f.2
      exact ⟨fun q => toR op_in_seq ⟨a, vs, rfl, .inl (SqL.of h1), flat_of rx f.1, flats_of l f.2, by rw [if_neg Bool.false_ne_true, e]; exact q⟩,
        fun q => toR op_notIn_seq ⟨a, vs, rfl, .inl (SqL.of h1), flat_of rx f.1, flats_of l f.2, by rw [if_pos rfl, e]; exact q⟩⟩
    · split at h
      · rename_i f
        simp only [Bool.and_eq_true, decide_eq_true_eq] at f
        cases h
        have s1 : SeqAt.shaped (toD wx) = true := by
          unfold SeqAt.shaped
          rw [f.1.1.1.2, decide_eq_true (by omega)]; rfl
        have s2 : SeqAt.shaped (.list (toDs ws)) = true := by
          unfold SeqAt.shaped
          rw [PyData.canLay0, f.1.1.2, PyData.depth, decide_eq_true (by omega)]; rfl
        exact ⟨fun q => toR (op_inD (by omega)) ⟨_, _, rep_dp S.ext rx f.1.1.1.1.1, .lst (SqL.of h1) (repl_dp S.ext l f.1.1.1.1.2), s1, s2, by rw [any_toDs]; exact q⟩,
          fun q => toR (op_notInD (by omega)) ⟨_, _, rep_dp S.ext rx f.1.1.1.1.1, .lst (SqL.of h1) (repl_dp S.ext l f.1.1.1.1.2), s1, s2, by rw [any_toDs]; exact q⟩⟩
      · cases h
  · rename_i z hd
    have e := deref_str ry hd
    subst e
    split at h
    · rename_i c'
      split at h
      · rename_i k ek
        cases h
        have ec : c' = ⟨#[k]⟩ := by
          cases c' with
          | mk cps =>
            have : cps = [k].toArray := by rw [← ek]
            rw [this]
        subst ec
        cases rx
        exact ⟨fun q => toR op_in_sign ⟨k, z, rfl, rfl, q⟩, fun q => toR op_notIn_sign ⟨k, z, rfl, rfl, q⟩⟩
      · cases h
    · cases h
  · cases h
theorem op_cmpS {o : CmpOp} {op : CO} (ho : cmpOp o op = true) (hu : X.A.units + 410 < cLine) {x y : V} {wx wy : W} {Pr H F : Hp} {as : List Addr} {st : Sto} {Q : VK} {c : Bool} (S : Sat X.K Pr F H as st) (rx : Rep X.K F as x wx) (ry : Rep X.K F as y wy)
    (h : cmpW st op wx wy = some c) (q : Q (.bl c) H) : rOf X (compareOp o) x y H Q := by
  unfold cmpW at h
  split at h
  all_goals first | (cases h; done) | (cases o <;> simp only [cmpOp] at ho <;> first | exact absurd ho Bool.false_ne_true | skip) | skip
  · obtain ⟨o1, o2, l1, l2, d, rfl⟩ := eqv_of h
    exact toR (op_eqA hu) ⟨_, _, deref_dp S rx o1, deref_dp S ry o2, l1, l2, d, q⟩
  · cases he : eqvW st wx wy with
    | none => rw [he] at h; cases h
    | some b =>
      rw [he] at h
      cases h
      obtain ⟨o1, o2, l1, l2, d, rfl⟩ := eqv_of he
      exact toR (op_neA hu) ⟨_, _, deref_dp S rx o1, deref_dp S ry o2, l1, l2, d, q⟩
  · cases h; cases rx; cases ry; exact toR op_lt ⟨_, _, rfl, rfl, q⟩
  · cases h; cases rx; cases ry; exact toR op_le ⟨_, _, rfl, rfl, q⟩
  · cases h; cases rx; cases ry; exact toR op_gt ⟨_, _, rfl, rfl, q⟩
  · cases h; cases rx; cases ry; exact toR op_ge ⟨_, _, rfl, rfl, q⟩
  · cases h; cases rx; cases ry; exact toR op_le_str ⟨_, _, rfl, rfl, q⟩
  · cases h; cases ry
    refine toR op_isN ⟨rfl, ?_⟩
    cases rx <;> exact q
  · cases h; cases ry
    refine toR op_notN ⟨rfl, ?_⟩
    cases rx <;> exact q
  · exact (in_ok hu S rx ry h).1 q
  · cases he : inW st wx wy with
    | none => rw [he] at h; cases h
    | some b =>
      rw [he] at h
      cases h
      exact (in_ok hu S rx ry he).2 q
theorem snd_cmp {o : CmpOp} {op : CO} {a b : Expr} {pos : Pos} {ea eb : E} (ho : cmpOp o op = true) (hu : X.A.units + 410 < cLine) (hp : plainE b = true) (ha : SndE X Wx a (ev cl ea)) (hb : SndE X Wx b (ev cl eb)) :
    SndE X Wx (.Compare a [o] [b] pos) (ev cl (.cmp op ea eb)) ∧ SndT X Wx (.Compare a [o] [b] pos) (fun ρ st => boolW (ev cl (.cmp op ea eb) ρ st)) := by
  constructor
  · intro σ ρ Pr H F as st Q L S P
    rw [ev] at P
    refine toE (pe_cmpR (or_of _) (pe_of a) (pe_of b) (mark_of hp)) (snd2 ha hb (fun σ x y wx wy Pr H F as st Q S rx ry P => ?_) σ ρ Pr H F as st Q L S P)
    obtain ⟨z, hz, P⟩ := P.ret
    cases hc : cmpW st op wx wy with
    | none => rw [hc] at hz; cases hz
    | some c =>
      rw [hc] at hz
      cases hz
      exact op_cmpS ho hu S rx ry hc (P.here S (.bl _))
  · intro σ ρ Pr H F as st Q L S P
    dsimp only at P
    rw [ev] at P
    refine toT (pt_cmpR (or_of _) (pe_of a) (pe_of b) (mark_of hp)) ?_
    unfold boolW at P
    refine ha σ ρ Pr H F as st _ L S ?_
    have P1 : Post X.K Pr RB (WE Wx σ) F as Q ((ev cl ea ρ st).bind fun x st => ((ev cl eb ρ st).bind fun y st => Mz.ret st ((cmpW st op x y).map W.bl)).bind fun x st => match x with | .bl b => .ok b st | _ => .stuck) := by
      revert P
      cases ev cl ea ρ st <;> exact id
    refine Post.bind P1 fun wx st1 x H1 F1 as1 _ e1 p1 S1 rx P2 => ?_
    refine hb σ ρ Pr H1 F1 as1 st1 _ (L.mono e1 p1) S1 ?_
    have P3 : Post X.K Pr RB (WE Wx σ) F1 as1 Q ((ev cl eb ρ st1).bind fun y st => (Mz.ret st ((cmpW st op wx y).map W.bl)).bind fun x st => match x with | .bl b => .ok b st | _ => .stuck) := by
      revert P2
      cases ev cl eb ρ st1 <;> exact id
    refine Post.bind P3 fun wy st2 y H2 F2 as2 _ e2 p2 S2 ry P4 => ?_
    cases hc : cmpW st2 op wx wy with
    | none => rw [hc] at P4; exact P4.elim
    | some c =>
      rw [hc] at P4
      exact op_cmpS ho hu S2 (Rep.mono e2 p2 rx) ry hc ⟨c, rfl, P4.here S2 rfl⟩
/-- a value as a test -/
theorem snd_val {e : Expr} {f : Rho → Sto → Res W} (he : ∀ whole, isTrue e X.env whole = (do let v ← whole; standAt e.pos; holding [v] (truthy v))) (h : SndE X Wx e f) : SndT X Wx e (fun ρ st => boolW (f ρ st)) := by
  intro σ ρ Pr H F as st Q L S P
  refine toT (pt_val (pe_of e) he) (h σ ρ Pr H F as st _ L S (Post.bind P fun w st1 x H1 F1 as1 _ e1 p1 S1 rx P1 => ?_))
  cases rx with
  | bl b => exact ⟨b, rfl, P1.here S1 rfl⟩
  | _ => exact P1.elim
/-! ### and, or, not -/
def tOfW (X : Cx) (e : Expr) : TT := fun σ H Q => ∀ (whole : Sem Value) (pins : List (Addr × Obj)) (s : Shared), Inv X pins σ H s → wpAny (model X.prog X.w) X.A (isTrue e X.env whole) (TP X pins σ Q) X.xe s
theorem pw_of (e : Expr) : PW X e (tOfW X e) := ⟨fun wh pins s σ H Q I h => h wh pins s I⟩
theorem toW {e : Expr} {t : TT} (h : PW X e t) {σ : L2.St} {H : Hp} {Q : Bool → Hp → Prop} (q : t σ H Q) : tOfW X e σ H Q := fun wh pins s I => h.run wh pins s σ H Q I q
def SndW (X : Cx) (Wx : WX) (e : Expr) (f : Rho → Sto → Res Bool) : Prop := ∀ σ ρ Pr H F as st (Q : Bool → Hp → Prop), Slots X.K F as σ ρ → Sat X.K Pr F H as st → Post X.K Pr RB (WE Wx σ) F as Q (f ρ st) → tOfW X e σ H Q
theorem SndW.t {e : Expr} {f : Rho → Sto → Res Bool} (h : SndW X Wx e f) : SndT X Wx e f := fun σ ρ Pr H F as st Q L S P => toT (PW.pt (pw_of e)) (h σ ρ Pr H F as st Q L S P)
theorem snd_not {a : Expr} {pos : Pos} {ea : E} (ha : SndE X Wx a (ev cl ea)) : SndE X Wx (.UnaryOp .Not a pos) (ev cl (.not ea)) := by
  intro σ ρ Pr H F as st Q L S P
  rw [ev] at P
  refine toE (pe_not (pe_of a)) (ha σ ρ Pr H F as st _ L S (Post.bind P fun w st1 x H1 F1 as1 _ e1 p1 S1 rx P1 => ?_))
  cases rx with
  | bl b => exact ⟨b, rfl, P1.here S1 (.bl _)⟩
  | _ => exact P1.elim
theorem snd_notT {a : Expr} {pos : Pos} {ea : E} (ha : SndT X Wx a (fun ρ st => boolW (ev cl ea ρ st))) : SndT X Wx (.UnaryOp .Not a pos) (fun ρ st => boolW (ev cl (.not ea) ρ st)) := by
  intro σ ρ Pr H F as st Q L S P
  dsimp only at P
  rw [ev] at P
  refine toT (pt_not (pt_of a)) (ha σ ρ Pr H F as st _ L S ?_)
  show Post X.K Pr RB (WE Wx σ) F as _ (boolW (ev cl ea ρ st))
  unfold boolW at P ⊢
  revert P
  cases ev cl ea ρ st with
  | stuck => exact fun h => False.elim h
  | err x st1 => exact fun h c d H' F' as' e p S r => h c d H' F' as' e p S r
  | ok w st1 =>
    intro P
    cases w with
    | bl b =>
      refine (show ∀ (c : Bool) (H' F' : Hp) (as' : List Addr), Ex F F' → Pre as as' → Sat X.K Pr F' H' as' st1 → c = b → Q (!c) H' from fun c H' F' as' e p S' r => ?_)
      subst r
      exact P _ H' F' as' e p S' rfl
    | _ => exact P.elim
theorem snd_and1 {a : Expr} {pos : Pos} {ea : E} (ha : SndE X Wx a (ev cl ea)) : SndE X Wx (.BoolOp .And [a] pos) (evAnd cl [ea]) := by
  intro σ ρ Pr H F as st Q L S P
  exact toE (pe_one (pe_of a)) (ha σ ρ Pr H F as st Q L S P)
theorem snd_or1 {a : Expr} {pos : Pos} {ea : E} (ha : SndE X Wx a (ev cl ea)) : SndE X Wx (.BoolOp .Or [a] pos) (evOr cl [ea]) := by
  intro σ ρ Pr H F as st Q L S P
  exact toE (pe_one (pe_of a)) (ha σ ρ Pr H F as st Q L S P)
theorem snd_andC {a b : Expr} {rest : List Expr} {pos : Pos} {ea eb : E} {er : List E} (ha : SndE X Wx a (ev cl ea)) (hb : SndE X Wx (.BoolOp .And (b :: rest) pos) (evAnd cl (eb :: er))) : SndE X Wx (.BoolOp .And (a :: b :: rest) pos) (evAnd cl (ea :: eb :: er)) := by
  intro σ ρ Pr H F as st Q L S P
  rw [evAnd] at P
  refine toE (pe_and (pe_of a) (pe_of _)) (ha σ ρ Pr H F as st _ L S (Post.bind P fun w st1 x H1 F1 as1 _ e1 p1 S1 rx P1 => ?_))
  cases rx with
  | bl c => cases c with
    | true => exact ⟨true, rfl, by rw [if_pos rfl]; exact hb σ ρ Pr H1 F1 as1 st1 Q (L.mono e1 p1) S1 P1⟩
    | false => exact ⟨false, rfl, by rw [if_neg Bool.false_ne_true]; exact P1.here S1 (.bl _)⟩
  | _ => exact P1.elim
theorem snd_orC {a b : Expr} {rest : List Expr} {pos : Pos} {ea eb : E} {er : List E} (ha : SndE X Wx a (ev cl ea)) (hb : SndE X Wx (.BoolOp .Or (b :: rest) pos) (evOr cl (eb :: er))) : SndE X Wx (.BoolOp .Or (a :: b :: rest) pos) (evOr cl (ea :: eb :: er)) := by
  intro σ ρ Pr H F as st Q L S P
  rw [evOr] at P
  refine toE (pe_or (pe_of a) (pe_of _)) (ha σ ρ Pr H F as st _ L S (Post.bind P fun w st1 x H1 F1 as1 _ e1 p1 S1 rx P1 => ?_))
  cases rx with
  | bl c => cases c with
    | false => exact ⟨false, rfl, by rw [if_neg Bool.false_ne_true]; exact hb σ ρ Pr H1 F1 as1 st1 Q (L.mono e1 p1) S1 P1⟩
    | true => exact ⟨true, rfl, by rw [if_pos rfl]; exact P1.here S1 (.bl _)⟩
  | _ => exact P1.elim
theorem snd_and1W {a : Expr} {pos : Pos} {ea : E} (ha : SndT X Wx a (fun ρ st => boolW (ev cl ea ρ st))) : SndW X Wx (.BoolOp .And [a] pos) (fun ρ st => boolW (evAnd cl [ea] ρ st)) := by
  intro σ ρ Pr H F as st Q L S P
  exact toW (pw_and1 (pt_of a)) (ha σ ρ Pr H F as st Q L S P)
theorem snd_or1W {a : Expr} {pos : Pos} {ea : E} (ha : SndT X Wx a (fun ρ st => boolW (ev cl ea ρ st))) : SndW X Wx (.BoolOp .Or [a] pos) (fun ρ st => boolW (evOr cl [ea] ρ st)) := by
  intro σ ρ Pr H F as st Q L S P
  exact toW (pw_or1 (pt_of a)) (ha σ ρ Pr H F as st Q L S P)
theorem snd_andW {a b : Expr} {rest : List Expr} {pos : Pos} {ea eb : E} {er : List E} (ha : SndT X Wx a (fun ρ st => boolW (ev cl ea ρ st))) (hb : SndW X Wx (.BoolOp .And (b :: rest) pos) (fun ρ st => boolW (evAnd cl (eb :: er) ρ st))) :
    SndW X Wx (.BoolOp .And (a :: b :: rest) pos) (fun ρ st => boolW (evAnd cl (ea :: eb :: er) ρ st)) := by
  intro σ ρ Pr H F as st Q L S P
  dsimp only at P
  rw [evAnd] at P
  refine toW (pw_and (pt_of a) (pw_of _)) (ha σ ρ Pr H F as st _ L S ?_)
  show Post X.K Pr RB (WE Wx σ) F as _ (boolW (ev cl ea ρ st))
  unfold boolW andW at P
  unfold boolW
  revert P
  cases ev cl ea ρ st with
  | stuck => exact fun h => False.elim h
  | err x st1 => exact fun h c d H' F' as' e p S r => h c d H' F' as' e p S r
  | ok w st1 =>
    intro P
    cases w with
    | bl c => cases c with
      | true => exact fun d H' F' as' e p S' r => by subst r; rw [if_pos rfl]; exact hb σ ρ Pr H' F' as' st1 Q (L.mono e p) S' (Post.mono (r := boolW (evAnd cl (eb :: er) ρ st1)) P e p)
      | false => exact fun d H' F' as' e p S' r => by subst r; rw [if_neg Bool.false_ne_true]; exact P _ H' F' as' e p S' rfl
    | _ => exact P.elim
theorem snd_orW {a b : Expr} {rest : List Expr} {pos : Pos} {ea eb : E} {er : List E} (ha : SndT X Wx a (fun ρ st => boolW (ev cl ea ρ st))) (hb : SndW X Wx (.BoolOp .Or (b :: rest) pos) (fun ρ st => boolW (evOr cl (eb :: er) ρ st))) :
    SndW X Wx (.BoolOp .Or (a :: b :: rest) pos) (fun ρ st => boolW (evOr cl (ea :: eb :: er) ρ st)) := by
  intro σ ρ Pr H F as st Q L S P
  dsimp only at P
  rw [evOr] at P
  refine toW (pw_or (pt_of a) (pw_of _)) (ha σ ρ Pr H F as st _ L S ?_)
  show Post X.K Pr RB (WE Wx σ) F as _ (boolW (ev cl ea ρ st))
  unfold boolW orW at P
  unfold boolW
  revert P
  cases ev cl ea ρ st with
  | stuck => exact fun h => False.elim h
  | err x st1 => exact fun h c d H' F' as' e p S r => h c d H' F' as' e p S r
  | ok w st1 =>
    intro P
    cases w with
    | bl c => cases c with
      | false => exact fun d H' F' as' e p S' r => by subst r; rw [if_neg Bool.false_ne_true]; exact hb σ ρ Pr H' F' as' st1 Q (L.mono e p) S' (Post.mono (r := boolW (evOr cl (eb :: er) ρ st1)) P e p)
      | true => exact fun d H' F' as' e p S' r => by subst r; rw [if_pos rfl]; exact P _ H' F' as' e p S' rfl
    | _ => exact P.elim
theorem snd_ite {c a b : Expr} {pos : Pos} {ec ea eb : E} (hc : SndT X Wx c (fun ρ st => boolW (ev cl ec ρ st))) (ha : SndE X Wx a (ev cl ea)) (hb : SndE X Wx b (ev cl eb)) : SndE X Wx (.IfExp c a b pos) (ev cl (.ite ec ea eb)) := by
  intro σ ρ Pr H F as st Q L S P
  rw [ev] at P
  refine toE (pe_ifExp (pt_of c) (pe_of a) (pe_of b)) (hc σ ρ Pr H F as st _ L S ?_)
  show Post X.K Pr RB (WE Wx σ) F as _ (boolW (ev cl ec ρ st))
  unfold boolW
  revert P
  cases ev cl ec ρ st with
  | stuck => exact fun h => False.elim h
  | err x st1 => exact fun h c d H' F' as' e p S r => h c d H' F' as' e p S r
  | ok w st1 =>
    intro P
    cases w with
    | bl c => cases c with
      | false => exact fun d H' F' as' e p S' r => by subst r; rw [if_neg Bool.false_ne_true]; exact hb σ ρ Pr H' F' as' st1 Q (L.mono e p) S' (Post.mono (r := ev cl eb ρ st1) P e p)
      | true => exact fun d H' F' as' e p S' r => by subst r; rw [if_pos rfl]; exact ha σ ρ Pr H' F' as' st1 Q (L.mono e p) S' (Post.mono (r := ev cl ea ρ st1) P e p)
    | _ => exact P.elim
theorem snd_chain {o o' : CmpOp} {op op' : CO} {a b c : Expr} {pos : Pos} {ea eb ec : E} (ho : cmpOp o op = true) (ho' : cmpOp o' op' = true) (hu : X.A.units + 410 < cLine) (hp : plainE c = true) (ha : SndE X Wx a (ev cl ea)) (hb : SndE X Wx b (ev cl eb)) (hc : SndE X Wx c (ev cl ec)) :
    SndE X Wx (.Compare a [o, o'] [b, c] pos) (ev cl (.chain op op' ea eb ec)) ∧ SndT X Wx (.Compare a [o, o'] [b, c] pos) (fun ρ st => boolW (ev cl (.chain op op' ea eb ec) ρ st)) := by
  have main : ∀ σ ρ Pr H F as st (Q : VK), Slots X.K F as σ ρ → Sat X.K Pr F H as st → Post X.K Pr (RV X.K) (WE Wx σ) F as Q (ev cl (.chain op op' ea eb ec) ρ st) → tChain (rOf X (compareOp o)) (rOf X (compareOp o')) (tOf X a) (tOf X b) (tOf X c) σ H Q := by
    intro σ ρ Pr H F as st Q L S P
    rw [ev] at P
    refine ha σ ρ Pr H F as st _ L S (Post.bind P fun wx st1 x H1 F1 as1 _ e1 p1 S1 rx P1 => ?_)
    refine hb σ ρ Pr H1 F1 as1 st1 _ (L.mono e1 p1) S1 (Post.bind P1 fun wy st2 y H2 F2 as2 _ e2 p2 S2 ry P2 => ?_)
    cases hcm : cmpW st2 op wx wy with
    | none => rw [hcm] at P2; exact P2.elim
    | some k =>
      rw [hcm] at P2
      refine op_cmpS ho hu S2 (Rep.mono e2 p2 rx) ry hcm ⟨k, rfl, ?_⟩
      cases k with
      | false => rw [if_neg Bool.false_ne_true]; exact P2.here S2 (.bl _)
      | true =>
        rw [if_pos rfl]
        refine hc σ ρ Pr H2 F2 as2 st2 _ ((L.mono e1 p1).mono e2 p2) S2 (Post.bind P2 fun wz st3 z H3 F3 as3 _ e3 p3 S3 rz P3 => ?_)
        obtain ⟨q, hq, P4⟩ := P3.ret
        cases hcz : cmpW st3 op' wy wz with
        | none => rw [hcz] at hq; cases hq
        | some k' =>
          rw [hcz] at hq
          cases hq
          exact op_cmpS ho' hu S3 (Rep.mono e3 p3 ry) rz hcz (P4.here S3 (.bl _))
  have mk : lastMarks [o, o'] [b, c] = false := mark_of hp
  refine ⟨fun σ ρ Pr H F as st Q L S P => toE (pe_chain (or_of _) (or_of _) (pe_of a) (pe_of b) (pe_of c) mk) (main σ ρ Pr H F as st Q L S P), fun σ ρ Pr H F as st Q L S P => toT (pt_chain (or_of _) (or_of _) (pe_of a) (pe_of b) (pe_of c) mk) (main σ ρ Pr H F as st _ L S (Post.bind P fun w st1 x H1 F1 as1 _ e1 p1 S1 rx P1 => ?_))⟩
  cases rx with
  | bl b => exact ⟨b, rfl, P1.here S1 rfl⟩
  | _ => exact P1.elim
end
end Mz
end
section
namespace Mz
open PySem PySem.Spec PyProof.Rows L2
/-! ### sorted texts -/
theorem lt_asymm : ∀ a b : List Nat, ltCps a b = true → ltCps b a = false
  | [], [], _ => rfl
  | [], _ :: _, _ => rfl
  | _ :: _, [], h => by cases h
  | a :: r, b :: t, h => by
    unfold ltCps at h ⊢
    simp only [Bool.or_eq_true, Bool.and_eq_true, decide_eq_true_eq, beq_iff_eq] at h
    rcases h with h | ⟨h, h2⟩
    · simp only [Bool.or_eq_false_iff, decide_eq_false_iff_not, Bool.and_eq_false_iff, beq_eq_false_iff_ne]
      exact ⟨by omega, .inl (by omega)⟩
    · subst h
      simp only [Bool.or_eq_false_iff, decide_eq_false_iff_not, Bool.and_eq_false_iff]
      exact ⟨by omega, .inr (lt_asymm r t h2)⟩
theorem lt_anti : ∀ a b : List Nat, ltCps a b = false → ltCps b a = false → a = b
  | [], [], _, _ => rfl
  | [], _ :: _, h, _ => by cases h
  | _ :: _, [], _, h => by cases h
  | a :: r, b :: t, h, k => by
    unfold ltCps at h k
    simp only [Bool.or_eq_false_iff, decide_eq_false_iff_not, Bool.and_eq_false_iff, beq_eq_false_iff_ne] at h k
    have e : a = b := by omega
    subst e
    rw [lt_anti r t (h.2.resolve_left fun z => z rfl) (k.2.resolve_left fun z => z rfl)]
theorem lt_trans' : ∀ a b c : List Nat, ltCps a b = true → ltCps b c = true → ltCps a c = true
  | [], [], _, h, _ => by cases h
  | [], _ :: _, [], _, k => by cases k
  | [], _ :: _, _ :: _, _, _ => rfl
  | _ :: _, [], _, h, _ => by cases h
  | _ :: _, _ :: _, [], _, k => by cases k
  | a :: r, b :: t, c :: u, h, k => by
    unfold ltCps at h k ⊢
    simp only [Bool.or_eq_true, Bool.and_eq_true, decide_eq_true_eq, beq_iff_eq] at h k ⊢
    rcases h with h | ⟨h, h2⟩ <;> rcases k with k | ⟨k, k2⟩
    · exact .inl (by omega)
    · exact .inl (by omega)
    · exact .inl (by omega)
    · exact .inr ⟨by omega, lt_trans' r t u h2 k2⟩
def leS (a b : Str) : Prop := ltCps b.cps.toList a.cps.toList = false
theorem leS_trans {a b c : Str} (h : leS a b) (k : leS b c) : leS a c := by
  unfold leS at *
  cases e : ltCps c.cps.toList a.cps.toList with
  | false => rfl
  | true =>
    cases e2 : ltCps a.cps.toList b.cps.toList with
    | true => rw [lt_trans' _ _ _ e e2] at k; cases k
    | false =>
      have := lt_anti _ _ e2 h
      rw [this] at e
      rw [e] at k; cases k
theorem leS_total (a b : Str) : leS a b ∨ leS b a := by
  unfold leS
  cases e : ltCps b.cps.toList a.cps.toList with
  | false => exact .inl rfl
  | true => exact .inr (lt_asymm _ _ e)
theorem leS_anti {a b : Str} (h : leS a b) (k : leS b a) : a = b := by
  have e := lt_anti _ _ h k
  cases a with | mk a => cases b with | mk b =>
    have e' : b.toList = a.toList := e
    rw [Array.toList_inj] at e'
    rw [e']
theorem pair_of_rising : ∀ (l : List Str) (p : Str), risingS p l = true → (p :: l).Pairwise leS
  | [], p, _ => by simp
  | x :: r, p, h => by
    simp only [risingS, Bool.and_eq_true, Bool.not_eq_true'] at h
    have ih := pair_of_rising r x h.2
    refine List.Pairwise.cons (fun y hy => ?_) ih
    rcases List.mem_cons.mp hy with e | e
    · subst e; exact h.1
    · exact leS_trans h.1 ((List.pairwise_cons.mp ih).1 y e)
theorem pair_of_sorted : ∀ l : List Str, sortedS l = true → l.Pairwise leS
  | [], _ => List.Pairwise.nil
  | x :: r, h => pair_of_rising r x h
theorem insS_perm (x : Str) : ∀ l, (insS x l).Perm (x :: l)
  | [] => List.Perm.refl _
  | y :: r => by
    unfold insS
    split
    · exact ((insS_perm x r).cons y).trans (List.Perm.swap ..)
    · exact List.Perm.refl _
theorem sortS_perm : ∀ l, (sortS l).Perm l
  | [] => List.Perm.refl _
  | x :: r => (insS_perm x (sortS r)).trans ((sortS_perm r).cons x)
theorem insS_sorted (x : Str) : ∀ l : List Str, l.Pairwise leS → (insS x l).Pairwise leS
  | [], _ => by simp [insS]
  | y :: r, h => by
    have h' := List.pairwise_cons.mp h
    unfold insS
    split
    · rename_i c
      refine List.Pairwise.cons (fun z hz => ?_) (insS_sorted x r h'.2)
      rcases List.mem_cons.mp ((insS_perm x r).subset hz) with e | e
      · subst e; exact lt_asymm _ _ c
      · exact h'.1 z e
    · rename_i c
      have c' : leS x y := Bool.eq_false_iff.mpr c
      refine List.Pairwise.cons (fun z hz => ?_) h
      rcases List.mem_cons.mp hz with e | e
      · subst e; exact c'
      · exact leS_trans c' (h'.1 z e)
theorem sortS_sorted : ∀ l : List Str, (sortS l).Pairwise leS
  | [] => List.Pairwise.nil
  | x :: r => insS_sorted x _ (sortS_sorted r)
theorem sortS_eq {l ys : List Str} (p : ys.Perm l) (h : sortedS ys = true) : ys = sortS l :=
  List.Perm.eq_of_pairwise (fun _ _ _ _ h k => leS_anti h k) (pair_of_sorted ys h) (sortS_sorted l) (p.trans (sortS_perm l).symm)
/-! ### more of the state -/
section
variable {K : PySem.W.Frag} {Pr F H : Hp} {as : List Addr} {st : Sto} {p : Addr} {o : HO}
theorem Sat.extra (S : Sat K Pr F H as st) (hp : H p = none) : Sat K Pr F (upd H p o) as st :=
  ⟨fun a u e => by rw [upd_ne (ne_of_none (S.ext _ _ e) hp)]; exact S.ext _ _ e, S.len, S.inj, S.out, fun i a c h hc => (S.cel i a c h hc).mono (upd_ne (S.ne h hp)) (Ex.refl _) (Pre.refl _), fun a u e => by
    obtain ⟨h1, h2, h3⟩ := S.prv a u e
    exact ⟨by rw [upd_ne (ne_of_none h1 hp)]; exact h1, h2, h3⟩⟩
theorem Sat.pnone (S : Sat K Pr F H as st) (hp : H p = none) : Pr p = none := by
  cases e : Pr p with
  | none => rfl
  | some u => rw [(S.prv _ _ e).1] at hp; cases hp
theorem Sat.notcell (S : Sat K Pr F H as st) (hp : H p = none) : ∀ i : Nat, as[i]? ≠ some p := fun i h => S.ne h hp rfl
theorem Sat.freeze (S : Sat K Pr F H as st) (qp : Pr p = none) (fp : F p = none) (np : ∀ i : Nat, as[i]? ≠ some p) (hp : H p = some o) : Sat K Pr (upd F p o) H as st ∧ Ex F (upd F p o) := by
  have ex : Ex F (upd F p o) := Ex.new fp
  refine ⟨⟨fun a u e => ?_, S.len, S.inj, fun i a h hd => ?_, fun i a c h hc => (S.cel i a c h hc).mono rfl ex (Pre.refl _), fun a u e => ?_⟩, ex⟩
  · by_cases q : a = p
    · subst q; rw [upd_same] at e; rw [hp]; exact e
    · rw [upd_ne q] at e; exact S.ext _ _ e
  · rw [upd_ne (fun z => np i (by rw [← z]; exact h))]; exact S.out i a h hd
  · obtain ⟨h1, h2, h3⟩ := S.prv a u e
    exact ⟨h1, by rw [upd_ne (fun z => by rw [z, qp] at e; cases e)]; exact h2, h3⟩
theorem Sat.thaw {c : Cell} (S : Sat K Pr F H as st) (qp : Pr p = none) (fp : F p = none) (np : ∀ i : Nat, as[i]? ≠ some p) (hc : CellOk K F H (as ++ [p]) p c) : Sat K Pr F H (as ++ [p]) (st ++ [c]) ∧ Pre as (as ++ [p]) ∧ (as ++ [p])[st.length]? = some p := by
  have pr := Pre.snoc as p
  have last : (as ++ [p])[st.length]? = some p := by
    rw [← S.len, List.getElem?_append_right (Nat.le_refl _), Nat.sub_self]; rfl
  have cases' : ∀ (i : Nat) (a : Addr), (as ++ [p])[i]? = some a → as[i]? = some a ∨ (i = st.length ∧ a = p) := fun i a h => by
    rcases Nat.lt_trichotomy i as.length with h1 | h1 | h1
    · rw [List.getElem?_append_left h1] at h; exact .inl h
    · subst h1
      rw [S.len, last] at h
      exact .inr ⟨S.len, (Option.some.inj h).symm⟩
    · rw [List.getElem?_eq_none (by rw [List.length_append, List.length_singleton]; omega)] at h; cases h
  refine ⟨⟨S.ext, ?_, fun i j a hi hj => ?_, fun i a h hd => ?_, fun i a c' h hc' => ?_, fun a u e => ?_⟩, pr, last⟩
  · rw [List.length_append, List.length_append, S.len]; rfl
  · rcases cases' i a hi with h1 | ⟨h1, h2⟩ <;> rcases cases' j a hj with k1 | ⟨k1, k2⟩
    · exact S.inj i j a h1 k1
    · subst k2; exact absurd h1 (np i)
    · subst h2; exact absurd k1 (np j)
    · omega
  · rcases cases' i a h with h1 | ⟨h1, h2⟩
    · refine S.out i a h1 fun z => hd ?_
      have hl : i < st.length := by
        rcases Nat.lt_or_ge i st.length with h1' | h1'
        · exact h1'
        · rw [List.getElem?_eq_none h1'] at z; cases z
      rw [List.getElem?_append_left hl]; exact z
    · subst h2; exact fp
  · rcases cases' i a h with h1 | ⟨h1, h2⟩
    · have hl : i < st.length := by
        rw [← S.len]
        rcases Nat.lt_or_ge i as.length with h1' | h1'
        · exact h1'
        · rw [List.getElem?_eq_none h1'] at h1; cases h1
      rw [List.getElem?_append_left hl] at hc'
      exact (S.cel i a c' h1 hc').mono rfl (Ex.refl _) pr
    · subst h1; subst h2
      rw [List.getElem?_append_right (Nat.le_refl _), Nat.sub_self] at hc'
      have e : c = c' := Option.some.inj hc'
      subst e
      exact hc
  · obtain ⟨h1, h2, h3⟩ := S.prv a u e
    refine ⟨h1, h2, fun i h => ?_⟩
    rcases cases' i a h with k | ⟨_, k⟩
    · exact h3 i k
    · rw [k, qp] at e; cases e
end
section
variable {X : Cx} {Wx : WX} {N : List Str} {sc : Scope} {G : Gam} {cl : Nat → List W → Sto → Res W}
/-! ### lists of arguments, displays -/
theorem snd_nil : SndA X Wx [] (evs cl []) := by
  intro σ ρ Pr H F as st Q L S P
  exact toA pa_nil (Post.here (R := RVs X.K) P S .nil)
theorem snd_cons {e : Expr} {es : List Expr} {e' : E} {es' : List E} (hp : plainE e = true) (h : SndE X Wx e (ev cl e')) (hs : SndA X Wx es (evs cl es')) : SndA X Wx (e :: es) (evs cl (e' :: es')) := by
  intro σ ρ Pr H F as st Q L S P
  rw [evs] at P
  refine toA (pa_cons (pe_of e) (pa_of es) (star_of hp)) (h σ ρ Pr H F as st _ L S (Post.bind P fun w st1 x H1 F1 as1 _ e1 p1 S1 rx P1 => ?_))
  refine hs σ ρ Pr H1 F1 as1 st1 _ (L.mono e1 p1) S1 (Post.bind P1 fun ws st2 xs H2 F2 as2 _ e2 p2 S2 rxs P2 => ?_)
  exact Post.here (R := RVs X.K) P2 S2 (.cons (Rep.mono e2 p2 rx) rxs)
theorem snd_tup {es : List Expr} {es' : List E} {j : Nat} {pos : Pos} (hs : SndA X Wx es (evs cl es')) : SndE X Wx (.Tuple es j pos) (ev cl (.tup es')) := by
  intro σ ρ Pr H F as st Q L S P
  rw [ev] at P
  refine toE (pe_tup (pa_of es)) (hs σ ρ Pr H F as st _ L S (Post.bind P fun ws st1 xs H1 F1 as1 _ e1 p1 S1 rx P1 => ?_))
  obtain ⟨g, P2⟩ := P1.guard
  have hl : ws.length ≤ lim := of_decide_eq_true g
  refine ⟨by rw [RepL.length rx, lim_eq]; exact hl, fun p hp => ?_⟩
  obtain ⟨S', ex⟩ := S1.froz (o := .tup xs) hp
  exact P2 _ _ _ as1 ex (Pre.refl _) S' (.tup (SqT.of upd_same) (RepL.mono ex (Pre.refl _) rx))
theorem snd_disp {es : List Expr} {es' : List E} {pos : Pos} (hs : SndA X Wx es (evs cl es')) : SndF X Wx (.List es pos) (evL cl (.disp es')) := by
  intro σ ρ Pr H F as st Q L S P
  rw [evL] at P
  refine toE (pe_lst (pa_of es)) (hs σ ρ Pr H F as st _ L S (Post.bind P fun ws st1 xs H1 F1 as1 _ e1 p1 S1 rx P1 => ?_))
  obtain ⟨g, P2⟩ := P1.guard
  have hl : ws.length ≤ lim := of_decide_eq_true g
  refine ⟨by rw [RepL.length rx, lim_eq]; exact hl, fun p hp => ?_⟩
  exact P2 _ _ F1 as1 (Ex.refl _) (Pre.refl _) (S1.extra hp) ⟨p, xs, rfl, S1.pnone hp, S1.fresh hp, S1.notcell hp, upd_same, rx⟩
theorem snd_frz {e : Expr} {l : L} (h : SndF X Wx e (evL cl l)) : SndE X Wx e (ev cl (.frz l)) := by
  intro σ ρ Pr H F as st Q L S P
  rw [ev] at P
  refine h σ ρ Pr H F as st Q L S (Post.bind P fun ws st1 v H1 F1 as1 _ e1 p1 S1 rx P1 => ?_)
  obtain ⟨p, vs, rfl, qp, fp, np, hp, l⟩ := rx
  obtain ⟨S', ex⟩ := S1.freeze qp fp np hp
  exact P1 _ _ _ as1 ex (Pre.refl _) S' (.lst upd_same (RepL.mono ex (Pre.refl _) l))
theorem snd_new {e : Expr} {l : L} (h : SndF X Wx e (evL cl l)) : SndE X Wx e (ev cl (.new l)) := by
  intro σ ρ Pr H F as st Q L S P
  rw [ev] at P
  refine h σ ρ Pr H F as st Q L S (Post.bind P fun ws st1 v H1 F1 as1 _ e1 p1 S1 rx P1 => ?_)
  obtain ⟨p, vs, rfl, qp, fp, np, hp, l⟩ := rx
  obtain ⟨S', pr, last⟩ := S1.thaw (c := .lst ws) qp fp np ⟨vs, hp, RepL.mono (Ex.refl _) (Pre.snoc as1 p) l⟩
  exact P1 _ _ F1 _ (Ex.refl _) pr S' (.ref last)
theorem snd_neg {a : Expr} {pos : Pos} {ea : E} (ha : SndE X Wx a (ev cl ea)) : SndE X Wx (.UnaryOp .USub a pos) (ev cl (.neg ea)) := by
  intro σ ρ Pr H F as st Q L S P
  rw [ev] at P
  refine toE (pe_un un_neg (pe_of a)) (ha σ ρ Pr H F as st _ L S (Post.bind P fun w st1 x H1 F1 as1 _ e1 p1 S1 rx P1 => ?_))
  cases rx with
  | int i => exact ⟨i, rfl, P1.here S1 (.int _)⟩
  | _ => exact P1.elim
/-! ### places -/
theorem ixN_len {n m : Nat} (h : n = m) (i : Int) : ixN n i = ixN m i := by rw [h]
theorem atI_rep {K : PySem.W.Frag} {F : Hp} {as : List Addr} {vs : List V} {ws : List W} {i : Int} {w : W} (l : RepL K F as vs ws) (h : atI ws i = some w) : ∃ v, atI vs i = some v ∧ Rep K F as v w := by
  unfold atI at h ⊢
  cases e : ixN ws.length i with
  | none => rw [e] at h; cases h
  | some j =>
    rw [e] at h
    rw [l.length, e]
    exact l.get h
theorem snd_ix {a i : Expr} {pos : Pos} {ea ei : E} (hp : ∀ l u s p, i ≠ .Slice l u s p) (ha : SndE X Wx a (ev cl ea)) (hi : SndE X Wx i (ev cl ei)) : SndE X Wx (.Subscript a i pos) (ev cl (.ix ea ei)) := by
  intro σ ρ Pr H F as st Q L S P
  rw [ev] at P
  refine toE (pe_ix ix_seq (pe_of a) (pe_of i) (isnt_slice hp)) (snd2 ha hi (fun σ x y wx wy Pr H F as st Q S rx ry P => ?_) σ ρ Pr H F as st Q L S P)
  obtain ⟨z, hz, P'⟩ := P.ret
  unfold ixW at hz
  split at hz
  · rename_i j
    cases ry
    split at hz
    · rename_i ws hd
      obtain ⟨b, vs, rfl, h1, l⟩ := deref_tup S rx hd
      obtain ⟨v, hv, r⟩ := atI_rep l hz
      exact .inr (.inl ⟨b, vs, j, v, rfl, rfl, h1, hv, Post.here (R := RV X.K) P' S r⟩)
    · rename_i ws hd
      obtain ⟨b, vs, rfl, h1, l⟩ := deref_lst S rx hd
      obtain ⟨v, hv, r⟩ := atI_rep l hz
      exact .inl ⟨b, vs, j, v, rfl, rfl, SqL.of h1, hv, Post.here (R := RV X.K) P' S r⟩
    · rename_i ws hd
      obtain ⟨b, vs, rfl, h1, l⟩ := deref_scr S rx hd
      obtain ⟨v, hv, r⟩ := atI_rep l hz
      exact .inl ⟨b, vs, j, v, rfl, rfl, h1, hv, Post.here (R := RV X.K) P' S r⟩
    · rename_i z' hd
      have := deref_str rx hd
      subst this
      split at hz
      · rename_i hl
        cases hc : atI z'.cps.toList j with
        | none => rw [hc] at hz; cases hz
        | some c =>
          rw [hc] at hz
          cases hz
          exact .inr (.inr ⟨z', j, c, rfl, rfl, lim_eq ▸ hl, hc, P'.here S (.str _)⟩)
      · cases hz
    · cases hz
  · cases hz
theorem snd_o0 : SndO X Wx none (evO cl none) := by
  intro σ ρ Pr H F as st Q L S P
  exact toO po_none (Post.here (R := fun _ _ _ (a b : Option Int) => a = b) P S rfl)
theorem snd_o1 {e : Expr} {e' : E} (h : SndE X Wx e (ev cl e')) : SndO X Wx (some e) (evO cl (some e')) := by
  intro σ ρ Pr H F as st Q L S P
  rw [evO] at P
  refine toO (po_some (pe_of e)) (h σ ρ Pr H F as st _ L S (Post.bind P fun w st1 x H1 F1 as1 _ e1 p1 S1 rx P1 => ?_))
  cases rx with
  | int i => exact ⟨i, rfl, P1.here S1 rfl⟩
  | _ => exact P1.elim
theorem cut_rep {K : PySem.W.Frag} {F : Hp} {as : List Addr} {vs : List V} {ws : List W} {lo hi : Option Int} (l : RepL K F as vs ws) : RepL K F as (cutV vs lo hi) (cutL ws lo hi) := by
  unfold cutV cutL
  rw [l.length]
  exact (l.drop _).take _
theorem cut_whole {ws : List W} {lo hi : Option Int} (h : HT.sIx ws.length 0 lo = 0 ∧ HT.sIx ws.length ws.length hi = ws.length) : cutL ws lo hi = ws := by
  unfold cutL
  rw [h.1, h.2, List.drop_zero, Nat.sub_zero, List.take_length]
theorem snd_sl {a : Expr} {lo hi : Option Expr} {p2 pos : Pos} {ea : E} {elo ehi : Option E} (ha : SndE X Wx a (ev cl ea)) (hl : SndO X Wx lo (evO cl elo)) (hh : SndO X Wx hi (evO cl ehi)) : SndE X Wx (.Subscript a (.Slice lo hi none p2) pos) (ev cl (.sl ea elo ehi)) := by
  intro σ ρ Pr H F as st Q L S P
  rw [ev] at P
  refine toE (pe_slice (SlR.or sl_tupA sl_str) (pe_of a) (po_of lo) (po_of hi)) (ha σ ρ Pr H F as st _ L S (Post.bind P fun w st1 x H1 F1 as1 _ e1 p1 S1 rx P1 => ?_))
  refine hl σ ρ Pr H1 F1 as1 st1 _ (L.mono e1 p1) S1 (Post.bind P1 fun l st2 l' H2 F2 as2 _ e2 p2 S2 rl P2 => ?_)
  refine hh σ ρ Pr H2 F2 as2 st2 _ ((L.mono e1 p1).mono e2 p2) S2 (Post.bind P2 fun h st3 h' H3 F3 as3 _ e3 p3 S3 rh P3 => ?_)
  have rl' : l' = l := rl
  have rh' : h' = h := rh
  subst rl'; subst rh'
  have rx' := Rep.mono e3 p3 (Rep.mono e2 p2 rx)
  cases rx' with
  | @tup b vs ws hq lr =>
    refine .inl ⟨b, vs, rfl, S3.ext.sqt hq, fun q => ?_, fun q p hp => ?_⟩
    · rw [lr.length] at q
      have P4 : Post X.K Pr (RV X.K) (WE Wx σ) F3 as3 Q (.ok (.tup (cutL ws l' h')) st3) := P3
      rw [cut_whole q] at P4
      exact P4.here S3 (.tup hq lr)
    · obtain ⟨S', ex⟩ := S3.froz (o := .tup (cutV vs l' h')) hp
      exact P3 _ _ _ as3 ex (Pre.refl _) S' (.tup (SqT.of upd_same) (RepL.mono ex (Pre.refl _) (cut_rep lr)))
  | str z =>
    obtain ⟨g, P4⟩ := P3.guard
    exact .inr ⟨z, rfl, by rw [lim_eq]; exact of_decide_eq_true g, P4.here S3 (.str _)⟩
  | _ => exact P3.elim
theorem snd_slL {a : Expr} {lo hi : Option Expr} {p2 pos : Pos} {ea : E} {elo ehi : Option E} (ha : SndE X Wx a (ev cl ea)) (hl : SndO X Wx lo (evO cl elo)) (hh : SndO X Wx hi (evO cl ehi)) : SndF X Wx (.Subscript a (.Slice lo hi none p2) pos) (evL cl (.sl ea elo ehi)) := by
  intro σ ρ Pr H F as st Q L S P
  rw [evL] at P
  refine toE (pe_slice sl_list (pe_of a) (po_of lo) (po_of hi)) (ha σ ρ Pr H F as st _ L S (Post.bind P fun w st1 x H1 F1 as1 _ e1 p1 S1 rx P1 => ?_))
  refine hl σ ρ Pr H1 F1 as1 st1 _ (L.mono e1 p1) S1 (Post.bind P1 fun l st2 l' H2 F2 as2 _ e2 p2 S2 rl P2 => ?_)
  refine hh σ ρ Pr H2 F2 as2 st2 _ ((L.mono e1 p1).mono e2 p2) S2 (Post.bind P2 fun h st3 h' H3 F3 as3 _ e3 p3 S3 rh P3 => ?_)
  have rl' : l' = l := rl
  have rh' : h' = h := rh
  subst rl'; subst rh'
  have rx' := Rep.mono e3 p3 (Rep.mono e2 p2 rx)
  obtain ⟨z, hz, P4⟩ := P3.ret
  unfold listOf at hz
  split at hz
  · rename_i ws hd
    cases hz
    obtain ⟨b, vs, rfl, h1, lr⟩ := deref_lst S3 rx' hd
    exact ⟨b, vs, rfl, SqL.of h1, fun p hp => P4 _ _ F3 as3 (Ex.refl _) (Pre.refl _) (S3.extra hp) ⟨p, _, rfl, S3.pnone hp, S3.fresh hp, S3.notcell hp, upd_same, cut_rep lr⟩⟩
  · cases hz
/-! ### calls -/
theorem snd_call (o : ScOk X N sc) (en : EnvOk X Wx G cl) {f : Nat} {x : Str} {p pos : Pos} {es : List Expr} {es' : List E} (hf : G.fn[f]? = some x) (hg : isGl sc x = true) (hd : notDunder x = true) (hp : plainEs es = true) (hn : es.isEmpty = false) (hs : SndA X Wx es (evs cl es')) :
    SndE X Wx (.Call (.Name x p) es [] pos) (ev cl (.call f es')) := by
  intro σ ρ Pr H F as st Q L S P
  rw [ev] at P
  obtain ⟨a, fd, ps, k, hm, hk, hb, FO, hr, hst⟩ := en.call f x hf
  cases es with
  | nil => cases hn
  | cons e es =>
    simp only [plainEs, Bool.and_eq_true] at hp
    refine toE (pe_callS FO hr (gl_of o hg) hm hk hb (fun σ => passAt en.tk σ) (pa_of (e :: es)) (dun1 hd) (star_of hp.1) (back_of hp.2)) (hs σ ρ Pr H F as st _ L S (Post.bind P fun ws st1 vs H1 F1 as1 _ e1 p1 S1 rx P1 => ?_))
    refine ⟨?_, Pr, F1, as1, st1, ws, S1, rx, P1⟩
    rw [RepL.length rx]
    by_cases q : ws.length = ps.length
    · exact q
    · rw [hst ws st1 q] at P1; exact P1.elim
/-- a built-in of one argument -/
theorem sndB1 (o : ScOk X N sc) (en : EnvOk X Wx G cl) {x : Str} {id : String} {r : List V → Hp → VK → Prop} {a : Expr} {pos p : Pos} {fa : Rho → Sto → Res W} {k : W → Sto → Res W} (hc : CallR X (.builtin id) r) (hv : bootBuiltins x = some (.builtin id)) (hg : bfree G sc x = true) (hn : x ≠ "__name__") (hdb : (x == ("__debug__" : Str)) = false) (hp : plainE a = true) (ha : SndE X Wx a fa)
    (hr : ∀ σ v w Pr H F as st Q, Sat X.K Pr F H as st → Rep X.K F as v w → Post X.K Pr (RV X.K) (WE Wx σ) F as Q (k w st) → r [v] H Q) :
    ∀ σ ρ Pr H F as st (Q : VK), Slots X.K F as σ ρ → Sat X.K Pr F H as st → Post X.K Pr (RV X.K) (WE Wx σ) F as Q ((fa ρ st).bind k) → tOf X (.Call (.Name x p) [a] [] pos) σ H Q := by
  intro σ ρ Pr H F as st Q L S P
  unfold bfree at hg
  simp only [Bool.and_eq_true, decide_eq_true_eq] at hg
  refine toE (pe_callB hc (gl_of o hg.1) (en.fr x hg.2) hv (pa_cons (pe_of a) pa_nil (star_of hp)) hn hdb (star_of hp) rfl) (ha σ ρ Pr H F as st _ L S (Post.bind P fun w st1 v H1 F1 as1 _ e1 p1 S1 rx P1 => ?_))
  exact hr σ v w Pr H1 F1 as1 st1 Q S1 rx P1
theorem sndT1 (o : ScOk X N sc) (en : EnvOk X Wx G cl) {x : Str} {id : String} {r : List V → Hp → VK → Prop} {a : Expr} {pos p : Pos} {fa : Rho → Sto → Res W} {β : Type} {R : Hp → Hp → Hp → List Addr → V → β → Prop} {k : W → Sto → Res β} (hc : CallR X (.type id) r) (hv : bootBuiltins x = some (.type id)) (hg : bfree G sc x = true) (hn : x ≠ "__name__") (hdb : (x == ("__debug__" : Str)) = false) (hp : plainE a = true) (ha : SndE X Wx a fa)
    (hr : ∀ σ v w Pr H F as st Q, Sat X.K Pr F H as st → Rep X.K F as v w → Post X.K Pr (R Pr) (WE Wx σ) F as Q (k w st) → r [v] H Q) :
    ∀ σ ρ Pr H F as st (Q : VK), Slots X.K F as σ ρ → Sat X.K Pr F H as st → Post X.K Pr (R Pr) (WE Wx σ) F as Q ((fa ρ st).bind k) → tOf X (.Call (.Name x p) [a] [] pos) σ H Q := by
  intro σ ρ Pr H F as st Q L S P
  unfold bfree at hg
  simp only [Bool.and_eq_true, decide_eq_true_eq] at hg
  refine toE (pe_callTy hc (gl_of o hg.1) (en.fr x hg.2) hv (pa_cons (pe_of a) pa_nil (star_of hp)) hn hdb (star_of hp) rfl) (ha σ ρ Pr H F as st _ L S (Post.bind P fun w st1 v H1 F1 as1 _ e1 p1 S1 rx P1 => ?_))
  exact hr σ v w Pr H1 F1 as1 st1 Q S1 rx P1
theorem snd_len (o : ScOk X N sc) (en : EnvOk X Wx G cl) {a : Expr} {pos p : Pos} {ea : E} (hg : bfree G sc "len" = true) (hp : plainE a = true) (ha : SndE X Wx a (ev cl ea)) : SndE X Wx (.Call (.Name "len" p) [a] [] pos) (ev cl (.len ea)) := by
  intro σ ρ Pr H F as st Q L S P
  rw [ev] at P
  refine sndB1 o en call_len PySem.boot_len hg (by decide +kernel) (by decide +kernel) hp ha (fun σ v w Pr H F as st Q S rx P => ?_) σ ρ Pr H F as st Q L S P
  obtain ⟨z, hz, P⟩ := P.ret
  cases hl : lenW st w with
  | none => rw [hl] at hz; cases hz
  | some n =>
    rw [hl] at hz
    cases hz
    refine ⟨v, n, rfl, ?_, P.here S (.int _)⟩
    unfold lenW at hl
    split at hl
    · rename_i ws hd
      cases hl
      obtain ⟨b, vs, rfl, h1, l⟩ := deref_tup S rx hd
      exact .inr ⟨vs, h1, l.length.symm⟩
    · rename_i ws hd
      cases hl
      obtain ⟨b, vs, rfl, h1, l⟩ := deref_lst S rx hd
      exact .inl ⟨vs, SqL.of h1, l.length.symm⟩
    · rename_i ws hd
      cases hl
      obtain ⟨b, vs, rfl, h1, l⟩ := deref_scr S rx hd
      exact .inl ⟨vs, h1, l.length.symm⟩
    · rename_i z hd
      have := deref_str rx hd
      subst this
      split at hl
      · rename_i hle
        cases hl
        exact ⟨lim_eq ▸ hle, rfl⟩
      · cases hl
    · cases hl
theorem ints_rep {K : PySem.W.Frag} {F : Hp} {as : List Addr} : ∀ {ws : List W} {vs : List V} {l : List Int}, RepL K F as vs ws → intsOf ws = some l → vs = l.map V.int
  | [], _, _, h, e => by cases h; cases e; rfl
  | w :: ws, _, l, h, e => by
    cases h with
    | cons h t =>
      cases w with
      | int i =>
        simp only [intsOf] at e
        cases hr : intsOf ws with
        | none => rw [hr] at e; cases e
        | some r => rw [hr] at e; cases e; cases h; rw [ints_rep t hr]; rfl
      | _ => cases e
theorem strs_rep {K : PySem.W.Frag} {F : Hp} {as : List Addr} : ∀ {ws : List W} {vs : List V} {l : List Str}, RepL K F as vs ws → strsOf ws = some l → vs = l.map V.str
  | [], _, _, h, e => by cases h; cases e; rfl
  | w :: ws, _, l, h, e => by
    cases h with
    | cons h t =>
      cases w with
      | str i =>
        simp only [strsOf] at e
        cases hr : strsOf ws with
        | none => rw [hr] at e; cases e
        | some r => rw [hr] at e; cases e; cases h; rw [strs_rep t hr]; rfl
      | _ => cases e
theorem rep_strs {K : PySem.W.Frag} {F : Hp} {as : List Addr} : ∀ l : List Str, RepL K F as (l.map V.str) (l.map W.str)
  | [] => .nil
  | s :: r => .cons (.str s) (rep_strs r)
theorem boot_sum : bootBuiltins "sum" = some (.builtin "sum") := by decide +kernel
theorem boot_sorted : bootBuiltins "sorted" = some (.builtin "sorted") := by decide +kernel
theorem boot_min : bootBuiltins "min" = some (.builtin "min") := by decide +kernel
theorem boot_max : bootBuiltins "max" = some (.builtin "max") := by decide +kernel
theorem boot_isinst : bootBuiltins "isinstance" = some (.builtin "isinstance") := by decide +kernel
theorem boot_tint : bootBuiltins "int" = some (.type "int") := by decide +kernel
theorem boot_tstr : bootBuiltins "str" = some (.type "str") := by decide +kernel
theorem boot_ttup : bootBuiltins "tuple" = some (.type "tuple") := by decide +kernel
theorem boot_tlist : bootBuiltins "list" = some (.type "list") := by decide +kernel
theorem snd_sum (o : ScOk X N sc) (en : EnvOk X Wx G cl) {a : Expr} {pos p : Pos} {ea : E} (hg : bfree G sc "sum" = true) (hp : plainE a = true) (ha : SndE X Wx a (ev cl ea)) : SndE X Wx (.Call (.Name "sum" p) [a] [] pos) (ev cl (.sum ea)) := by
  intro σ ρ Pr H F as st Q L S P
  rw [ev] at P
  refine sndB1 o en (cr_sum en.calm) boot_sum hg (by decide +kernel) (by decide +kernel) hp ha (fun σ v w Pr H F as st Q S rx P => ?_) σ ρ Pr H F as st Q L S P
  obtain ⟨z, hz, P⟩ := P.ret
  unfold listOf at hz
  split at hz
  · rename_i ws hd
    obtain ⟨b, vs, rfl, h1, l⟩ := deref_lst S rx hd
    cases hl : intsOf ws with
    | none => simp only [Option.bind_some, hl] at hz; cases hz
    | some ns =>
      simp only [Option.bind_some, hl] at hz
      cases hz
      exact ⟨b, ns, rfl, SqL.of (by rw [← ints_rep l hl]; exact h1), P.here S (.int _)⟩
  · cases hz
theorem snd_intof (o : ScOk X N sc) (en : EnvOk X Wx G cl) {a : Expr} {pos p : Pos} {ea : E} (hg : bfree G sc "int" = true) (hp : plainE a = true) (ha : SndE X Wx a (ev cl ea)) : SndE X Wx (.Call (.Name "int" p) [a] [] pos) (ev cl (.intof ea)) := by
  intro σ ρ Pr H F as st Q L S P
  rw [ev] at P
  refine sndT1 (R := fun _ => RV X.K) o en call_int1 boot_tint hg (by decide +kernel) (by decide +kernel) hp ha (fun σ v w Pr H F as st Q S rx P => ?_) σ ρ Pr H F as st Q L S P
  cases rx with
  | int i => exact .inl ⟨i, rfl, P.here S (.int _)⟩
  | bl b => exact .inr ⟨b, rfl, P.here S (.int _)⟩
  | _ => exact P.elim
theorem snd_strof (o : ScOk X N sc) (en : EnvOk X Wx G cl) {a : Expr} {pos p : Pos} {ea : E} (hg : bfree G sc "str" = true) (hp : plainE a = true) (ha : SndE X Wx a (ev cl ea)) : SndE X Wx (.Call (.Name "str" p) [a] [] pos) (ev cl (.strof ea)) := by
  intro σ ρ Pr H F as st Q L S P
  rw [ev] at P
  refine sndT1 (R := fun _ => RV X.K) o en call_str_int boot_tstr hg (by decide +kernel) (by decide +kernel) hp ha (fun σ v w Pr H F as st Q S rx P => ?_) σ ρ Pr H F as st Q L S P
  cases rx with
  | int i =>
    obtain ⟨g, P⟩ := P.guard
    exact ⟨i, rfl, of_decide_eq_true g, P.here S (.str _)⟩
  | _ => exact P.elim
theorem snd_tupof (o : ScOk X N sc) (en : EnvOk X Wx G cl) {a : Expr} {pos p : Pos} {ea : E} (hg : bfree G sc "tuple" = true) (hp : plainE a = true) (ha : SndE X Wx a (ev cl ea)) : SndE X Wx (.Call (.Name "tuple" p) [a] [] pos) (ev cl (.tupof ea)) := by
  intro σ ρ Pr H F as st Q L S P
  rw [ev] at P
  refine sndT1 (R := fun _ => RV X.K) o en call_tuple_of boot_ttup hg (by decide +kernel) (by decide +kernel) hp ha (fun σ v w Pr H F as st Q S rx P => ?_) σ ρ Pr H F as st Q L S P
  obtain ⟨z, hz, P⟩ := P.ret
  unfold seqOf at hz
  split at hz
  · rename_i ws hd
    cases hz
    obtain ⟨b, vs, rfl, h1, l⟩ := deref_lst S rx hd
    refine ⟨b, vs, rfl, .inl ⟨SqL.of h1, fun p hp => ?_⟩⟩
    obtain ⟨S', ex⟩ := S.froz (o := .tup vs) hp
    exact P _ _ _ as ex (Pre.refl _) S' (.tup (SqT.of upd_same) (RepL.mono ex (Pre.refl _) l))
  · rename_i ws hd
    cases hz
    cases rx with
    | @tup b vs ws' hq l => cases hd; exact ⟨b, vs, rfl, .inr ⟨S.ext.sqt hq, P.here S (.tup hq l)⟩⟩
    | @ref a i h =>
      unfold deref at hd; simp only at hd
      cases hc : st[i]? with
      | none => rw [hc] at hd; cases hd
      | some c => rw [hc] at hd; cases c <;> cases hd
    | _ => cases hd
  · cases hz
theorem snd_ofE (o : ScOk X N sc) (en : EnvOk X Wx G cl) {a : Expr} {pos p : Pos} {ea : E} (hg : bfree G sc "list" = true) (hp : plainE a = true) (ha : SndE X Wx a (ev cl ea)) : SndF X Wx (.Call (.Name "list" p) [a] [] pos) (evL cl (.ofE ea)) := by
  intro σ ρ Pr H F as st Q L S P
  rw [evL] at P
  refine sndT1 (R := fun Pr => RF X.K Pr) o en call_list_of boot_tlist hg (by decide +kernel) (by decide +kernel) hp ha (fun σ v w Pr H F as st Q S rx P => ?_) σ ρ Pr H F as st Q L S P
  obtain ⟨z, hz, P⟩ := P.ret
  unfold seqOf at hz
  split at hz
  · rename_i ws hd
    cases hz
    obtain ⟨b, vs, rfl, h1, l⟩ := deref_lst S rx hd
    exact ⟨b, vs, rfl, .inl (SqL.of h1), fun p hp => P _ _ F as (Ex.refl _) (Pre.refl _) (S.extra hp) ⟨p, vs, rfl, S.pnone hp, S.fresh hp, S.notcell hp, upd_same, l⟩⟩
  · rename_i ws hd
    cases hz
    obtain ⟨b, vs, rfl, h1, l⟩ := deref_tup S rx hd
    exact ⟨b, vs, rfl, .inr h1, fun p hp => P _ _ F as (Ex.refl _) (Pre.refl _) (S.extra hp) ⟨p, vs, rfl, S.pnone hp, S.fresh hp, S.notcell hp, upd_same, l⟩⟩
  · cases hz
theorem snd_sorted (o : ScOk X N sc) (en : EnvOk X Wx G cl) {a : Expr} {pos p : Pos} {ea : E} (hg : bfree G sc "sorted" = true) (hp : plainE a = true) (ha : SndE X Wx a (ev cl ea)) : SndF X Wx (.Call (.Name "sorted" p) [a] [] pos) (evL cl (.sorted ea)) := by
  intro σ ρ Pr H F as st Q L S P
  rw [evL] at P
  unfold bfree at hg
  simp only [Bool.and_eq_true, decide_eq_true_eq] at hg
  refine toE (pe_callB cr_sortedS (gl_of o hg.1) (en.fr _ hg.2) boot_sorted (pa_cons (pe_of a) pa_nil (star_of hp)) (by decide +kernel) (by decide +kernel) (star_of hp) rfl) (ha σ ρ Pr H F as st _ L S (Post.bind P fun w st1 v H1 F1 as1 _ e1 p1 S1 rx P1 => ?_))
  obtain ⟨z, hz, P2⟩ := P1.ret
  unfold listOf at hz
  split at hz
  · rename_i ws hd
    obtain ⟨b, vs, rfl, h1, l⟩ := deref_lst S1 rx hd
    cases hl : strsOf ws with
    | none => simp only [Option.bind_some, hl] at hz; cases hz
    | some ns =>
      simp only [Option.bind_some, hl] at hz
      split at hz
      · rename_i h64
        cases hz
        refine ⟨b, ns, rfl, SqL.of (by rw [← strs_rep l hl]; exact h1), h64, fun ys p hpm hs hp => ?_⟩
        rw [sortS_eq hpm hs]
        exact P2 _ _ F1 as1 (Ex.refl _) (Pre.refl _) (S1.extra hp) ⟨p, _, rfl, S1.pnone hp, S1.fresh hp, S1.notcell hp, upd_same, rep_strs _⟩
      · cases hz
  · cases hz
theorem snd_min (o : ScOk X N sc) (en : EnvOk X Wx G cl) {a b : Expr} {pos p : Pos} {ea eb : E} (hg : bfree G sc "min" = true) (hp : plainE a = true) (hq : plainE b = true) (ha : SndE X Wx a (ev cl ea)) (hb : SndE X Wx b (ev cl eb)) : SndE X Wx (.Call (.Name "min" p) [a, b] [] pos) (ev cl (.min2 ea eb)) := by
  intro σ ρ Pr H F as st Q L S P
  rw [ev] at P
  unfold bfree at hg
  simp only [Bool.and_eq_true, decide_eq_true_eq] at hg
  refine toE (pe_callB (call_min2 en.calm) (gl_of o hg.1) (en.fr _ hg.2) boot_min (pa_cons (pe_of a) (pa_cons (pe_of b) pa_nil (star_of hq)) (star_of hp)) (by decide +kernel) (by decide +kernel) (star_of hp) (back_of (by simp [plainEs, hq]))) (ha σ ρ Pr H F as st _ L S (Post.bind P fun w st1 v H1 F1 as1 _ e1 p1 S1 rx P1 => ?_))
  refine hb σ ρ Pr H1 F1 as1 st1 _ (L.mono e1 p1) S1 (Post.bind P1 fun w2 st2 v2 H2 F2 as2 _ e2 p2 S2 ry P2 => ?_)
  cases Rep.mono e2 p2 rx with
  | int i => cases ry with
    | int j => exact ⟨i, j, rfl, P2.here S2 (.int _)⟩
    | _ => exact P2.elim
  | _ => first | exact P2.elim | (cases ry <;> exact P2.elim)
theorem snd_max (o : ScOk X N sc) (en : EnvOk X Wx G cl) {a b : Expr} {pos p : Pos} {ea eb : E} (hg : bfree G sc "max" = true) (hp : plainE a = true) (hq : plainE b = true) (ha : SndE X Wx a (ev cl ea)) (hb : SndE X Wx b (ev cl eb)) : SndE X Wx (.Call (.Name "max" p) [a, b] [] pos) (ev cl (.max2 ea eb)) := by
  intro σ ρ Pr H F as st Q L S P
  rw [ev] at P
  unfold bfree at hg
  simp only [Bool.and_eq_true, decide_eq_true_eq] at hg
  refine toE (pe_callB (call_max2 en.calm) (gl_of o hg.1) (en.fr _ hg.2) boot_max (pa_cons (pe_of a) (pa_cons (pe_of b) pa_nil (star_of hq)) (star_of hp)) (by decide +kernel) (by decide +kernel) (star_of hp) (back_of (by simp [plainEs, hq]))) (ha σ ρ Pr H F as st _ L S (Post.bind P fun w st1 v H1 F1 as1 _ e1 p1 S1 rx P1 => ?_))
  refine hb σ ρ Pr H1 F1 as1 st1 _ (L.mono e1 p1) S1 (Post.bind P1 fun w2 st2 v2 H2 F2 as2 _ e2 p2 S2 ry P2 => ?_)
  cases Rep.mono e2 p2 rx with
  | int i => cases ry with
    | int j => exact ⟨i, j, rfl, P2.here S2 (.int _)⟩
    | _ => exact P2.elim
  | _ => first | exact P2.elim | (cases ry <;> exact P2.elim)
/-! ### isinstance -/
theorem typ_ok {Pr H F : Hp} {as : List Addr} {st : Sto} {v : V} {w : W} {u : String} (S : Sat X.K Pr F H as st) (r : Rep X.K F as v w) (h : typW st w = some u) : TyX X.K H v (.type u) := by
  cases r with
  | non => cases h; exact .base .non
  | bl b => cases h; exact .base (.bl b)
  | int b => cases h; exact .base (.int b)
  | str b => cases h; exact .base (.str b)
  | tup hq l =>
    cases h
    rcases hq with (hq | ⟨o, hq⟩) | ⟨o, its, n, hk, hc, _⟩
    · exact .base (.tup (S.ext _ _ hq))
    · exact .fTuple (S.ext _ _ hq)
    · exact .kTuple hk hc
  | lst hq l => cases h; exact .base (.lst (S.ext _ _ hq))
  | scr hq l =>
    cases h
    rcases hq with (hq | ⟨o, hq⟩) | ⟨o, its, n, hk, hc, _⟩
    · exact .base (.lst (S.ext _ _ hq))
    · exact .base (.frz (S.ext _ _ hq))
    · exact .kList hk hc
  | dct hq k l =>
    cases h
    rcases hq with hq | ⟨o, hq⟩
    · exact .base (.dK (S.ext _ _ hq))
    · exact .fDict (S.ext _ _ hq)
  | @ref a i hq =>
    unfold typW at h
    simp only at h
    cases hc : st[i]? with
    | none => rw [hc] at h; cases h
    | some c =>
      rw [hc] at h
      cases c with
      | lst ws => cases h; obtain ⟨vs, h1, _⟩ := S.cel i a _ hq hc; exact .base (.lst h1)
      | dk ks ws => cases h; obtain ⟨vs, h1, _⟩ := S.cel i a _ hq hc; exact .base (.dK h1)
      | dead => cases h
theorem snd_isi (o : ScOk X N sc) (en : EnvOk X Wx G cl) {a : Expr} {pos p py : Pos} {ea : E} {y : Str} {t : String} (hg : bfree G sc "isinstance" = true) (hp : plainE a = true) (ha : SndE X Wx a (ev cl ea)) (hy : isGl sc y = true) (hdy : notDunder y = true) (hyf : y ∈ G.fr) (hyb : bootBuiltins y = some (.type t)) :
    SndE X Wx (.Call (.Name "isinstance" p) [a, .Name y py] [] pos) (ev cl (.isi ea t)) := by
  intro σ ρ Pr H F as st Q L S P
  rw [ev] at P
  unfold bfree at hg
  simp only [Bool.and_eq_true, decide_eq_true_eq] at hg
  refine toE (pe_callB call_isi (gl_of o hg.1) (en.fr _ hg.2) boot_isinst (pa_cons (pe_of a) (pa_cons (pe_bltn (v := .ty t) (gl_of o hy) (en.fr y hyf) hyb rfl (dun3 hdy) (dun1 hdy)) pa_nil (star_of rfl)) (star_of hp)) (by decide +kernel) (by decide +kernel) (star_of hp) rfl) (ha σ ρ Pr H F as st _ L S (Post.bind P fun w st1 v H1 F1 as1 _ e1 p1 S1 rx P1 => ?_))
  obtain ⟨z, hz, P2⟩ := P1.ret
  cases ht : typW st1 w with
  | none => rw [ht] at hz; cases hz
  | some u =>
    rw [ht] at hz
    simp only [Option.bind_some] at hz
    cases hk : kitB u t with
    | none => rw [hk] at hz; cases hz
    | some b =>
      rw [hk] at hz
      cases hz
      exact ⟨v, .ty t, .type u, .type t, b, rfl, .ty t, typ_ok S1 rx ht, kit_ty hk, P2.here S1 (.bl _)⟩
/-! ### methods -/
theorem base_of {o : Expr} {m : Str} {env : Env} (h : ∀ f xs ks p, o ≠ .Call f xs ks p) : attributeBase o m env (eval o env) = eval o env := by
  cases o with
  | Call f xs ks p => exact absurd rfl (h f xs ks p)
  | _ => rfl
theorem star1 {e : Expr} {env : Env} (h : plainE e = true) : starEach [e] env = [(false, eval e env)] := star_of h
theorem snd_join {s a : Expr} {ap pos : Pos} {es ea : E} (hn : ∀ f xs ks p, s ≠ .Call f xs ks p) (hl : (ap.endLine == pos.line) = true) (hp : plainE a = true) (hs : SndE X Wx s (ev cl es)) (ha : SndE X Wx a (ev cl ea)) :
    SndE X Wx (.Call (.Attribute s "join" ap) [a] [] pos) (ev cl (.join es ea)) := by
  intro σ ρ Pr H F as st Q L S P
  rw [ev] at P
  refine toE (pe_join (pe_of s) (pe_of a) (star1 hp) (base_of hn) hl) (hs σ ρ Pr H F as st _ L S (Post.bind P fun w st1 v H1 F1 as1 _ e1 p1 S1 rx P1 => ?_))
  cases rx with
  | str z =>
    refine ⟨⟨z, rfl⟩, ha σ ρ Pr H1 F1 as1 st1 _ (L.mono e1 p1) S1 (Post.bind P1 fun w2 st2 v2 H2 F2 as2 _ e2 p2 S2 ry P2 => ?_)⟩
    obtain ⟨q, hq, P3⟩ := P2.ret
    unfold seqOf at hq
    split at hq
    · rename_i ws hd
      obtain ⟨b, vs, rfl, h1, l⟩ := deref_lst S2 ry hd
      cases hl : strsOf ws with
      | none => simp only [Option.bind_some, hl] at hq; cases hq
      | some ns =>
        simp only [Option.bind_some, hl] at hq
        split at hq
        · rename_i hle
          cases hq
          exact ⟨z, b, ns, rfl, rfl, .inl (SqL.of (by rw [← strs_rep l hl]; exact h1)), hle, P3.here S2 (.str _)⟩
        · cases hq
    · rename_i ws hd
      obtain ⟨b, vs, rfl, h1, l⟩ := deref_tup S2 ry hd
      cases hl : strsOf ws with
      | none => simp only [Option.bind_some, hl] at hq; cases hq
      | some ns =>
        simp only [Option.bind_some, hl] at hq
        split at hq
        · rename_i hle
          cases hq
          exact ⟨z, b, ns, rfl, rfl, .inr (by rw [← strs_rep l hl]; exact h1), hle, P3.here S2 (.str _)⟩
        · cases hq
    · cases hq
  | _ => exact P1.elim
end
end Mz
end
section
namespace Mz
open PySem PySem.Spec PyProof.Rows L2
section
variable {X : Cx} {Wx : WX} {N : List Str} {sc : Scope} {G : Gam} {cl : Nat → List W → Sto → Res W}
/-! ### lists joined, repeated -/
theorem snd_cat {a b : Expr} {pos : Pos} {ea eb : E} (ha : SndE X Wx a (ev cl ea)) (hb : SndE X Wx b (ev cl eb)) : SndF X Wx (.BinOp a .Add b pos) (evL cl (.cat ea eb)) := by
  intro σ ρ Pr H F as st Q L S P
  rw [evL] at P
  refine toE (pe_op op_cat (pe_of a) (pe_of b)) (ha σ ρ Pr H F as st _ L S (Post.bind P fun w st1 x H1 F1 as1 _ e1 p1 S1 rx P1 => ?_))
  refine hb σ ρ Pr H1 F1 as1 st1 _ (L.mono e1 p1) S1 (Post.bind P1 fun w2 st2 y H2 F2 as2 _ e2 p2 S2 ry P2 => ?_)
  obtain ⟨z, hz, P3⟩ := P2.ret
  have rx' := Rep.mono e2 p2 rx
  cases hx : listOf st2 w with
  | none => rw [hx] at hz; cases hz
  | some xs =>
    cases hy : listOf st2 w2 with
    | none => rw [hx, hy] at hz; cases hz
    | some ys =>
      rw [hx, hy] at hz
      simp only [Option.bind_some] at hz
      split at hz
      · rename_i hl
        cases hz
        unfold listOf at hx hy
        split at hx
        · rename_i ws hd
          cases hx
          split at hy
          · rename_i ws' hd'
            cases hy
            obtain ⟨b, vs, rfl, h1, l⟩ := deref_lst S2 rx' hd
            obtain ⟨b', vs', rfl, h1', l'⟩ := deref_lst S2 ry hd'
            exact ⟨b, b', vs, vs', rfl, rfl, h1, h1', by rw [l.length, l'.length, lim_eq]; exact hl, fun p hp => P3 _ _ F2 as2 (Ex.refl _) (Pre.refl _) (S2.extra hp) ⟨p, _, rfl, S2.pnone hp, S2.fresh hp, S2.notcell hp, upd_same, l.append l'⟩⟩
          · cases hy
        · cases hx
      · cases hz
theorem snd_rep {a b : Expr} {pos : Pos} {ea eb : E} (ha : SndE X Wx a (ev cl ea)) (hb : SndE X Wx b (ev cl eb)) : SndF X Wx (.BinOp a .Mult b pos) (evL cl (.rep ea eb)) := by
  intro σ ρ Pr H F as st Q L S P
  rw [evL] at P
  refine toE (pe_op op_rep (pe_of a) (pe_of b)) (ha σ ρ Pr H F as st _ L S (Post.bind P fun w st1 x H1 F1 as1 _ e1 p1 S1 rx P1 => ?_))
  refine hb σ ρ Pr H1 F1 as1 st1 _ (L.mono e1 p1) S1 (Post.bind P1 fun w2 st2 y H2 F2 as2 _ e2 p2 S2 ry P2 => ?_)
  have rx' := Rep.mono e2 p2 rx
  cases ry with
  | int k =>
    obtain ⟨z, hz, P3⟩ := P2.ret
    cases hx : listOf st2 w with
    | none => rw [hx] at hz; cases hz
    | some xs =>
      rw [hx] at hz
      simp only [Option.bind_some] at hz
      split at hz
      · rename_i hl
        cases hz
        unfold listOf at hx
        split at hx
        · rename_i ws hd
          cases hx
          obtain ⟨b, vs, rfl, h1, l⟩ := deref_lst S2 rx' hd
          exact ⟨b, k, vs, rfl, rfl, h1, by omega, by omega, by rw [l.length, lim_eq]; exact hl.2.2, fun p hp => P3 _ _ F2 as2 (Ex.refl _) (Pre.refl _) (S2.extra hp) ⟨p, _, rfl, S2.pnone hp, S2.fresh hp, S2.notcell hp, upd_same, l.reps _⟩⟩
        · cases hx
      · cases hz
  | _ => exact P2.elim
/-! ### d.get(k, x) -/
theorem getK_rep {K : PySem.W.Frag} {F : Hp} {as : List Addr} {k : Key} : ∀ {kvs : List (Key × V)} {ws : List W}, RepL K F as (kvs.map (·.2)) ws → (∀ w, getK (kvs.map (·.1)) ws k = some w → ∃ v, valV kvs k = some v ∧ Rep K F as v w) ∧ (getK (kvs.map (·.1)) ws k = none → valV kvs k = none)
  | [], _, h => by cases h; exact ⟨fun w e => (by cases e), fun _ => rfl⟩
  | p :: r, _, h => by
    cases h with
    | @cons v w vs ws h t =>
      have ih := getK_rep (k := k) (kvs := r) t
      show (∀ w', (if p.1 = k then some w else getK (r.map (·.1)) ws k) = some w' → _) ∧ ((if p.1 = k then some w else getK (r.map (·.1)) ws k) = none → _)
      by_cases e : p.1 = k
      · rw [if_pos e, valV_pos e]
        exact ⟨fun w' q => (by cases q; exact ⟨_, rfl, h⟩), fun q => (by cases q)⟩
      · rw [if_neg e, valV_neg e]
        exact ih
theorem key_rep {K : PySem.W.Frag} {F : Hp} {as : List Addr} {v : V} {w : W} {k : Key} (r : Rep K F as v w) (e : keyW w = some k) : v = kV k := by
  cases r <;> first | (cases e; rfl) | (cases e; done)
theorem dict_rep {Pr F H : Hp} {as : List Addr} {st : Sto} {v : V} {w : W} {ks : List Key} {ws : List W} (S : Sat X.K Pr F H as st) (r : Rep X.K F as v w) (e : dictOf st w = some (ks, ws)) : ∃ a kvs, v = .ref a ∧ Rd H a (.dK kvs) ∧ kvs.map (·.1) = ks ∧ RepL X.K F as (kvs.map (·.2)) ws := by
  cases r with
  | dct h k l => cases e; exact ⟨_, _, rfl, S.ext.rd h, k, l⟩
  | @ref a i h =>
    unfold dictOf at e
    simp only at e
    cases hc : st[i]? with
    | none => rw [hc] at e; cases e
    | some c =>
      rw [hc] at e
      cases c with
      | dk ks' ws' =>
        cases e
        obtain ⟨kvs, h1, h2, h3⟩ := S.cel i a _ h hc
        exact ⟨a, kvs, rfl, .inl h1, h2, h3⟩
      | lst _ => cases e
      | dead => cases e
  | _ => cases e
theorem snd_get {d k x : Expr} {ap pos : Pos} {ed ek ex : E} (hu : X.A.units + 410 < cLine) (hn : ∀ f xs ks p, d ≠ .Call f xs ks p) (hl : (ap.endLine == pos.line) = true) (hp : plainE k = true) (hq : plainE x = true) (hd : SndE X Wx d (ev cl ed)) (hk : SndE X Wx k (ev cl ek)) (hx : SndE X Wx x (ev cl ex)) :
    SndE X Wx (.Call (.Attribute d "get" ap) [k, x] [] pos) (ev cl (.get ed ek ex)) := by
  intro σ ρ Pr H F as st Q L S P
  rw [ev] at P
  have tr : backTo pos (starEach [k, x] X.env) = [(false, eval k X.env), (false, eval x X.env)] := by rw [star_of hp, star1 hq]; rfl
  refine toE (pe_dget2 (by omega) (pe_of d) (pe_of k) (pe_of x) ⟨base_of hn, by rw [tr]; rfl, hl, tr⟩) (hd σ ρ Pr H F as st _ L S (Post.bind P fun w st1 v H1 F1 as1 _ e1 p1 S1 rd P1 => ?_))
  cases hdo : dictOf st1 w with
  | none => rw [hdo] at P1; exact P1.elim
  | some kw =>
    rw [hdo] at P1
    obtain ⟨ks, ws⟩ := kw
    obtain ⟨a, kvs, rfl, h1, h2, h3⟩ := dict_rep S1 rd hdo
    refine ⟨a, rfl, .inl ⟨kvs, h1⟩, hk σ ρ Pr H1 F1 as1 st1 _ (L.mono e1 p1) S1 (Post.bind P1 fun w2 st2 v2 H2 F2 as2 _ e2 p2 S2 rk P2 => ?_)⟩
    refine hx σ ρ Pr H2 F2 as2 st2 _ ((L.mono e1 p1).mono e2 p2) S2 (Post.bind P2 fun w3 st3 v3 H3 F3 as3 _ e3 p3 S3 rx P3 => ?_)
    obtain ⟨z, hz, P4⟩ := P3.ret
    have rd' := Rep.mono e3 p3 (Rep.mono e2 p2 rd)
    cases hdo3 : dictOf st3 w with
    | none => rw [hdo3] at hz; cases hz
    | some kw3 =>
      obtain ⟨ks3, ws3⟩ := kw3
      rw [hdo3] at hz
      cases hkw : keyW w2 with
      | none => rw [hkw] at hz; cases hz
      | some key =>
        rw [hkw] at hz
        cases hz
        obtain ⟨a', kvs', ea, g1, g2, g3⟩ := dict_rep S3 rd' hdo3
        cases ea
        have ek := key_rep (Rep.mono e3 p3 rk) hkw
        refine ⟨valV kvs' key, .inl ⟨kvs', key, g1, ek, rfl⟩, ?_⟩
        have gk := getK_rep (k := key) g3
        rw [g2] at gk
        cases hg : getK ks3 ws3 key with
        | some w' =>
          obtain ⟨v', hv, r⟩ := gk.1 w' hg
          rw [hv]
          simp only [hg, Option.getD_some] at P4
          exact Post.here (R := RV X.K) P4 S3 r
        | none =>
          rw [gk.2 hg]
          simp only [hg, Option.getD_none] at P4
          exact Post.here (R := RV X.K) P4 S3 rx
/-! ### xs.pop() -/
theorem snd_pop {a : Expr} {ap pos : Pos} {ea : E} (hn : ∀ f xs ks p, a ≠ .Call f xs ks p) (hl : (ap.endLine == pos.line) = true) (ha : SndE X Wx a (ev cl ea)) :
    SndE X Wx (.Call (.Attribute a "pop" ap) [] [] pos) (ev cl (.popE ea)) := by
  intro σ ρ Pr H F as st Q L S P
  rw [ev] at P
  refine toE (pe_bm0 PySem.F.plainAttrs_list PySem.F.slot_list_pop PySem.F.type_list_pop mt_pop (pe_of a) (base_of hn) hl) (ha σ ρ Pr H F as st _ L S (Post.bind P fun w st1 v H1 F1 as1 _ e1 p1 S1 rx P1 => ?_))
  cases rx with
  | @ref b i hb =>
    dsimp only at P1
    cases hc : st1[i]? with
    | none => rw [hc] at P1; exact P1.elim
    | some c =>
      rw [hc] at P1
      cases c with
      | lst ws =>
        dsimp only at P1
        cases hw : ws[ws.length - 1]? with
        | none => rw [hw] at P1; exact P1.elim
        | some w =>
          rw [hw] at P1
          obtain ⟨vs, h1, l⟩ := S1.cel i b _ hb hc
          obtain ⟨y, hy, ry⟩ := l.get hw
          refine ⟨.inl ⟨rfl, vs, SqL.of h1⟩, b, vs, y, rfl, rfl, h1, by rw [l.length]; exact hy, ?_⟩
          exact P1 _ _ F1 as1 (Ex.refl _) (Pre.refl _) (S1.write hb hc nofun ⟨_, upd_same, l.dropLast⟩) ry
      | dk _ _ => exact P1.elim
      | dead => exact P1.elim
  | _ => exact P1.elim
theorem snd_frzE {e : Expr} {ea : E} (ha : SndE X Wx e (ev cl ea)) : SndE X Wx e (ev cl (.frzE ea)) := by
  intro σ ρ Pr H F as st Q L S P
  rw [ev] at P
  refine ha σ ρ Pr H F as st Q L S (Post.bind P fun w st1 v H1 F1 as1 _ e1 p1 S1 rx P1 => ?_)
  cases rx with
  | @ref b i hb =>
    dsimp only at P1
    cases hc : st1[i]? with
    | none => rw [hc] at P1; exact P1.elim
    | some c =>
      rw [hc] at P1
      cases c with
      | lst ws =>
        obtain ⟨vs, h1, l⟩ := S1.cel i b _ hb hc
        obtain ⟨S2, ex⟩ := S1.rest hb hc nofun h1
        exact P1 _ _ _ as1 ex (Pre.refl _) S2 (.lst upd_same (l.mono ex (Pre.refl _)))
      | dk _ _ => exact P1.elim
      | dead => exact P1.elim
  | _ => exact P1.elim
/-! ### xs.append(e), xs.extend(e) -/
theorem few_of {e : Expr} {env : Env} {pos : Pos} (h : plainE e = true) : ((backTo pos (starEach [e] env)).all (fun x => !x.1) && (backToKw pos (keywordEach [] env)).all (fun x => x.1.isSome) && decide (([e] : List Expr).length + ([] : List Keyword).length + (if ([] : List Keyword).isEmpty then 0 else 1) < 30)) = true := by
  rw [star1 h]; rfl
theorem snd_app {b a : Expr} {ap pos : Pos} {eb ea : E} (hn : ∀ f xs ks p, b ≠ .Call f xs ks p) (hl : (ap.endLine == pos.line) = true) (hp : plainE a = true) (hb : SndE X Wx b (ev cl eb)) (ha : SndE X Wx a (ev cl ea)) :
    SndE X Wx (.Call (.Attribute b "append" ap) [a] [] pos) (ev cl (.app eb ea)) := by
  intro σ ρ Pr H F as st Q L S P
  rw [ev] at P
  refine toE (pe_bm PySem.F.plainAttrs_list PySem.F.slot_list_append PySem.F.type_list_append mt_append (pe_of b) (pa_cons (pe_of a) pa_nil (star_of hp)) (base_of hn) (few_of hp) hl (star_of hp) rfl) (hb σ ρ Pr H F as st _ L S (Post.bind P fun w st1 v H1 F1 as1 _ e1 p1 S1 rx P1 => ?_))
  cases rx with
  | @ref l i hi =>
    dsimp only at P1
    cases hc : st1[i]? with
    | none => rw [hc] at P1; exact P1.elim
    | some c =>
      rw [hc] at P1
      cases c with
      | lst ws0 =>
        dsimp only at P1
        obtain ⟨vs0, h0, _⟩ := S1.cel i l _ hi hc
        refine ⟨.inl ⟨rfl, vs0, SqL.of h0⟩, ha σ ρ Pr H1 F1 as1 st1 _ (L.mono e1 p1) S1 (Post.bind P1 fun w2 st2 y H2 F2 as2 _ e2 p2 S2 ry P2 => ?_)⟩
        cases hc2 : st2[i]? with
        | none => rw [hc2] at P2; exact P2.elim
        | some c2 =>
          rw [hc2] at P2
          cases c2 with
          | lst ws =>
            obtain ⟨g, P3⟩ := Post.guard P2
            obtain ⟨vs, h1, lr⟩ := S2.cel i l _ (p2 _ _ hi) hc2
            refine ⟨l, vs, y, rfl, rfl, h1, by rw [lr.length, lim_eq]; exact of_decide_eq_true g, ?_⟩
            exact P3 _ _ F2 as2 (Ex.refl _) (Pre.refl _) (S2.write (p2 _ _ hi) hc2 nofun ⟨_, upd_same, lr.append (.single ry)⟩) .non
          | dk _ _ => exact P2.elim
          | dead => exact P2.elim
      | dk _ _ => exact P1.elim
      | dead => exact P1.elim
  | _ => exact P1.elim
theorem ext_tup (l : Addr) (xs : Array Value) (n : Nat) (b : Addr) (ys : Array Value) (m : Nat) (dd : Option Addr) (sl : Array (Option Value)) (h0 : ¬(!xs.isEmpty && Builtin.List.listTooLong (xs.size + ys.size)) = true) (h1 : xs.size ≤ sizeLine) (h2 : xs.size + ys.size ≤ sizeLine + 1) :
    Meets (Builtin.«list.extend» ⟨[.ref l, .ref b], []⟩) (fun _ R s =>
      s.heap.get? l = some { cls := .type "list", dict := none, data := .seq xs n, slots := #[] } ∧
      s.heap.get? b = some { cls := .type "tuple", dict := dd, data := .seq ys m, slots := sl } ∧
      R (.ok (.ret Value.none)) { s with heap := s.heap.update l (Obj.mapSeq fun x => x ++ ys), toks := s.toks }) :=
  .of_wp fun prog w A R s h => by
    obtain ⟨hp, g, d, tk, os⟩ := s
    obtain ⟨hl, hb, h⟩ := h
    have f1 := AutoSeq1.idx_int
    have f2 := AutoSeq1.sub_tuple_tuple
    have f3 := AutoSeq1.sub_list_list
    have f4 := AutoSeq1.sub_tuple_list
    have f5 := AutoSeq1.sub_list_tuple
    have hz' : (xs ++ ys).size ≤ sizeLine + 1 := by rw [Array.size_append]; exact h2
    wp_walk using (wpAny_updateSeq hl rfl (hz := h1) (_hz' := hz')), AutoSeq1.wpAny_loadPart' hl, AutoSeq1.wpAny_loadPart' hb
    exact ⟨_, rfl, h⟩
/-- xs.extend(a list or a tuple) -/
theorem mt_ext2 : MtM X "list.extend" (fun x vs H Q => ∃ l b xs zs, x = .ref l ∧ vs = [.ref b] ∧ H l = some (.lst xs) ∧ (H b = some (.lst zs) ∨ SqT X.K H b zs) ∧ xs.length + zs.length ≤ sizeLine ∧ Q .non (upd H l (.lst (xs ++ zs)))) := by
  intro pins s σ H x vs v us Q I rx rv h
  obtain ⟨l, b, xs, zs, rfl, rfl, hH, hB, hz, q⟩ := h
  rcases hB with hB | hB
  · exact mt_extend pins s σ H _ _ v us Q I rx rv ⟨l, b, xs, zs, rfl, rfl, hH, hB, hz, q⟩
  cases rx
  obtain ⟨u, rfl, ru⟩ := rv.one
  cases ru
  obtain ⟨z, its, n, r, hl, e⟩ := I.lstM hH
  obtain ⟨its2, r2, ⟨o2, ho2, hc2, n2, hd2⟩, _⟩ := I.tuple hB
  obtain ⟨oc, od, odat, osl⟩ := o2
  cases hc2
  cases hd2
  have hl2 : zs.length = its2.length := r2.length
  have hsz : its.toArray.size + its2.toArray.size ≤ sizeLine := by rw [List.size_toArray, List.size_toArray]; omega
  have hlong : ¬ (!its.toArray.isEmpty && Builtin.List.listTooLong (its.toArray.size + its2.toArray.size)) = true := by
    rw [notLongL hsz, Bool.and_false]
    exact Bool.false_ne_true
  refine call_meets F.slot_list_extend ⟨_, e, rfl⟩ F.entry_list_extend (F.args_list_extend_2 _ _) (ext_tup l its.toArray n b its2.toArray n2 od osl hlong (by rw [List.size_toArray]; omega) (by omega)) ⟨e, ho2, ?_⟩
  refine ⟨.non, _, I.lset (its' := its ++ its2) hH e (by simp) (r.append r2) ?_, rfl, q⟩
  rw [List.length_append]
  omega
theorem snd_ext {b a : Expr} {ap pos : Pos} {eb ea : E} (hn : ∀ f xs ks p, b ≠ .Call f xs ks p) (hl : (ap.endLine == pos.line) = true) (hp : plainE a = true) (hb : SndE X Wx b (ev cl eb)) (ha : SndE X Wx a (ev cl ea)) :
    SndE X Wx (.Call (.Attribute b "extend" ap) [a] [] pos) (ev cl (.ext eb ea)) := by
  intro σ ρ Pr H F as st Q L S P
  rw [ev] at P
  refine toE (pe_bm PySem.F.plainAttrs_list PySem.F.slot_list_extend PySem.F.type_list_extend mt_ext2 (pe_of b) (pa_cons (pe_of a) pa_nil (star_of hp)) (base_of hn) (few_of hp) hl (star_of hp) rfl) (hb σ ρ Pr H F as st _ L S (Post.bind P fun w st1 v H1 F1 as1 _ e1 p1 S1 rx P1 => ?_))
  cases rx with
  | @ref l i hi =>
    dsimp only at P1
    cases hc : st1[i]? with
    | none => rw [hc] at P1; exact P1.elim
    | some c =>
      rw [hc] at P1
      cases c with
      | lst ws0 =>
        dsimp only at P1
        obtain ⟨vs0, h0, _⟩ := S1.cel i l _ hi hc
        refine ⟨.inl ⟨rfl, vs0, SqL.of h0⟩, ha σ ρ Pr H1 F1 as1 st1 _ (L.mono e1 p1) S1 (Post.bind P1 fun w2 st2 y H2 F2 as2 _ e2 p2 S2 ry P2 => ?_)⟩
        cases hc2 : st2[i]? with
        | none => rw [hc2] at P2; exact P2.elim
        | some c2 =>
          rw [hc2] at P2
          cases c2 with
          | lst ws =>
            dsimp only at P2
            cases hq : seqOf st2 w2 with
            | none => rw [hq] at P2; exact P2.elim
            | some us =>
              rw [hq] at P2
              obtain ⟨g, P3⟩ := Post.guard P2
              have g' : ws.length + us.length ≤ lim := of_decide_eq_true g
              obtain ⟨vs, h1, lr⟩ := S2.cel i l _ (p2 _ _ hi) hc2
              unfold seqOf at hq
              split at hq
              · rename_i ws' hd
                cases hq
                obtain ⟨c, ys, rfl, hy, ly⟩ := deref_lst S2 ry hd
                refine ⟨l, c, vs, ys, rfl, rfl, h1, .inl hy, by rw [lr.length, ly.length, lim_eq]; exact g', ?_⟩
                exact P3 _ _ F2 as2 (Ex.refl _) (Pre.refl _) (S2.write (p2 _ _ hi) hc2 nofun ⟨_, upd_same, lr.append ly⟩) .non
              · rename_i ws' hd
                cases hq
                obtain ⟨c, ys, rfl, hy, ly⟩ := deref_tup S2 ry hd
                refine ⟨l, c, vs, ys, rfl, rfl, h1, .inr hy, by rw [lr.length, ly.length, lim_eq]; exact g', ?_⟩
                exact P3 _ _ F2 as2 (Ex.refl _) (Pre.refl _) (S2.write (p2 _ _ hi) hc2 nofun ⟨_, upd_same, lr.append ly⟩) .non
              · cases hq
          | dk _ _ => exact P2.elim
          | dead => exact P2.elim
      | dk _ _ => exact P1.elim
      | dead => exact P1.elim
  | _ => exact P1.elim
/-! ### what is walked -/
def iOf (X : Cx) (tg iter : Expr) : TI := fun σ H R => ∀ (pins : List (Addr × Obj)) (s : Shared), Inv X pins σ H s → wpAny (model X.prog X.w) X.A (eval iter X.env) (fun v s1 => wpAny (model X.prog X.w) X.A (pyIter v) (PIE X pins σ tg R) X.xe s1) X.xe s
theorem pi_of (tg e : Expr) : PI X tg e (iOf X tg e) := ⟨fun pins s σ H R I h => h pins s I⟩
theorem toI {tg e : Expr} {wi : TI} (h : PI X tg e wi) {σ : L2.St} {H : Hp} {R : L2.It → Hp → Prop} (q : wi σ H R) : iOf X tg e σ H R := fun pins s I => h.run pins s σ H R I q
/-- J walks ws -/
def JOk (K : PySem.W.Frag) (F0 : Hp) (as0 : List Addr) (J : L2.It) (ws : List W) : Prop :=
  ∀ (i : Nat) (Pr H F : Hp) (as : List Addr) (st : Sto), Ex F0 F → Pre as0 as → Sat K Pr F H as st →
    (∀ w, ws[i]? = some w → J.go i H ∧ ∀ x H', J.yld i H x H' → ∃ F', Ex F F' ∧ Sat K Pr F' H' as st ∧ Rep K F' as x w) ∧ (ws[i]? = none → J.stop i H)
abbrev RJ (K : PySem.W.Frag) : Hp → Hp → List Addr → L2.It → List W → Prop := fun F _ as J ws => JOk K F as J ws
def SndI (X : Cx) (Wx : WX) (tg e : Expr) (f : Rho → Sto → Res (List W)) : Prop := ∀ σ ρ Pr H F as st (R : L2.It → Hp → Prop), Slots X.K F as σ ρ → Sat X.K Pr F H as st → Post X.K Pr (RJ X.K) (WE Wx σ) F as R (f ρ st) → iOf X tg e σ H R
theorem jok_tup {K : PySem.W.Frag} {F : Hp} {as : List Addr} {a : Addr} {vs : List V} {ws : List W} (h : SqT K F a vs) (l : RepL K F as vs ws) : JOk K F as (Itt K a) ws := by
  intro i Pr H F' as' st e p S
  have h' : SqT K H a vs := S.ext.sqt (e.sqt h)
  refine ⟨fun w hw => ?_, fun hn => ⟨vs, h', ?_⟩⟩
  · obtain ⟨v, hv, r⟩ := l.get hw
    refine ⟨⟨vs, v, h', hv⟩, fun x H' ⟨eH, hx⟩ => ?_⟩
    subst eH
    have ex : vs[i]? = some x := hx vs h'
    rw [hv] at ex
    cases ex
    exact ⟨F', Ex.refl _, S, r.mono e p⟩
  · rw [l.length]; exact List.getElem?_eq_none_iff.mp hn
theorem jok_lst {K : PySem.W.Frag} {F : Hp} {as : List Addr} {a : Addr} {vs : List V} {ws : List W} (h : SqL K F a vs) (l : RepL K F as vs ws) : JOk K F as (Itl K a) ws := by
  intro i Pr H F' as' st e p S
  have h' : SqL K H a vs := S.ext.sql (e.sql h)
  refine ⟨fun w hw => ?_, fun hn => ⟨vs, h', ?_⟩⟩
  · obtain ⟨v, hv, r⟩ := l.get hw
    refine ⟨⟨vs, v, h', hv⟩, fun x H' ⟨eH, hx⟩ => ?_⟩
    subst eH
    have ex : vs[i]? = some x := hx vs h'
    rw [hv] at ex
    cases ex
    exact ⟨F', Ex.refl _, S, r.mono e p⟩
  · rw [l.length]; exact List.getElem?_eq_none_iff.mp hn
theorem jok_str {K : PySem.W.Frag} {F : Hp} {as : List Addr} {z : Str} : JOk K F as (Its z) (z.cps.toList.map fun c => .str ⟨#[c]⟩) := by
  intro i Pr H F' as' st e p S
  refine ⟨fun w hw => ?_, fun hn => ?_⟩
  · rw [List.getElem?_map] at hw
    cases hc : z.cps.toList[i]? with
    | none => rw [hc] at hw; cases hw
    | some c =>
      rw [hc] at hw
      cases hw
      have hl : i < z.cps.size := by
        rcases Nat.lt_or_ge i z.cps.toList.length with h | h
        · simpa using h
        · rw [List.getElem?_eq_none h] at hc; cases hc
      refine ⟨hl, fun x H' ⟨eH, c', hc', hx⟩ => ?_⟩
      subst eH; subst hx
      have : z.cps.toList[i]? = some c' := by rw [Array.getElem?_toList]; exact hc'
      rw [hc] at this
      cases this
      exact ⟨F', Ex.refl _, S, .str _⟩
  · have := List.getElem?_eq_none_iff.mp hn
    rw [List.length_map] at this
    show z.cps.size ≤ i
    simpa using this
theorem jok_rng {K : PySem.W.Frag} {F : Hp} {as : List Addr} {lo : Int} {n : Nat} : JOk K F as (Itr lo n) (rangeL lo n) := by
  intro i Pr H F' as' st e p S
  unfold rangeL
  rw [List.getElem?_map]
  refine ⟨fun w hw => ?_, fun hn => ?_⟩
  · cases hc : (List.range n)[i]? with
    | none => rw [hc] at hw; cases hw
    | some c =>
      rw [hc] at hw
      cases hw
      have hl : i < n := by
        rcases Nat.lt_or_ge i (List.range n).length with h | h
        · simpa using h
        · rw [List.getElem?_eq_none h] at hc; cases hc
      rw [List.getElem?_range hl] at hc
      cases hc
      refine ⟨hl, fun x H' ⟨eH, hx⟩ => ?_⟩
      subst eH; subst hx
      exact ⟨F', Ex.refl _, S, .int _⟩
  · have : (List.range n)[i]? = none := by
      cases hc : (List.range n)[i]? with
      | none => rfl
      | some c => rw [hc] at hn; cases hn
    have := List.getElem?_eq_none_iff.mp this
    rw [List.length_range] at this
    exact this
theorem snd_seq {tg a : Expr} {ea : E} (ha : SndE X Wx a (ev cl ea)) : SndI X Wx tg a (evIt cl (.seq ea)) := by
  intro σ ρ Pr H F as st R L S P
  rw [evIt] at P
  cases hr : ev cl ea ρ st with
  | stuck => rw [hr] at P; exact P.elim
  | err x st1 =>
    rw [hr] at P
    refine toI (pi_tup (pe_of a)) (ha σ ρ Pr H F as st _ L S ?_)
    rw [hr]
    exact P
  | ok w st1 =>
    rw [hr] at P
    cases w with
    | tup ws =>
      refine toI (pi_tup (pe_of a)) (ha σ ρ Pr H F as st _ L S ?_)
      rw [hr]
      intro v H' F' as' e p S' r
      cases r with
      | tup h l => exact ⟨_, rfl, ⟨_, S'.ext.sqt h⟩, P _ H' F' as' e p S' (jok_tup h l)⟩
    | lst ws =>
      refine toI (pi_list (pe_of a)) (ha σ ρ Pr H F as st _ L S ?_)
      rw [hr]
      intro v H' F' as' e p S' r
      cases r with
      | lst h l => exact ⟨_, rfl, ⟨_, SqL.of (S'.ext _ _ h)⟩, P _ H' F' as' e p S' (jok_lst (SqL.of h) l)⟩
    | str z =>
      refine toI (pi_str (pe_of a)) (ha σ ρ Pr H F as st _ L S ?_)
      rw [hr]
      intro v H' F' as' e p S' r
      cases r with
      | str _ => exact ⟨z, rfl, P _ H' F' as' e p S' jok_str⟩
    | _ => exact P.elim
theorem small_of {n : Int} (h : smallI n = true) : -(2 ^ 62) ≤ n ∧ n < 2 ^ 62 := by
  unfold smallI at h
  simp only [Bool.and_eq_true, decide_eq_true_eq] at h
  exact h
theorem snd_range1 (o : ScOk X N sc) (en : EnvOk X Wx G cl) {tg a : Expr} {p pos : Pos} {ea : E} (hg : bfree G sc "range" = true) (hp : plainE a = true) (ha : SndE X Wx a (ev cl ea)) : SndI X Wx tg (.Call (.Name "range" p) [a] [] pos) (evIt cl (.range1 ea)) := by
  intro σ ρ Pr H F as st R L S P
  rw [evIt] at P
  unfold bfree at hg
  simp only [Bool.and_eq_true, decide_eq_true_eq] at hg
  refine toI (pi_range1 (gl_of o hg.1) (en.fr _ hg.2) (pa_cons (pe_of a) pa_nil (star_of hp)) (star1 hp)) (ha σ ρ Pr H F as st _ L S (Post.bind P fun w st1 v H1 F1 as1 _ e1 p1 S1 rx P1 => ?_))
  cases rx with
  | int n =>
    have e : ∀ f : Int → Sto → Res (List W), (Mz.ret st1 (intW (.int n))).bind f = f n st1 := fun _ => rfl
    rw [e] at P1
    obtain ⟨g, P2⟩ := P1.guard
    have b := small_of g
    exact ⟨n, rfl, b.1, b.2, Post.here (R := RJ X.K) P2 S1 jok_rng⟩
  | _ => exact P1.elim
theorem snd_range2 (o : ScOk X N sc) (en : EnvOk X Wx G cl) {tg a b : Expr} {p pos : Pos} {ea eb : E} (hg : bfree G sc "range" = true) (hp : plainE a = true) (hq : plainE b = true) (ha : SndE X Wx a (ev cl ea)) (hb : SndE X Wx b (ev cl eb)) : SndI X Wx tg (.Call (.Name "range" p) [a, b] [] pos) (evIt cl (.range2 ea eb)) := by
  intro σ ρ Pr H F as st R L S P
  rw [evIt] at P
  unfold bfree at hg
  simp only [Bool.and_eq_true, decide_eq_true_eq] at hg
  refine toI (pi_range2 (gl_of o hg.1) (en.fr _ hg.2) (pa_cons (pe_of a) (pa_cons (pe_of b) pa_nil (star_of hq)) (star_of hp)) (by rw [star_of hp, star1 hq]) (star1 hq)) (ha σ ρ Pr H F as st _ L S (Post.bind P fun w st1 v H1 F1 as1 _ e1 p1 S1 rx P1 => ?_))
  refine hb σ ρ Pr H1 F1 as1 st1 _ (L.mono e1 p1) S1 (Post.bind P1 fun w2 st2 v2 H2 F2 as2 _ e2 p2 S2 ry P2 => ?_)
  cases Rep.mono e2 p2 rx with
  | int i => cases ry with
    | int j =>
      obtain ⟨g, P3⟩ := P2.guard
      simp only [Bool.and_eq_true] at g
      have b1 := small_of g.1
      have b2 := small_of g.2
      exact ⟨i, j, rfl, ⟨b1.1, b1.2, b2.1, b2.2⟩, Post.here (R := RJ X.K) P3 S2 jok_rng⟩
    | _ => exact P2.elim
  | _ => first | exact P2.elim | (cases ry <;> exact P2.elim)
end
/-! ### targets -/
def gTgt (K : PySem.W.Frag) (tg : List Nat) (single : Bool) : TG := match single with
  | true => gName (tg.headD 0)
  | false => gTup K tg.length (tg.foldr (fun i t => gCons (gName i) t) gNil)
section
variable {X : Cx} {Wx : WX} {N : List Str} {sc : Scope} {G : Gam} {cl : Nat → List W → Sto → Res W}
theorem slot_of {e : Expr} {i : Nat} (h : slot N sc e i = true) : ∃ x p, e = .Name x p ∧ N[i]? = some x ∧ isLC sc x = true ∧ notDunder x = true := by
  unfold slot at h
  split at h
  · rename_i x p
    simp only [Bool.and_eq_true, decide_eq_true_eq] at h
    exact ⟨x, p, rfl, h.1.1, h.1.2, h.2⟩
  · cases h
theorem pg_slot (o : ScOk X N sc) {e : Expr} {i : Nat} (h : slot N sc e i = true) : PG X e (gName i) := by
  obtain ⟨x, p, rfl, h1, h2, _⟩ := slot_of h
  exact pg_name (o.n ▸ o.nd) (o.n ▸ h1) (lc_of o h2).1 (lc_of o h2).2
theorem pgs_slots (o : ScOk X N sc) : ∀ {es : List Expr} {is : List Nat}, slots N sc es is = true → PGs X es (is.foldr (fun i t => gCons (gName i) t) gNil)
  | [], [], _ => pgs_nil
  | [], _ :: _, h => by cases h
  | _ :: _, [], h => by cases h
  | e :: es, i :: is, h => by
    simp only [slots, Bool.and_eq_true] at h
    refine pgs_cons (pg_slot o h.1) (pgs_slots o h.2) ?_
    obtain ⟨x, p, rfl, _, _, _⟩ := slot_of h.1
    rfl
theorem slots_len : ∀ {es : List Expr} {is : List Nat}, slots N sc es is = true → es.length = is.length
  | [], [], _ => rfl
  | [], _ :: _, h => by cases h
  | _ :: _, [], h => by cases h
  | e :: es, i :: is, h => by
    simp only [slots, Bool.and_eq_true] at h
    rw [List.length_cons, List.length_cons, slots_len h.2]
theorem each_len {env : Env} : ∀ {es : List Expr} {is : List Nat}, slots N sc es is = true → (assignEach es env).length = es.length ∧ (assignEach es env).findIdx? (·.1) = none
  | [], [], _ => ⟨rfl, rfl⟩
  | [], _ :: _, h => by cases h
  | _ :: _, [], h => by cases h
  | e :: es, i :: is, h => by
    simp only [slots, Bool.and_eq_true] at h
    obtain ⟨x, p, rfl, _, _, _⟩ := slot_of h.1
    have ih := each_len (env := env) h.2
    have e1 : assignEach (.Name x p :: es) env = (false, assign (.Name x p) env) :: assignEach es env := rfl
    rw [e1]
    refine ⟨by rw [List.length_cons, List.length_cons, ih.1], ?_⟩
    rw [List.findIdx?_cons, ih.2]
    rfl
theorem pg_tgt (o : ScOk X N sc) (hc : X.calm = true) {e : Expr} {tg : List Nat} {single : Bool} (h : chkTg N sc tg single e = true) : PG X e (gTgt X.K tg single) := by
  unfold chkTg at h
  split at h
  · exact pg_slot o h
  · rename_i is es k p
    have h' := each_len (env := X.env) h
    exact pg_tup hc (pgs_slots o h) (by rw [h'.1, slots_len h]) h'.2
  · cases h
/-- what a target's store leaves -/
theorem set_slots {K : PySem.W.Frag} {F : Hp} {as : List Addr} {H : Hp} {Q : L2.St → Hp → Prop} : ∀ {is : List Nat} {ws : List W} {vs : List V} {σ : L2.St} {ρ ρ' : Rho}, RepL K F as vs ws → Slots K F as σ ρ → setAll is ws ρ = some ρ' → (∀ σ', Slots K F as σ' ρ' → (∀ vw : List Nat, (∀ i ∈ is, i ∈ vw) → wipe σ' vw = wipe σ vw) → Q σ' H) → is.foldr (fun i t => gCons (gName i) t) gNil vs σ H Q
  | [], ws, vs, σ, ρ, ρ', r, s, e, k => by
    cases ws with
    | nil => cases r; cases e; exact ⟨rfl, k σ s fun _ _ => rfl⟩
    | cons _ _ => cases e
  | i :: is, ws, vs, σ, ρ, ρ', r, s, e, k => by
    cases ws with
    | nil => cases e
    | cons w ws =>
      cases r with
      | @cons v _ vs' _ rv rr =>
        refine ⟨v, vs', rfl, set_slots (ρ := ρ.set i (some w)) rr (s.set rv) e fun σ' s' hw => k σ' s' fun vw hv => ?_⟩
        rw [hw vw fun j hj => hv j (List.mem_cons_of_mem _ hj)]
        exact wipe_set (hv i List.mem_cons_self)
where
  wipe_get {σ : L2.St} {j : Nat} : ∀ {vw : List Nat}, (wipe σ vw)[j]? = if j ∈ vw then (if j < σ.length then some none else none) else σ[j]?
    | [] => by simp [wipe]
    | v :: vw => by
      show ((wipe σ vw).set v none)[j]? = _
      by_cases e : v = j
      · subst e
        rw [if_pos List.mem_cons_self]
        by_cases hl : v < σ.length
        · rw [List.getElem?_set_self (by rw [wipe_length]; exact hl), if_pos hl]
        · rw [if_neg hl, List.getElem?_eq_none (by rw [List.length_set, wipe_length]; omega)]
      · rw [List.getElem?_set_ne e, wipe_get]
        by_cases m : j ∈ vw
        · rw [if_pos m, if_pos (List.mem_cons_of_mem _ m)]
        · rw [if_neg m, if_neg (fun z => by rcases List.mem_cons.mp z with q | q; exact e q.symm; exact m q)]
  wipe_set {σ : L2.St} {i : Nat} {x : Option V} {vw : List Nat} (h : i ∈ vw) : wipe (σ.set i x) vw = wipe σ vw := by
    apply List.ext_getElem?
    intro j
    rw [wipe_get, wipe_get, List.length_set]
    by_cases m : j ∈ vw
    · rw [if_pos m, if_pos m]
    · rw [if_neg m, if_neg m, List.getElem?_set_ne (fun z => m (by rw [← z]; exact h))]
theorem set_tgt {F H : Hp} {as : List Addr} {Q : L2.St → Hp → Prop} {tg : List Nat} {single : Bool} {w : W} {v : V} {σ : L2.St} {ρ ρ' : Rho} (hx : Ex F H) (r : Rep X.K F as v w) (s : Slots X.K F as σ ρ) (e : setTg tg single w ρ = some ρ') (k : ∀ σ', Slots X.K F as σ' ρ' → (∀ vw : List Nat, (∀ i ∈ tg, i ∈ vw) → wipe σ' vw = wipe σ vw) → Q σ' H) : gTgt X.K tg single v σ H Q := by
  cases single with
  | true => cases tg with
    | nil => cases e
    | cons i q => cases q with
      | nil =>
        cases e
        exact k _ (s.set r) fun vw hv => set_slots.wipe_set (hv i List.mem_cons_self)
      | cons _ _ => cases e
  | false => cases r with
    | @tup a vs ws h l =>
      have e' : setAll tg ws ρ = some ρ' := by cases tg <;> exact e
      refine ⟨a, vs, rfl, hx.sqt h, ?_, set_slots l s e' k⟩
      rw [l.length]
      exact setAll_len e'
    | _ => cases tg <;> cases e
where
  setAll_len : ∀ {is : List Nat} {ws : List W} {ρ ρ' : Rho}, setAll is ws ρ = some ρ' → ws.length = is.length
    | [], [], _, _, _ => rfl
    | [], _ :: _, _, _, e => by cases e
    | _ :: _, [], _, _, e => by cases e
    | i :: is, w :: ws, _, _, e => by rw [List.length_cons, List.length_cons, setAll_len (is := is) (ws := ws) e]
end
/-! ### comprehensions -/
section
variable {X : Cx} {Wx : WX} {N : List Str} {sc : Scope} {G : Gam} {cl : Nat → List W → Sto → Res W}
theorem relabel_lookup {env : Env} {x : Str} : ∀ {names : List (Str × NameKind)} {k : NameKind}, names.lookup x = some k →
    (k ≠ .free → (names.map fun (n, k) => if (k == NameKind.free && env.scope.kind == .function && env.kindOf n == some .cell) then (n, NameKind.cell) else (n, k)).lookup x = some k) ∧
    (k = .free → (names.map fun (n, k) => if (k == NameKind.free && env.scope.kind == .function && env.kindOf n == some .cell) then (n, NameKind.cell) else (n, k)).lookup x = some .free ∨ (names.map fun (n, k) => if (k == NameKind.free && env.scope.kind == .function && env.kindOf n == some .cell) then (n, NameKind.cell) else (n, k)).lookup x = some .cell)
  | [], k, h => by cases h
  | (n, k0) :: r, k, h => by
    rw [List.map_cons]
    by_cases e : x = n
    · subst e
      rw [List.lookup_cons_self] at h
      cases h
      dsimp only
      split
      · rename_i c
        simp only [Bool.and_eq_true, beq_iff_eq] at c
        have ck : k0 = .free := by
          cases k0 <;> first | rfl | (exact absurd c.1.1 (by decide))
        subst ck
        exact ⟨fun z => absurd rfl z, fun _ => .inr List.lookup_cons_self⟩
      · exact ⟨fun _ => List.lookup_cons_self, fun z => .inl (by rw [List.lookup_cons_self, z])⟩
    · have e' : (x == n) = false := by simpa using e
      rw [List.lookup_cons, e'] at h
      have ih := relabel_lookup (env := env) h
      dsimp only
      split
      · rw [List.lookup_cons, e']; exact ih
      · rw [List.lookup_cons, e']; exact ih
theorem sc_blk (o : ScOk X N sc) {scope : Scope} (hk : scope.kind = .function) {s : Shared} {H : Hp} {C : Addr} {cs : List (Str × Addr)} {fp : List Addr} : ScOk (X.blk s H scope (compEnvC scope cs C X.env) fp) N scope where
  n := o.n
  nd := o.nd
  kind := hk
  keep := fun x k h hf => (relabel_lookup (env := X.env) h).1 hf
  free := fun x h => (relabel_lookup (env := X.env) h).2 rfl
  fnc := fun x h => by show (scope.names.lookup x == some .cell) = true; rw [h]; rfl
theorem env_blk (en : EnvOk X Wx G cl) {scope : Scope} {s : Shared} {H : Hp} {e : Env} {fp : List Addr} : EnvOk (X.blk s H scope e fp) (fun _ _ _ _ => False) G cl where
  calm := en.calm
  gi := en.gi
  gs := en.gs
  fr := en.fr
  un := en.un
  tk := takes0
  call := en.call
theorem blk_of (o : ScOk X N sc) {scope : Scope} {vs : List (Str × Nat)} (h : blkC N sc scope vs = true) : BlkOk X.N X.env.scope scope vs := by
  have b := blkOk_by h
  refine ⟨b.kind, b.uniq, by rw [o.n]; exact b.ix, fun y hy hf => ?_, by rw [o.n]; exact b.own⟩
  rcases b.free y hy hf with q | q
  · exact .inl (o.keep _ _ q (by intro z; cases z))
  · rcases o.free _ q with z | z
    · exact .inr z
    · exact .inl z
theorem wipe_slots {K : PySem.W.Frag} {F : Hp} {as : List Addr} {σ : L2.St} {ρ : Rho} (s : Slots K F as σ ρ) : ∀ vs : List Nat, Slots K F as (wipe σ vs) (wipeR ρ vs)
  | [] => s
  | v :: vs => (wipe_slots s vs).unset
/-- uniform readings over a block's contexts -/
def teU (X : Cx) (scope : Scope) (e : Expr) : TE := fun σ H Q => ∀ (s : Shared) (H0 : Hp) (C : Addr) (cs : List (Str × Addr)) (fp : List Addr), tOf (X.blk s H0 scope (compEnvC scope cs C X.env) fp) e σ H Q
def ttU (X : Cx) (scope : Scope) (e : Expr) : TT := fun σ H Q => ∀ (s : Shared) (H0 : Hp) (C : Addr) (cs : List (Str × Addr)) (fp : List Addr), tOfT (X.blk s H0 scope (compEnvC scope cs C X.env) fp) e σ H Q
def ttUs (X : Cx) (scope : Scope) : List Expr → TT
  | [] => tYes
  | e :: _ => ttU X scope e
theorem noerr_post {α β : Type} {K : PySem.W.Frag} {Pr F : Hp} {as : List Addr} {R : Hp → Hp → List Addr → β → α → Prop} {Wh Wh' : WH} {Q : β → Hp → Prop} {r : Res α} (h : Post K Pr R Wh F as Q r.noerr) : Post K Pr R Wh' F as Q r := by
  cases r with
  | ok a st => exact h
  | err x st => exact h.elim
  | stuck => exact h.elim
/-- the comprehension's turns -/
theorem lc_main (o : ScOk X N sc) (en : EnvOk X Wx G cl) {scope : Scope} {vs : List (Str × Nat)} {tgs : List Nat} {single : Bool} {tg it elt : Expr} {ifs : List Expr} {eit : It} {econd : List E} {eelt : E}
    (hb : blkC N sc scope vs = true) (htg : ∀ i ∈ tgs, i ∈ vs.map (·.2)) 
    (hit : SndI X Wx tg it (evIt cl eit))
    (hc : ifs.length = econd.length) (hcs : ∀ c e, ifs = [c] → econd = [e] → ∀ (s : Shared) (H0 : Hp) (C : Addr) (cs : List (Str × Addr)) (fp : List Addr), SndT (X.blk s H0 scope (compEnvC scope cs C X.env) fp) (fun _ _ _ _ => False) c (fun ρ st => boolW (ev cl e ρ st))) (hc2 : ifs.length ≤ 1)
    (he : ∀ (s : Shared) (H0 : Hp) (C : Addr) (cs : List (Str × Addr)) (fp : List Addr), SndE (X.blk s H0 scope (compEnvC scope cs C X.env) fp) (fun _ _ _ _ => False) elt (ev cl eelt)) :
    ∀ σ ρ Pr H F as st (Q : VK), Slots X.K F as σ ρ → Sat X.K Pr F H as st → Post X.K Pr (RF X.K Pr) (WE Wx σ) F as Q (evL cl (.lc vs tgs single eit econd eelt) ρ st) → tLc (iOf X tg it) (gTgt X.K tgs single) (ttUs X scope ifs) (teU X scope elt) (vs.map (·.2)) σ H Q := by
  intro σ ρ Pr H F as st Q L S P
  rw [evL] at P
  have bk := blkOk_by hb
  refine hit σ ρ Pr H F as st _ L S (Post.bind P fun items st1 J H1 F1 as1 _ e1 p1 S1 jk P1 => ?_)
  obtain ⟨g, P2⟩ := P1.guard
  have hlim : items.length ≤ lim := of_decide_eq_true g
  intro D hD
  have L1 := L.mono e1 p1
  generalize hf : (fun w st => match setTg tgs single w (wipeR ρ (vs.map (·.2))) with
        | some ρ' => (evConds cl econd ρ' st).noerr.bind fun b st => if b = true then (ev cl eelt ρ' st).noerr.bind fun y st => Res.ok (some y) st else Res.ok none st
        | none => Res.stuck) = f at P2
  -- the invariant
  refine ⟨fun i m H' => m = items.length - i ∧ i ≤ items.length ∧ ∃ F' as' st' vsacc acc, Ex F1 F' ∧ Pre as1 as' ∧ Sat X.K Pr F' H' as' st' ∧ Pr D = none ∧ F' D = none ∧ (∀ j : Nat, as'[j]? ≠ some D) ∧ H' D = some (.lst vsacc) ∧ RepL X.K F' as' vsacc acc ∧ acc.length ≤ i ∧ Post X.K Pr (RF X.K Pr) (WE Wx σ) F' as' Q ((lcGo f (items.drop i) st').bind fun r st => .ok (acc ++ r) st), ⟨items.length, by omega, by omega, F1, as1, st1, [], [], Ex.refl _, Pre.refl _, S1.extra hD, S1.pnone hD, S1.fresh hD, S1.notcell hD, upd_same, .nil, Nat.le_refl _, ?_⟩, fun i m H' hW => ?_⟩
  · rw [List.drop_zero]
    have : ((lcGo f items st1).bind fun r st => Res.ok ([] ++ r) st) = lcGo f items st1 := by
      cases lcGo f items st1 <;> rfl
    rw [this]
    exact P2
  · obtain ⟨em, hi, F', as', st', vsacc, acc, eF, pA, S', prD, fD, nD, hDD, ra, la, P3⟩ := hW
    rcases Nat.lt_or_ge i items.length with hlt | hge
    · refine .inr ?_
      have hw : items[i]? = some items[i] := List.getElem?_eq_getElem hlt
      -- while the element is reckoned the list made so far is private
      have SP : Sat X.K (upd Pr D (.lst vsacc)) F' H' as' st' := ⟨S'.ext, S'.len, S'.inj, S'.out, S'.cel, fun a u e => by
        by_cases q : a = D
        · subst q; rw [upd_same] at e; cases e; exact ⟨hDD, fD, nD⟩
        · rw [upd_ne q] at e; exact S'.prv a u e⟩
      have back : ∀ {F2 H2 : Hp} {as2 : List Addr} {st2 : Sto}, Sat X.K (upd Pr D (.lst vsacc)) F2 H2 as2 st2 → Sat X.K Pr F2 H2 as2 st2 ∧ H2 D = some (.lst vsacc) ∧ F2 D = none ∧ ∀ j : Nat, as2[j]? ≠ some D := fun {F2 H2 as2 st2} S2 => by
        obtain ⟨z1, z2, z3⟩ := S2.prv D _ upd_same
        refine ⟨⟨S2.ext, S2.len, S2.inj, S2.out, S2.cel, fun a u e => ?_⟩, z1, z2, z3⟩
        have q : a ≠ D := fun z => by rw [z, prD] at e; cases e
        exact S2.prv a u (by rw [upd_ne q]; exact e)
      have jj := jk i _ H' F' as' st' eF pA SP
      obtain ⟨hgo, hy⟩ := jj.1 _ hw
      rw [List.drop_eq_getElem_cons hlt] at P3
      have P4 : Post X.K Pr (RF X.K Pr) (WE Wx σ) F' as' Q ((f items[i] st').bind fun o st1 => ((lcGo f (items.drop (i + 1)) st1).bind fun r st2 => .ok (o.toList ++ r) st2).bind fun r st => .ok (acc ++ r) st) := by
        have : ((lcGo f (items[i] :: items.drop (i + 1)) st').bind fun r st => Res.ok (acc ++ r) st) = ((f items[i] st').bind fun o st1 => ((lcGo f (items.drop (i + 1)) st1).bind fun r st2 => .ok (o.toList ++ r) st2).bind fun r st => .ok (acc ++ r) st) := by
          show ((f items[i] st').bind fun o st1 => (lcGo f (items.drop (i + 1)) st1).bind fun r st2 => Res.ok (o.toList ++ r) st2).bind _ = _
          cases f items[i] st' <;> rfl
        rw [this] at P3
        exact P3
      refine ⟨hgo, fun H2 => items.length - (i + 1) = items.length - (i + 1) ∧ i + 1 ≤ items.length ∧ ∃ F' as' st' vsacc acc, Ex F1 F' ∧ Pre as1 as' ∧ Sat X.K Pr F' H2 as' st' ∧ Pr D = none ∧ F' D = none ∧ (∀ j : Nat, as'[j]? ≠ some D) ∧ H2 D = some (.lst vsacc) ∧ RepL X.K F' as' vsacc acc ∧ acc.length ≤ i + 1 ∧ Post X.K Pr (RF X.K Pr) (WE Wx σ) F' as' Q ((lcGo f (items.drop (i + 1)) st').bind fun r st => .ok (acc ++ r) st), fun H2 hN => ⟨items.length - (i + 1), by omega, hN⟩, fun x H2 hyl => ?_⟩
      obtain ⟨F2, eF2, S2, rx⟩ := hy x H2 hyl
      -- the store
      have hfe : f items[i] st' = (match setTg tgs single items[i] (wipeR ρ (vs.map (·.2))) with
        | some ρ' => (evConds cl econd ρ' st').noerr.bind fun b st => if b = true then (ev cl eelt ρ' st).noerr.bind fun y st => Res.ok (some y) st else Res.ok none st
        | none => Res.stuck) := by rw [← hf]
      rw [hfe] at P4
      clear hfe hf
      have Lw : Slots X.K F2 as' (wipe σ (vs.map (·.2))) (wipeR ρ (vs.map (·.2))) := wipe_slots ((L1.mono eF pA).mono eF2 (Pre.refl _)) _
      cases hset : setTg tgs single items[i] (wipeR ρ (vs.map (·.2))) with
      | none => rw [hset] at P4; exact P4.elim
      | some ρ' =>
        rw [hset] at P4
        dsimp only at P4
        refine set_tgt S2.ext rx Lw hset fun σ' s' hw => ?_
        refine ⟨by rw [hw _ htg]; exact set_slots_wipe2, ?_⟩
        -- the test
        have P5 : Post X.K Pr (RF X.K Pr) (WE Wx σ) F2 as' Q ((evConds cl econd ρ' st').noerr.bind fun b st => (if b = true then (ev cl eelt ρ' st).noerr.bind fun y st => Res.ok (some y) st else Res.ok none st).bind fun o st1 => ((lcGo f (items.drop (i + 1)) st1).bind fun r st2 => .ok (o.toList ++ r) st2).bind fun r st => .ok (acc ++ r) st) := by
          have P4' := Post.mono P4 eF2 (Pre.refl _)
          revert P4'
          cases (evConds cl econd ρ' st').noerr <;> exact id
        clear P4
        have test : ∀ Qb : Bool → Hp → Prop, (∀ b st3 H3 F3 as3, (evConds cl econd ρ' st').noerr = .ok b st3 → Ex F2 F3 → Pre as' as3 → Sat X.K (upd Pr D (.lst vsacc)) F3 H3 as3 st3 → Qb b H3) → ttUs X scope ifs σ' H2 Qb := by
          intro Qb hQ
          cases ifs with
          | nil =>
            cases econd with
            | cons _ _ => cases hc
            | nil => exact hQ true st' H2 F2 as' rfl (Ex.refl _) (Pre.refl _) S2
          | cons c r =>
            cases r with
            | cons _ _ => simp only [List.length_cons] at hc2; omega
            | nil =>
              cases econd with
              | nil => cases hc
              | cons ec er =>
                cases er with
                | cons _ _ => cases hc
                | nil =>
                  intro s0 H0 C cs fp
                  refine hcs c ec rfl rfl s0 H0 C cs fp σ' ρ' (upd Pr D (.lst vsacc)) H2 F2 as' st' _ s' S2 ?_
                  show Post X.K _ RB _ F2 as' Qb (boolW (ev cl ec ρ' st'))
                  have hev : evConds cl [ec] ρ' st' = boolW (ev cl ec ρ' st') := rfl
                  rw [hev] at hQ P5
                  cases hbw : boolW (ev cl ec ρ' st') with
                  | stuck => rw [hbw] at P5; exact P5.elim
                  | err x st3 => rw [hbw] at P5; exact P5.elim
                  | ok b st3 =>
                    rw [hbw] at hQ
                    exact fun b' H3 F3 as3 e3 p3 S3 rb => by
                      have : b' = b := rb
                      subst this
                      exact hQ b' st3 H3 F3 as3 rfl e3 p3 S3
        refine test _ fun b st3 H3 F3 as3 hb3 e3 p3 S3 => ?_
        rw [hb3] at P5
        have P6 := Post.mono (r := (if b = true then (ev cl eelt ρ' st3).noerr.bind fun y st => Res.ok (some y) st else Res.ok none st3).bind fun o st1 => ((lcGo f (items.drop (i + 1)) st1).bind fun r st2 => .ok (o.toList ++ r) st2).bind fun r st => .ok (acc ++ r) st) P5 e3 p3
        clear P5
        cases b with
        | false =>
          rw [if_neg Bool.false_ne_true] at P6 ⊢
          obtain ⟨S3', h3, f3, n3⟩ := back S3
          refine ⟨rfl, by omega, F3, as3, st3, vsacc, acc, (eF.trans eF2).trans e3, pA.trans p3, S3', prD, f3, n3, h3, RepL.mono (eF2.trans e3) p3 ra, by omega, ?_⟩
          have : (((Res.ok none st3 : Res (Option W)).bind fun o st1 => ((lcGo f (items.drop (i + 1)) st1).bind fun r st2 => Res.ok (o.toList ++ r) st2).bind fun r st => Res.ok (acc ++ r) st)) = ((lcGo f (items.drop (i + 1)) st3).bind fun r st => Res.ok (acc ++ r) st) := by
            show (((lcGo f (items.drop (i + 1)) st3).bind fun r st2 => Res.ok (([] : List W) ++ r) st2).bind fun r st => Res.ok (acc ++ r) st) = _
            generalize lcGo f (items.drop (i + 1)) st3 = z
            cases z <;> rfl
          rw [this] at P6
          exact P6
        | true =>
          rw [if_pos rfl] at P6 ⊢
          intro s0 H0 C cs fp
          have s3 : Slots X.K F3 as3 σ' ρ' := s'.mono e3 p3
          refine he s0 H0 C cs fp σ' ρ' (upd Pr D (.lst vsacc)) H3 F3 as3 st3 _ s3 S3 ?_
          cases hel : ev cl eelt ρ' st3 with
          | stuck => rw [hel] at P6; exact P6.elim
          | err x st4 => rw [hel] at P6; exact P6.elim
          | ok y st4 =>
            rw [hel] at P6
            intro v H4 F4 as4 e4 p4 S4 rv
            obtain ⟨S4', h4, f4, n4⟩ := back S4
            have ra4 : RepL X.K F4 as4 vsacc acc := RepL.mono ((eF2.trans e3).trans e4) (p3.trans p4) ra
            refine ⟨vsacc, h4, by rw [ra4.length, lim_eq]; omega, rfl, by omega, F4, as4, st4, vsacc ++ [v], acc ++ [y], ((eF.trans eF2).trans e3).trans e4, (pA.trans p3).trans p4, ?_, prD, f4, n4, upd_same, ra4.append (.single rv), by rw [List.length_append, List.length_singleton]; omega, ?_⟩
            · refine ⟨fun a u e => ?_, S4'.len, S4'.inj, S4'.out, fun j a c h hc => (S4'.cel j a c h hc).mono (upd_ne (fun z => n4 j (z ▸ h))) (Ex.refl _) (Pre.refl _), fun a u e => ?_⟩
              · have q : a ≠ D := fun z => by rw [z, f4] at e; cases e
                rw [upd_ne q]; exact S4'.ext _ _ e
              · obtain ⟨z1, z2, z3⟩ := S4'.prv a u e
                have q : a ≠ D := fun z => by rw [z, prD] at e; cases e
                exact ⟨by rw [upd_ne q]; exact z1, z2, z3⟩
            · have P7 := Post.mono (r := ((lcGo f (items.drop (i + 1)) st4).bind fun r st2 => Res.ok ([y] ++ r) st2).bind fun r st => Res.ok (acc ++ r) st) P6 e4 p4
              have : (((lcGo f (items.drop (i + 1)) st4).bind fun r st2 => Res.ok ([y] ++ r) st2).bind fun r st => Res.ok (acc ++ r) st) = ((lcGo f (items.drop (i + 1)) st4).bind fun r st => Res.ok ((acc ++ [y]) ++ r) st) := by
                generalize lcGo f (items.drop (i + 1)) st4 = z
                cases z with
                | ok a b => show Res.ok (acc ++ ([y] ++ a)) b = Res.ok ((acc ++ [y]) ++ a) b; rw [List.append_assoc]
                | err _ _ => rfl
                | stuck => rfl
              rw [this] at P7
              exact P7
    · refine .inl ⟨(jk i _ H' F' as' st' eF pA S').2 (List.getElem?_eq_none hge), ?_⟩
      rw [List.drop_eq_nil_of_le hge] at P3
      have P4 : Post X.K Pr (RF X.K Pr) (WE Wx σ) F' as' Q (.ok (acc ++ []) st') := P3
      rw [List.append_nil] at P4
      exact P4 _ _ F' as' (Ex.refl _) (Pre.refl _) S' ⟨D, vsacc, rfl, prD, fD, nD, hDD, ra⟩
where
  set_slots_wipe2 {σ : L2.St} {vs : List Nat} : wipe (wipe σ vs) vs = wipe σ vs := by
    apply List.ext_getElem?
    intro j
    rw [set_slots.wipe_get, set_slots.wipe_get, wipe_length]
    by_cases m : j ∈ vs
    · rw [if_pos m, if_pos m]
    · rw [if_neg m, if_neg m]
theorem pts_u {scope : Scope} {ifs : List Expr} (hc2 : ifs.length ≤ 1) : ∀ (s : Shared) (H : Hp) (C : Addr) (cs : List (Str × Addr)) (fp : List Addr), PTs (X.blk s H scope (compEnvC scope cs C X.env) fp) ifs (ttUs X scope ifs) := by
  intro s H C cs fp
  cases ifs with
  | nil => exact pts_nil
  | cons c r =>
    cases r with
    | nil => exact pts_one ⟨fun pins s1 σ1 H1 Q1 I h => h s H C cs fp pins s1 I⟩
    | cons _ _ => simp only [List.length_cons] at hc2; omega
theorem snd_lc (o : ScOk X N sc) (en : EnvOk X Wx G cl) {scope : Scope} {vs : List (Str × Nat)} {tgs : List Nat} {single : Bool} {tg it elt : Expr} {ifs : List Expr} {pos : Pos} {eit : It} {econd : List E} {eelt : E}
    (hb : blkC N sc scope vs = true) (htg : ∀ i ∈ tgs, i ∈ vs.map (·.2)) (hct : chkTg N scope tgs single tg = true) (hpl : ∀ env x, foldedSetIterable it env x = pure x)
    (hit : SndI X Wx tg it (evIt cl eit))
    (hc : ifs.length = econd.length) (hcs : ∀ c e, ifs = [c] → econd = [e] → ∀ (s : Shared) (H0 : Hp) (C : Addr) (cs : List (Str × Addr)) (fp : List Addr), SndT (X.blk s H0 scope (compEnvC scope cs C X.env) fp) (fun _ _ _ _ => False) c (fun ρ st => boolW (ev cl e ρ st))) (hc2 : ifs.length ≤ 1)
    (he : ∀ (s : Shared) (H0 : Hp) (C : Addr) (cs : List (Str × Addr)) (fp : List Addr), SndE (X.blk s H0 scope (compEnvC scope cs C X.env) fp) (fun _ _ _ _ => False) elt (ev cl eelt)) :
    SndF X Wx (.ListComp elt [⟨tg, it, ifs, 0⟩] scope pos) (evL cl (.lc vs tgs single eit econd eelt)) := by
  intro σ ρ Pr H F as st Q L S P
  have bk := blkOk_by hb
  refine toE (pe_lc (g := gTgt X.K tgs single) (tt := ttUs X scope ifs) (te := teU X scope elt) en.calm (o.n ▸ o.nd) (pi_of tg it) (blk_of o hb) (fun s H C cl fp => pg_tgt (sc_blk o bk.kind) en.calm hct) (fun s H C cs fp => pts_u hc2 s H C cs fp) (fun s H C cs fp => ⟨fun pins s1 σ1 H1 Q1 I h => h s H C cs fp pins s1 I⟩) (hpl _)) (lc_main o en hb htg hit hc hcs hc2 he σ ρ Pr H F as st Q L S P)
end
end Mz
end
section
namespace Mz
open PySem PySem.Spec PyProof.Rows L2
theorem isCall_some {x : Str} {e : Expr} {es : List Expr} (h : isCall x e = some es) : ∃ p pos, e = .Call (.Name x p) es [] pos := by
  unfold isCall at h
  split at h
  · rename_i y p xs pos
    split at h
    · rename_i e
      subst e
      cases h
      exact ⟨p, pos, rfl⟩
    · cases h
  · cases h
theorem fold_of {e : Expr} (h : plainE e = true) (env : Env) (x : Value) : foldedSetIterable e env x = pure x := by
  cases e <;> first | rfl | (simp [plainE] at h)
theorem chks_len {G : Gam} {N : List Str} {sc : Scope} : ∀ {es' : List E} {es : List Expr}, chks G N sc es' es = true → es.length = es'.length
  | [], [], _ => rfl
  | [], _ :: _, h => by simp [chks] at h
  | _ :: _, [], h => by simp [chks] at h
  | _ :: _, _ :: _, h => by
    simp only [chks, Bool.and_eq_true] at h
    rw [List.length_cons, List.length_cons, chks_len h.2]
theorem both {X : Cx} {Wx : WX} {e : Expr} {f : Rho → Sto → Res W} {t : Bool} (he : ∀ whole, isTrue e X.env whole = (do let v ← whole; standAt e.pos; holding [v] (truthy v))) (q : SndE X Wx e f) : SndE X Wx e f ∧ (t = true → SndT X Wx e (fun ρ st => boolW (f ρ st))) := ⟨q, fun _ => snd_val he q⟩
section
variable {N : List Str} {G : Gam} {cl : Nat → List W → Sto → Res W}
mutual
theorem sndE : ∀ (e' : E) {X : Cx} {Wx : WX} {sc : Scope}, ScOk X N sc → EnvOk X Wx G cl → ∀ e : Expr, chk G N sc e' e = true → SndE X Wx e (ev cl e') ∧ (tst e' = true → SndT X Wx e (fun ρ st => boolW (ev cl e' ρ st)))
  | .var i, X, Wx, sc, o, en, e, h => by
    unfold chk at h; split at h
    · simp only [Bool.and_eq_true, decide_eq_true_eq] at h
      exact both (fun _ => rfl) (snd_var o h.1.1 h.1.2 h.2)
    · cases h
  | .int i, X, Wx, sc, o, en, e, h => by
    unfold chk at h; split at h
    · have := of_decide_eq_true h
      subst this
      exact ⟨snd_int, fun _ => snd_val (fun _ => rfl) snd_int⟩
    · cases h
  | .str i, X, Wx, sc, o, en, e, h => by
    unfold chk at h; split at h
    · have := of_decide_eq_true h
      subst this
      exact ⟨snd_str, fun _ => snd_val (fun _ => rfl) snd_str⟩
    · cases h
  | .bl i, X, Wx, sc, o, en, e, h => by
    unfold chk at h; split at h
    · have := eq_of_beq h
      subst this
      exact ⟨snd_bl, fun _ => snd_val (fun _ => rfl) snd_bl⟩
    · cases h
  | .non, X, Wx, sc, o, en, e, h => by
    unfold chk at h; split at h
    · exact ⟨snd_non, fun _ => snd_val (fun _ => rfl) snd_non⟩
    · cases h
  | .gint x i, X, Wx, sc, o, en, e, h => by
    unfold chk at h; split at h
    · simp only [Bool.and_eq_true, decide_eq_true_eq] at h
      obtain ⟨⟨⟨rfl, h1⟩, h2⟩, h3⟩ := h
      have q := snd_gint (Wx := Wx) (cl := cl) (pos := by assumption) o en h1 h2 h3
      exact ⟨q, fun _ => snd_val (fun _ => rfl) q⟩
    · cases h
  | .gstr x i, X, Wx, sc, o, en, e, h => by
    unfold chk at h; split at h
    · simp only [Bool.and_eq_true, decide_eq_true_eq] at h
      obtain ⟨⟨⟨rfl, h1⟩, h2⟩, h3⟩ := h
      have q := snd_gstr (Wx := Wx) (cl := cl) (pos := by assumption) o en h1 h2 h3
      exact ⟨q, fun _ => snd_val (fun _ => rfl) q⟩
    · cases h
  | .bin op a b, X, Wx, sc, o, en, e, h => by
    unfold chk at h; split at h
    · simp only [Bool.and_eq_true] at h
      have q := snd_bin (pos := by assumption) h.1.1 (sndE a o en _ h.1.2).1 (sndE b o en _ h.2).1
      exact ⟨q, fun _ => snd_val (fun _ => rfl) q⟩
    · cases h
  | .neg a, X, Wx, sc, o, en, e, h => by
    unfold chk at h; split at h
    · have q := snd_neg (pos := by assumption) (sndE a o en _ h).1
      exact ⟨q, fun _ => snd_val (fun _ => rfl) q⟩
    · cases h
  | .cmp op a b, X, Wx, sc, o, en, e, h => by
    unfold chk at h; split at h
    · simp only [Bool.and_eq_true] at h
      have q := snd_cmp (pos := by assumption) h.1.1.1 en.un h.1.1.2 (sndE a o en _ h.1.2).1 (sndE b o en _ h.2).1
      exact ⟨q.1, fun _ => q.2⟩
    · cases h
  | .chain op op' a b c, X, Wx, sc, o, en, e, h => by
    unfold chk at h; split at h
    · simp only [Bool.and_eq_true] at h
      have q := snd_chain (pos := by assumption) h.1.1.1.1.1.1 h.1.1.1.1.1.2 en.un h.1.1.1.2 (sndE a o en _ h.1.1.2).1 (sndE b o en _ h.1.2).1 (sndE c o en _ h.2).1
      exact ⟨q.1, fun _ => q.2⟩
    · cases h
  | .andE es, X, Wx, sc, o, en, e, h => by
    unfold chk at h; split at h
    · have q := sndAnd es (Wx := Wx) o en _ (by assumption) h
      exact ⟨q.1, fun t => (q.2 t).t⟩
    · cases h
  | .orE es, X, Wx, sc, o, en, e, h => by
    unfold chk at h; split at h
    · have q := sndOr es (Wx := Wx) o en _ (by assumption) h
      exact ⟨q.1, fun t => (q.2 t).t⟩
    · cases h
  | .not a, X, Wx, sc, o, en, e, h => by
    unfold chk at h; split at h
    · have q := sndE a (Wx := Wx) o en _ h
      exact ⟨snd_not q.1, fun t => snd_notT (q.2 t)⟩
    · cases h
  | .ite c a b, X, Wx, sc, o, en, e, h => by
    unfold chk at h; split at h
    · simp only [Bool.and_eq_true] at h
      exact ⟨snd_ite ((sndE c o en _ h.1.1.2).2 h.1.1.1) (sndE a o en _ h.1.2).1 (sndE b o en _ h.2).1, fun t => by cases t⟩
    · cases h
  | .tup es, X, Wx, sc, o, en, e, h => by
    unfold chk at h; split at h
    · simp only [Bool.and_eq_true] at h
      have q := snd_tup (j := by assumption) (pos := by assumption) (sndEs es (Wx := Wx) o en _ h.1 h.2)
      exact ⟨q, fun _ => snd_val (fun _ => rfl) q⟩
    · cases h
  | .frz l, X, Wx, sc, o, en, e, h => by
    unfold chk at h
    have q := snd_frz (sndL l (Wx := Wx) o en _ h)
    refine ⟨q, fun _ => snd_val (fun _ => ?_) q⟩
    cases l <;> unfold chkL at h <;> (split at h <;> first | (cases h; done) | rfl | (rename_i hc; obtain ⟨p, pos, rfl⟩ := isCall_some hc; rfl))
  | .new l, X, Wx, sc, o, en, e, h => by
    unfold chk at h
    have q := snd_new (sndL l (Wx := Wx) o en _ h)
    refine ⟨q, fun _ => snd_val (fun _ => ?_) q⟩
    cases l <;> unfold chkL at h <;> (split at h <;> first | (cases h; done) | rfl | (rename_i hc; obtain ⟨p, pos, rfl⟩ := isCall_some hc; rfl))
  | .ix a i, X, Wx, sc, o, en, e, h => by
    unfold chk at h; split at h
    · split at h
      · cases h
      · rename_i hsl
        simp only [Bool.and_eq_true] at h
        have q := snd_ix (pos := by assumption) (fun l u s p z => hsl _ _ _ _ z) (sndE a (Wx := Wx) o en _ h.1.2).1 (sndE i o en _ h.2).1
        exact ⟨q, fun _ => snd_val (fun _ => rfl) q⟩
    · cases h
  | .sl a lo hi, X, Wx, sc, o, en, e, h => by
    unfold chk at h; split at h
    · simp only [Bool.and_eq_true] at h
      have q := snd_sl (p2 := by assumption) (pos := by assumption) (sndE a (Wx := Wx) o en _ h.1.1).1 (sndO lo o en _ h.1.2) (sndO hi o en _ h.2)
      exact ⟨q, fun _ => snd_val (fun _ => rfl) q⟩
    · cases h
  | .call f es, X, Wx, sc, o, en, e, h => by
    unfold chk at h; split at h
    · simp only [Bool.and_eq_true, decide_eq_true_eq, Bool.not_eq_true'] at h
      exact both (fun _ => rfl) (snd_call o en h.1.1.1.1.1 h.1.1.1.1.2 h.1.1.1.2 h.1.1.2 h.1.2 (sndEs es o en _ h.1.1.2 h.2))
    · cases h
  | .len a, X, Wx, sc, o, en, e, h => by
    unfold chk at h; split at h
    · rename_i hc
      obtain ⟨p, pos, rfl⟩ := isCall_some hc
      simp only [Bool.and_eq_true] at h
      have q := snd_len (p := p) (pos := pos) o en h.1.1 h.1.2 (sndE a o en _ h.2).1
      exact ⟨q, fun _ => snd_val (fun _ => rfl) q⟩
    · cases h
  | .sum a, X, Wx, sc, o, en, e, h => by
    unfold chk at h; split at h
    · rename_i hc
      obtain ⟨p, pos, rfl⟩ := isCall_some hc
      simp only [Bool.and_eq_true] at h
      have q := snd_sum (p := p) (pos := pos) o en h.1.1 h.1.2 (sndE a o en _ h.2).1
      exact ⟨q, fun _ => snd_val (fun _ => rfl) q⟩
    · cases h
  | .intof a, X, Wx, sc, o, en, e, h => by
    unfold chk at h; split at h
    · rename_i hc
      obtain ⟨p, pos, rfl⟩ := isCall_some hc
      simp only [Bool.and_eq_true] at h
      have q := snd_intof (p := p) (pos := pos) o en h.1.1 h.1.2 (sndE a o en _ h.2).1
      exact ⟨q, fun _ => snd_val (fun _ => rfl) q⟩
    · cases h
  | .strof a, X, Wx, sc, o, en, e, h => by
    unfold chk at h; split at h
    · rename_i hc
      obtain ⟨p, pos, rfl⟩ := isCall_some hc
      simp only [Bool.and_eq_true] at h
      have q := snd_strof (p := p) (pos := pos) o en h.1.1 h.1.2 (sndE a o en _ h.2).1
      exact ⟨q, fun _ => snd_val (fun _ => rfl) q⟩
    · cases h
  | .min2 a b, X, Wx, sc, o, en, e, h => by
    unfold chk at h; split at h
    · rename_i hc
      obtain ⟨p, pos, rfl⟩ := isCall_some hc
      simp only [Bool.and_eq_true] at h
      have q := snd_min (p := p) (pos := pos) o en h.1.1.1.1 h.1.1.1.2 h.1.1.2 (sndE a o en _ h.1.2).1 (sndE b o en _ h.2).1
      exact ⟨q, fun _ => snd_val (fun _ => rfl) q⟩
    · cases h
  | .max2 a b, X, Wx, sc, o, en, e, h => by
    unfold chk at h; split at h
    · rename_i hc
      obtain ⟨p, pos, rfl⟩ := isCall_some hc
      simp only [Bool.and_eq_true] at h
      have q := snd_max (p := p) (pos := pos) o en h.1.1.1.1 h.1.1.1.2 h.1.1.2 (sndE a o en _ h.1.2).1 (sndE b o en _ h.2).1
      exact ⟨q, fun _ => snd_val (fun _ => rfl) q⟩
    · cases h
  | .isi a t, X, Wx, sc, o, en, e, h => by
    unfold chk at h; split at h
    · rename_i hc
      obtain ⟨p, pos, rfl⟩ := isCall_some hc
      simp only [Bool.and_eq_true, decide_eq_true_eq] at h
      exact both (fun _ => rfl) (snd_isi o en h.1.1.1.1.1.1 h.1.1.1.1.1.2 (sndE a o en _ h.1.1.1.1.2).1 h.1.1.1.2 h.1.1.2 h.1.2 h.2)
    · cases h
  | .join s a, X, Wx, sc, o, en, e, h => by
    unfold chk at h; split at h
    · simp only [Bool.and_eq_true, decide_eq_true_eq] at h
      obtain ⟨⟨⟨⟨⟨rfl, hl⟩, hn⟩, hp⟩, h1⟩, h2⟩ := h
      have q := snd_join (fun f xs ks p z => by subst z; cases hn) hl hp (sndE s (Wx := Wx) o en _ h1).1 (sndE a o en _ h2).1
      exact ⟨q, fun _ => snd_val (fun _ => rfl) q⟩
    · cases h
  | .get d k x, X, Wx, sc, o, en, e, h => by
    unfold chk at h; split at h
    · simp only [Bool.and_eq_true, decide_eq_true_eq] at h
      obtain ⟨⟨⟨⟨⟨⟨⟨rfl, hl⟩, hn⟩, hp⟩, hq⟩, h1⟩, h2⟩, h3⟩ := h
      have q := snd_get en.un (fun f xs ks p z => by subst z; cases hn) hl hp hq (sndE d (Wx := Wx) o en _ h1).1 (sndE k o en _ h2).1 (sndE x o en _ h3).1
      exact ⟨q, fun _ => snd_val (fun _ => rfl) q⟩
    · cases h
  | .tupof a, X, Wx, sc, o, en, e, h => by
    unfold chk at h; split at h
    · rename_i hc
      obtain ⟨p, pos, rfl⟩ := isCall_some hc
      simp only [Bool.and_eq_true] at h
      have q := snd_tupof (p := p) (pos := pos) o en h.1.1 h.1.2 (sndE a o en _ h.2).1
      exact ⟨q, fun _ => snd_val (fun _ => rfl) q⟩
    · cases h
  | .dictof a, X, Wx, sc, o, en, e, h => by
    unfold chk at h; split at h
    · rename_i hc
      obtain ⟨p, pos, rfl⟩ := isCall_some hc
      exact both (fun _ => rfl) (fun σ ρ Pr H F as st Q L S P => by rw [ev] at P; exact P.elim)
    · cases h
  | .popE a, X, Wx, sc, o, en, e, h => by
    unfold chk at h; split at h
    · simp only [Bool.and_eq_true, decide_eq_true_eq] at h
      obtain ⟨⟨⟨rfl, hl⟩, hn⟩, h1⟩ := h
      have q := snd_pop (fun f xs ks p z => by subst z; cases hn) hl (sndE a (Wx := Wx) o en _ h1).1
      exact ⟨q, fun _ => snd_val (fun _ => rfl) q⟩
    · cases h
  | .app b a, X, Wx, sc, o, en, e, h => by
    unfold chk at h; split at h
    · simp only [Bool.and_eq_true, decide_eq_true_eq] at h
      obtain ⟨⟨⟨⟨⟨rfl, hl⟩, hn⟩, hp⟩, h1⟩, h2⟩ := h
      exact both (fun _ => rfl) (snd_app (fun f xs ks p z => by subst z; cases hn) hl hp (sndE b o en _ h1).1 (sndE a o en _ h2).1)
    · cases h
  | .ext b a, X, Wx, sc, o, en, e, h => by
    unfold chk at h; split at h
    · simp only [Bool.and_eq_true, decide_eq_true_eq] at h
      obtain ⟨⟨⟨⟨⟨rfl, hl⟩, hn⟩, hp⟩, h1⟩, h2⟩ := h
      exact both (fun _ => rfl) (snd_ext (fun f xs ks p z => by subst z; cases hn) hl hp (sndE b o en _ h1).1 (sndE a o en _ h2).1)
    · cases h
  | .frzE a, X, Wx, sc, o, en, e, h => by
    unfold chk at h
    exact ⟨snd_frzE (sndE a o en _ h).1, fun t => by cases t⟩
  | .nev, X, Wx, sc, o, en, e, h => ⟨fun σ ρ Pr H F as st Q L S P => (by rw [ev] at P; exact P.elim), fun t => by cases t⟩
theorem sndEs : ∀ (es' : List E) {X : Cx} {Wx : WX} {sc : Scope}, ScOk X N sc → EnvOk X Wx G cl → ∀ es : List Expr, plainEs es = true → chks G N sc es' es = true → SndA X Wx es (evs cl es')
  | [], X, Wx, sc, o, en, es, hp, h => by
    cases es with
    | nil => exact snd_nil
    | cons _ _ => simp [chks] at h
  | e' :: es', X, Wx, sc, o, en, es, hp, h => by
    cases es with
    | nil => simp [chks] at h
    | cons e es =>
      simp only [chks, Bool.and_eq_true] at h
      simp only [plainEs, Bool.and_eq_true] at hp
      exact snd_cons hp.1 (sndE e' o en _ h.1).1 (sndEs es' o en _ hp.2 h.2)
theorem sndAnd : ∀ (es' : List E) {X : Cx} {Wx : WX} {sc : Scope}, ScOk X N sc → EnvOk X Wx G cl → ∀ (es : List Expr) (pos : Pos), chks G N sc es' es = true → SndE X Wx (.BoolOp .And es pos) (evAnd cl es') ∧ (tsts es' = true → SndW X Wx (.BoolOp .And es pos) (fun ρ st => boolW (evAnd cl es' ρ st)))
  | [], X, Wx, sc, o, en, es, pos, h => ⟨fun σ ρ Pr H F as st Q L S P => P.elim, fun _ σ ρ Pr H F as st Q L S P => P.elim⟩
  | [e'], X, Wx, sc, o, en, es, pos, h => by
    cases es with
    | nil => simp [chks] at h
    | cons e es =>
      simp only [chks, Bool.and_eq_true] at h
      cases es with
      | cons _ _ => cases h.2
      | nil =>
        have q := sndE e' (Wx := Wx) o en _ h.1
        exact ⟨snd_and1 q.1, fun t => snd_and1W (q.2 (by simpa [tsts] using t))⟩
  | e' :: e2' :: es', X, Wx, sc, o, en, es, pos, h => by
    cases es with
    | nil => simp [chks] at h
    | cons e es =>
      cases es with
      | nil => simp [chks] at h
      | cons e2 es =>
        have h' : chk G N sc e' e = true ∧ chks G N sc (e2' :: es') (e2 :: es) = true := by
          rw [chks] at h
          simpa only [Bool.and_eq_true] using h
        have q := sndE e' (Wx := Wx) o en _ h'.1
        have r := sndAnd (e2' :: es') (Wx := Wx) o en _ pos h'.2
        refine ⟨snd_andC q.1 r.1, fun t => ?_⟩
        have t' : tst e' = true ∧ tsts (e2' :: es') = true := by
          rw [tsts] at t
          simpa only [Bool.and_eq_true] using t
        exact snd_andW (q.2 t'.1) (r.2 t'.2)
theorem sndOr : ∀ (es' : List E) {X : Cx} {Wx : WX} {sc : Scope}, ScOk X N sc → EnvOk X Wx G cl → ∀ (es : List Expr) (pos : Pos), chks G N sc es' es = true → SndE X Wx (.BoolOp .Or es pos) (evOr cl es') ∧ (tsts es' = true → SndW X Wx (.BoolOp .Or es pos) (fun ρ st => boolW (evOr cl es' ρ st)))
  | [], X, Wx, sc, o, en, es, pos, h => ⟨fun σ ρ Pr H F as st Q L S P => P.elim, fun _ σ ρ Pr H F as st Q L S P => P.elim⟩
  | [e'], X, Wx, sc, o, en, es, pos, h => by
    cases es with
    | nil => simp [chks] at h
    | cons e es =>
      simp only [chks, Bool.and_eq_true] at h
      cases es with
      | cons _ _ => cases h.2
      | nil =>
        have q := sndE e' (Wx := Wx) o en _ h.1
        exact ⟨snd_or1 q.1, fun t => snd_or1W (q.2 (by simpa [tsts] using t))⟩
  | e' :: e2' :: es', X, Wx, sc, o, en, es, pos, h => by
    cases es with
    | nil => simp [chks] at h
    | cons e es =>
      cases es with
      | nil => simp [chks] at h
      | cons e2 es =>
        have h' : chk G N sc e' e = true ∧ chks G N sc (e2' :: es') (e2 :: es) = true := by
          rw [chks] at h
          simpa only [Bool.and_eq_true] using h
        have q := sndE e' (Wx := Wx) o en _ h'.1
        have r := sndOr (e2' :: es') (Wx := Wx) o en _ pos h'.2
        refine ⟨snd_orC q.1 r.1, fun t => ?_⟩
        have t' : tst e' = true ∧ tsts (e2' :: es') = true := by
          rw [tsts] at t
          simpa only [Bool.and_eq_true] using t
        exact snd_orW (q.2 t'.1) (r.2 t'.2)
theorem sndO : ∀ (e' : Option E) {X : Cx} {Wx : WX} {sc : Scope}, ScOk X N sc → EnvOk X Wx G cl → ∀ e : Option Expr, chkO G N sc e' e = true → SndO X Wx e (evO cl e')
  | none, X, Wx, sc, o, en, e, h => by
    cases e with
    | none => exact snd_o0
    | some _ => simp [chkO] at h
  | some e', X, Wx, sc, o, en, e, h => by
    cases e with
    | none => simp [chkO] at h
    | some e => 
      have h' : chk G N sc e' e = true := by rw [chkO] at h; exact h
      exact snd_o1 (sndE e' o en _ h').1
theorem sndL : ∀ (l : L) {X : Cx} {Wx : WX} {sc : Scope}, ScOk X N sc → EnvOk X Wx G cl → ∀ e : Expr, chkL G N sc l e = true → SndF X Wx e (evL cl l)
  | .disp es, X, Wx, sc, o, en, e, h => by
    unfold chkL at h; split at h
    · simp only [Bool.and_eq_true] at h
      exact snd_disp (sndEs es o en _ h.1 h.2)
    · cases h
  | .lc vs tg single it cond elt, X, Wx, sc, o, en, e, h => by
    unfold chkL at h; split at h
    · rename_i x t i ifs scope pos
      simp only [Bool.and_eq_true, decide_eq_true_eq, List.all_eq_true] at h
      obtain ⟨⟨⟨⟨⟨⟨⟨hb, ht⟩, hct⟩, hi⟩, hc1⟩, htc⟩, hcs⟩, he⟩ := h
      have bk := blkOk_by hb
      have I := sndIt it (Wx := Wx) o en single t i hi
      refine snd_lc o en hb ht hct I.1 I.2 (chks_len hcs) (fun c e hc hec s H0 C cs fp => ?_) (by rw [chks_len hcs]; exact hc1) (fun s H0 C cs fp => (sndE elt (sc_blk o bk.kind) (env_blk en) _ he).1)
      subst hc; subst hec
      simp only [chks, Bool.and_eq_true] at hcs
      exact (sndE e (sc_blk o bk.kind) (env_blk en) _ hcs.1).2 (by simpa [tsts] using htc)
    · cases h
  | .cat a b, X, Wx, sc, o, en, e, h => by
    unfold chkL at h; split at h
    · simp only [Bool.and_eq_true] at h
      exact snd_cat (sndE a o en _ h.1).1 (sndE b o en _ h.2).1
    · cases h
  | .ofE a, X, Wx, sc, o, en, e, h => by
    unfold chkL at h; split at h
    · rename_i hc
      obtain ⟨p, pos, rfl⟩ := isCall_some hc
      simp only [Bool.and_eq_true] at h
      exact snd_ofE o en h.1.1 h.1.2 (sndE a o en _ h.2).1
    · cases h
  | .sorted a, X, Wx, sc, o, en, e, h => by
    unfold chkL at h; split at h
    · rename_i hc
      obtain ⟨p, pos, rfl⟩ := isCall_some hc
      simp only [Bool.and_eq_true] at h
      exact snd_sorted o en h.1.1 h.1.2 (sndE a o en _ h.2).1
    · cases h
  | .sl a lo hi, X, Wx, sc, o, en, e, h => by
    unfold chkL at h; split at h
    · simp only [Bool.and_eq_true] at h
      exact snd_slL (sndE a (Wx := Wx) o en _ h.1.1).1 (sndO lo o en _ h.1.2) (sndO hi o en _ h.2)
    · cases h
  | .rep a n, X, Wx, sc, o, en, e, h => by
    unfold chkL at h; split at h
    · simp only [Bool.and_eq_true] at h
      exact snd_rep (sndE a o en _ h.1).1 (sndE n o en _ h.2).1
    · cases h
theorem sndIt : ∀ (i : It) {X : Cx} {Wx : WX} {sc : Scope}, ScOk X N sc → EnvOk X Wx G cl → ∀ (single : Bool) (tg e : Expr), chkIt G N sc single i e = true → (∀ env x, foldedSetIterable e env x = pure x) ∧ SndI X Wx tg e (evIt cl i)
  | .seq a, X, Wx, sc, o, en, single, tg, e, h => by
    unfold chkIt at h
    simp only [Bool.and_eq_true] at h
    exact ⟨fold_of h.1, snd_seq (sndE a o en _ h.2).1⟩
  | .range1 a, X, Wx, sc, o, en, single, tg, e, h => by
    unfold chkIt at h; split at h
    · rename_i hc
      obtain ⟨p, pos, rfl⟩ := isCall_some hc
      simp only [Bool.and_eq_true] at h
      exact ⟨fun _ _ => rfl, snd_range1 o en h.1.1 h.1.2 (sndE a o en _ h.2).1⟩
    · cases h
  | .range2 a b, X, Wx, sc, o, en, single, tg, e, h => by
    unfold chkIt at h; split at h
    · rename_i hc
      obtain ⟨p, pos, rfl⟩ := isCall_some hc
      simp only [Bool.and_eq_true] at h
      exact ⟨fun _ _ => rfl, snd_range2 o en h.1.1.1.1 h.1.1.1.2 h.1.1.2 (sndE a o en _ h.1.2).1 (sndE b o en _ h.2).1⟩
    · cases h
  | .range3 _ _ _, X, Wx, sc, o, en, single, tg, e, h => by unfold chkIt at h; cases h
  | .enum _, X, Wx, sc, o, en, single, tg, e, h => by unfold chkIt at h; cases h
  | .zip _ _, X, Wx, sc, o, en, single, tg, e, h => by unfold chkIt at h; cases h
end
end
end Mz
end
section
namespace Mz
open PySem PySem.Spec PyProof.Rows L2
/-! ### statements -/
inductive S where
  | set (i : Nat) (e : E)
  | setC (i : Nat) (new : Bool) (l : L)
  | setT (is : List Nat) (e : E)
  | setL (o i e : E)
  | expr (e : E)
  | ite (c : E) (a b : List S)
  | whil (fuel : Nat) (c : E) (b : List S)
  | for (tg : List Nat) (single : Bool) (it : It) (b : List S)
  | ret (e : E) | retN | pass | brk | cnt | nev
inductive SR where
  | nx (ρ : Rho) (st : Sto)
  | rt (w : W) (st : Sto)
  | bk (ρ : Rho) (st : Sto)
  | ct (ρ : Rho) (st : Sto)
  | er (x : Exn) (ρ : Rho) (st : Sto)
  | stuck
def SR.bind (r : SR) (k : Rho → Sto → SR) : SR := match r with
  | .nx ρ st => k ρ st
  | r => r
/-- a value, then on -/
def Res.go {α : Type} (r : Res α) (ρ : Rho) (k : α → Sto → SR) : SR := match r with
  | .ok a st => k a st
  | .err x st => .er x ρ st
  | .stuck => .stuck
def goO {α : Type} (o : Option α) (k : α → SR) : SR := match o with
  | some a => k a
  | none => .stuck
/-- one turn of a loop, then on; a break ends it -/
def SR.turn (r : SR) (k : Rho → Sto → SR) : SR := match r with
  | .nx ρ st => k ρ st
  | .ct ρ st => k ρ st
  | .bk ρ st => .nx ρ st
  | r => r
def whGo (c : Rho → Sto → Res Bool) (b : Rho → Sto → SR) : Nat → Rho → Sto → SR
  | 0, _, _ => .stuck
  | n + 1, ρ, st => (c ρ st).go ρ fun t st => if t = true then (b ρ st).turn (whGo c b n) else .nx ρ st
def forGo (set : W → Rho → Option Rho) (b : Rho → Sto → SR) : List W → Rho → Sto → SR
  | [], ρ, st => .nx ρ st
  | w :: ws, ρ, st => goO (set w ρ) fun ρ => (b ρ st).turn (forGo set b ws)
section
variable (cl : Nat → List W → Sto → Res W)
mutual
def ex : S → Rho → Sto → SR
  | .set i e, ρ, st => (ev cl e ρ st).go ρ fun w st => .nx (ρ.set i (some w)) st
  | .setC i new l, ρ, st => (ev cl (if new = true then .new l else .frz l) ρ st).go ρ fun w st => .nx (ρ.set i (some w)) st
  | .setT is e, ρ, st => (ev cl e ρ st).go ρ fun w st => goO (setTg is false w ρ) fun ρ => .nx ρ st
  | .setL o i e, ρ, st => (ev cl e ρ st).go ρ fun w st => (ev cl o ρ st).go ρ fun x st => (ev cl i ρ st).go ρ fun y st => match x, y with
    | .ref k, .int j => match st[k]? with
      | some (.lst ws) => goO (ixN ws.length j) fun m => .nx ρ (st.set k (.lst (ws.set m w)))
      | _ => .stuck
    | _, _ => .stuck
  | .expr e, ρ, st => (ev cl e ρ st).go ρ fun _ st => .nx ρ st
  | .ite c a b, ρ, st => (boolW (ev cl c ρ st)).go ρ fun t st => if t = true then exs a ρ st else exs b ρ st
  | .whil n c b, ρ, st => whGo (fun ρ st => boolW (ev cl c ρ st)) (exs b) n ρ st
  | .for tg single it b, ρ, st => (evIt cl it ρ st).go ρ fun items st => forGo (setTg tg single) (exs b) items ρ st
  | .ret e, ρ, st => (ev cl e ρ st).go ρ fun w st => .rt w st
  | .retN, _, st => .rt .non st
  | .pass, ρ, st => .nx ρ st
  | .brk, ρ, st => .bk ρ st
  | .cnt, ρ, st => .ct ρ st
  | .nev, _, _ => .stuck
@[simp] def exs : List S → Rho → Sto → SR
  | [], ρ, st => .nx ρ st
  | s :: ss, ρ, st => (ex s ρ st).bind (exs ss)
end
end
def nocomp : Expr → Bool
  | .ListComp .. | .SetComp .. | .DictComp .. | .Tuple .. => false
  | _ => true
mutual
def chkS (G : Gam) (N : List Str) (sc : Scope) : S → Stmt → Bool
  | .set i e, s => (match s with
    | .Assign [t] x _ => slot N sc t i && (match x, t with | .Tuple .., _ => true | .ListComp .., .Name y _ => (match sc.names.lookup y with | some .cell => true | _ => false) | _, _ => nocomp x) && chk G N sc e x
    | _ => false)
  | .setC i _ l, s => (match s with
    | .Assign [.Name y py] (.ListComp x gs scope pos) _ => slot N sc (.Name y py) i && isLoc sc y && (py.line == pos.line) && !(scope.names.any fun (n, k) => n == y && (k == .local || k == .cell)) && chkL G N sc l (.ListComp x gs scope pos)
    | _ => false)
  | .setT is e, s => (match s with
    | .Assign [.Tuple ts _ _] x _ => slots N sc ts is && nocomp x && chk G N sc e x
    | _ => false)
  | .setL o i e, s => (match s with
    | .Assign [.Subscript a b _] x _ => plainE b && (match b with | .Slice .. => false | _ => true) && nocomp x && chk G N sc o a && chk G N sc i b && chk G N sc e x
    | _ => false)
  | .expr e, s => (match s with
    | .Expr x _ => nocomp x && chk G N sc e x
    | _ => false)
  | .ite c a b, s => (match s with
    | .If t x y _ => tst c && chk G N sc c t && chkSs G N sc a x && chkSs G N sc b y
    | _ => false)
  | .whil _ c b, s => (match s with
    | .While t x [] _ => tst c && chk G N sc c t && chkSs G N sc b x
    | _ => false)
  | .for tg single it b, s => (match s with
    | .For t i x [] _ => chkTg N sc tg single t && chkIt G N sc single it i && chkSs G N sc b x
    | _ => false)
  | .ret e, s => (match s with
    | .Return (some x) _ => chk G N sc e x
    | _ => false)
  | .retN, s => (match s with
    | .Return none _ => true
    | _ => false)
  | .pass, s => (match s with
    | .Pass _ => true
    | _ => false)
  | .brk, s => (match s with
    | .Break _ => true
    | _ => false)
  | .cnt, s => (match s with
    | .Continue _ => true
    | _ => false)
  | .nev, _ => true
def chkSs (G : Gam) (N : List Str) (sc : Scope) : List S → List Stmt → Bool
  | [], xs => xs.isEmpty
  | s :: ss, xs => (match xs with
    | x :: xs => chkS G N sc s x && chkSs G N sc ss xs
    | [] => false)
end
/-! ### what a statement must reach -/
def PostS (K : PySem.W.Frag) (Pr : Hp) (Wx : WX) (F : Hp) (as : List Addr) (D : Ends) : SR → Prop
  | .nx ρ st => ∀ σ' H' F' as', Ex F F' → Pre as as' → Sat K Pr F' H' as' st → Slots K F' as' σ' ρ → D.nx σ' H'
  | .rt w st => ∀ v H' F' as', Ex F F' → Pre as as' → Sat K Pr F' H' as' st → Rep K F' as' v w → D.rt v H'
  | .bk ρ st => ∀ σ' H' F' as', Ex F F' → Pre as as' → Sat K Pr F' H' as' st → Slots K F' as' σ' ρ → D.bk σ' H'
  | .ct ρ st => ∀ σ' H' F' as', Ex F F' → Pre as as' → Sat K Pr F' H' as' st → Slots K F' as' σ' ρ → D.ct σ' H'
  | .er x ρ st => ∀ cls d σ' H' F' as', Ex F F' → Pre as as' → Sat K Pr F' H' as' st → Slots K F' as' σ' ρ → ExOk K F' H' as' cls d x → Wx cls d σ' H'
  | .stuck => False
theorem PostS.mono {K : PySem.W.Frag} {Pr F F' : Hp} {as as' : List Addr} {Wx : WX} {D : Ends} {r : SR} (h : PostS K Pr Wx F as D r) (e : Ex F F') (p : Pre as as') : PostS K Pr Wx F' as' D r := by
  cases r with
  | stuck => exact h
  | nx ρ st => exact fun σ H' F2 as2 e2 p2 => h σ H' F2 as2 (e.trans e2) (p.trans p2)
  | rt ρ st => exact fun σ H' F2 as2 e2 p2 => h σ H' F2 as2 (e.trans e2) (p.trans p2)
  | bk ρ st => exact fun σ H' F2 as2 e2 p2 => h σ H' F2 as2 (e.trans e2) (p.trans p2)
  | ct ρ st => exact fun σ H' F2 as2 e2 p2 => h σ H' F2 as2 (e.trans e2) (p.trans p2)
  | er x ρ st => exact fun c d σ H' F2 as2 e2 p2 => h c d σ H' F2 as2 (e.trans e2) (p.trans p2)
def SndS (X : Cx) (Wx : WX) (s : Stmt) (f : Rho → Sto → SR) : Prop := ∀ σ ρ Pr H F as st (D : Ends), Slots X.K F as σ ρ → Sat X.K Pr F H as st → PostS X.K Pr Wx F as D (f ρ st) → tOfS X s D σ H
def SndSs (X : Cx) (Wx : WX) (s : List Stmt) (f : Rho → Sto → SR) : Prop := ∀ σ ρ Pr H F as st (D : Ends), Slots X.K F as σ ρ → Sat X.K Pr F H as st → PostS X.K Pr Wx F as D (f ρ st) → tOfSs X s D σ H
/-- an expression ahead of the rest of a statement -/
theorem go_post {α β : Type} {K : PySem.W.Frag} {R : Hp → Hp → List Addr → β → α → Prop} {Pr F : Hp} {as : List Addr} {Wx : WX} {D : Ends} {σ : L2.St} {ρ : Rho} {r : Res α} {k : α → Sto → SR} {Q : β → Hp → Prop} (L : Slots K F as σ ρ) (P : PostS K Pr Wx F as D (r.go ρ k))
    (hk : ∀ a st1 b H1 F1 as1, r = .ok a st1 → Ex F F1 → Pre as as1 → Sat K Pr F1 H1 as1 st1 → R F1 H1 as1 b a → Slots K F1 as1 σ ρ → PostS K Pr Wx F1 as1 D (k a st1) → Q b H1) : Post K Pr R (WE Wx σ) F as Q r := by
  cases r with
  | stuck => exact P.elim
  | err x st => exact fun c d H' F' as' e p S x => P c d σ H' F' as' e p S (L.mono e p) x
  | ok a st => exact fun b H1 F1 as1 e p S rr => hk a st b H1 F1 as1 rfl e p S rr (L.mono e p) (PostS.mono (r := k a st) P e p)
theorem goO_post {α : Type} {K : PySem.W.Frag} {Pr F : Hp} {as : List Addr} {Wx : WX} {D : Ends} {o : Option α} {k : α → SR} (P : PostS K Pr Wx F as D (goO o k)) : ∃ a, o = some a ∧ PostS K Pr Wx F as D (k a) := by
  cases o with
  | none => exact P.elim
  | some a => exact ⟨a, rfl, P⟩
theorem swaps_of {e : Expr} {t : Option Expr} {l : Nat} {env : Env} (h : nocomp e = true) : swapsWith e t l env = pure false := by
  cases e <;> first | rfl | (simp [nocomp] at h)
theorem swapsS_of {e t : Expr} {l : Nat} {env : Env} (h : nocomp e = true) : swapsWithSole [t] e l env = pure false := swaps_of h
theorem swaps_tup {es : List Expr} {j : Nat} {p : Pos} {t : Option Expr} {l : Nat} {env : Env} : swapsWith (.Tuple es j p) t l env = pure false := rfl
theorem swapped_of {e t : Expr} {env : Env} (h : nocomp e = true) : swappedStores [t] e env = pure none := by
  cases e <;> first | (simp [nocomp] at h; done) | (cases t <;> rfl)
theorem swapped_sub {a b e : Expr} {p : Pos} {env : Env} : swappedStores [.Subscript a b p] e env = pure none := by
  cases e <;> rfl
section
variable {X : Cx} {Wx : WX} {N : List Str} {sc : Scope} {G : Gam} {cl : Nat → List W → Sto → Res W}
theorem snd_set (o : ScOk X N sc) {t x : Expr} {i : Nat} {pos : Pos} {e : E} (hs : slot N sc t i = true) (hx : ∀ l y, (∃ p, t = .Name y p) → ∀ p, swapsWith x (some (.Name y p)) l X.env = pure false) (h : SndE X Wx x (ev cl e)) : SndS X Wx (.Assign [t] x pos) (ex cl (.set i e)) := by
  intro σ ρ Pr H F as st D L S P
  rw [ex] at P
  obtain ⟨y, p, rfl, h1, h2, _⟩ := slot_of hs
  refine toS (ps_set (i := i) (o.n ▸ o.nd) (o.n ▸ h1) (lc_of o h2).1 (pe_of x) (hx _ _ ⟨_, rfl⟩ _) (lc_of o h2).2) (h σ ρ Pr H F as st _ L S (go_post L P fun w st1 v H1 F1 as1 _ e1 p1 S1 r L1 P1 => ?_))
  exact P1 _ H1 F1 as1 (Ex.refl _) (Pre.refl _) S1 (L1.set r)
theorem snd_setC (o : ScOk X N sc) (en : EnvOk X Wx G cl) {y : Str} {py : Pos} {i : Nat} {x : Expr} {gs : List Comprehension} {scope : Scope} {pos spos : Pos} {new : Bool} {l : L} (hs : slot N sc (.Name y py) i = true) (hlo : isLoc sc y = true) (hl : (py.line == pos.line) = true) (ha : (scope.names.any fun (n, k) => n == y && (k == .local || k == .cell)) = false)
    (h : chkL G N sc l (.ListComp x gs scope pos) = true) : SndS X Wx (.Assign [.Name y py] (.ListComp x gs scope pos) spos) (ex cl (.setC i new l)) := by
  cases l with
  | lc vs tg single it cond elt =>
    unfold chkL at h; split at h
    · rename_i x' t it' ifs scope' pos' heq
      cases heq
      simp only [Bool.and_eq_true, decide_eq_true_eq, List.all_eq_true] at h
      obtain ⟨⟨⟨⟨⟨⟨⟨hb, ht⟩, hct⟩, hi⟩, hc1⟩, htc⟩, hcs⟩, he⟩ := h
      have bk := blkOk_by hb
      have I := sndIt it (Wx := Wx) o en single t it' hi
      have hc2 : ifs.length ≤ 1 := by rw [chks_len hcs]; exact hc1
      obtain ⟨y', p', e', h1, h2, _⟩ := slot_of hs
      cases e'
      intro σ ρ Pr H F as st D L S P
      rw [ex] at P
      have hk : X.env.scope.kind = .function ∨ True := .inr trivial
      intro pins s Iv
      have kf : X.env.scope.kind = .function := Iv.ok.kind
      refine toS (ps_setLc (i := i) (g := gTgt X.K tg single) (tt := ttUs X scope ifs) (te := teU X scope x) en.calm (o.n ▸ o.nd) (o.n ▸ h1) (loc_of o hlo) (sw_true kf (loc_of o hlo) hl ha) (pi_of t it') (blk_of o hb) (fun s H C cl fp => pg_tgt (sc_blk o bk.kind) en.calm hct) (fun s H C cs fp => pts_u hc2 s H C cs fp) (fun s H C cs fp => ⟨fun pins s1 σ1 H1 Q1 I h => h s H C cs fp pins s1 I⟩) (I.1 _)) ?_ pins s Iv
      refine lc_main o en hb ht I.2 (chks_len hcs) (fun c e hc hec s H0 C cs fp => ?_) hc2 (fun s H0 C cs fp => (sndE elt (sc_blk o bk.kind) (env_blk en) _ he).1) σ ρ Pr H F as st _ L S ?_
      · subst hc; subst hec
        simp only [chks, Bool.and_eq_true] at hcs
        exact (sndE e (sc_blk o bk.kind) (env_blk en) _ hcs.1).2 (by simpa [tsts] using htc)
      · cases new with
        | true =>
          rw [if_pos rfl, ev] at P
          revert P
          cases evL cl (.lc vs tg single it cond elt) ρ st with
          | stuck => exact fun P => P.elim
          | err x st1 => exact fun P c d H' F' as' e p S x => P c d σ H' F' as' e p S (L.mono e p) x
          | ok ws st1 =>
            intro P v H1 F1 as1 e1 p1 S1 r
            obtain ⟨p, vs', rfl, qp, fp, np, hp, l⟩ := r
            obtain ⟨S', pr, last⟩ := S1.thaw (c := .lst ws) qp fp np ⟨vs', hp, RepL.mono (Ex.refl _) (Pre.snoc as1 p) l⟩
            exact P _ H1 F1 _ e1 (p1.trans pr) S' ((L.mono e1 (p1.trans pr)).set (.ref last))
        | false =>
          rw [if_neg Bool.false_ne_true, ev] at P
          revert P
          cases evL cl (.lc vs tg single it cond elt) ρ st with
          | stuck => exact fun P => P.elim
          | err x st1 => exact fun P c d H' F' as' e p S x => P c d σ H' F' as' e p S (L.mono e p) x
          | ok ws st1 =>
            intro P v H1 F1 as1 e1 p1 S1 r
            obtain ⟨p, vs', rfl, qp, fp, np, hp, l⟩ := r
            obtain ⟨S', ex'⟩ := S1.freeze qp fp np hp
            exact P _ H1 _ as1 (e1.trans ex') p1 S' ((L.mono (e1.trans ex') p1).set (.lst upd_same (RepL.mono ex' (Pre.refl _) l)))
    · cases h
  | _ => exact absurd h Bool.false_ne_true
theorem snd_setT (o : ScOk X N sc) (en : EnvOk X Wx G cl) {ts : List Expr} {j : Nat} {x : Expr} {is : List Nat} {tp pos : Pos} {e : E} (hs : slots N sc ts is = true) (hx : nocomp x = true) (h : SndE X Wx x (ev cl e)) : SndS X Wx (.Assign [.Tuple ts j tp] x pos) (ex cl (.setT is e)) := by
  intro σ ρ Pr H F as st D L S P
  rw [ex] at P
  have ct : chkTg N sc is false (.Tuple ts j tp) = true := by cases is <;> exact hs
  refine toS (ps_asg (pe_of x) (pg_tgt o en.calm ct) (swapsS_of hx) (swapped_of hx) rfl) (h σ ρ Pr H F as st _ L S (go_post L P fun w st1 v H1 F1 as1 _ e1 p1 S1 r L1 P1 => ?_))
  obtain ⟨ρ', hr, P2⟩ := goO_post P1
  exact set_tgt S1.ext r L1 hr fun σ' s' _ => P2 σ' H1 F1 as1 (Ex.refl _) (Pre.refl _) S1 s'
theorem snd_setL {a b x : Expr} {sp pos : Pos} {oo ii e : E} (hb : ∀ l u s p, b ≠ .Slice l u s p) (hx : nocomp x = true) (ha : SndE X Wx a (ev cl oo)) (hi : SndE X Wx b (ev cl ii)) (h : SndE X Wx x (ev cl e)) : SndS X Wx (.Assign [.Subscript a b sp] x pos) (ex cl (.setL oo ii e)) := by
  intro σ ρ Pr H F as st D L S P
  rw [ex] at P
  have hasn : ∀ v, assign (.Subscript a b sp) X.env v = (do
      let ov ← holding [v] (eval a X.env)
      let iv ← holding [v, ov] (eval b X.env)
      standAt sp
      holding [v, ov, iv] (setItem ov iv v)
      release [v, ov, iv] []) := by
    intro v
    cases b with
    | Slice l u s p => exact absurd rfl (hb l u s p)
    | _ => rfl
  refine toS (ps_asg (pe_of x) (pg_sub (pe_of a) (pe_of b) set_list hasn) (swapsS_of hx) swapped_sub rfl) (h σ ρ Pr H F as st _ L S (go_post L P fun w st1 v H1 F1 as1 _ e1 p1 S1 r L1 P1 => ?_))
  refine ha σ ρ Pr H1 F1 as1 st1 _ L1 S1 (go_post L1 P1 fun w2 st2 v2 H2 F2 as2 _ e2 p2 S2 r2 L2' P2 => ?_)
  refine hi σ ρ Pr H2 F2 as2 st2 _ L2' S2 (go_post L2' P2 fun w3 st3 v3 H3 F3 as3 _ e3 p3 S3 r3 L3 P3 => ?_)
  cases Rep.mono e3 p3 r2 with
  | @ref k i hk => cases r3 with
    | int j =>
      dsimp only at P3
      cases hc : st3[i]? with
      | none => rw [hc] at P3; exact P3.elim
      | some c =>
        rw [hc] at P3
        cases c with
        | lst ws =>
          obtain ⟨m, hm, P4⟩ := goO_post P3
          obtain ⟨vs, hv, l⟩ := S3.cel i k _ hk hc
          refine ⟨k, vs, j, m, rfl, rfl, hv, by rw [l.length]; exact hm, ?_⟩
          exact P4 _ _ F3 as3 (Ex.refl _) (Pre.refl _) (S3.write hk hc nofun ⟨_, upd_same, RepL.set (Rep.mono (e2.trans e3) (p2.trans p3) r) m l⟩) L3
        | dk _ _ => exact P3.elim
        | dead => exact P3.elim
    | _ => exact P3.elim
  | _ => first | exact P3.elim | (cases r3 <;> exact P3.elim)
theorem snd_expr {x : Expr} {pos : Pos} {e : E} (hx : nocomp x = true) (h : SndE X Wx x (ev cl e)) : SndS X Wx (.Expr x pos) (ex cl (.expr e)) := by
  intro σ ρ Pr H F as st D L S P
  rw [ex] at P
  refine toS (ps_expr (pe_of x) (swaps_of hx)) (h σ ρ Pr H F as st _ L S (go_post L P fun w st1 v H1 F1 as1 _ e1 p1 S1 r L1 P1 => ?_))
  exact P1 σ H1 F1 as1 (Ex.refl _) (Pre.refl _) S1 L1
theorem snd_ret {x : Expr} {pos : Pos} {e : E} (h : SndE X Wx x (ev cl e)) : SndS X Wx (.Return (some x) pos) (ex cl (.ret e)) := by
  intro σ ρ Pr H F as st D L S P
  rw [ex] at P
  refine toS (ps_ret (pe_of x)) (h σ ρ Pr H F as st _ L S (go_post L P fun w st1 v H1 F1 as1 _ e1 p1 S1 r L1 P1 => ?_))
  exact P1 v H1 F1 as1 (Ex.refl _) (Pre.refl _) S1 r
theorem snd_iteS {t : Expr} {a b : List Stmt} {pos : Pos} {c : E} {ea eb : List S} (hc : SndT X Wx t (fun ρ st => boolW (ev cl c ρ st))) (ha : SndSs X Wx a (exs cl ea)) (hb : SndSs X Wx b (exs cl eb)) : SndS X Wx (.If t a b pos) (ex cl (.ite c ea eb)) := by
  intro σ ρ Pr H F as st D L S P
  rw [ex] at P
  refine toS (ps_if (pt_of t) (pss_of a) (pss_of b)) (hc σ ρ Pr H F as st _ L S (go_post L P fun w st1 v H1 F1 as1 _ e1 p1 S1 r L1 P1 => ?_))
  have rb : v = w := r
  subst rb
  cases v with
  | true => rw [if_pos rfl] at P1 ⊢; exact ha σ ρ Pr H1 F1 as1 st1 D L1 S1 P1
  | false => rw [if_neg Bool.false_ne_true] at P1 ⊢; exact hb σ ρ Pr H1 F1 as1 st1 D L1 S1 P1
/-- a turn's end -/
theorem turn_post {K : PySem.W.Frag} {Pr F : Hp} {as : List Addr} {D : Ends} {r : SR} {k : Rho → Sto → SR} {Nx : L2.St → Hp → Prop} (P : PostS K Pr Wx F as D (r.turn k))
    (hk : ∀ ρ st σ H1 F1 as1, Ex F F1 → Pre as as1 → Sat K Pr F1 H1 as1 st → Slots K F1 as1 σ ρ → PostS K Pr Wx F1 as1 D (k ρ st) → Nx σ H1) : PostS K Pr Wx F as { D with nx := Nx, ct := Nx, bk := D.nx } r := by
  cases r with
  | nx ρ st => exact fun σ H1 F1 as1 e p S L => hk ρ st σ H1 F1 as1 e p S L (PostS.mono (r := k ρ st) P e p)
  | ct ρ st => exact fun σ H1 F1 as1 e p S L => hk ρ st σ H1 F1 as1 e p S L (PostS.mono (r := k ρ st) P e p)
  | bk ρ st => exact P
  | rt w st => exact P
  | er x ρ st => exact P
  | stuck => exact P
theorem snd_while (po : PassesOwn (model X.prog X.w) X.A X.env X.xe) {t : Expr} {b : List Stmt} {pos : Pos} {n : Nat} {c : E} {eb : List S} (hc : SndT X Wx t (fun ρ st => boolW (ev cl c ρ st))) (hb : SndSs X Wx b (exs cl eb)) : SndS X Wx (.While t b [] pos) (ex cl (.whil n c eb)) := by
  intro σ ρ Pr H F as st D L S P
  rw [ex] at P
  refine toS (ps_while po (pt_of t) (pss_of b)) ?_
  refine ⟨fun m σ' H' => ∃ ρ' F' as' st', Sat X.K Pr F' H' as' st' ∧ Slots X.K F' as' σ' ρ' ∧ PostS X.K Pr Wx F' as' D (whGo (fun ρ st => boolW (ev cl c ρ st)) (exs cl eb) m ρ' st'), ⟨n, ρ, F, as, st, S, L, P⟩, fun m σ' H' ⟨ρ', F', as', st', S', L', P'⟩ => ?_⟩
  cases m with
  | zero => exact P'.elim
  | succ m =>
    rw [whGo] at P'
    refine hc σ' ρ' Pr H' F' as' st' _ L' S' (go_post L' P' fun w st1 v H1 F1 as1 _ e1 p1 S1 r L1 P1 => ?_)
    have rb : v = w := r
    subst rb
    cases v with
    | false => rw [if_neg Bool.false_ne_true] at P1 ⊢; exact P1 σ' H1 F1 as1 (Ex.refl _) (Pre.refl _) S1 L1
    | true =>
      rw [if_pos rfl] at P1 ⊢
      refine ⟨fun σ2 H2 => ∃ ρ' F' as' st', Sat X.K Pr F' H2 as' st' ∧ Slots X.K F' as' σ2 ρ' ∧ PostS X.K Pr Wx F' as' D (whGo (fun ρ st => boolW (ev cl c ρ st)) (exs cl eb) m ρ' st'), fun σ2 H2 h => ⟨m, Nat.lt_succ_self m, h⟩, ?_⟩
      refine hb σ' ρ' Pr H1 F1 as1 st1 _ L1 S1 (turn_post P1 fun ρ2 st2 σ2 H2 F2 as2 e2 p2 S2 L2' P2 => ?_)
      exact ⟨ρ2, F2, as2, st2, S2, L2', P2⟩
theorem snd_for (o : ScOk X N sc) (hcalm : X.calm = true) (po : PassesOwn (model X.prog X.w) X.A X.env X.xe) {t i : Expr} {b : List Stmt} {pos : Pos} {tg : List Nat} {single : Bool} {it : It} {eb : List S} (ht : chkTg N sc tg single t = true) (hi : SndI X Wx t i (evIt cl it)) (hf : ∀ env x, foldedSetIterable i env x = pure x) (hb : SndSs X Wx b (exs cl eb)) : SndS X Wx (.For t i b [] pos) (ex cl (.for tg single it eb)) := by
  intro σ ρ Pr H F as st D L S P
  rw [ex] at P
  refine toS (ps_for po hcalm (pi_of t i) (pg_tgt o hcalm ht) (pss_of b) (hf _)) (hi σ ρ Pr H F as st _ L S (go_post L P fun items st1 J H1 F1 as1 _ e1 p1 S1 jk L1 P1 => ?_))
  refine ⟨fun k m σ' H' => m = items.length - k ∧ k ≤ items.length ∧ ∃ ρ' F' as' st', Ex F1 F' ∧ Pre as1 as' ∧ Sat X.K Pr F' H' as' st' ∧ Slots X.K F' as' σ' ρ' ∧ PostS X.K Pr Wx F' as' D (forGo (setTg tg single) (exs cl eb) (items.drop k) ρ' st'), ⟨items.length, by omega, by omega, ρ, F1, as1, st1, Ex.refl _, Pre.refl _, S1, L1, P1⟩, fun k m σ' H' ⟨em, hk, ρ', F', as', st', eF, pA, S', L', P'⟩ => ?_⟩
  rcases Nat.lt_or_ge k items.length with hlt | hge
  · refine .inr ?_
    have hw : items[k]? = some items[k] := List.getElem?_eq_getElem hlt
    obtain ⟨hgo, hy⟩ := (jk k Pr H' F' as' st' eF pA S').1 _ hw
    rw [List.drop_eq_getElem_cons hlt, forGo] at P'
    obtain ⟨ρ2, hs, P2⟩ := goO_post P'
    refine ⟨hgo, fun σ2 H2 => items.length - (k + 1) = items.length - (k + 1) ∧ k + 1 ≤ items.length ∧ ∃ ρ' F' as' st', Ex F1 F' ∧ Pre as1 as' ∧ Sat X.K Pr F' H2 as' st' ∧ Slots X.K F' as' σ2 ρ' ∧ PostS X.K Pr Wx F' as' D (forGo (setTg tg single) (exs cl eb) (items.drop (k + 1)) ρ' st'), fun σ2 H2 h => ⟨items.length - (k + 1), by omega, h⟩, fun x H2 hyl => ?_⟩
    obtain ⟨F2, eF2, S2, rx⟩ := hy x H2 hyl
    refine set_tgt S2.ext rx (L'.mono eF2 (Pre.refl _)) hs fun σ2 s2 _ => ?_
    refine hb σ2 ρ2 Pr H2 F2 as' st' _ s2 S2 (turn_post (PostS.mono P2 eF2 (Pre.refl _)) fun ρ3 st3 σ3 H3 F3 as3 e3 p3 S3 L3 P3 => ?_)
    exact ⟨rfl, by omega, ρ3, F3, as3, st3, (eF.trans eF2).trans e3, pA.trans p3, S3, L3, P3⟩
  · refine .inl ⟨(jk k Pr H' F' as' st' eF pA S').2 (List.getElem?_eq_none hge), ?_⟩
    rw [List.drop_eq_nil_of_le hge] at P'
    exact P' σ' H' F' as' (Ex.refl _) (Pre.refl _) S' L'
theorem snd_seqS {s : Stmt} {ss : List Stmt} {f : Rho → Sto → SR} {g : Rho → Sto → SR} (h : SndS X Wx s f) (hs : SndSs X Wx ss g) : SndSs X Wx (s :: ss) (fun ρ st => (f ρ st).bind g) := by
  intro σ ρ Pr H F as st D L S P
  refine toSs (pss_cons (ps_of s) (pss_of ss)) (h σ ρ Pr H F as st _ L S ?_)
  dsimp only at P
  revert P
  cases f ρ st with
  | nx ρ1 st1 => exact fun P σ1 H1 F1 as1 e p S1 L1 => hs σ1 ρ1 Pr H1 F1 as1 st1 D L1 S1 (PostS.mono (r := g ρ1 st1) P e p)
  | rt w st1 => exact fun P => P
  | bk _ _ => exact fun P => P
  | ct _ _ => exact fun P => P
  | er _ _ _ => exact fun P => P
  | stuck => exact fun P => P
mutual
theorem sndS (o : ScOk X N sc) (en : EnvOk X Wx G cl) (po : PassesOwn (model X.prog X.w) X.A X.env X.xe) : ∀ (s' : S) (s : Stmt), chkS G N sc s' s = true → SndS X Wx s (ex cl s')
  | .set i e, s, h => by
    unfold chkS at h; split at h
    · rename_i t x pos
      simp only [Bool.and_eq_true] at h
      refine snd_set o h.1.1 (fun l y hy p => ?_) (sndE e o en _ h.2).1
      have h2 := h.1.2
      obtain ⟨p0, rfl⟩ := hy
      cases x with
      | ListComp a b c d =>
        have hc : sc.names.lookup y = some .cell := by
          dsimp only at h2
          split at h2
          · assumption
          · cases h2
        have q := o.keep y _ hc (by intro z; cases z)
        show (pure (X.env.blockKind == .function && X.env.kindOf y == some .local && _ && _) : Sem Bool) = pure false
        rw [show X.env.kindOf y = some .cell from q]
        cases X.env.blockKind == .function <;> rfl
      | _ => first | rfl | (exact absurd h2 Bool.false_ne_true)
    · cases h
  | .setC i new l, s, h => by
    unfold chkS at h; split at h
    · simp only [Bool.and_eq_true, Bool.not_eq_true'] at h
      exact snd_setC o en h.1.1.1.1 h.1.1.1.2 h.1.1.2 h.1.2 h.2
    · cases h
  | .setT is e, s, h => by
    unfold chkS at h; split at h
    · simp only [Bool.and_eq_true] at h
      exact snd_setT o en h.1.1 h.1.2 (sndE e o en _ h.2).1
    · cases h
  | .setL a b e, s, h => by
    unfold chkS at h; split at h
    · simp only [Bool.and_eq_true] at h
      obtain ⟨⟨⟨⟨⟨h1, h2⟩, h3⟩, h4⟩, h5⟩, h6⟩ := h
      exact snd_setL (fun l u s p z => by subst z; cases h2) h3 (sndE a o en _ h4).1 (sndE b o en _ h5).1 (sndE e o en _ h6).1
    · cases h
  | .expr e, s, h => by
    unfold chkS at h; split at h
    · simp only [Bool.and_eq_true] at h
      exact snd_expr h.1 (sndE e o en _ h.2).1
    · cases h
  | .ite c a b, s, h => by
    unfold chkS at h; split at h
    · simp only [Bool.and_eq_true] at h
      exact snd_iteS ((sndE c o en _ h.1.1.2).2 h.1.1.1) (sndSs o en po a _ h.1.2) (sndSs o en po b _ h.2)
    · cases h
  | .whil n c b, s, h => by
    unfold chkS at h; split at h
    · simp only [Bool.and_eq_true] at h
      exact snd_while po ((sndE c o en _ h.1.2).2 h.1.1) (sndSs o en po b _ h.2)
    · cases h
  | .for tg single it b, s, h => by
    unfold chkS at h; split at h
    · rename_i t i x pos
      simp only [Bool.and_eq_true] at h
      have I := sndIt it (Wx := Wx) o en single t i h.1.2
      exact snd_for o en.calm po h.1.1 I.2 I.1 (sndSs o en po b _ h.2)
    · cases h
  | .ret e, s, h => by
    unfold chkS at h; split at h
    · exact snd_ret (sndE e o en _ h).1
    · cases h
  | .retN, s, h => by
    unfold chkS at h; split at h
    · exact fun σ ρ Pr H F as st D L S P => toS ps_retN (by rw [ex] at P; exact P _ H F as (Ex.refl _) (Pre.refl _) S .non)
    · cases h
  | .pass, s, h => by
    unfold chkS at h; split at h
    · exact fun σ ρ Pr H F as st D L S P => toS ps_pass (by rw [ex] at P; exact P _ H F as (Ex.refl _) (Pre.refl _) S L)
    · cases h
  | .brk, s, h => by
    unfold chkS at h; split at h
    · exact fun σ ρ Pr H F as st D L S P => toS ps_break (by rw [ex] at P; exact P _ H F as (Ex.refl _) (Pre.refl _) S L)
    · cases h
  | .cnt, s, h => by
    unfold chkS at h; split at h
    · exact fun σ ρ Pr H F as st D L S P => toS ps_continue (by rw [ex] at P; exact P _ H F as (Ex.refl _) (Pre.refl _) S L)
    · cases h
  | .nev, s, h => fun σ ρ Pr H F as st D L S P => by rw [ex] at P; exact P.elim
theorem sndSs (o : ScOk X N sc) (en : EnvOk X Wx G cl) (po : PassesOwn (model X.prog X.w) X.A X.env X.xe) : ∀ (s' : List S) (s : List Stmt), chkSs G N sc s' s = true → SndSs X Wx s (exs cl s')
  | [], s, h => by
    cases s with
    | nil => exact fun σ ρ Pr H F as st D L S P => toSs pss_nil (by rw [exs] at P; exact P _ H F as (Ex.refl _) (Pre.refl _) S L)
    | cons _ _ => simp [chkSs] at h
  | s' :: ss', s, h => by
    cases s with
    | nil => simp [chkSs] at h
    | cons s ss =>
      have h' : chkS G N sc s' s = true ∧ chkSs G N sc ss' ss = true := by
        rw [chkSs] at h
        simpa only [Bool.and_eq_true] using h
      have q := snd_seqS (sndS o en po s' s h'.1) (sndSs o en po ss' ss h'.2)
      have e : exs cl (s' :: ss') = fun ρ st => (ex cl s' ρ st).bind (exs cl ss') := by
        funext ρ st
        rw [exs]
      rw [e]
      exact q
end
end
end Mz
end
section
namespace Mz
open PySem PySem.Spec PyProof.Rows L2
/-! ### defs -/
structure Dfn where
  name : Str
  np : Nat
  N : List Str
  body : List S
def endR : SR → Res W
  | .nx _ st => .ok .non st
  | .rt w st => .ok w st
  | .er x _ st => .err x st
  | _ => .stuck
def start0 (d : Dfn) (ws : List W) : Rho := ws.map some ++ List.replicate (d.N.length - ws.length) none
def runDef (cl : Nat → List W → Sto → Res W) (d : Dfn) (ws : List W) (st : Sto) : Res W :=
  if ws.length = (d.N.take d.np).length then endR (exs cl d.body (start0 d ws) st) else .stuck
def callN (D : List Dfn) : Nat → Nat → List W → Sto → Res W
  | 0, _, _, _ => .stuck
  | n + 1, f, ws, st => match D[f]? with
    | some d => runDef (callN D n) d ws st
    | none => .stuck
def fscope (N ps : List Str) (sc : Scope) : Bool :=
  (match sc.kind with | .function => true | _ => false) && !sc.isCoroutine && !sc.isGenerator && decide N.Nodup && decide (N.take ps.length = ps) &&
    (ps.all fun x => match sc.names.lookup x with | some .local => true | some .cell => true | _ => false) && (sc.names.all fun y => match y.2 with | .free => false | _ => true)
theorem fscope_ok {N ps : List Str} {sc : Scope} (h : fscope N ps sc = true) : FnScope N ps sc := by
  unfold fscope at h
  simp only [Bool.and_eq_true, Bool.not_eq_true', decide_eq_true_eq, List.all_eq_true] at h
  obtain ⟨⟨⟨⟨⟨⟨h1, h2⟩, h3⟩, h4⟩, h5⟩, h6⟩, h7⟩ := h
  refine ⟨?_, h2, h3, h4, h5, fun x hx => ?_, fun y hy e => ?_⟩
  · split at h1
    · assumption
    · cases h1
  · have := h6 x hx
    split at this
    · exact .inl (by assumption)
    · exact .inr (by assumption)
    · cases this
  · have := h7 y hy
    rw [e] at this
    cases this
def chkDef (G : Gam) (d : Dfn) (body : List Stmt) (sc : Scope) : Bool := fscope d.N (d.N.take d.np) sc && chkSs G d.N sc d.body body
theorem slots_start {K : PySem.W.Frag} {F : Hp} {as : List Addr} {d : Dfn} {vs : List V} {ws : List W} (r : RepL K F as vs ws) (hl : ws.length ≤ d.N.length) : Slots K F as (L2.start d.N vs) (start0 d ws) := by
  refine ⟨?_, fun i w h => ?_⟩
  · unfold L2.start start0
    rw [List.length_append, List.length_append, List.length_map, List.length_map, r.length, List.length_replicate, List.length_replicate]
  · unfold start0 at h
    unfold L2.start
    rcases Nat.lt_or_ge i (ws.map some).length with h1 | h1
    · rw [List.getElem?_append_left h1, List.getElem?_map] at h
      rw [List.getElem?_append_left (by rw [List.length_map] at h1 ⊢; rw [r.length]; exact h1), List.getElem?_map]
      cases hw : ws[i]? with
      | none => rw [hw] at h; cases h
      | some w' =>
        rw [hw] at h
        cases h
        obtain ⟨v, hv, rv⟩ := r.get hw
        exact ⟨v, by rw [hv]; rfl, rv⟩
    · rw [List.getElem?_append_right h1, List.getElem?_replicate] at h
      split at h <;> cases h
theorem call_len {D : List Dfn} {n f : Nat} {d' : Dfn} {ws : List W} {st : Sto} (hd' : D[f]? = some d') (hne : ws.length ≠ (d'.N.take d'.np).length) : callN D n f ws st = .stuck := by
  cases n with
  | zero => rfl
  | succ n =>
    show (match D[f]? with | some d => runDef (callN D n) d ws st | none => .stuck) = .stuck
    rw [hd']
    show (if ws.length = (d'.N.take d'.np).length then _ else Res.stuck) = _
    rw [if_neg hne]
theorem call_eq {D : List Dfn} {n i : Nat} {d : Dfn} {ws : List W} {st : Sto} (hd : D[i]? = some d) (hwl : ws.length = (d.N.take d.np).length) : callN D (n + 1) i ws st = endR (exs (callN D n) d.body (start0 d ws) st) := by
  show (match D[i]? with | some d => runDef (callN D n) d ws st | none => .stuck) = _
  rw [hd]
  show (if ws.length = (d.N.take d.np).length then _ else Res.stuck) = _
  rw [if_pos hwl]
theorem body_ok {X : Cx} {K : PySem.W.Frag} {G : Gam} {D : List Dfn} {n i : Nat} {d : Dfn} {body : List Stmt} {sc : Scope} {vs : List V} {H : Hp} {Q : VK} {E : XK} (hd : D[i]? = some d) (so : ScOk X d.N sc) (en : EnvOk X (fun cls d _ H => E cls d H) G (callN D n)) (po : PassesOwn (model X.prog X.w) X.A X.env X.xe) (hK : X.K = K)
    (hc : chkSs G d.N sc d.body body = true) (h : spOf K (callN D (n + 1) i) (d.N.take d.np).length vs H Q E) : tOfSs X body { nx := fun _ H' => Q .non H', rt := Q } (L2.start d.N vs) H := by
  obtain ⟨hl, Pr, F, as, st, ws, S, r, P1⟩ := h
  have hnp : (d.N.take d.np).length ≤ d.N.length := by rw [List.length_take]; exact Nat.min_le_right _ _
  have hwl : ws.length = (d.N.take d.np).length := by rw [← r.length]; exact hl
  refine sndSs so en po d.body body hc (L2.start d.N vs) (start0 d ws) Pr H F as st _ (by rw [hK]; exact slots_start r (by rw [hwl]; exact hnp)) (by rw [hK]; exact S) ?_
  rw [hK]
  rw [call_eq hd hwl] at P1
  revert P1
  cases exs (callN D n) d.body (start0 d ws) st with
  | nx ρ st1 => exact fun P2 σ' H' F' as' e p S' L' => P2 .non H' F' as' e p S' .non
  | rt w1 st1 => exact fun P2 v H' F' as' e p S' r' => P2 v H' F' as' e p S' r'
  | bk _ _ => exact fun P2 => P2.elim
  | ct _ _ => exact fun P2 => P2.elim
  | er x ρ st1 => exact fun P2 c d' σ' H' F' as' e p S' L' x' => P2 c d' H' F' as' e p S' x'
  | stuck => exact fun P2 => P2.elim
/-- what the head tells of the module -/
structure Facts (P : Program) (w : World) (K : PySem.W.Frag) (mg : Str → Option Value) (G : Gam) (D : List Dfn) (adr : Nat → Addr) (fdt : Nat → FuncData) : Prop where
  gi : ∀ x i, (x, i) ∈ G.gi → ∃ t, mg x = some (.int i t)
  gs : ∀ x i, (x, i) ∈ G.gs → ∃ t, mg x = some (.str i t)
  fr : ∀ x, x ∈ G.fr → mg x = none
  fn : ∀ (i : Nat) (x : Str), G.fn[i]? = some x → ∃ d : Dfn, D[i]? = some d ∧ d.name = x
  df : ∀ (i : Nat) (d : Dfn), D[i]? = some d → mg d.name = some (.ref (adr i)) ∧ PySem.W.keepIn K (.ref (adr i)) = true ∧ Binds K (fdt i) (d.N.take d.np) [] ∧
    ∃ params body sc, FunD K d.name d.name params body sc [] [] (adr i) (fdt i) ∧ chkDef G d body sc = true
theorem defs_ok {P : Program} {w : World} {K : PySem.W.Frag} {mg : Str → Option Value} {G : Gam} {D : List Dfn} {adr : Nat → Addr} {fdt : Nat → FuncData} (Fc : Facts P w K mg G D adr fdt) {base : Heap} :
    ∀ (n i : Nat) (d : Dfn), D[i]? = some d → FnOk P w K mg base (L2.CX P w) (n + 14) (adr i) (fdt i) (d.N.take d.np) (spOf K (callN D n i) (d.N.take d.np).length)
  | 0, i, d, hd => by
    have no : ∀ vs H Q E, ¬ spOf K (callN D 0 i) (d.N.take d.np).length vs H Q E := fun vs H Q E h => by
      obtain ⟨_, Pr, F, as, st, ws, _, _, h⟩ := h
      exact h
    exact ⟨fun vs H Q E h => absurd h (no vs H Q E), fun A outer s H args us vs Q E _ _ _ _ h => absurd h (no vs H Q E)⟩
  | n + 1, i, d, hd => by
    obtain ⟨_, _, _, params, body, sc, FD, hc⟩ := Fc.df i d hd
    unfold chkDef at hc
    simp only [Bool.and_eq_true] at hc
    have FS := fscope_ok hc.1
    refine FD.ok FS (fun vs H Q E h => h.1) (fun cdv A outer s H vs Q E hr h => ?_)
    generalize hX : cxOf (L2.CX P w) P w K mg base d.N d.name sc (adr i) cdv A outer s H E = X
    have so : ScOk X d.N sc := by subst hX; exact ⟨rfl, FS.nd, FS.kind, fun x k h _ => h, fun x h => .inl h, fun _ _ => rfl⟩
    have en : EnvOk X (fun cls d _ H => E cls d H) G (callN D n) := by
      subst hX
      refine ⟨rfl, Fc.gi, Fc.gs, Fc.fr, ?_, takes_of rfl rfl rfl rfl, fun f x hf => ?_⟩
      · have := hr.un
        show (A.deeper (envOfC d.name sc s.heap.objs.size (adr i) cdv)).units + 410 < cLine
        omega
      · obtain ⟨d', hd', rfl⟩ := Fc.fn f x hf
        obtain ⟨g1, g2, g3, _⟩ := Fc.df f d' hd'
        exact ⟨adr f, fdt f, d'.N.take d'.np, n + 14, g1, g2, g3, defs_ok Fc n f d' hd', hr, fun ws st hne => call_len hd' hne⟩
    have po : PassesOwn (model X.prog X.w) X.A X.env X.xe := by subst hX; exact passes_of rfl
    exact ⟨tOfSs X body, pss_of body, body_ok hd so en po (by subst hX; rfl) hc.2 h⟩
/-! ### the law -/
theorem rep_ints {K : PySem.W.Frag} {F : Hp} {as : List Addr} : ∀ ns : List Int, RepL K F as (ns.map V.int) (ns.map W.int)
  | [] => .nil
  | n :: r => .cons (.int n) (rep_ints r)
/-- the law's def lets nothing out -/
theorem law_ok {P : Program} {w : World} {K : PySem.W.Frag} {mg : Str → Option Value} {G : Gam} {D : List Dfn} {adr : Nat → Addr} {fdt : Nat → FuncData} (Fc : Facts P w K mg G D adr fdt) {base : Heap} (n i : Nat) (d : Dfn) (hd : D[i]? = some d) :
    FnOk P w K mg base CX0 (n + 15) (adr i) (fdt i) (d.N.take d.np) (fun vs H Q _ => spOf K (callN D (n + 1) i) (d.N.take d.np).length vs H Q fun _ _ _ => False) := by
  obtain ⟨_, _, _, params, body, sc, FD, hc⟩ := Fc.df i d hd
  unfold chkDef at hc
  simp only [Bool.and_eq_true] at hc
  have FS := fscope_ok hc.1
  refine FD.ok FS (fun vs H Q E h => h.1) (fun cdv A outer s H vs Q E hr h => ?_)
  generalize hX : cxOf CX0 P w K mg base d.N d.name sc (adr i) cdv A outer s H E = X
  have so : ScOk X d.N sc := by subst hX; exact ⟨rfl, FS.nd, FS.kind, fun x k h _ => h, fun x h => .inl h, fun _ _ => rfl⟩
  have en : EnvOk X (fun _ _ _ _ => False) G (callN D n) := by
    subst hX
    refine ⟨rfl, Fc.gi, Fc.gs, Fc.fr, ?_, takes0, fun f x hf => ?_⟩
    · have := hr.un
      show (A.deeper (envOfC d.name sc s.heap.objs.size (adr i) cdv)).units + 410 < cLine
      omega
    · obtain ⟨d', hd', rfl⟩ := Fc.fn f x hf
      obtain ⟨g1, g2, g3, _⟩ := Fc.df f d' hd'
      exact ⟨adr f, fdt f, d'.N.take d'.np, n + 14, g1, g2, g3, defs_ok Fc n f d' hd', hr, fun ws st hne => call_len hd' hne⟩
  have po : PassesOwn (model X.prog X.w) X.A X.env X.xe := by subst hX; exact passes_of rfl
  exact ⟨tOfSs X body, pss_of body, body_ok (E := fun _ _ _ => False) hd so en po (by subst hX; rfl) hc.2 h⟩
theorem law_sp {K : PySem.W.Frag} {g : List W → Sto → Res W} {H : Hp} {a : Addr} {ns : List Int} (hO : Only H) (hS : SqL K H a (ns.map V.int)) (h : ∃ st, g [.scr (ns.map W.int)] [] = .ok (.bl true) st) : spOf K g 1 [.ref a] H (fun v _ => v = .bl true) fun _ _ _ => False := by
  obtain ⟨st, h⟩ := h
  refine ⟨rfl, fun _ => none, H, [], [], [.scr (ns.map W.int)], ⟨fun _ _ h => h, rfl, fun i j a h => by simp at h, fun i a h => by simp at h, fun i a c h => by simp at h, fun a o e => by cases e⟩, .cons (.scr hS (rep_ints ns)) .nil, ?_⟩
  rw [h]
  intro b H' F' as' e p S r
  exact rep_bl r
/-! ### the head -/
def mkD (d : Dfn) (st : Stmt) : He.DefD := ⟨(d.name, none), d.name, d.name, defArgs st, defBody st, defScope st, [], []⟩
def faOf (G : Gam) : List He.Fa := G.fn.map He.Fa.glo ++ (G.fr.map He.Fa.free ++ (G.gi.map (fun p => He.Fa.int p.1 p.2) ++ G.gs.map fun p => He.Fa.str p.1 p.2))
def BindOk (d : Dfn) (st : Stmt) : Prop := ∀ (kV doc pm : Value) (an : Option Addr) (cdv ct : Value) (us : List Value), us.length = (d.N.take d.np).length →
  bindArgs (PySem.W.fnOf d.name d.name (defArgs st) (defBody st) (defScope st) .none kV doc pm an cdv ct) ⟨us, []⟩ = pure ((d.N.take d.np).zip us)
def AllB : List (Dfn × Stmt) → Prop
  | [] => True
  | p :: r => BindOk p.1 p.2 ∧ AllB r
theorem AllB.at : ∀ {l : List (Dfn × Stmt)} {i : Nat} {p : Dfn × Stmt}, AllB l → l[i]? = some p → BindOk p.1 p.2
  | [], _, _, _, h => by simp at h
  | p :: r, 0, q, hb, h => by simp at h; subst h; exact hb.1
  | p :: r, i + 1, q, hb, h => AllB.at hb.2 (by simpa using h)
theorem facts_of {P : Program} {w : World} {K : PySem.W.Frag} {h : Heap} {mg : Str → Option Value} {G : Gam} {D : List Dfn} {sts : List Stmt} (X : K.In h) (Gs : h.Ns mainGlobals mg) (c : He.SaysD (faOf G) (List.zipWith mkD D sts) K)
    (hl : D.length = sts.length) (hn : G.fn = D.map (·.name)) (hb : AllB (D.zip sts)) (hc : (D.zip sts).all (fun p => chkDef G p.1 (defBody p.2) (defScope p.2)) = true) :
    ∃ fdt : Nat → FuncData, Facts P w K mg G D (fun i => He.ga K ((D[i]?.map (·.name)).getD "")) fdt ∧ ∀ (i : Nat) (d : Dfn), D[i]? = some d → ∀ (s : Shared) (us : List Value), us.length = (d.N.take d.np).length → BindsTo s (fdt i) ⟨us, []⟩ ((d.N.take d.np).zip us) := by
  have fact : ∀ f ∈ faOf G, f.ok K = true := fun f hf => by
    obtain ⟨i, hi, e⟩ := List.mem_iff_getElem.mp hf
    exact c.fact i (by rw [← e]; exact List.getElem?_eq_getElem hi)
  have main : ∀ i : Nat, ∃ fd, ∀ d, D[i]? = some d → ∃ st, sts[i]? = some st ∧ FunD K d.name d.name (defArgs st) (defBody st) (defScope st) [] [] (He.ga K d.name) fd ∧ BindOk d st ∧ chkDef G d (defBody st) (defScope st) = true := by
    intro i
    cases hd : D[i]? with
    | none => exact ⟨default, fun d e => by cases e⟩
    | some d =>
      have hi : i < D.length := by
        rcases Nat.lt_or_ge i D.length with q | q
        · exact q
        · rw [List.getElem?_eq_none q] at hd; cases hd
      have hst : sts[i]? = some (sts[i]'(by omega)) := List.getElem?_eq_getElem (by omega)
      obtain ⟨fd, FD⟩ := c.def_ i (d := mkD d (sts[i]'(by omega))) (by rw [List.getElem?_zipWith, hd, hst])
      have hz : (D.zip sts)[i]? = some (d, sts[i]'(by omega)) := by rw [List.getElem?_zip_eq_some]; exact ⟨hd, hst⟩
      exact ⟨fd, fun d' e => by
        cases e
        exact ⟨_, hst, FD, hb.at hz, (List.all_eq_true.mp hc) _ (List.mem_of_getElem? hz)⟩⟩
  obtain ⟨fdt, hfd⟩ := Classical.skolem.mp main
  refine ⟨fdt, ⟨fun x i hx => ?_, fun x i hx => ?_, fun x hx => ?_, fun i x hx => ?_, fun i d hd => ?_⟩, fun i d hd s us hu => ?_⟩
  · exact He.int_ok X Gs (fact _ (List.mem_append_right _ (List.mem_append_right _ (List.mem_append_left _ (List.mem_map.mpr ⟨(x, i), hx, rfl⟩)))))
  · exact He.str_ok X Gs (fact _ (List.mem_append_right _ (List.mem_append_right _ (List.mem_append_right _ (List.mem_map.mpr ⟨(x, i), hx, rfl⟩)))))
  · exact He.free_ok X Gs (fact _ (List.mem_append_right _ (List.mem_append_left _ (List.mem_map.mpr ⟨x, hx, rfl⟩))))
  · rw [hn, List.getElem?_map] at hx
    cases hd : D[i]? with
    | none => rw [hd] at hx; cases hx
    | some d => rw [hd] at hx; cases hx; exact ⟨d, rfl, rfl⟩
  · obtain ⟨st, hs, FD, bo, ck⟩ := hfd i d hd
    have ea : He.ga K ((D[i]?.map (·.name)).getD "") = He.ga K d.name := by rw [hd]; rfl
    rw [ea]
    refine ⟨He.glo_ok X Gs (fact _ (List.mem_append_left _ (List.mem_map.mpr ⟨d.name, ?_, rfl⟩))), FD.kp, FD.bindsN bo, _, _, _, FD, ck⟩
    rw [hn]
    exact List.mem_map.mpr ⟨d, List.mem_of_getElem? hd, rfl⟩
  · obtain ⟨st, hs, FD, bo, ck⟩ := hfd i d hd
    exact FD.bindsA bo s us hu
end Mz
end
section
namespace Mz
open PySem PySem.Spec PyProof.Rows L2 PySem.PyData
theorem nd {α : Sort _} {a b : α} (h : a = b) : a = b := h
/-! ### pure evaluation: what simp knows -/
section
variable {α β : Type} {a : α} {st : Sto} {ρ : Rho} {x : Exn}
@[simp] theorem bind_ok {k : α → Sto → Res β} : (Res.ok a st).bind k = k a st := nd rfl
@[simp] theorem bind_err {k : α → Sto → Res β} : (Res.err x st : Res α).bind k = .err x st := nd rfl
@[simp] theorem bind_stuck {k : α → Sto → Res β} : (Res.stuck : Res α).bind k = .stuck := nd rfl
@[simp] theorem go_ok {k : α → Sto → SR} : (Res.ok a st).go ρ k = k a st := nd rfl
@[simp] theorem go_err {k : α → Sto → SR} : (Res.err x st : Res α).go ρ k = .er x ρ st := nd rfl
@[simp] theorem noerr_ok : (Res.ok a st).noerr = .ok a st := nd rfl
@[simp] theorem sbind_nx {k : Rho → Sto → SR} : (SR.nx ρ st).bind k = k ρ st := nd rfl
@[simp] theorem sbind_rt {k : Rho → Sto → SR} {w : W} : (SR.rt w st).bind k = .rt w st := nd rfl
@[simp] theorem sbind_ct {k : Rho → Sto → SR} : (SR.ct ρ st).bind k = .ct ρ st := nd rfl
@[simp] theorem sbind_bk {k : Rho → Sto → SR} : (SR.bk ρ st).bind k = .bk ρ st := nd rfl
@[simp] theorem sbind_er {k : Rho → Sto → SR} : (SR.er x ρ st).bind k = .er x ρ st := nd rfl
@[simp] theorem turn_nx {k : Rho → Sto → SR} : (SR.nx ρ st).turn k = k ρ st := nd rfl
@[simp] theorem turn_ct {k : Rho → Sto → SR} : (SR.ct ρ st).turn k = k ρ st := nd rfl
@[simp] theorem turn_bk {k : Rho → Sto → SR} : (SR.bk ρ st).turn k = .nx ρ st := nd rfl
@[simp] theorem turn_rt {k : Rho → Sto → SR} {w : W} : (SR.rt w st).turn k = .rt w st := nd rfl
@[simp] theorem turn_er {k : Rho → Sto → SR} : (SR.er x ρ st).turn k = .er x ρ st := nd rfl
@[simp] theorem endR_nx : endR (.nx ρ st) = .ok .non st := nd rfl
@[simp] theorem endR_rt {w : W} : endR (.rt w st) = .ok w st := nd rfl
@[simp] theorem endR_er : endR (.er x ρ st) = .err x st := nd rfl
@[simp] theorem goO_some {k : α → SR} : goO (some a) k = k a := nd rfl
@[simp] theorem ret_some : Mz.ret st (some a) = .ok a st := nd rfl
@[simp] theorem guard_true {r : Res α} : guardR true r = r := nd rfl
theorem guard_of {c : Bool} {r : Res α} (h : c = true) : guardR c r = r := by rw [h]; rfl
@[simp] theorem boolW_ok {b : Bool} : boolW (.ok (.bl b) st) = .ok b st := nd rfl
@[simp] theorem boolW_err : boolW (.err x st) = .err x st := nd rfl
@[simp] theorem andW_t {k : Sto → Res W} : andW (.ok (.bl true) st) k = k st := nd rfl
@[simp] theorem andW_f {k : Sto → Res W} : andW (.ok (.bl false) st) k = .ok (.bl false) st := nd rfl
@[simp] theorem orW_t {k : Sto → Res W} : orW (.ok (.bl true) st) k = .ok (.bl true) st := nd rfl
@[simp] theorem orW_f {k : Sto → Res W} : orW (.ok (.bl false) st) k = k st := nd rfl
@[simp] theorem setTg_one {i : Nat} {w : W} : setTg [i] true w ρ = some (ρ.set i (some w)) := nd rfl
@[simp] theorem wipeR_nil : wipeR ρ [] = ρ := nd rfl
@[simp] theorem wipeR_cons {v : Nat} {vs : List Nat} : wipeR ρ (v :: vs) = (wipeR ρ vs).set v none := nd rfl
end
section
variable {st : Sto}
@[simp] theorem deref_t {ws : List W} : deref st (.tup ws) = .tup ws := rfl
@[simp] theorem deref_l {ws : List W} : deref st (.lst ws) = .lst ws := rfl
@[simp] theorem deref_s {z : Str} : deref st (.str z) = .str z := rfl
@[simp] theorem deref_i {z : Int} : deref st (.int z) = .int z := rfl
@[simp] theorem deref_sc {ws : List W} : deref st (.scr ws) = .scr ws := rfl
theorem deref_r {i : Nat} {ws : List W} (h : st[i]? = some (.lst ws)) : deref st (.ref i) = .lst ws := by
  unfold deref
  simp only [h]
@[simp] theorem listOf_l {ws : List W} : listOf st (.lst ws) = some ws := rfl
@[simp] theorem seqOf_l {ws : List W} : seqOf st (.lst ws) = some ws := rfl
@[simp] theorem seqOf_t {ws : List W} : seqOf st (.tup ws) = some ws := rfl
theorem listOf_r {i : Nat} {ws : List W} (h : st[i]? = some (.lst ws)) : listOf st (.ref i) = some ws := by unfold listOf; rw [deref_r h]
theorem seqOf_r {i : Nat} {ws : List W} (h : st[i]? = some (.lst ws)) : seqOf st (.ref i) = some ws := by unfold seqOf; rw [deref_r h]
@[simp] theorem ix_t {ws : List W} {i : Int} : ixW st (.tup ws) (.int i) = atI ws i := rfl
@[simp] theorem ix_l {ws : List W} {i : Int} : ixW st (.lst ws) (.int i) = atI ws i := rfl
@[simp] theorem ix_sc {ws : List W} {i : Int} : ixW st (.scr ws) (.int i) = atI ws i := rfl
theorem ix_r {k : Nat} {ws : List W} {i : Int} (h : st[k]? = some (.lst ws)) : ixW st (.ref k) (.int i) = atI ws i := by unfold ixW; rw [deref_r h]
theorem ix_s {z : Str} {i : Int} (h : z.length ≤ lim) : ixW st (.str z) (.int i) = (atI z.cps.toList i).map fun c => .str ⟨#[c]⟩ := by
  show (if z.length ≤ lim then _ else _) = _
  rw [if_pos h]
@[simp] theorem at0 {α : Type} {a : α} {l : List α} : atI (a :: l) 0 = some a := atI_nat (j := 0) rfl
@[simp] theorem at1 {α : Type} {a b : α} {l : List α} : atI (a :: b :: l) 1 = some b := atI_nat (j := 1) rfl
@[simp] theorem at2 {α : Type} {a b c : α} {l : List α} : atI (a :: b :: c :: l) 2 = some c := atI_nat (j := 2) rfl
theorem at_in {α : Type} {l : List α} {i : Int} (h0 : 0 ≤ i) (h1 : i < l.length) : atI l i = l[i.toNat]? := by
  unfold atI ixN
  rw [if_pos h0, if_pos h1]
  rfl
@[simp] theorem len_t {ws : List W} : lenW st (.tup ws) = some ws.length := rfl
@[simp] theorem len_l {ws : List W} : lenW st (.lst ws) = some ws.length := rfl
@[simp] theorem len_sc {ws : List W} : lenW st (.scr ws) = some ws.length := rfl
theorem len_r {k : Nat} {ws : List W} (h : st[k]? = some (.lst ws)) : lenW st (.ref k) = some ws.length := by unfold lenW; rw [deref_r h]
theorem len_s {z : Str} (h : z.length ≤ lim) : lenW st (.str z) = some z.length := by
  show (if z.length ≤ lim then _ else _) = _
  rw [if_pos h]
@[simp] theorem typ_t {ws : List W} : typW st (.tup ws) = some "tuple" := rfl
@[simp] theorem typ_s {z : Str} : typW st (.str z) = some "str" := rfl
@[simp] theorem typ_i {z : Int} : typW st (.int z) = some "int" := rfl
@[simp] theorem typ_l {ws : List W} : typW st (.lst ws) = some "list" := rfl
@[simp] theorem typ_n : typW st .non = some "NoneType" := rfl
@[simp] theorem kit_ss : kitB "str" "str" = some true := by decide +kernel
@[simp] theorem kit_tt : kitB "tuple" "tuple" = some true := by decide +kernel
@[simp] theorem kit_ii : kitB "int" "int" = some true := by decide +kernel
@[simp] theorem kit_ib : kitB "int" "bool" = some false := by decide +kernel
@[simp] theorem kit_ll : kitB "list" "list" = some true := by decide +kernel
@[simp] theorem cmp_lt {i j : Int} : cmpW st .lt (.int i) (.int j) = some (decide (i < j)) := rfl
@[simp] theorem cmp_le {i j : Int} : cmpW st .le (.int i) (.int j) = some (decide (i ≤ j)) := rfl
@[simp] theorem cmp_gt {i j : Int} : cmpW st .gt (.int i) (.int j) = some (decide (j < i)) := rfl
@[simp] theorem cmp_ge {i j : Int} : cmpW st .ge (.int i) (.int j) = some (decide (j ≤ i)) := rfl
@[simp] theorem cmp_eqi {i j : Int} : cmpW st .eq (.int i) (.int j) = some (decide (i = j)) := by
  show some (i == j) = _
  congr 1
@[simp] theorem cmp_nei {i j : Int} : cmpW st .ne (.int i) (.int j) = some (!decide (i = j)) := by
  show ((cmpW st .eq (.int i) (.int j)).map (! ·)) = _
  rw [cmp_eqi]; rfl
theorem cmp_eqs {x y : Str} (hx : strOk x = true) (hy : strOk y = true) : cmpW st .eq (.str x) (.str y) = some (decide (x = y)) := by
  show (if (true && true && PyData.canLay0 (.str x) && PyData.canLay0 (.str y) && true) = true then some (x == y) else none) = _
  rw [PyData.canLay0, PyData.canLay0, hx, hy]
  rfl
theorem cmp_nes {x y : Str} (hx : strOk x = true) (hy : strOk y = true) : cmpW st .ne (.str x) (.str y) = some (!decide (x = y)) := by
  show ((cmpW st .eq (.str x) (.str y)).map (! ·)) = _
  rw [cmp_eqs hx hy]; rfl
theorem ok_letter : strOk "letter" = true := by decide +kernel
theorem ok_sign : strOk "sign" = true := by decide +kernel
@[simp] theorem cmp_ll : cmpW st .eq (.str "letter") (.str "letter") = some true := by rw [cmp_eqs ok_letter ok_letter]; decide +kernel
@[simp] theorem cmp_sl : cmpW st .eq (.str "sign") (.str "letter") = some false := by rw [cmp_eqs ok_sign ok_letter]; decide +kernel
@[simp] theorem cmp_ls : cmpW st .eq (.str "letter") (.str "sign") = some false := by rw [cmp_eqs ok_letter ok_sign]; decide +kernel
@[simp] theorem cmp_ss : cmpW st .eq (.str "sign") (.str "sign") = some true := by rw [cmp_eqs ok_sign ok_sign]; decide +kernel
theorem ne_ls : ("letter" : Str) ≠ "sign" := by decide +kernel
theorem eqv_letter : PyData.eqv (.str "letter") (.str "letter") = true := by decide +kernel
theorem eqv_sign : PyData.eqv (.str "sign") (.str "sign") = true := by decide +kernel
@[simp] theorem notin_l : cmpW st .notin (.str "letter") (.tup [.str "letter", .str "sign"]) = some false := by
  show ((inW st (.str "letter") (.tup [.str "letter", .str "sign"])).map (! ·)) = _
  unfold inW
  simp [flatW, toD, eqv_letter]
@[simp] theorem notin_s : cmpW st .notin (.str "sign") (.tup [.str "letter", .str "sign"]) = some false := by
  show ((inW st (.str "sign") (.tup [.str "letter", .str "sign"])).map (! ·)) = _
  unfold inW
  simp [flatW, toD, eqv_sign]
@[simp] theorem addI {i j : Int} : binW st .add (.int i) (.int j) = some (.int (i + j)) := rfl
@[simp] theorem subI {i j : Int} : binW st .sub (.int i) (.int j) = some (.int (i - j)) := rfl
theorem mulI {i j : Int} (h : (-(2 ^ 64) < i ∧ i < 2 ^ 64) ∨ (-(2 ^ 64) < j ∧ j < 2 ^ 64)) : binW st .mul (.int i) (.int j) = some (.int (i * j)) := by
  show (if _ then _ else _) = _
  rw [if_pos h]
theorem fdivI {i j : Int} (h0 : 0 < j) (h1 : j < 2 ^ 62) : binW st .fdiv (.int i) (.int j) = some (.int (i / j)) := by
  show (if _ then _ else _) = _
  rw [if_pos ⟨h0, h1⟩]
theorem modI {i j : Int} (h0 : 0 < j) : binW st .mod (.int i) (.int j) = some (.int (i % j)) := by
  show (if _ then _ else _) = _
  rw [if_pos h0]
theorem addS {x y : Str} (h : x.length + y.length ≤ lim) : binW st .add (.str x) (.str y) = some (.str (x ++ y)) := by
  show (if _ then _ else _) = _
  rw [if_pos h]
@[simp] theorem powI : binW st .pow (.int 10) (.int 18) = some (.int 1000000000000000000) := by
  show (if ((0 : Int) ≤ 18 ∧ (18 : Int) ≤ 1000000 ∧ (10 : Int).natAbs < 2 ^ 64) then some (W.int ((10 : Int) ^ (18 : Int).toNat)) else none) = _
  rw [if_pos ⟨by omega, by omega, by decide⟩]
  rfl
end
theorem lcGo_pure {f : W → Sto → Res (Option W)} {g : W → Option W} {st : Sto} : ∀ {items : List W}, (∀ w ∈ items, f w st = .ok (g w) st) → lcGo f items st = .ok (items.filterMap g) st
  | [], _ => rfl
  | w :: ws, h => by
    rw [lcGo, h w List.mem_cons_self]
    show ((lcGo f ws st).bind fun r st2 => Res.ok ((g w).toList ++ r) st2) = _
    rw [lcGo_pure fun x hx => h x (List.mem_cons_of_mem _ hx)]
    show Res.ok ((g w).toList ++ ws.filterMap g) st = _
    rw [List.filterMap_cons]
    cases g w <;> rfl
theorem lcGo_map {f : W → Sto → Res (Option W)} {g : W → W} {st : Sto} {items : List W} (h : ∀ w ∈ items, f w st = .ok (some (g w)) st) : lcGo f items st = .ok (items.map g) st := by
  rw [lcGo_pure h, List.filterMap_eq_map']
/-! ### lists by simp; comprehensions by what they give -/
section
variable {cl : Nat → List W → Sto → Res W} {ρ : Rho} {st st1 : Sto}
@[simp] theorem evL_disp {es : List E} : evL cl (.disp es) ρ st = (evs cl es ρ st).bind fun ws st => guardR (decide (ws.length ≤ lim)) (.ok ws st) := by rw [evL]
@[simp] theorem evL_cat {a b : E} : evL cl (.cat a b) ρ st = (ev cl a ρ st).bind fun x st => (ev cl b ρ st).bind fun y st => Mz.ret st ((listOf st x).bind fun xs => (listOf st y).bind fun ys => if xs.length + ys.length ≤ lim then some (xs ++ ys) else none) := by rw [evL]
@[simp] theorem evL_ofE {a : E} : evL cl (.ofE a) ρ st = (ev cl a ρ st).bind fun x st => Mz.ret st (seqOf st x) := by rw [evL]
@[simp] theorem evL_sorted {a : E} : evL cl (.sorted a) ρ st = (ev cl a ρ st).bind fun x st => Mz.ret st (((listOf st x).bind strsOf).bind fun l => if l.length < 64 then some ((sortS l).map W.str) else none) := by rw [evL]
@[simp] theorem evL_sl {a : E} {lo hi : Option E} : evL cl (.sl a lo hi) ρ st = (ev cl a ρ st).bind fun x st => (evO cl lo ρ st).bind fun l st => (evO cl hi ρ st).bind fun h st => Mz.ret st ((listOf st x).map fun ws => cutL ws l h) := by rw [evL]
theorem lc_go {vs : List (Str × Nat)} {i : Nat} {it : It} {cond : List E} {elt : E} {items : List W} {r : Res (List W)} (hit : evIt cl it ρ st = .ok items st1) (hl : items.length ≤ lim)
    (h : lcGo (fun w st => (evConds cl cond ((wipeR ρ (vs.map (·.2))).set i (some w)) st).noerr.bind fun b st => if b = true then (ev cl elt ((wipeR ρ (vs.map (·.2))).set i (some w)) st).noerr.bind fun y st => .ok (some y) st else .ok none st) items st1 = r) :
    evL cl (.lc vs [i] true it cond elt) ρ st = r := by
  rw [evL, hit]
  show guardR (decide (items.length ≤ lim)) _ = r
  rw [guard_of (decide_eq_true hl)]
  exact h
theorem lc_map {vs : List (Str × Nat)} {i : Nat} {it : It} {elt : E} {items : List W} {g : W → W} (hit : evIt cl it ρ st = .ok items st1) (hl : items.length ≤ lim)
    (h : ∀ w ∈ items, ev cl elt ((wipeR ρ (vs.map (·.2))).set i (some w)) st1 = .ok (g w) st1) : evL cl (.lc vs [i] true it [] elt) ρ st = .ok (items.map g) st1 :=
  lc_go hit hl (lcGo_map fun w hw => by simp [h w hw])
theorem lc_filter {vs : List (Str × Nat)} {i : Nat} {it : It} {c elt : E} {items : List W} {p : W → Bool} {g : W → W} (hit : evIt cl it ρ st = .ok items st1) (hl : items.length ≤ lim)
    (hc : ∀ w ∈ items, ev cl c ((wipeR ρ (vs.map (·.2))).set i (some w)) st1 = .ok (.bl (p w)) st1) (h : ∀ w ∈ items, p w = true → ev cl elt ((wipeR ρ (vs.map (·.2))).set i (some w)) st1 = .ok (g w) st1) :
    evL cl (.lc vs [i] true it [c] elt) ρ st = .ok ((items.filter p).map g) st1 := by
  refine lc_go hit hl ?_
  rw [lcGo_pure (g := fun w => if p w = true then some (g w) else none)]
  · congr 1
    clear h hc hl hit
    induction items with
    | nil => rfl
    | cons x xs ih =>
      rw [List.filterMap_cons, List.filter_cons]
      cases hp : p x with
      | true => simp [ih]
      | false => simp [ih]
  · intro w hw
    cases hp : p w with
    | true => simp [hc w hw, hp, h w hw hp]
    | false => simp [hc w hw, hp]
end
@[simp] theorem lim1 : 1 ≤ lim := by decide
@[simp] theorem lim2 : 2 ≤ lim := by decide
@[simp] theorem lim3 : 3 ≤ lim := by decide
@[simp] theorem lim4 : 4 ≤ lim := by decide
/-! ### statements by simp; loops are supplied -/
section
variable {cl : Nat → List W → Sto → Res W} {ρ : Rho} {st : Sto}
@[simp] theorem ex_set {i : Nat} {e : E} : ex cl (.set i e) ρ st = (ev cl e ρ st).go ρ fun w st => .nx (ρ.set i (some w)) st := by rw [ex]
@[simp] theorem ex_setC {i : Nat} {b : Bool} {l : L} : ex cl (.setC i b l) ρ st = (ev cl (if b = true then .new l else .frz l) ρ st).go ρ fun w st => .nx (ρ.set i (some w)) st := by rw [ex]
@[simp] theorem ex_setT {is : List Nat} {e : E} : ex cl (.setT is e) ρ st = (ev cl e ρ st).go ρ fun w st => goO (setTg is false w ρ) fun ρ => .nx ρ st := by rw [ex]
@[simp] theorem ex_setL {o i e : E} : ex cl (.setL o i e) ρ st = (ev cl e ρ st).go ρ fun w st => (ev cl o ρ st).go ρ fun x st => (ev cl i ρ st).go ρ fun y st => match x, y with
    | .ref k, .int j => match st[k]? with
      | some (.lst ws) => goO (ixN ws.length j) fun m => .nx ρ (st.set k (.lst (ws.set m w)))
      | _ => .stuck
    | _, _ => .stuck := by rw [ex] <;> rfl
@[simp] theorem ex_expr {e : E} : ex cl (.expr e) ρ st = (ev cl e ρ st).go ρ fun _ st => .nx ρ st := by rw [ex]
@[simp] theorem ex_ite {c : E} {a b : List S} : ex cl (.ite c a b) ρ st = (boolW (ev cl c ρ st)).go ρ fun t st => if t = true then exs cl a ρ st else exs cl b ρ st := by rw [ex]
theorem ex_while {n : Nat} {c : E} {b : List S} : ex cl (.whil n c b) ρ st = whGo (fun ρ st => boolW (ev cl c ρ st)) (exs cl b) n ρ st := by rw [ex]
theorem ex_for {tg : List Nat} {single : Bool} {it : It} {b : List S} : ex cl (.for tg single it b) ρ st = (evIt cl it ρ st).go ρ fun items st => forGo (setTg tg single) (exs cl b) items ρ st := by rw [ex]
@[simp] theorem ex_ret {e : E} : ex cl (.ret e) ρ st = (ev cl e ρ st).go ρ fun w st => .rt w st := by rw [ex]
@[simp] theorem ex_retN : ex cl .retN ρ st = .rt .non st := by rw [ex]
@[simp] theorem ex_pass : ex cl .pass ρ st = .nx ρ st := by rw [ex]
@[simp] theorem ex_brk : ex cl .brk ρ st = .bk ρ st := by rw [ex]
@[simp] theorem ex_cnt : ex cl .cnt ρ st = .ct ρ st := by rw [ex]
/-- a for loop of one name, with an invariant of the turn -/
theorem for_nil {f : W → Rho → Option Rho} {b : Rho → Sto → SR} : forGo f b [] ρ st = .nx ρ st := rfl
end
@[simp] theorem intW_int {n : Int} : intW (.int n) = some n := rfl
theorem smallp {i : Int} (h0 : 0 ≤ i) (h1 : i < 1000000) : smallI i = true := by
  unfold smallI
  rw [Bool.and_eq_true, decide_eq_true_eq, decide_eq_true_eq]
  exact ⟨by omega, by omega⟩
theorem it_rng1 {cl : Nat → List W → Sto → Res W} {a : E} {ρ : Rho} {st : Sto} : evIt cl (.range1 a) ρ st = (ev cl a ρ st).bind fun x st => (Mz.ret st (intW x)).bind fun n st => guardR (smallI n) (.ok (rangeL 0 n.toNat) st) := by rw [evIt]
theorem it_rng2 {n : Int} {f : Int → Sto → Res (List W)} {st : Sto} : ((Mz.ret st (intW (.int n))).bind f) = f n st := by rw [intW_int, ret_some, bind_ok]
theorem it_rng3 {n : Nat} {st : Sto} (h : smallI (n : Nat) = true) : guardR (smallI (n : Nat)) (.ok (rangeL 0 (n : Int).toNat) st) = .ok (rangeL 0 n) st := by rw [h]; rfl
theorem it_rng {cl : Nat → List W → Sto → Res W} {a : E} {ρ : Rho} {st st1 : Sto} {n : Nat} (h : ev cl a ρ st = .ok (.int (n : Nat)) st1) (hn : n < 1000000) : evIt cl (.range1 a) ρ st = .ok (rangeL 0 n) st1 := by
  rw [it_rng1, h, bind_ok, it_rng2]
  exact it_rng3 (smallp (by omega) (by omega))
/-! ### loops, cells, more comprehensions -/
section
variable {c : Rho → Sto → Res Bool} {b : Rho → Sto → SR} {n : Nat} {ρ ρ1 : Rho} {st st1 st2 : Sto}
theorem wh_turn (hc : c ρ st = .ok true st1) (hb : b ρ st1 = .nx ρ1 st2) : whGo c b (n + 1) ρ st = whGo c b n ρ1 st2 := by
  rw [whGo, hc]
  show ((b ρ st1).turn (whGo c b n)) = _
  rw [hb]; rfl
theorem wh_stop (hc : c ρ st = .ok false st1) : whGo c b (n + 1) ρ st = .nx ρ st1 := by
  rw [whGo, hc]; rfl
theorem for_turn {w : W} {ws : List W} {f : W → Rho → Option Rho} {ρ0 : Rho} (hf : f w ρ0 = some ρ) (hb : b ρ st = .nx ρ1 st1) : forGo f b (w :: ws) ρ0 st = forGo f b ws ρ1 st1 := by
  rw [forGo, hf]
  show ((b ρ st).turn (forGo f b ws)) = _
  rw [hb]; rfl
/-- a loop over a list with an invariant of the number of turns -/
theorem for_inv {α : Type} {g : α → W} {f : W → Rho → Option Rho} (I : List α → Rho → Sto → Prop) : ∀ (l pre : List α) {ρ : Rho} {st : Sto}, I pre ρ st →
    (∀ pre x rest ρ st, pre ++ x :: rest = pre ++ x :: rest → x ∈ l → I pre ρ st → ∃ ρ1 ρ2 st2, f (g x) ρ = some ρ1 ∧ b ρ1 st = .nx ρ2 st2 ∧ I (pre ++ [x]) ρ2 st2) → ∃ ρ' st', forGo f b (l.map g) ρ st = .nx ρ' st' ∧ I (pre ++ l) ρ' st'
  | [], pre, ρ, st, h, _ => ⟨ρ, st, rfl, by simpa using h⟩
  | x :: xs, pre, ρ, st, h, hs => by
    obtain ⟨ρ1, ρ2, st2, hf, hb, hi⟩ := hs pre x xs ρ st rfl List.mem_cons_self h
    obtain ⟨ρ', st', e, hI⟩ := for_inv I xs (pre ++ [x]) hi fun p y r ρ st q m => hs p y r ρ st q (List.mem_cons_of_mem _ m)
    refine ⟨ρ', st', ?_, by simpa using hI⟩
    rw [List.map_cons, for_turn hf hb]
    exact e
/-- a loop over range(n), with an invariant of the turn -/
theorem for_rng {f : W → Rho → Option Rho} {m : Nat} (I : Nat → Rho → Sto → Prop) (h : I 0 ρ st) (hs : ∀ k ρ st, k < m → I k ρ st → ∃ ρ1 ρ2 st2, f (.int (k : Nat)) ρ = some ρ1 ∧ b ρ1 st = .nx ρ2 st2 ∧ I (k + 1) ρ2 st2) :
    ∃ ρ' st', forGo f b (rangeL 0 m) ρ st = .nx ρ' st' ∧ I m ρ' st' := by
  have key : ∀ (d lo : Nat) {ρ : Rho} {st : Sto}, lo + d = m → I lo ρ st → ∃ ρ' st', forGo f b ((List.range' lo d).map fun i => W.int (i : Nat)) ρ st = .nx ρ' st' ∧ I m ρ' st' := by
    intro d
    induction d with
    | zero => intro lo ρ st e hi; rw [Nat.add_zero] at e; subst e; exact ⟨ρ, st, rfl, hi⟩
    | succ d ih =>
      intro lo ρ st e hi
      obtain ⟨ρ1, ρ2, st2, hf, hb, hi2⟩ := hs lo ρ st (by omega) hi
      obtain ⟨ρ', st', e2, hI⟩ := ih (lo + 1) (by omega) hi2
      refine ⟨ρ', st', ?_, hI⟩
      rw [List.range'_succ, List.map_cons, for_turn hf hb]
      exact e2
  have := key m 0 (by omega) h
  have er : rangeL 0 m = (List.range' 0 m).map fun i => W.int (i : Nat) := by
    unfold rangeL
    rw [List.range_eq_range']
    apply List.map_congr_left
    intro i _
    simp
  rw [er]
  exact this
end
theorem gs_self {st : Sto} {k : Nat} {c d : Cell} (h : st[k]? = some c) : (st.set k d)[k]? = some d := by
  rw [List.getElem?_set_self]
  rcases Nat.lt_or_ge k st.length with h1 | h1
  · exact h1
  · rw [List.getElem?_eq_none h1] at h; cases h
theorem gs_same {st : Sto} {k : Nat} {c : Cell} (h : st[k]? = some c) : st.set k c = st := by
  apply List.ext_getElem?
  intro i
  by_cases q : k = i
  · subst q; rw [gs_self h, h]
  · rw [List.getElem?_set_ne q]
theorem ga_self {st : Sto} {c : Cell} : (st ++ [c])[st.length]? = some c := by simp
theorem ga_old {st : Sto} {k : Nat} {c d : Cell} (h : st[k]? = some c) : (st ++ [d])[k]? = some c := by
  have : k < st.length := by
    rcases Nat.lt_or_ge k st.length with h1 | h1
    · exact h1
    · rw [List.getElem?_eq_none h1] at h; cases h
  rw [List.getElem?_append_left this, h]
theorem gk_lt {st : Sto} {k : Nat} {c : Cell} (h : st[k]? = some c) : k < st.length := by
  rcases Nat.lt_or_ge k st.length with h1 | h1
  · exact h1
  · rw [List.getElem?_eq_none h1] at h; cases h
theorem lcGo_mapf {α : Type} {f : W → Sto → Res (Option W)} {e g : α → W} {st : Sto} : ∀ {l : List α}, (∀ a ∈ l, f (e a) st = .ok (some (g a)) st) → lcGo f (l.map e) st = .ok (l.map g) st
  | [], _ => rfl
  | a :: l, h => by
    rw [List.map_cons, lcGo, h a List.mem_cons_self]
    show ((lcGo f (l.map e) st).bind fun r st2 => Res.ok ([g a] ++ r) st2) = _
    rw [lcGo_mapf fun x hx => h x (List.mem_cons_of_mem _ hx)]
    rfl
theorem lc_mapf {α : Type} {cl : Nat → List W → Sto → Res W} {ρ : Rho} {st st1 : Sto} {vs : List (Str × Nat)} {i : Nat} {it : It} {elt : E} {l : List α} {e g : α → W} (hit : evIt cl it ρ st = .ok (l.map e) st1) (hl : l.length ≤ lim)
    (h : ∀ a ∈ l, ev cl elt ((wipeR ρ (vs.map (·.2))).set i (some (e a))) st1 = .ok (g a) st1) : evL cl (.lc vs [i] true it [] elt) ρ st = .ok (l.map g) st1 :=
  lc_go hit (by rw [List.length_map]; exact hl) (lcGo_mapf fun a ha => by simp [h a ha])
theorem strsOf_map {α : Type} {f : α → Str} : ∀ l : List α, strsOf (l.map fun a => W.str (f a)) = some (l.map f)
  | [] => rfl
  | a :: l => by rw [List.map_cons, strsOf, strsOf_map l]; rfl
theorem intsOf_map {α : Type} {f : α → Int} : ∀ l : List α, intsOf (l.map fun a => W.int (f a)) = some (l.map f)
  | [] => rfl
  | a :: l => by rw [List.map_cons, intsOf, intsOf_map l]; rfl
/-- a comprehension over range whose element moves the store -/
theorem lcGo_rng {f : W → Sto → Res (Option W)} (I : Nat → List W → Sto → Prop) : ∀ (items : List W) (i : Nat) (pre : List W) {st : Sto}, I i pre st → (∀ j pre st w, w ∈ items → I j pre st → ∃ y st2, f w st = .ok (some y) st2 ∧ I (j + 1) (pre ++ [y]) st2) →
    ∃ r st2, lcGo f items st = .ok r st2 ∧ I (i + items.length) (pre ++ r) st2
  | [], i, pre, st, h, _ => ⟨[], st, rfl, by simpa using h⟩
  | w :: ws, i, pre, st, h, hs => by
    obtain ⟨y, st2, e, hi⟩ := hs i pre st w List.mem_cons_self h
    obtain ⟨r, st3, e3, hi3⟩ := lcGo_rng I ws (i + 1) (pre ++ [y]) hi fun j p s w m => hs j p s w (List.mem_cons_of_mem _ m)
    refine ⟨y :: r, st3, ?_, ?_⟩
    · rw [lcGo, e]
      show ((lcGo f ws st2).bind fun r st2 => Res.ok ([y] ++ r) st2) = _
      rw [e3]; rfl
    · rw [List.append_assoc] at hi3
      rw [List.length_cons, show i + (ws.length + 1) = i + 1 + ws.length by omega]
      exact hi3
/-! ### texts -/
theorem len_app (x y : Str) : (x ++ y).length = x.length + y.length := by
  show (x.cps ++ y.cps).size = x.cps.size + y.cps.size
  rw [Array.size_append]
theorem strOk_app {x y : Str} (hx : strOk x = true) (hy : strOk y = true) : strOk (x ++ y) = true := by
  show (x.cps ++ y.cps).all _ = true
  rw [Array.all_append]
  exact Bool.and_eq_true_iff.mpr ⟨hx, hy⟩
def abc : Str := "abcdefghijklmnopqrstuvwxyz"
def isNm (s : Str) : Bool := decide (1 ≤ s.length) && decide (s.length ≤ 8) && s.cps.toList.all fun c => decide (c ∈ abc.cps.toList)
theorem isNm_len {s : Str} (h : isNm s = true) : 1 ≤ s.length ∧ s.length ≤ 8 := by
  unfold isNm at h
  simp only [Bool.and_eq_true, decide_eq_true_eq] at h
  exact h.1
theorem abc_lt : ∀ c ∈ abc.cps.toList, c < 0x110000 := by decide +kernel
theorem isNm_ok {s : Str} (h : isNm s = true) : strOk s = true := by
  unfold isNm at h
  simp only [Bool.and_eq_true, List.all_eq_true, decide_eq_true_eq] at h
  show s.cps.all (· < 0x110000) = true
  rw [← Array.all_toList]
  exact List.all_eq_true.mpr fun c hc => decide_eq_true (abc_lt c (h.2 c hc))
/-! ### terms -/
inductive Tm where
  | letter (s : Str)
  | sign (s : Str) (ps : List Tm)
mutual
def enc : Tm → W
  | .letter s => .tup [.str "letter", .str s]
  | .sign s ps => .tup [.str "sign", .str s, .tup (encs ps)]
def encs : List Tm → List W
  | [] => []
  | t :: ts => enc t :: encs ts
end
mutual
def okT : Tm → Bool
  | .letter s => isNm s
  | .sign s ps => isNm s && decide (ps.length ≤ 3) && okTs ps
def okTs : List Tm → Bool
  | [] => true
  | t :: ts => okT t && okTs ts
end
mutual
def szT : Tm → Nat
  | .letter _ => 1
  | .sign _ ps => 1 + szTs ps
def szTs : List Tm → Nat
  | [] => 0
  | t :: ts => szT t + szTs ts
end
mutual
def dpT : Tm → Nat
  | .letter _ => 1
  | .sign _ ps => 1 + dpTs ps
def dpTs : List Tm → Nat
  | [] => 0
  | t :: ts => max (dpT t) (dpTs ts)
end
theorem encs_len : ∀ ts : List Tm, (encs ts).length = ts.length
  | [] => rfl
  | t :: ts => by rw [encs, List.length_cons, List.length_cons, encs_len ts]
theorem encs_map : ∀ ts : List Tm, encs ts = ts.map enc
  | [] => rfl
  | t :: ts => by rw [encs, List.map_cons, encs_map ts]
theorem mem_encs {w : W} {ts : List Tm} (h : w ∈ encs ts) : ∃ t ∈ ts, w = enc t := by
  rw [encs_map] at h
  obtain ⟨t, ht, rfl⟩ := List.mem_map.mp h
  exact ⟨t, ht, rfl⟩
theorem okTs_mem : ∀ {ts : List Tm} {t : Tm}, okTs ts = true → t ∈ ts → okT t = true
  | x :: xs, t, h, m => by
    simp only [okTs, Bool.and_eq_true] at h
    rcases List.mem_cons.mp m with e | e
    · subst e; exact h.1
    · exact okTs_mem h.2 e
theorem dpTs_mem : ∀ {ts : List Tm} {t : Tm}, t ∈ ts → dpT t ≤ dpTs ts
  | x :: xs, t, m => by
    rw [dpTs]
    rcases List.mem_cons.mp m with e | e
    · subst e; exact Nat.le_max_left _ _
    · exact Nat.le_trans (dpTs_mem e) (Nat.le_max_right _ _)
theorem szTs_mem : ∀ {ts : List Tm} {t : Tm}, t ∈ ts → szT t ≤ szTs ts
  | x :: xs, t, m => by
    rw [szTs]
    rcases List.mem_cons.mp m with e | e
    · subst e; omega
    · have := szTs_mem e; omega
mutual
theorem dp_le_sz : ∀ t : Tm, dpT t ≤ szT t
  | .letter _ => Nat.le_refl _
  | .sign _ ps => by rw [dpT, szT]; have := dps_le_szs ps; omega
theorem dps_le_szs : ∀ ts : List Tm, dpTs ts ≤ szTs ts
  | [] => Nat.le_refl _
  | t :: ts => by rw [dpTs, szTs]; have := dp_le_sz t; have := dps_le_szs ts; omega
end
theorem szTs_append : ∀ (xs ys : List Tm), szTs (xs ++ ys) = szTs xs + szTs ys
  | [], _ => by simp [szTs]
  | x :: xs, ys => by rw [List.cons_append, szTs, szTs, szTs_append xs ys]; omega
theorem okTs_append : ∀ (xs ys : List Tm), okTs (xs ++ ys) = (okTs xs && okTs ys)
  | [], _ => by simp [okTs]
  | x :: xs, ys => by rw [List.cons_append, okTs, okTs, okTs_append xs ys, Bool.and_assoc]
theorem encs_append : ∀ (xs ys : List Tm), encs (xs ++ ys) = encs xs ++ encs ys
  | [], _ => rfl
  | x :: xs, ys => by rw [List.cons_append, encs, encs, encs_append xs ys]; rfl
/-! ### terms as data -/
theorem dp_pos : ∀ t : Tm, 1 ≤ dpT t
  | .letter _ => Nat.le_refl _
  | .sign _ ps => by rw [dpT]; omega
theorem sz_pos : ∀ t : Tm, 1 ≤ szT t
  | .letter _ => Nat.le_refl _
  | .sign _ ps => by rw [szT]; omega
mutual
theorem enc_data : ∀ {t : Tm}, okT t = true → okD (enc t) = true ∧ (toD (enc t)).canLay0 = true ∧ (toD (enc t)).depth ≤ 2 * dpT t
  | .letter s, h => by
    have hs := isNm_ok (s := s) (by simpa [okT] using h)
    refine ⟨by simp [enc, okD, okDs], ?_, ?_⟩
    · simp [enc, toD, toDs, PyData.canLay0, PyData.canLayAll0, ok_letter, hs]
    · simp [enc, toD, toDs, PyData.depth, PyData.depthAll, dpT]
  | .sign s ps, h => by
    simp only [okT, Bool.and_eq_true] at h
    have hs := isNm_ok (s := s) h.1.1
    have ih := encs_data (ts := ps) h.2
    refine ⟨by simp [enc, okD, okDs, ih.1], ?_, ?_⟩
    · simp [enc, toD, toDs, PyData.canLay0, PyData.canLayAll0, ok_sign, hs, ih.2.1]
    · simp [enc, toD, toDs, PyData.depth, PyData.depthAll, dpT]
      have := ih.2.2
      omega
theorem encs_data : ∀ {ts : List Tm}, okTs ts = true → okDs (encs ts) = true ∧ PyData.canLayAll0 (toDs (encs ts)) = true ∧ PyData.depthAll (toDs (encs ts)) ≤ 2 * dpTs ts
  | [], _ => ⟨rfl, rfl, Nat.le_refl _⟩
  | t :: ts, h => by
    simp only [okTs, Bool.and_eq_true] at h
    have h1 := enc_data (t := t) h.1
    have h2 := encs_data (ts := ts) h.2
    refine ⟨by simp [encs, okDs, h1.1, h2.1], by simp [encs, toDs, PyData.canLayAll0, h1.2.1, h2.2.1], ?_⟩
    simp only [encs, toDs, PyData.depthAll, dpTs]
    have := h1.2.2
    have := h2.2.2
    omega
end
section
variable {st : Sto}
theorem eqv_nil : ∀ ds : List PyData, PyData.eqvAll ds [] = ds.isEmpty
  | [] => by simp [PyData.eqvAll]
  | _ :: _ => by simp [PyData.eqvAll]
theorem toDs_emp : ∀ ws : List W, (toDs ws).isEmpty = ws.isEmpty
  | [] => rfl
  | _ :: _ => rfl
theorem eq_nil {w : W} {ws : List W} (h : deref st w = .lst ws) (ho : okDs ws = true) (hc : PyData.canLayAll0 (toDs ws) = true) : cmpW st .eq w (.lst []) = some ws.isEmpty := by
  show eqvW st w (.lst []) = _
  unfold eqvW
  simp only [h, deref_l, okD, okDs, toD, toDs, PyData.canLay0, PyData.canLayAll0, ho, hc, Bool.true_and, PyData.depth, PyData.depthAll, PyData.eqv, eqv_nil, toDs_emp]
  rw [if_pos (by simp)]
theorem ne_nil {w : W} {ws : List W} (h : deref st w = .lst ws) (ho : okDs ws = true) (hc : PyData.canLayAll0 (toDs ws) = true) : cmpW st .ne w (.lst []) = some (!ws.isEmpty) := by
  have := eq_nil h ho hc
  show ((cmpW st .eq w (.lst [])).map (! ·)) = _
  rw [this]; rfl
@[simp] theorem eq_nil0 : cmpW st .eq (.lst []) (.lst []) = some true := eq_nil (w := .lst []) (ws := []) rfl rfl rfl
theorem eq_tnil {ws : List W} (ho : okDs ws = true) (hc : PyData.canLayAll0 (toDs ws) = true) : cmpW st .eq (.tup ws) (.tup []) = some ws.isEmpty := by
  show eqvW st (.tup ws) (.tup []) = _
  unfold eqvW
  simp only [deref_t, okD, okDs, toD, toDs, PyData.canLay0, PyData.canLayAll0, ho, hc, Bool.true_and, PyData.depth, PyData.depthAll, PyData.eqv, eqv_nil, toDs_emp]
  rw [if_pos (by simp)]
end
end Mz
end
section
set_option autoImplicit false
namespace Mz
open PySem PySem.Spec PyProof.Rows L2 PySem.PyData
abbrev f_is_name : Nat := 0
abbrev f_parts_of : Nat := 1
abbrev f_is_head : Nat := 2
abbrev f_need_term : Nat := 3
abbrev f_count : Nat := 4
abbrev f_names_in : Nat := 5
abbrev f_size : Nat := 6
abbrev f_letters : Nat := 7
abbrev f_found_at : Nat := 8
abbrev f_part_at : Nat := 9
abbrev f_law_cell_at : Nat := 10
abbrev f_law_dice : Nat := 11
abbrev f_law_roll : Nat := 12
abbrev f_law_whole : Nat := 13
abbrev f_law_names : Nat := 14
abbrev f_law_term : Nat := 15
abbrev f_law_size : Nat := 16
abbrev f_law_letters : Nat := 17
abbrev f_law_is_term : Nat := 18
abbrev f_law_at : Nat := 19
abbrev f_law : Nat := 20
def d_is_name : Dfn := ⟨"is_name", 1, ["text", "sign"],
  [.ite (.orE [(.not (.isi (.var 0) "str")), (.not (.chain .le .le (.int 1) (.len (.var 0)) (.gint "LONGEST_NAME" 8)))]) [.ret (.bl false)] [],
   .ret (.cmp .eq (.frz (.lc [("sign", 1)] [1] true (.seq (.var 0)) [(.cmp .notin (.var 1) (.gstr "NAME_SIGNS" "abcdefghijklmnopqrstuvwxyz"))] (.var 1))) (.frz (.disp [])))]⟩
def d_parts_of : Dfn := ⟨"parts_of", 1, ["term"],
  [.ite (.cmp .eq (.ix (.var 0) (.int 0)) (.str "letter")) [.ret (.tup [])] [],
   .ret (.ix (.var 0) (.int 2))]⟩
def d_is_head : Dfn := ⟨"is_head", 1, ["thing"],
  [.ite (.orE [(.not (.isi (.var 0) "tuple")), (.cmp .eq (.var 0) (.tup [])), (.cmp .notin (.ix (.var 0) (.int 0)) (.tup [(.str "letter"), (.str "sign")]))]) [.ret (.bl false)] [],
   .ite (.cmp .eq (.ix (.var 0) (.int 0)) (.str "letter")) [.ret (.andE [(.cmp .eq (.len (.var 0)) (.int 2)), (.call f_is_name [(.ix (.var 0) (.int 1))])])] [],
   .ite (.orE [(.cmp .ne (.len (.var 0)) (.int 3)), (.not (.call f_is_name [(.ix (.var 0) (.int 1))]))]) [.ret (.bl false)] [],
   .ret (.andE [(.isi (.ix (.var 0) (.int 2)) "tuple"), (.cmp .le (.len (.ix (.var 0) (.int 2))) (.gint "MOST_PARTS" 3))])]⟩
def lb_need_term_0 : List S := [.set 3 (.popE (.var 1)), .set 2 (.bin .add (.var 2) (.int 1)), .ite (.orE [(.cmp .gt (.var 2) (.gint "MOST_SIZE" 100)), (.not (.call f_is_head [(.var 3)]))]) [.nev] [], .expr (.ext (.var 1) (.call f_parts_of [(.var 3)]))]
def lp_need_term_0 : S := .whil 100000 (.cmp .ne (.var 1) (.frz (.disp []))) lb_need_term_0
def d_need_term : Dfn := ⟨"need_term", 1, ["thing", "waiting", "many", "one"],
  [.set 1 (.new (.disp [(.var 0)])),
   .set 2 (.int 0),
   lp_need_term_0]⟩
def d_count : Dfn := ⟨"count", 1, ["term", "part"],
  [.ret (.bin .add (.int 1) (.sum (.frz (.lc [("part", 1)] [1] true (.seq (.call f_parts_of [(.var 0)])) [] (.call f_count [(.var 1)])))))]⟩
def lb_names_in_0 : List S := [.expr (.ext (.var 1) (.frz (.lc [("name", 3)] [3] true (.seq (.frzE (.call f_names_in [(.var 2)]))) [(.cmp .notin (.var 3) (.var 1))] (.var 3))))]
def lp_names_in_0 : S := .for [2] true (.seq (.ix (.var 0) (.int 2))) lb_names_in_0
def d_names_in : Dfn := ⟨"names_in", 1, ["term", "found", "part", "name"],
  [.ite (.cmp .eq (.ix (.var 0) (.int 0)) (.str "letter")) [.ret (.new (.disp [(.ix (.var 0) (.int 1))]))] [],
   .set 1 (.new (.disp [])),
   lp_names_in_0,
   .ret (.new (.sorted (.var 1)))]⟩
def d_size : Dfn := ⟨"size", 1, ["term"],
  [.expr (.call f_need_term [(.var 0)]),
   .ret (.call f_count [(.var 0)])]⟩
def d_letters : Dfn := ⟨"letters", 1, ["term"],
  [.expr (.call f_need_term [(.var 0)]),
   .ret (.call f_names_in [(.var 0)])]⟩
def lb_found_at_0 : List S := [.ite (.not (.chain .le .lt (.int 0) (.var 2) (.len (.call f_parts_of [(.var 0)])))) [.ret .non] [], .set 0 (.ix (.call f_parts_of [(.var 0)]) (.var 2))]
def lp_found_at_0 : S := .for [2] true (.seq (.var 1)) lb_found_at_0
def d_found_at : Dfn := ⟨"found_at", 2, ["term", "place", "number"],
  [lp_found_at_0,
   .ret (.var 0)]⟩
def d_part_at : Dfn := ⟨"part_at", 2, ["term", "place"],
  [.expr (.call f_need_term [(.var 0)]),
   .ret (.call f_found_at [(.var 0), (.var 1)])]⟩
def d_law_cell_at : Dfn := ⟨"_law_cell_at", 2, ["_law_script", "_law_k"],
  [.ite (.cmp .lt (.var 1) (.len (.var 0))) [.ret (.ix (.var 0) (.var 1))] [],
   .ret (.int 0)]⟩
def d_law_dice : Dfn := ⟨"_law_dice", 1, ["_law_cell"],
  [.ret (.new (.disp [(.bin .mod (.var 0) (.int 2147483647)), (.bin .mul (.bin .fdiv (.var 0) (.int 2147483647)) (.intof (.cmp .ge (.var 0) (.bin .pow (.int 10) (.int 18)))))]))]⟩
def d_law_roll : Dfn := ⟨"_law_roll", 2, ["_law_dice_here", "_law_most", "_law_found"],
  [.ite (.cmp .gt (.ix (.var 0) (.int 1)) (.int 0)) [.set 2 (.bin .mod (.ix (.var 0) (.int 1)) (.var 1)), .setL (.var 0) (.int 1) (.bin .fdiv (.ix (.var 0) (.int 1)) (.var 1)), .ret (.var 2)] [],
   .setL (.var 0) (.int 0) (.bin .mod (.bin .add (.bin .mul (.ix (.var 0) (.int 0)) (.int 48271)) (.int 11)) (.int 2147483647)),
   .ret (.bin .mod (.bin .fdiv (.ix (.var 0) (.int 0)) (.int 7)) (.var 1))]⟩
def d_law_whole : Dfn := ⟨"_law_whole", 1, ["_law_found"],
  [.ret (.andE [(.isi (.var 0) "int"), (.not (.isi (.var 0) "bool"))])]⟩
def lb_law_names_1 : List S := [.set 9 (.bin .add (.bin .mod (.bin .fdiv (.var 0) (.int 64)) (.int 26)) (.bin .mul (.int 5) (.var 8))), .ite (.cmp .eq (.var 8) (.var 4)) [.set 9 (.bin .add (.var 9) (.var 6))] [], .set 7 (.bin .add (.var 7) (.ix (.var 2) (.bin .mod (.var 9) (.int 26))))]
def lp_law_names_1 : S := .for [8] true (.range1 (.var 3)) lb_law_names_1
def lb_law_names_0 : List S := [.set 7 (.str ""), lp_law_names_1, .expr (.app (.var 5) (.var 7))]
def lp_law_names_0 : S := .for [6] true (.range1 (.var 1)) lb_law_names_0
def d_law_names : Dfn := ⟨"_law_names", 2, ["_law_cell", "_law_many", "_law_signs", "_law_long", "_law_at_here", "_law_out", "_law_k", "_law_name", "_law_place", "_law_step"],
  [.set 2 (.str "abcdefghijklmnopqrstuvwxyz"),
   .set 3 (.bin .add (.int 1) (.bin .mod (.var 0) (.int 8))),
   .set 4 (.bin .mod (.bin .fdiv (.var 0) (.int 8)) (.var 3)),
   .set 5 (.new (.disp [])),
   lp_law_names_0,
   .ret (.var 5)]⟩
def d_law_term : Dfn := ⟨"_law_term", 3, ["_law_dice_here", "_law_names_here", "_law_deep", "_law_way", "_law_name", "_law_parts", "_law_k"],
  [.set 3 (.call f_law_roll [(.var 0), (.int 7)]),
   .ite (.cmp .lt (.var 3) (.int 3)) [.ret (.tup [(.str "letter"), (.ix (.var 1) (.call f_law_roll [(.var 0), (.int 3)]))])] [],
   .set 4 (.ix (.var 1) (.bin .add (.int 3) (.call f_law_roll [(.var 0), (.int 4)]))),
   .ite (.cmp .eq (.var 2) (.int 0)) [.ret (.tup [(.str "sign"), (.var 4), (.tup [])])] [],
   .setC 5 false (.lc [("_law_k", 6)] [6] true (.range1 (.call f_law_roll [(.var 0), (.int 4)])) [] (.call f_law_term [(.var 0), (.var 1), (.bin .sub (.var 2) (.int 1))])),
   .ret (.tup [(.str "sign"), (.var 4), (.tupof (.var 5))])]⟩
def d_law_size : Dfn := ⟨"_law_size", 1, ["_law_term_here", "_law_part"],
  [.ite (.cmp .eq (.ix (.var 0) (.int 0)) (.str "letter")) [.ret (.int 1)] [],
   .ret (.bin .add (.int 1) (.sum (.frz (.lc [("_law_part", 1)] [1] true (.seq (.ix (.var 0) (.int 2))) [] (.call f_law_size [(.var 1)])))))]⟩
def lb_law_letters_0 : List S := [.set 1 (.frz (.cat (.var 1) (.frz (.lc [("_law_name", 3)] [3] true (.seq (.call f_law_letters [(.var 2)])) [(.cmp .notin (.var 3) (.var 1))] (.var 3)))))]
def lp_law_letters_0 : S := .for [2] true (.seq (.ix (.var 0) (.int 2))) lb_law_letters_0
def d_law_letters : Dfn := ⟨"_law_letters", 1, ["_law_term_here", "_law_out", "_law_part", "_law_name"],
  [.ite (.cmp .eq (.ix (.var 0) (.int 0)) (.str "letter")) [.ret (.frz (.disp [(.ix (.var 0) (.int 1))]))] [],
   .set 1 (.frz (.disp [])),
   lp_law_letters_0,
   .ret (.frz (.sorted (.var 1)))]⟩
def lb_law_is_term_0 : List S := [.set 3 (.ix (.var 2) (.neg (.int 1))), .set 2 (.frz (.sl (.var 2) none (some (.neg (.int 1))))), .ite (.orE [(.not (.isi (.var 3) "tuple")), (.cmp .lt (.len (.var 3)) (.int 2)), (.not (.isi (.ix (.var 3) (.int 0)) "str")), (.not (.isi (.ix (.var 3) (.int 1)) "str"))]) [.ret (.bl false)] [], .ite (.cmp .eq (.ix (.var 3) (.int 0)) (.str "sign")) [.ite (.orE [(.cmp .ne (.len (.var 3)) (.int 3)), (.not (.isi (.ix (.var 3) (.int 2)) "tuple"))]) [.ret (.bl false)] [], .set 2 (.frz (.cat (.var 2) (.frz (.ofE (.ix (.var 3) (.int 2))))))] []]
def lp_law_is_term_0 : S := .whil 100000 (.cmp .ne (.var 2) (.frz (.disp []))) lb_law_is_term_0
def d_law_is_term : Dfn := ⟨"_law_is_term", 2, ["_law_found", "_law_due", "_law_waiting", "_law_one"],
  [.set 2 (.frz (.disp [(.var 0)])),
   lp_law_is_term_0,
   .ret (.cmp .eq (.var 0) (.var 1))]⟩
def lb_law_at_0 : List S := [.ite (.orE [(.cmp .eq (.ix (.var 0) (.int 0)) (.str "letter")), (.not (.chain .le .lt (.int 0) (.var 2) (.len (.ix (.var 0) (.int 2)))))]) [.ret .non] [], .set 0 (.ix (.ix (.var 0) (.int 2)) (.var 2))]
def lp_law_at_0 : S := .for [2] true (.seq (.var 1)) lb_law_at_0
def d_law_at : Dfn := ⟨"_law_at", 2, ["_law_term_here", "_law_place", "_law_number"],
  [lp_law_at_0,
   .ret (.var 0)]⟩
def lb_law_0 : List S := [.set 6 (.tupof (.frz (.lc [("_law_k", 9)] [9] true (.range1 (.call f_law_roll [(.var 1), (.int 5)])) [] (.bin .sub (.call f_law_roll [(.var 1), (.int 4)]) (.intof (.cmp .eq (.call f_law_roll [(.var 1), (.int 9)]) (.int 0))))))), .set 7 (.call f_law_at [(.var 3), (.var 6)]), .set 8 (.call f_part_at [(.var 3), (.var 6)]), .ite (.orE [(.cmp .ne (.cmp .isN (.var 7) .non) (.cmp .isN (.var 8) .non)), (.andE [(.cmp .notN (.var 7) .non), (.not (.call f_law_is_term [(.var 8), (.var 7)]))])]) [.ret (.bl false)] []]
def lp_law_0 : S := .for [5] true (.range1 (.int 4)) lb_law_0
def d_law : Dfn := ⟨"law", 1, ["_law_script", "_law_dice_here", "_law_names_here", "_law_term_here", "_law_found", "_law_turn", "_law_place", "_law_due", "_law_told", "_law_k"],
  [.set 1 (.call f_law_dice [(.call f_law_cell_at [(.var 0), (.int 0)])]),
   .set 2 (.call f_law_names [(.call f_law_cell_at [(.var 0), (.int 1)]), (.int 7)]),
   .set 3 (.call f_law_term [(.var 1), (.var 2), (.int 4)]),
   .ite (.cmp .gt (.call f_law_size [(.var 3)]) (.int 100)) [.set 3 (.tup [(.str "sign"), (.ix (.var 2) (.int 3)), (.tup [(.call f_law_term [(.var 1), (.var 2), (.int 1)])])])] [],
   .ite (.orE [(.not (.call f_law_whole [(.call f_size [(.var 3)])])), (.cmp .ne (.call f_size [(.var 3)]) (.call f_law_size [(.var 3)]))]) [.ret (.bl false)] [],
   .set 4 (.call f_letters [(.var 3)]),
   .ite (.orE [(.not (.isi (.var 4) "list")), (.cmp .ne (.var 4) (.call f_law_letters [(.var 3)]))]) [.ret (.bl false)] [],
   .expr (.app (.var 4) (.str "x")),
   .ite (.cmp .ne (.call f_letters [(.var 3)]) (.call f_law_letters [(.var 3)])) [.ret (.bl false)] [],
   lp_law_0,
   .ret (.bl true)]⟩
def D : List Dfn := [d_is_name, d_parts_of, d_is_head, d_need_term, d_count, d_names_in, d_size, d_letters, d_found_at, d_part_at, d_law_cell_at, d_law_dice, d_law_roll, d_law_whole, d_law_names, d_law_term, d_law_size, d_law_letters, d_law_is_term, d_law_at, d_law]
/-! ### names, heads -/
theorem is_name_ok {n : Nat} {s : Str} {st : Sto} (hs : isNm s = true) : callN D (n + 1) f_is_name [.str s] st = .ok (.bl true) st := by
  have hl := isNm_len hs
  have h1 : s.length ≤ lim := Nat.le_trans hl.2 (by decide)
  rw [call_eq (d := d_is_name) rfl rfl]
  have hlc := lc_filter (cl := callN D n) (vs := [("sign", 1)]) (i := 1) (it := .seq (.var 0)) (c := .cmp .notin (.var 1) (.gstr "NAME_SIGNS" "abcdefghijklmnopqrstuvwxyz")) (elt := .var 1) (ρ := [some (.str s), none]) (st := st) (st1 := st)
    (items := s.cps.toList.map fun c => .str ⟨#[c]⟩) (p := fun _ => false) (g := id) (by simp) (by rw [List.length_map]; exact h1) (fun w hw => by
      obtain ⟨c, hc, rfl⟩ := List.mem_map.mp hw
      have hin : c ∈ abc.cps.toList := by
        unfold isNm at hs
        simp only [Bool.and_eq_true, List.all_eq_true, decide_eq_true_eq] at hs
        exact hs.2 c hc
      have hcmp : cmpW st .notin (.str ⟨#[c]⟩) (.str "abcdefghijklmnopqrstuvwxyz") = some false := by
        show ((inW st (.str ⟨#[c]⟩) (.str abc)).map (! ·)) = _
        have : inW st (.str ⟨#[c]⟩) (.str abc) = some (decide (c ∈ abc.cps.toList)) := rfl
        rw [this, decide_eq_true hin]; rfl
      simp [hcmp]) (fun w hw h => by cases h)
  rw [List.filter_eq_nil_iff.mpr (fun _ _ => Bool.false_ne_true), List.map_nil] at hlc
  have e8 : ((s.length : Nat) : Int) ≤ 8 := by omega
  have e1 : (1 : Int) ≤ ((s.length : Nat) : Int) := by omega
  simp [d_is_name, start0, len_s h1, e1, e8, hlc]
theorem parts_l {n : Nat} {s : Str} {st : Sto} : callN D (n + 1) f_parts_of [enc (.letter s)] st = .ok (.tup []) st := by
  rw [call_eq (d := d_parts_of) rfl rfl]
  simp [d_parts_of, start0, enc]
theorem parts_s {n : Nat} {s : Str} {ps : List Tm} {st : Sto} : callN D (n + 1) f_parts_of [enc (.sign s ps)] st = .ok (.tup (encs ps)) st := by
  rw [call_eq (d := d_parts_of) rfl rfl]
  simp [d_parts_of, start0, enc]
def partsT : Tm → List Tm
  | .letter _ => []
  | .sign _ ps => ps
theorem parts_ok {n : Nat} {t : Tm} {st : Sto} : callN D (n + 1) f_parts_of [enc t] st = .ok (.tup (encs (partsT t))) st := by
  cases t with
  | letter s => exact parts_l
  | sign s ps => exact parts_s
theorem is_head_ok {n : Nat} {t : Tm} {st : Sto} (h : okT t = true) : callN D (n + 2) f_is_head [enc t] st = .ok (.bl true) st := by
  rw [call_eq (d := d_is_head) rfl rfl]
  have hd := enc_data h
  cases t with
  | letter s =>
    have hs : isNm s = true := by simpa [okT] using h
    have hne : cmpW st .eq (.tup [.str "letter", .str s]) (.tup []) = some false := eq_tnil (by simp [okDs, okD]) (by simp [toDs, toD, canLayAll0, canLay0, ok_letter, isNm_ok hs])
    simp [d_is_head, start0, enc, hne, is_name_ok hs]
  | sign s ps =>
    simp only [okT, Bool.and_eq_true, decide_eq_true_eq] at h
    have hps := encs_data h.2
    have hne : cmpW st .eq (.tup [.str "sign", .str s, .tup (encs ps)]) (.tup []) = some false := eq_tnil (by simp [okDs, okD, hps.1]) (by simp [toDs, toD, canLayAll0, canLay0, ok_sign, isNm_ok h.1.1, hps.2.1])
    have h3 : ((encs ps).length : Int) ≤ 3 := by rw [encs_len]; omega
    simp [d_is_head, start0, enc, hne, is_name_ok h.1.1, h3]
/-! ### need_term -/
theorem encs_len_le : ∀ l : List Tm, (encs l).length ≤ szTs l
  | [] => Nat.le_refl _
  | x :: xs => by rw [encs, szTs, List.length_cons]; have := sz_pos x; have := encs_len_le xs; omega
theorem parts_sz (t : Tm) : szTs (partsT t) + 1 = szT t := by
  cases t with
  | letter s => rfl
  | sign s ps => rw [partsT, szT]; omega
theorem parts_okT {t : Tm} (h : okT t = true) : okTs (partsT t) = true := by
  cases t with
  | letter s => rfl
  | sign s ps => simp only [okT, Bool.and_eq_true] at h; exact h.2
theorem need_turn {n : Nat} {ts : List Tm} {t : Tm} {many k : Nat} {st : Sto} {w0 : W} {o : Option W} (ht : okT t = true) (hm : many + 1 ≤ 100) (hz : szTs ts ≤ 100) (hz2 : szT t ≤ 100) (hk : st[k]? = some (.lst (encs (ts ++ [t])))) :
    exs (callN D (n + 2)) lb_need_term_0 [some w0, some (.ref k), some (.int (many : Nat)), o] st = .nx [some w0, some (.ref k), some (.int ((many + 1 : Nat) : Int)), some (enc t)] (st.set k (.lst (encs (ts ++ partsT t)))) := by
  have hlast : (encs (ts ++ [t]))[(encs (ts ++ [t])).length - 1]? = some (enc t) := by
    rw [encs_append]
    simp [encs]
  have hdl : (encs (ts ++ [t])).dropLast = encs ts := by
    rw [encs_append]
    simp [encs]
  have hlt : ¬ (100 : Int) < (many : Int) + 1 := by omega
  have hl1 := encs_len_le ts
  have hl2 := encs_len_le (partsT t)
  have hp := parts_sz t
  have hg : (encs ts).length + (encs (partsT t)).length ≤ lim := by show _ ≤ 16777216; omega
  have hs1 : (st.set k (.lst (encs ts)))[k]? = some (.lst (encs ts)) := gs_self hk
  have ec : ((many + 1 : Nat) : Int) = (many : Int) + 1 := by omega
  rw [ec, encs_append ts (partsT t)]
  simp [lb_need_term_0, hk, hlast, hdl, hlt, is_head_ok ht, parts_ok, hs1, guard_of (decide_eq_true hg)]
theorem need_loop {n : Nat} : ∀ (fuel : Nat) (ts : List Tm) (many : Nat) (k : Nat) (st : Sto) (w0 : W) (o : Option W), okTs ts = true → many + szTs ts ≤ 100 → szTs ts < fuel → st[k]? = some (.lst (encs ts)) →
    ∃ ρ', whGo (fun ρ st => boolW (ev (callN D (n + 2)) (.cmp .ne (.var 1) (.frz (.disp []))) ρ st)) (exs (callN D (n + 2)) lb_need_term_0) fuel [some w0, some (.ref k), some (.int (many : Nat)), o] st = .nx ρ' (st.set k (.lst []))
  | 0, _, _, _, _, _, _, _, _, h, _ => absurd h (Nat.not_lt_zero _)
  | fuel + 1, ts, many, k, st, w0, o, hok, hm, hf, hk => by
    have hd := encs_data hok
    have hne := ne_nil (st := st) (w := .ref k) (deref_r hk) hd.1 hd.2.1
    rcases List.eq_nil_or_concat ts with rfl | ⟨ts', t, rfl⟩
    · have e : (encs ([] : List Tm)).isEmpty = true := rfl
      rw [e] at hne
      refine ⟨[some w0, some (.ref k), some (.int (many : Nat)), o], ?_⟩
      rw [wh_stop (st1 := st) (by simp [hne])]
      show _ = SR.nx _ (st.set k (.lst (encs [])))
      rw [gs_same hk]
    · rw [List.concat_eq_append] at *
      rw [okTs_append] at hok
      simp only [okTs, Bool.and_eq_true, Bool.and_true] at hok
      rw [szTs_append] at hm hf
      simp only [szTs, Nat.add_zero] at hm hf
      have hne' : cmpW st .ne (.ref k) (.lst []) = some true := by
        rw [hne, encs_append]
        simp [encs]
      have ht : okT t = true := by simpa using hok.2
      have hp := sz_pos t
      have hq := parts_sz t
      obtain ⟨ρ', ih⟩ := need_loop (n := n) fuel (ts' ++ partsT t) (many + 1) k (st.set k (.lst (encs (ts' ++ partsT t)))) w0 (some (enc t))
        (by rw [okTs_append, Bool.and_eq_true]; exact ⟨hok.1, parts_okT ht⟩) (by rw [szTs_append]; omega) (by rw [szTs_append]; omega) (gs_self hk)
      rw [List.set_set] at ih
      refine ⟨ρ', ?_⟩
      rw [wh_turn (st1 := st) (by simp [hne']) (need_turn ht (by omega) (by omega) (by omega) hk)]
      exact ih
theorem need_term_ok {n : Nat} {t : Tm} {st : Sto} (h : okT t = true) (hz : szT t ≤ 100) : callN D (n + 3) f_need_term [enc t] st = .ok .non (st ++ [.lst []]) := by
  rw [call_eq (d := d_need_term) rfl rfl]
  obtain ⟨ρ', hw⟩ := need_loop (n := n) 100000 [t] 0 st.length (st ++ [.lst [enc t]]) (enc t) none (by simp [okTs, h]) (by simp [szTs]; omega) (by simp [szTs]; omega) (by simp [encs])
  have e : (st ++ [Cell.lst [enc t]]).set st.length (.lst []) = st ++ [.lst []] := by
    simp
  rw [e, ← ex_while] at hw
  change ex _ lp_need_term_0 _ _ = _ at hw
  simp [d_need_term, start0]
  rw [show ((0 : Nat) : Int) = 0 from rfl] at hw
  simp [hw]
/-! ### the law's own helpers -/
theorem cell_at_ok {n : Nat} {ns : List Int} {k : Nat} {st : Sto} : ∃ c : Int, callN D (n + 1) f_law_cell_at [.scr (ns.map W.int), .int (k : Nat)] st = .ok (.int c) st := by
  rw [call_eq (d := d_law_cell_at) rfl rfl]
  rcases Nat.lt_or_ge k ns.length with h | h
  · have h1 : ((k : Nat) : Int) < (ns.length : Nat) := by omega
    refine ⟨ns[k], ?_⟩
    have e : atI (ns.map W.int) ((k : Nat) : Int) = some (.int ns[k]) := by
      rw [at_in (by omega) (by rw [List.length_map]; exact h1)]
      simp [h]
    simp [d_law_cell_at, start0, h1, e]
  · have h1 : ¬ ((k : Nat) : Int) < (ns.length : Nat) := by omega
    exact ⟨0, by simp [d_law_cell_at, start0, h1]⟩
theorem dice_ok {n : Nat} {c : Int} {st : Sto} : ∃ a b : Int, 0 ≤ a ∧ callN D (n + 1) f_law_dice [.int c] st = .ok (.ref st.length) (st ++ [.lst [.int a, .int b]]) := by
  rw [call_eq (d := d_law_dice) rfl rfl]
  refine ⟨c % 2147483647, c / 2147483647 * (if 1000000000000000000 ≤ c then 1 else 0), Int.emod_nonneg _ (by omega), ?_⟩
  have e1 : binW st .mod (.int c) (.int 2147483647) = some (.int (c % 2147483647)) := modI (by omega)
  have e2 : binW st .fdiv (.int c) (.int 2147483647) = some (.int (c / 2147483647)) := fdivI (by omega) (by omega)
  have e3 : binW st .mul (.int (c / 2147483647)) (.int (if 1000000000000000000 ≤ c then 1 else 0)) = some (.int (c / 2147483647 * (if 1000000000000000000 ≤ c then 1 else 0))) :=
    mulI (Or.inr (by split <;> omega))
  simp [d_law_dice, start0, e1, e2, e3]
theorem roll_ok {n : Nat} {k : Nat} {a b m : Int} {st : Sto} (hk : st[k]? = some (.lst [.int a, .int b])) (ha : 0 ≤ a) (hm : 0 < m) (hm2 : m < 100) :
    ∃ r a' b' : Int, 0 ≤ r ∧ r < m ∧ 0 ≤ a' ∧ callN D (n + 1) f_law_roll [.ref k, .int m] st = .ok (.int r) (st.set k (.lst [.int a', .int b'])) := by
  rw [call_eq (d := d_law_roll) rfl rfl]
  have hi : ∀ i, ixW st (.ref k) (.int i) = atI [.int a, .int b] i := fun i => ix_r hk
  by_cases h : 0 < b
  · refine ⟨b % m, a, b / m, Int.emod_nonneg _ (by omega), Int.emod_lt_of_pos _ hm, ha, ?_⟩
    have e1 : binW st .mod (.int b) (.int m) = some (.int (b % m)) := modI hm
    have e2 : binW st .fdiv (.int b) (.int m) = some (.int (b / m)) := fdivI hm (by omega)
    have e3 : ixN 2 1 = some 1 := by decide
    simp [d_law_roll, start0, hi, h, e1, e2, e3, hk]
  · have hmod := Int.emod_nonneg (a * 48271 + 11) (b := 2147483647) (by omega)
    refine ⟨(a * 48271 + 11) % 2147483647 / 7 % m, (a * 48271 + 11) % 2147483647, b, Int.emod_nonneg _ (by omega), Int.emod_lt_of_pos _ hm, hmod, ?_⟩
    have e1 : binW st .mul (.int a) (.int 48271) = some (.int (a * 48271)) := mulI (Or.inr (by omega))
    have e2 : binW st .mod (.int (a * 48271 + 11)) (.int 2147483647) = some (.int ((a * 48271 + 11) % 2147483647)) := modI (by omega)
    have e3 : ixN 2 0 = some 0 := by decide
    have hi2 : ixW (st.set k (.lst [.int ((a * 48271 + 11) % 2147483647), .int b])) (.ref k) (.int 0) = some (.int ((a * 48271 + 11) % 2147483647)) := by rw [ix_r (gs_self hk)]; rfl
    have e4 : binW (st.set k (.lst [.int ((a * 48271 + 11) % 2147483647), .int b])) .fdiv (.int ((a * 48271 + 11) % 2147483647)) (.int 7) = some (.int ((a * 48271 + 11) % 2147483647 / 7)) := fdivI (by omega) (by omega)
    have e5 : binW (st.set k (.lst [.int ((a * 48271 + 11) % 2147483647), .int b])) .mod (.int ((a * 48271 + 11) % 2147483647 / 7)) (.int m) = some (.int ((a * 48271 + 11) % 2147483647 / 7 % m)) := modI hm
    simp [d_law_roll, start0, hi, h, e1, e2, e3, hk, hi2, e4, e5]
/-! ### names -/
def okN (s : Str) : Bool := s.cps.toList.all fun c => decide (c ∈ abc.cps.toList)
theorem abc_len : abc.length = 26 := by decide +kernel
theorem abc_at (i : Int) (h0 : 0 ≤ i) (h1 : i < 26) : ∃ c, atI abc.cps.toList i = some c ∧ c ∈ abc.cps.toList := by
  have hl : abc.cps.toList.length = 26 := by decide +kernel
  rw [at_in h0 (by rw [hl]; exact h1)]
  have : i.toNat < abc.cps.toList.length := by omega
  exact ⟨abc.cps.toList[i.toNat], List.getElem?_eq_getElem this, List.getElem_mem this⟩
theorem okN_push {s : Str} {c : Nat} (h : okN s = true) (hc : c ∈ abc.cps.toList) : okN (s ++ ⟨#[c]⟩) = true := by
  unfold okN at h ⊢
  have : (s ++ (⟨#[c]⟩ : Str)).cps.toList = s.cps.toList ++ [c] := by
    show (s.cps ++ #[c]).toList = _
    simp
  rw [this, List.all_append, h, List.all_cons, List.all_nil, decide_eq_true hc]
  rfl
theorem isNm_of {s : Str} (h : okN s = true) (h1 : 1 ≤ s.length) (h2 : s.length ≤ 8) : isNm s = true := by
  unfold isNm
  simp [h1, h2]
  simpa [okN] using h
def m26 (z : Int) : Int := z % 26
theorem m26_at (z : Int) : ∃ c, atI abc.cps.toList (m26 z) = some c ∧ c ∈ abc.cps.toList := abc_at _ (Int.emod_nonneg _ (by omega)) (Int.emod_lt_of_pos _ (by omega))
theorem name_turn {cl : Nat → List W → Sto → Res W} {long at' k place : Nat} {C : Int} {many : W} {outc : W} {nm : Str} {x9 : Option W} {st : Sto} (hN : nm.length ≤ 8) :
    ∃ ch x9', ch ∈ abc.cps.toList ∧ exs cl lb_law_names_1 [some (.int C), some many, some (.str abc), some (.int (long : Nat)), some (.int (at' : Nat)), some outc, some (.int (k : Nat)), some (.str nm), some (.int (place : Nat)), x9] st =
      .nx [some (.int C), some many, some (.str abc), some (.int (long : Nat)), some (.int (at' : Nat)), some outc, some (.int (k : Nat)), some (.str (nm ++ ⟨#[ch]⟩)), some (.int (place : Nat)), x9'] st := by
  have e1 : binW st .fdiv (.int C) (.int 64) = some (.int (C / 64)) := fdivI (by omega) (by omega)
  have e2 : ∀ z : Int, binW st .mod (.int z) (.int 26) = some (.int (m26 z)) := fun z => modI (by omega)
  have e3 : ∀ z : Int, binW st .mul (.int 5) (.int z) = some (.int (5 * z)) := fun z => mulI (Or.inl (by omega))
  have hx : ∀ i, ixW st (.str abc) (.int i) = (atI abc.cps.toList i).map fun c => .str ⟨#[c]⟩ := fun i => ix_s (by rw [abc_len]; decide)
  have hadd : ∀ ch : Nat, binW st .add (.str nm) (.str ⟨#[ch]⟩) = some (.str (nm ++ ⟨#[ch]⟩)) := fun ch => addS (by show nm.length + 1 ≤ 16777216; omega)
  by_cases h : ((place : Nat) : Int) = (at' : Nat)
  · obtain ⟨ch, h1, h2⟩ := m26_at (m26 (C / 64) + 5 * (at' : Nat) + (k : Nat))
    refine ⟨ch, some (.int (m26 (C / 64) + 5 * (at' : Nat) + (k : Nat))), h2, ?_⟩
    simp [lb_law_names_1, e1, e2, e3, h, hx, h1, hadd]
  · obtain ⟨ch, h1, h2⟩ := m26_at (m26 (C / 64) + 5 * (place : Nat))
    refine ⟨ch, some (.int (m26 (C / 64) + 5 * (place : Nat))), h2, ?_⟩
    simp [lb_law_names_1, e1, e2, e3, h, hx, h1, hadd]

theorem okN_nil : okN "" = true := by decide +kernel
theorem len_nil : Str.length "" = 0 := by decide +kernel
theorem name_loop {cl : Nat → List W → Sto → Res W} {long at' k : Nat} {C : Int} {many outc : W} {x9 x8 : Option W} {st : Sto} (h1 : 1 ≤ long) (h8 : long ≤ 8) :
    ∃ nm x8' x9', isNm nm = true ∧ ex cl lp_law_names_1 [some (.int C), some many, some (.str abc), some (.int (long : Nat)), some (.int (at' : Nat)), some outc, some (.int (k : Nat)), some (.str ""), x8, x9] st =
      .nx [some (.int C), some many, some (.str abc), some (.int (long : Nat)), some (.int (at' : Nat)), some outc, some (.int (k : Nat)), some (.str nm), x8', x9'] st := by
  unfold lp_law_names_1
  rw [ex_for]
  have hit : evIt cl (.range1 (.var 3)) [some (.int C), some many, some (.str abc), some (.int (long : Nat)), some (.int (at' : Nat)), some outc, some (.int (k : Nat)), some (.str ""), x8, x9] st = .ok (rangeL 0 long) st := it_rng (by simp) (by omega)
  rw [hit, go_ok]
  obtain ⟨ρ', st', e, nm, x8', x9', ok, hl, rfl, rfl⟩ := for_rng (m := long) (f := setTg [8] true) (b := exs cl lb_law_names_1) (ρ := [some (.int C), some many, some (.str abc), some (.int (long : Nat)), some (.int (at' : Nat)), some outc, some (.int (k : Nat)), some (.str ""), x8, x9]) (st := st)
    (fun j ρ s => ∃ (nm : Str) (x8' x9' : Option W), okN nm = true ∧ nm.length = j ∧ ρ = [some (.int C), some many, some (.str abc), some (.int (long : Nat)), some (.int (at' : Nat)), some outc, some (.int (k : Nat)), some (.str nm), x8', x9'] ∧ s = st)
    ⟨"", x8, x9, okN_nil, len_nil, rfl, rfl⟩ (fun j ρ s hj ⟨nm, x8', x9', ok, hl, e1, e2⟩ => by
      subst e1; subst e2
      obtain ⟨ch, x9n, hc, e⟩ := name_turn (cl := cl) (long := long) (at' := at') (k := k) (place := j) (C := C) (many := many) (outc := outc) (nm := nm) (x9 := x9') (st := s) (by omega)
      exact ⟨_, _, _, setTg_one, e, nm ++ ⟨#[ch]⟩, _, x9n, okN_push ok hc, by rw [len_app, hl]; rfl, rfl, rfl⟩)
  exact ⟨nm, x8', x9', isNm_of ok (by omega) (by omega), e⟩
theorem names_ok {n : Nat} {C : Int} {st : Sto} : ∃ nms : List Str, nms.length = 7 ∧ (∀ s ∈ nms, isNm s = true) ∧ callN D (n + 1) f_law_names [.int C, .int 7] st = .ok (.ref st.length) (st ++ [.lst (nms.map W.str)]) := by
  rw [call_eq (d := d_law_names) rfl rfl]
  have e1 : ∀ st : Sto, binW st .mod (.int C) (.int 8) = some (.int (C % 8)) := fun st => modI (by omega)
  have e2 : ∀ st : Sto, binW st .fdiv (.int C) (.int 8) = some (.int (C / 8)) := fun st => fdivI (by omega) (by omega)
  have h8 := Int.emod_nonneg C (b := 8) (by omega)
  have h9 := Int.emod_lt_of_pos C (b := 8) (by omega)
  have e3 : ∀ st : Sto, binW st .mod (.int (C / 8)) (.int (1 + C % 8)) = some (.int (C / 8 % (1 + C % 8))) := fun st => modI (by omega)
  obtain ⟨long, hlong⟩ := Int.eq_ofNat_of_zero_le (a := 1 + C % 8) (by omega)
  obtain ⟨at', hat⟩ := Int.eq_ofNat_of_zero_le (a := C / 8 % (1 + C % 8)) (Int.emod_nonneg _ (by omega))
  have hloop : ∃ (nms : List Str) (ρ' : Rho), nms.length = 7 ∧ (∀ s ∈ nms, isNm s = true) ∧ ρ'[5]? = some (some (.ref st.length)) ∧ ex (callN D n) lp_law_names_0 [some (.int C), some (.int 7), some (.str abc), some (.int (long : Nat)), some (.int (at' : Nat)), some (.ref st.length), none, none, none, none] (st ++ [.lst []]) = .nx ρ' (st ++ [.lst (nms.map W.str)]) := by
    unfold lp_law_names_0
    rw [ex_for]
    have hit : evIt (callN D n) (.range1 (.var 1)) [some (.int C), some (.int 7), some (.str abc), some (.int (long : Nat)), some (.int (at' : Nat)), some (.ref st.length), none, none, none, none] (st ++ [.lst []]) = .ok (rangeL 0 7) (st ++ [.lst []]) := it_rng (n := 7) (by simp) (by omega)
    rw [hit, go_ok]
    obtain ⟨ρ', st', e, nms, x6, x7, x8, x9, ok, hl, e1, e2⟩ := for_rng (m := 7) (f := setTg [6] true) (b := exs (callN D n) lb_law_names_0) (ρ := [some (.int C), some (.int 7), some (.str abc), some (.int (long : Nat)), some (.int (at' : Nat)), some (.ref st.length), none, none, none, none]) (st := st ++ [.lst []])
      (fun j ρ s => ∃ (nms : List Str) (x6 x7 x8 x9 : Option W), (∀ s ∈ nms, isNm s = true) ∧ nms.length = j ∧ ρ = [some (.int C), some (.int 7), some (.str abc), some (.int (long : Nat)), some (.int (at' : Nat)), some (.ref st.length), x6, x7, x8, x9] ∧ s = st ++ [.lst (nms.map W.str)])
      ⟨[], none, none, none, none, by simp, rfl, rfl, rfl⟩ (fun j ρ s hj ⟨nms, x6, x7, x8, x9, ok, hl, e1, e2⟩ => by
        subst e1; subst e2
        obtain ⟨nm, x8', x9', hn, e⟩ := name_loop (cl := callN D n) (long := long) (at' := at') (k := j) (C := C) (many := .int 7) (outc := .ref st.length) (x8 := x8) (x9 := x9) (st := st ++ [.lst (nms.map W.str)]) (by omega) (by omega)
        refine ⟨_, _, _, setTg_one, ?_, nms ++ [nm], some (.int (j : Nat)), some (.str nm), x8', x9', ?_, by simp [hl], rfl, rfl⟩
        · have hg : nms.length < lim := by show _ < 16777216; omega
          simp [lb_law_names_0, e, guard_of (decide_eq_true hg)]
        · intro s hs
          rcases List.mem_append.mp hs with h | h
          · exact ok s h
          · rw [List.mem_singleton.mp h]; exact hn)
    subst e1; subst e2
    exact ⟨nms, _, hl, ok, rfl, e⟩
  obtain ⟨nms, ρ', hl, ok, hr, e⟩ := hloop
  refine ⟨nms, hl, ok, ?_⟩
  have habc : ("abcdefghijklmnopqrstuvwxyz" : Str) = abc := rfl
  simp [d_law_names, start0, e1, e2, hlong, habc]
  rw [hlong] at e3 hat
  simp [e3, hat, e, hr]
/-! ### the law's size, the law's term -/
theorem sum_sz : ∀ ts : List Tm, ((ts.map fun t => (szT t : Int)).sum) = (szTs ts : Nat)
  | [] => rfl
  | t :: ts => by rw [List.map_cons, List.sum_cons, sum_sz ts, szTs]; omega
theorem law_size_ok : ∀ {n : Nat} {t : Tm} {st : Sto}, okT t = true → dpT t ≤ n → callN D n f_law_size [enc t] st = .ok (.int (szT t : Nat)) st
  | 0, t, _, _, h => by have := dp_pos t; omega
  | n + 1, .letter s, st, h, hd => by
    rw [call_eq (d := d_law_size) rfl rfl]
    simp [d_law_size, start0, enc, szT]
  | n + 1, .sign s ps, st, h, hd => by
    simp only [okT, Bool.and_eq_true] at h
    rw [dpT] at hd
    rw [call_eq (d := d_law_size) rfl rfl]
    have h3 : ps.length ≤ 3 := by have := h.1.2; simpa using this
    have hlc := lc_mapf (cl := callN D n) (vs := [("_law_part", 1)]) (i := 1) (it := .seq (.ix (.var 0) (.int 2))) (elt := .call f_law_size [.var 1]) (ρ := [some (enc (.sign s ps)), none]) (st := st) (st1 := st) (l := ps) (e := enc) (g := fun t => .int (szT t : Nat))
      (by simp [enc, encs_map]) (by show _ ≤ 16777216; omega) (fun t ht => by
        have i1 := law_size_ok (n := n) (t := t) (st := st) (okTs_mem h.2 ht) (by have := dpTs_mem ht; omega)
        simp [i1])
    rw [enc] at hlc ⊢
    have hs : Option.map (fun l : List Int => W.int l.sum) (intsOf (ps.map fun t => W.int (szT t : Nat))) = some (.int (szTs ps : Nat)) := by
      rw [intsOf_map, Option.map_some, sum_sz]
    simp [d_law_size, start0, hlc, hs, szT]
mutual
def ltT (S : List Str) : Tm → Bool
  | .letter s => decide (s ∈ S)
  | .sign _ ps => ltTs S ps
def ltTs (S : List Str) : List Tm → Bool
  | [] => true
  | t :: ts => ltT S t && ltTs S ts
end
/-- a valid term that is no deeper than d, its letters among S -/
def TOk (S : List Str) (d : Nat) (w : W) : Prop := ∃ t, okT t = true ∧ dpT t ≤ d ∧ ltT S t = true ∧ w = enc t
theorem toks {S : List Str} {d : Nat} : ∀ {ws : List W}, (∀ w ∈ ws, TOk S d w) → ∃ ts, okTs ts = true ∧ dpTs ts ≤ d ∧ ltTs S ts = true ∧ ws = encs ts
  | [], _ => ⟨[], rfl, Nat.zero_le _, rfl, rfl⟩
  | w :: ws, h => by
    obtain ⟨t, h1, h2, k1, rfl⟩ := h w List.mem_cons_self
    obtain ⟨ts, h3, h4, k2, rfl⟩ := toks fun x hx => h x (List.mem_cons_of_mem _ hx)
    exact ⟨t :: ts, by rw [okTs, h1, h3]; rfl, by rw [dpTs]; omega, by rw [ltTs, k1, k2]; rfl, rfl⟩
theorem mem_take3 {l : List Str} {i : Nat} (h : i < l.length) (h3 : i < 3) : l[i] ∈ l.take 3 := by
  rw [List.mem_take_iff_getElem]
  exact ⟨i, by omega, rfl⟩
theorem term_ok : ∀ {deep n k j : Nat} {a b : Int} {nms : List Str} {st : Sto}, st[k]? = some (.lst [.int a, .int b]) → 0 ≤ a → st[j]? = some (.lst (nms.map W.str)) → k ≠ j → nms.length = 7 → (∀ s ∈ nms, isNm s = true) →
    ∃ t a' b', okT t = true ∧ dpT t ≤ deep + 1 ∧ ltT (nms.take 3) t = true ∧ (0 : Int) ≤ a' ∧ callN D (n + deep + 2) f_law_term [.ref k, .ref j, .int (deep : Nat)] st = .ok (enc t) (st.set k (.lst [.int a', .int b']))
  | deep, n, k, j, a, b, nms, st, hk, ha, hj, hne, h7, hnm => by
    rw [call_eq (d := d_law_term) rfl rfl]
    obtain ⟨r1, a1, b1, q1, q2, q3, e1⟩ := roll_ok (n := n + deep) (m := 7) hk ha (by omega) (by omega)
    have hk1 := gs_self (d := .lst [.int a1, .int b1]) hk
    have hj1 : (st.set k (.lst [.int a1, .int b1]))[j]? = some (.lst (nms.map W.str)) := by rw [List.getElem?_set_ne hne]; exact hj
    by_cases hw : r1 < 3
    · obtain ⟨r2, a2, b2, p1, p2, p3, e2⟩ := roll_ok (n := n + deep) (m := 3) hk1 q3 (by omega) (by omega)
      rw [List.set_set] at e2
      have hj2 : (st.set k (.lst [.int a2, .int b2]))[j]? = some (.lst (nms.map W.str)) := by rw [List.getElem?_set_ne hne]; exact hj
      have hi : r2.toNat < nms.length := by omega
      have hx : ixW (st.set k (.lst [.int a2, .int b2])) (.ref j) (.int r2) = some (.str nms[r2.toNat]) := by
        rw [ix_r hj2, at_in p1 (by rw [List.length_map]; omega)]
        simp [hi]
      refine ⟨.letter nms[r2.toNat], a2, b2, by rw [okT]; exact hnm _ (List.getElem_mem hi), by rw [dpT]; omega, by rw [ltT]; exact decide_eq_true (mem_take3 hi (by omega)), p3, ?_⟩
      simp [d_law_term, start0, e1, hw, e2, hx, enc]
    · obtain ⟨r2, a2, b2, p1, p2, p3, e2⟩ := roll_ok (n := n + deep) (m := 4) hk1 q3 (by omega) (by omega)
      rw [List.set_set] at e2
      have hk2 := gs_self (d := .lst [.int a2, .int b2]) hk
      have hj2 : (st.set k (.lst [.int a2, .int b2]))[j]? = some (.lst (nms.map W.str)) := by rw [List.getElem?_set_ne hne]; exact hj
      have hi : (3 + r2).toNat < nms.length := by omega
      have hx : ixW (st.set k (.lst [.int a2, .int b2])) (.ref j) (.int (3 + r2)) = some (.str nms[(3 + r2).toNat]) := by
        rw [ix_r hj2, at_in (by omega) (by rw [List.length_map]; omega)]
        simp [hi]
      have hn := hnm _ (List.getElem_mem hi)
      generalize nms[(3 + r2).toNat] = nm at *
      match deep with
      | 0 =>
        refine ⟨.sign nm [], a2, b2, by simp [okT, okTs, hn], by simp [dpT, dpTs], by rw [ltT, ltTs], p3, ?_⟩
        simp at e1 e2
        simp [d_law_term, start0, e1, hw, e2, hx, enc, encs]
      | deep + 1 =>
        obtain ⟨r3, a3, b3, s1, s2, s3, e3⟩ := roll_ok (n := n + (deep + 1)) (m := 4) hk2 p3 (by omega) (by omega)
        rw [List.set_set] at e3
        obtain ⟨m, rfl⟩ := Int.eq_ofNat_of_zero_le s1
        have hd : ¬ ((deep : Int) + 1 = 0) := by omega
        have hk3 := gs_self (d := .lst [.int a3, .int b3]) hk
        obtain ⟨ws, st', eL, ⟨a4, b4, g1, g2, g3, g4⟩⟩ := lcGo_rng (st := st.set k (.lst [.int a3, .int b3])) (f := fun w s => (evConds (callN D (n + (deep + 1) + 1)) [] (([some (.ref k), some (.ref j), some (.int ((deep + 1 : Nat) : Int)), some (.int r1), some (.str nm), none, none] : Rho).set 6 (some w)) s).noerr.bind fun b s => if b = true then (ev (callN D (n + (deep + 1) + 1)) (.call f_law_term [.var 0, .var 1, .bin .sub (.var 2) (.int 1)]) (([some (.ref k), some (.ref j), some (.int ((deep + 1 : Nat) : Int)), some (.int r1), some (.str nm), none, none] : Rho).set 6 (some w)) s).noerr.bind fun y s => .ok (some y) s else .ok none s)
          (fun i pre s => ∃ a b : Int, 0 ≤ a ∧ pre.length = i ∧ (∀ w ∈ pre, TOk (nms.take 3) (deep + 1) w) ∧ s = st.set k (.lst [.int a, .int b])) (rangeL 0 m) 0 [] ⟨a3, b3, s3, rfl, by simp, rfl⟩ (fun i pre s w hw0 ⟨a, b, u1, u2, u3, u4⟩ => by
            subst u4
            obtain ⟨t, a', b', v1, v2, v5, v3, v4⟩ := term_ok (deep := deep) (n := n) (k := k) (j := j) (nms := nms) (st := st.set k (.lst [.int a, .int b])) (gs_self hk) u1 (by rw [List.getElem?_set_ne hne]; exact hj) hne h7 hnm
            rw [List.set_set] at v4
            have v4' : callN D (n + (deep + 1) + 1) f_law_term [.ref k, .ref j, .int (deep : Nat)] (st.set k (.lst [.int a, .int b])) = _ := v4
            refine ⟨enc t, _, ?_, a', b', v3, by simp [u2], ?_, rfl⟩
            · have hsub : ((deep : Int) + 1 - 1) = deep := by omega
              simp [hsub, v4']
            · intro x hx
              rcases List.mem_append.mp hx with h | h
              · exact u3 x h
              · rw [List.mem_singleton.mp h]; exact ⟨t, v1, v2, v5, rfl⟩)
        subst g4
        rw [List.nil_append] at g2 g3
        have hml : (rangeL 0 m).length = m := by unfold rangeL; simp
        rw [hml] at g2
        obtain ⟨ts, w1, w2, w3, rfl⟩ := toks g3
        rw [encs_len] at g2
        have hlc := lc_go (cl := callN D (n + (deep + 1) + 1)) (vs := [("_law_k", 6)]) (i := 6) (it := .range1 (.call f_law_roll [.var 0, .int 4])) (cond := []) (elt := .call f_law_term [.var 0, .var 1, .bin .sub (.var 2) (.int 1)]) (ρ := [some (.ref k), some (.ref j), some (.int ((deep + 1 : Nat) : Int)), some (.int r1), some (.str nm), none, none]) (st := st.set k (.lst [.int a2, .int b2]))
          (it_rng (n := m) (st1 := st.set k (.lst [.int a3, .int b3])) (by simp [e3]) (by omega)) (by rw [hml]; show _ ≤ 16777216; omega) eL
        refine ⟨.sign nm ts, a4, b4, ?_, ?_, by rw [ltT]; exact w3, g1, ?_⟩
        · simp only [okT, Bool.and_eq_true, decide_eq_true_eq]
          exact ⟨⟨hn, by omega⟩, w1⟩
        · rw [dpT]; omega
        · simp at hlc
          simp [d_law_term, start0, e1, hw, e2, hx, enc, hd, hlc]
theorem term_ok2 {N deep : Nat} {a b : Int} {nms : List Str} {tail : Sto} (hN : deep + 2 ≤ N) (ha : 0 ≤ a) (h7 : nms.length = 7) (hn : ∀ s ∈ nms, isNm s = true) :
    ∃ t a' b', okT t = true ∧ dpT t ≤ deep + 1 ∧ ltT (nms.take 3) t = true ∧ (0 : Int) ≤ a' ∧ callN D N f_law_term [.ref 0, .ref 1, .int (deep : Nat)] (.lst [.int a, .int b] :: .lst (nms.map W.str) :: tail) = .ok (enc t) (.lst [.int a', .int b'] :: .lst (nms.map W.str) :: tail) := by
  obtain ⟨t, a', b', h1, h2, h5, h3, h4⟩ := term_ok (deep := deep) (n := N - deep - 2) (k := 0) (j := 1) (a := a) (b := b) (nms := nms) (st := .lst [.int a, .int b] :: .lst (nms.map W.str) :: tail) rfl ha rfl (by omega) h7 hn
  rw [show N - deep - 2 + deep + 2 = N by omega] at h4
  exact ⟨t, a', b', h1, h2, h5, h3, h4⟩
/-! ### k01: letters -/
mutual
def nmT : Tm → List Str
  | .letter s => [s]
  | .sign _ ps => sortS (nmTs [] ps)
def nmTs (acc : List Str) : List Tm → List Str
  | [] => acc
  | t :: ts => nmTs (acc ++ (nmT t).filter fun x => decide (x ∉ acc)) ts
end
theorem nodup_len : ∀ {l S : List Str}, l.Nodup → (∀ x ∈ l, x ∈ S) → l.length ≤ S.length
  | [], S, _, _ => Nat.zero_le _
  | x :: xs, S, hn, hs => by
    have hx := hs x List.mem_cons_self
    rw [List.nodup_cons] at hn
    have := nodup_len (l := xs) (S := S.erase x) hn.2 fun y hy => (List.mem_erase_of_ne (fun e => hn.1 (by rw [← e]; exact hy))).mpr (hs y (List.mem_cons_of_mem _ hy))
    rw [List.length_erase_of_mem hx] at this
    have hp : 0 < S.length := List.length_pos_of_mem hx
    rw [List.length_cons]; omega
theorem app_nodup {acc l : List Str} (h : acc.Nodup) (hl : l.Nodup) : (acc ++ l.filter fun x => decide (x ∉ acc)).Nodup := by
  rw [List.nodup_append]
  refine ⟨h, hl.filter _, fun a ha b hb e => ?_⟩
  subst e
  have := List.mem_filter.mp hb
  simp at this
  exact this.2 ha
mutual
theorem nmT_ok {S : List Str} : ∀ {t : Tm}, okT t = true → ltT S t = true → (nmT t).Nodup ∧ (∀ x ∈ nmT t, x ∈ S) ∧ ∀ x ∈ nmT t, strOk x = true
  | .letter s, h, hl => by
    have hs : isNm s = true := by simpa [okT] using h
    rw [ltT] at hl
    have hl' := of_decide_eq_true hl
    rw [nmT]
    refine ⟨by simp, fun x hx => ?_, fun x hx => ?_⟩
    · rw [List.mem_singleton.mp hx]; exact hl'
    · rw [List.mem_singleton.mp hx]; exact isNm_ok hs
  | .sign s ps, h, hl => by
    simp only [okT, Bool.and_eq_true] at h
    rw [ltT] at hl
    have ih := nmTs_ok (S := S) (acc := []) (ts := ps) h.2 hl List.nodup_nil (by simp) (by simp)
    have p := sortS_perm (nmTs [] ps)
    rw [nmT]
    exact ⟨p.nodup_iff.mpr ih.1, fun x hx => ih.2.1 x (p.subset hx), fun x hx => ih.2.2 x (p.subset hx)⟩
theorem nmTs_ok {S : List Str} : ∀ {ts : List Tm} {acc : List Str}, okTs ts = true → ltTs S ts = true → acc.Nodup → (∀ x ∈ acc, x ∈ S) → (∀ x ∈ acc, strOk x = true) → (nmTs acc ts).Nodup ∧ (∀ x ∈ nmTs acc ts, x ∈ S) ∧ ∀ x ∈ nmTs acc ts, strOk x = true
  | [], acc, _, _, h1, h2, h3 => ⟨h1, h2, h3⟩
  | t :: ts, acc, h, hl, h1, h2, h3 => by
    simp only [okTs, Bool.and_eq_true] at h
    simp only [ltTs, Bool.and_eq_true] at hl
    have i1 := nmT_ok (S := S) (t := t) h.1 hl.1
    rw [nmTs]
    refine nmTs_ok (ts := ts) h.2 hl.2 (app_nodup h1 i1.1) (fun x hx => ?_) (fun x hx => ?_)
    · rcases List.mem_append.mp hx with e | e
      · exact h2 x e
      · exact i1.2.1 x (List.mem_filter.mp e).1
    · rcases List.mem_append.mp hx with e | e
      · exact h3 x e
      · exact i1.2.2 x (List.mem_filter.mp e).1
end
theorem nm_len {S : List Str} {t : Tm} (h : okT t = true) (hl : ltT S t = true) : (nmT t).length ≤ S.length := by
  have := nmT_ok h hl
  exact nodup_len this.1 this.2.1
theorem nms_len {S acc : List Str} {ts : List Tm} (h : okTs ts = true) (hl : ltTs S ts = true) (h1 : acc.Nodup) (h2 : ∀ x ∈ acc, x ∈ S) (h3 : ∀ x ∈ acc, strOk x = true) : (nmTs acc ts).length ≤ S.length := by
  have := nmTs_ok h hl h1 h2 h3
  exact nodup_len this.1 this.2.1
theorem toDs_str : ∀ l : List Str, toDs (l.map W.str) = l.map PyData.str
  | [] => rfl
  | x :: xs => by rw [List.map_cons, toDs, toDs_str xs]; rfl
theorem strs_data : ∀ {l : List Str}, (∀ x ∈ l, strOk x = true) → okDs (l.map W.str) = true ∧ canLayAll0 (toDs (l.map W.str)) = true ∧ PyData.depthAll (toDs (l.map W.str)) = 0
  | [], _ => ⟨rfl, rfl, rfl⟩
  | x :: xs, h => by
    have ih := strs_data (l := xs) fun y hy => h y (List.mem_cons_of_mem _ hy)
    have hx := h x List.mem_cons_self
    refine ⟨by simp [okDs, okD, ih.1], by simp [toDs, toD, PyData.canLayAll0, PyData.canLay0, hx, ih.2.1], ?_⟩
    simp [toDs, toD, PyData.depthAll, PyData.depth, ih.2.2]
theorem eq_same {st : Sto} {a b w : W} (h1 : deref st a = w) (h2 : deref st b = w) (ho : okD w = true) (hc : (toD w).canLay0 = true) (hd : (toD w).depth ≤ 400) : cmpW st .eq a b = some true := by
  show eqvW st a b = _
  unfold eqvW
  simp only [h1, h2, ho, hc, Bool.true_and, Nat.min_self, decide_eq_true hd, if_true]
  rw [PySem.SeqAt.eqv_refl _ hc]
theorem ne_same {st : Sto} {a b w : W} (h1 : deref st a = w) (h2 : deref st b = w) (ho : okD w = true) (hc : (toD w).canLay0 = true) (hd : (toD w).depth ≤ 400) : cmpW st .ne a b = some false := by
  show (eqvW st a b).map (! ·) = _
  have := eq_same (st := st) h1 h2 ho hc hd
  rw [show eqvW st a b = some true from this]; rfl
theorem any_str {s : Str} : ∀ l : List Str, ((l.map W.str).any fun w => PyData.eqv (toD w) (toD (.str s))) = decide (s ∈ l)
  | [] => rfl
  | x :: xs => by
    rw [List.map_cons, List.any_cons, any_str xs]
    simp only [toD, PyData.eqv, List.mem_cons]
    by_cases e : x = s
    · subst e; simp
    · have e' : ¬ s = x := fun z => e z.symm
      simp [e, e']
theorem notin_strs {st : Sto} {s : Str} {w : W} {l : List Str} (h : deref st w = .lst (l.map W.str)) : cmpW st .notin (.str s) w = some (decide (s ∉ l)) := by
  show (inW st (.str s) w).map (! ·) = _
  unfold inW
  have hf : (flatW (.str s) && (l.map W.str).all flatW) = true := by simp [flatW]
  simp only [h, hf, if_true, Option.map_some, any_str]
  by_cases e : s ∈ l <;> simp [e]
/-- the step of both loops: names of a part that are not there yet -/
theorem lc_new {cl : Nat → List W → Sto → Res W} {ρ : Rho} {st st1 : Sto} {vs : List (Str × Nat)} {i : Nat} {it : It} {c : E} {l acc : List Str} (hit : evIt cl it ρ st = .ok (l.map W.str) st1) (hl : l.length ≤ lim)
    (hi : i < ((wipeR ρ (vs.map (·.2)))).length)
    (hc : ∀ s, s ∈ l → ev cl c ((wipeR ρ (vs.map (·.2))).set i (some (.str s))) st1 = .ok (.bl (decide (s ∉ acc))) st1) :
    evL cl (.lc vs [i] true it [c] (.var i)) ρ st = .ok ((l.filter fun x => decide (x ∉ acc)).map W.str) st1 := by
  have := lc_filter (cl := cl) (c := c) (elt := .var i) (p := fun w => match w with | .str s => decide (s ∉ acc) | _ => false) (g := id) hit (by rw [List.length_map]; exact hl) (fun w hw => by
    obtain ⟨s, hs, rfl⟩ := List.mem_map.mp hw
    exact hc s hs) (fun w hw hp => by
      rw [ev, List.getElem?_set_self hi]
      rfl)
  rw [this, List.map_id, List.filter_map]
  rfl
theorem set_app {st g : Sto} {m : Nat} {c : Cell} (h : st.length ≤ m) : (st ++ g).set m c = st ++ g.set (m - st.length) c := by
  rw [List.set_append_right _ _ h]
def NmIn (S : List Str) (n : Nat) : Prop := ∀ (t : Tm) (st : Sto), okT t = true → ltT S t = true → dpT t ≤ n → ∃ g m, callN D n f_names_in [enc t] st = .ok (.ref m) (st ++ g) ∧ st.length ≤ m ∧ (st ++ g)[m]? = some (.lst ((nmT t).map W.str))
theorem at_app0 {st g : Sto} {c : Cell} : (st ++ c :: g)[st.length]? = some c := by simp
theorem set_app0 {st g : Sto} {c d : Cell} : (st ++ c :: g).set st.length d = st ++ d :: g := by simp
theorem nm_turn {S : List Str} (hS : S.length ≤ 7) {n : Nat} (ih : NmIn S n) {t : Tm} {acc : List Str} {g st : Sto} {w0 : W} {o3 : Option W} (h : okT t = true) (hl : ltT S t = true) (hd : dpT t ≤ n) (h1 : acc.length ≤ 7) :
    ∃ o3' g', exs (callN D n) lb_names_in_0 [some w0, some (.ref st.length), some (enc t), o3] (st ++ .lst (acc.map W.str) :: g) = .nx [some w0, some (.ref st.length), some (enc t), o3'] (st ++ .lst ((acc ++ (nmT t).filter fun x => decide (x ∉ acc)).map W.str) :: g') := by
  obtain ⟨g2, m, e, hm, hx⟩ := ih t (st ++ .lst (acc.map W.str) :: g) h hl hd
  have hlen := nm_len h hl
  have hst : st.length ≤ m := by rw [List.length_append] at hm; omega
  have hset : ((st ++ .lst (acc.map W.str) :: g) ++ g2).set m .dead = st ++ .lst (acc.map W.str) :: (g ++ g2.set (m - (st ++ .lst (acc.map W.str) :: g).length) .dead) := by
    rw [set_app hm, List.append_assoc, List.cons_append]
  generalize g ++ g2.set (m - (st ++ .lst (acc.map W.str) :: g).length) .dead = g3 at hset
  have hf : (st ++ .lst (acc.map W.str) :: g3)[st.length]? = some (.lst (acc.map W.str)) := at_app0
  have hlc := lc_new (cl := callN D n) (vs := [("name", 3)]) (i := 3) (it := .seq (.frzE (.call f_names_in [.var 2]))) (c := .cmp .notin (.var 3) (.var 1)) (acc := acc) (l := nmT t) (ρ := [some w0, some (.ref st.length), some (enc t), o3]) (st := st ++ .lst (acc.map W.str) :: g) (st1 := st ++ .lst (acc.map W.str) :: g3)
    (by simp only [evIt, ev, evs, List.getElem?_cons_succ, List.getElem?_cons_zero, bind_ok, e, hx, hset]) (by show _ ≤ 16777216; omega) (by simp) (fun s hs => by
      simp [notin_strs (deref_r hf)])
  have hg : (acc.map W.str).length + (((nmT t).filter fun x => decide (x ∉ acc)).map W.str).length ≤ lim := by
    rw [List.length_map, List.length_map]
    have := List.length_filter_le (fun x => decide (x ∉ acc)) (nmT t)
    show _ ≤ 16777216
    omega
  have hext : ev (callN D n) (.ext (.var 1) (.frz (.lc [("name", 3)] [3] true (.seq (.frzE (.call f_names_in [.var 2]))) [.cmp .notin (.var 3) (.var 1)] (.var 3)))) [some w0, some (.ref st.length), some (enc t), o3] (st ++ .lst (acc.map W.str) :: g) = .ok .non (st ++ .lst ((acc ++ (nmT t).filter fun x => decide (x ∉ acc)).map W.str) :: g3) := by
    have h0 : (st ++ .lst (acc.map W.str) :: g)[st.length]? = some (.lst (acc.map W.str)) := at_app0
    rw [ev, ev]
    simp only [List.getElem?_cons_succ, List.getElem?_cons_zero, bind_ok, h0]
    rw [ev, hlc]
    simp only [bind_ok, hf, seqOf_l, guard_of (decide_eq_true hg)]
    rw [set_app0, List.map_append]
  refine ⟨o3, g3, ?_⟩
  simp only [lb_names_in_0, exs, ex_expr]
  rw [hext]
  rfl
theorem nm_loop {S : List Str} (hS : S.length ≤ 7) {n : Nat} (ih : NmIn S n) : ∀ (ts : List Tm) (acc : List Str) (g st : Sto) (w0 : W) (o2 o3 : Option W), okTs ts = true → ltTs S ts = true → dpTs ts ≤ n → acc.Nodup → (∀ x ∈ acc, x ∈ S) → (∀ x ∈ acc, strOk x = true) →
    ∃ o2' o3' g', forGo (setTg [2] true) (exs (callN D n) lb_names_in_0) (encs ts) [some w0, some (.ref st.length), o2, o3] (st ++ .lst (acc.map W.str) :: g) = .nx [some w0, some (.ref st.length), o2', o3'] (st ++ .lst ((nmTs acc ts).map W.str) :: g')
  | [], acc, g, st, w0, o2, o3, _, _, _, _, _, _ => ⟨o2, o3, g, rfl⟩
  | t :: ts, acc, g, st, w0, o2, o3, h, hl, hd, a1, a2, a3 => by
    simp only [okTs, Bool.and_eq_true] at h
    simp only [ltTs, Bool.and_eq_true] at hl
    rw [dpTs] at hd
    have i1 := nmT_ok (S := S) (t := t) h.1 hl.1
    have hal := nodup_len a1 a2
    obtain ⟨o3', g', e⟩ := nm_turn hS ih (t := t) (acc := acc) (g := g) (st := st) (w0 := w0) (o3 := o3) h.1 hl.1 (by omega) (by omega)
    obtain ⟨o2', o3'', g'', e2⟩ := nm_loop hS ih ts (acc ++ (nmT t).filter fun x => decide (x ∉ acc)) g' st w0 (some (enc t)) o3' h.2 hl.2 (by omega) (app_nodup a1 i1.1)
      (fun x hx => by
        rcases List.mem_append.mp hx with e | e
        · exact a2 x e
        · exact i1.2.1 x (List.mem_filter.mp e).1) (fun x hx => by
        rcases List.mem_append.mp hx with e | e
        · exact a3 x e
        · exact i1.2.2 x (List.mem_filter.mp e).1)
    refine ⟨o2', o3'', g'', ?_⟩
    rw [encs, nmTs, for_turn (ρ := [some w0, some (.ref st.length), some (enc t), o3]) setTg_one e]
    exact e2
theorem names_in_ok {S : List Str} (hS : S.length ≤ 7) : ∀ n, NmIn S n
  | 0 => fun t st _ _ h => by have := dp_pos t; omega
  | n + 1 => fun t st h hl hd => by
    rw [call_eq (d := d_names_in) rfl rfl]
    cases t with
    | letter s => exact ⟨[.lst [.str s]], st.length, by simp [d_names_in, start0, enc], Nat.le_refl _, by simp [nmT]⟩
    | sign s ps =>
      simp only [okT, Bool.and_eq_true] at h
      rw [ltT] at hl
      rw [dpT] at hd
      obtain ⟨o2', o3', g', e⟩ := nm_loop hS (names_in_ok hS n) ps [] [] st (enc (.sign s ps)) none none h.2 hl (by omega) List.nodup_nil (by simp) (by simp)
      have e' : ex (callN D n) lp_names_in_0 [some (enc (.sign s ps)), some (.ref st.length), none, none] (st ++ [.lst []]) = .nx [some (enc (.sign s ps)), some (.ref st.length), o2', o3'] (st ++ .lst ((nmTs [] ps).map W.str) :: g') := by
        unfold lp_names_in_0
        rw [ex_for]
        have hit : evIt (callN D n) (.seq (.ix (.var 0) (.int 2))) [some (enc (.sign s ps)), some (.ref st.length), none, none] (st ++ [.lst []]) = .ok (encs ps) (st ++ [.lst []]) := by simp [enc]
        rw [hit, go_ok]
        exact e
      have hlen := nms_len (S := S) (acc := []) h.2 hl List.nodup_nil (by simp) (by simp)
      have hf : (st ++ .lst ((nmTs [] ps).map W.str) :: g')[st.length]? = some (.lst ((nmTs [] ps).map W.str)) := at_app0
      have hs : (((listOf (st ++ .lst ((nmTs [] ps).map W.str) :: g') (.ref st.length)).bind strsOf).bind fun l => if l.length < 64 then some ((sortS l).map W.str) else none) = some ((nmT (.sign s ps)).map W.str) := by
        have q := strsOf_map (f := id) (nmTs [] ps)
        rw [show List.map id (nmTs [] ps) = nmTs [] ps from List.map_id _] at q
        have q : strsOf ((nmTs [] ps).map W.str) = some (nmTs [] ps) := q
        rw [listOf_r hf, Option.bind_some, q, Option.bind_some, if_pos (by omega), nmT]
      generalize hst' : st ++ .lst ((nmTs [] ps).map W.str) :: g' = st' at *
      refine ⟨.lst ((nmTs [] ps).map W.str) :: g' ++ [.lst ((nmT (.sign s ps)).map W.str)], st'.length, ?_, by rw [← hst', List.length_append]; omega, ?_⟩
      · rw [← List.append_assoc, hst']
        have hret : exs (callN D n) [.ret (.new (.sorted (.var 1)))] [some (enc (.sign s ps)), some (.ref st.length), o2', o3'] st' = .rt (.ref st'.length) (st' ++ [.lst ((nmT (.sign s ps)).map W.str)]) := by
          simp only [exs, ex_ret]
          rw [ev, evL_sorted]
          simp only [ev, List.getElem?_cons_succ, List.getElem?_cons_zero, bind_ok, hs, ret_some, go_ok, sbind_rt]
        have hfirst : exs (callN D n) d_names_in.body [some (enc (.sign s ps)), none, none, none] st = .rt (.ref st'.length) (st' ++ [.lst ((nmT (.sign s ps)).map W.str)]) := by
          rw [← hret]
          simp [d_names_in, enc] at e' ⊢
          rw [e']
          rfl
        have : start0 d_names_in [enc (.sign s ps)] = [some (enc (.sign s ps)), none, none, none] := rfl
        rw [this, hfirst]
        rfl
      · rw [← List.append_assoc, hst']
        simp
def LlIn (S : List Str) (n : Nat) : Prop := ∀ (t : Tm) (st : Sto), okT t = true → ltT S t = true → dpT t ≤ n → callN D n f_law_letters [enc t] st = .ok (.lst ((nmT t).map W.str)) st
theorem ll_loop {S : List Str} (hS : S.length ≤ 7) {n : Nat} (ih : LlIn S n) : ∀ (ts : List Tm) (acc : List Str) (st : Sto) (w0 : W) (o2 o3 : Option W), okTs ts = true → ltTs S ts = true → dpTs ts ≤ n → acc.Nodup → (∀ x ∈ acc, x ∈ S) → (∀ x ∈ acc, strOk x = true) →
    ∃ o2', forGo (setTg [2] true) (exs (callN D n) lb_law_letters_0) (encs ts) [some w0, some (.lst (acc.map W.str)), o2, o3] st = .nx [some w0, some (.lst ((nmTs acc ts).map W.str)), o2', o3] st
  | [], acc, st, w0, o2, o3, _, _, _, _, _, _ => ⟨o2, rfl⟩
  | t :: ts, acc, st, w0, o2, o3, h, hl, hd, a1, a2, a3 => by
    simp only [okTs, Bool.and_eq_true] at h
    simp only [ltTs, Bool.and_eq_true] at hl
    rw [dpTs] at hd
    have i1 := nmT_ok (S := S) (t := t) h.1 hl.1
    have hal := nodup_len a1 a2
    have hln := nm_len (S := S) h.1 hl.1
    have e0 := ih t st h.1 hl.1 (by omega)
    have hlc := lc_new (cl := callN D n) (vs := [("_law_name", 3)]) (i := 3) (it := .seq (.call f_law_letters [.var 2])) (c := .cmp .notin (.var 3) (.var 1)) (acc := acc) (l := nmT t) (ρ := [some w0, some (.lst (acc.map W.str)), some (enc t), o3]) (st := st) (st1 := st)
      (by simp [e0]) (by show _ ≤ 16777216; omega) (by simp) (fun s hs => by simp [notin_strs (l := acc) (deref_l (st := st))])
    have hg : (acc.map W.str).length + (((nmT t).filter fun x => decide (x ∉ acc)).map W.str).length ≤ lim := by
      rw [List.length_map, List.length_map]
      have := List.length_filter_le (fun x => decide (x ∉ acc)) (nmT t)
      show _ ≤ 16777216
      omega
    have e : exs (callN D n) lb_law_letters_0 [some w0, some (.lst (acc.map W.str)), some (enc t), o3] st = .nx [some w0, some (.lst ((acc ++ (nmT t).filter fun x => decide (x ∉ acc)).map W.str)), some (enc t), o3] st := by
      simp only [lb_law_letters_0, exs, ex_set]
      simp only [ev, evL_cat, hlc, List.getElem?_cons_succ, List.getElem?_cons_zero, bind_ok, listOf_l, Option.bind_some, if_pos hg, ret_some, go_ok, sbind_nx, List.map_append, List.set_cons_succ, List.set_cons_zero]
    obtain ⟨o2', e2⟩ := ll_loop hS ih ts (acc ++ (nmT t).filter fun x => decide (x ∉ acc)) st w0 (some (enc t)) o3 h.2 hl.2 (by omega) (app_nodup a1 i1.1)
      (fun x hx => by
        rcases List.mem_append.mp hx with e | e
        · exact a2 x e
        · exact i1.2.1 x (List.mem_filter.mp e).1) (fun x hx => by
        rcases List.mem_append.mp hx with e | e
        · exact a3 x e
        · exact i1.2.2 x (List.mem_filter.mp e).1)
    refine ⟨o2', ?_⟩
    rw [encs, nmTs, for_turn (ρ := [some w0, some (.lst (acc.map W.str)), some (enc t), o3]) setTg_one e]
    exact e2
theorem law_letters_ok {S : List Str} (hS : S.length ≤ 7) : ∀ n, LlIn S n
  | 0 => fun t st _ _ h => by have := dp_pos t; omega
  | n + 1 => fun t st h hl hd => by
    rw [call_eq (d := d_law_letters) rfl rfl]
    cases t with
    | letter s => simp [d_law_letters, start0, enc, nmT]
    | sign s ps =>
      simp only [okT, Bool.and_eq_true] at h
      rw [ltT] at hl
      rw [dpT] at hd
      obtain ⟨o2', e⟩ := ll_loop hS (law_letters_ok hS n) ps [] st (enc (.sign s ps)) none none h.2 hl (by omega) List.nodup_nil (by simp) (by simp)
      have e' : ex (callN D n) lp_law_letters_0 [some (enc (.sign s ps)), some (.lst []), none, none] st = .nx [some (enc (.sign s ps)), some (.lst ((nmTs [] ps).map W.str)), o2', none] st := by
        unfold lp_law_letters_0
        rw [ex_for]
        have hit : evIt (callN D n) (.seq (.ix (.var 0) (.int 2))) [some (enc (.sign s ps)), some (.lst []), none, none] st = .ok (encs ps) st := by simp [enc]
        rw [hit, go_ok]
        exact e
      have hlen := nms_len (S := S) (acc := []) h.2 hl List.nodup_nil (by simp) (by simp)
      have hs : (((listOf st (.lst ((nmTs [] ps).map W.str))).bind strsOf).bind fun l => if l.length < 64 then some ((sortS l).map W.str) else none) = some ((nmT (.sign s ps)).map W.str) := by
        have q := strsOf_map (f := id) (nmTs [] ps)
        rw [show List.map id (nmTs [] ps) = nmTs [] ps from List.map_id _] at q
        have q : strsOf ((nmTs [] ps).map W.str) = some (nmTs [] ps) := q
        rw [listOf_l, Option.bind_some, q, Option.bind_some, if_pos (by omega), nmT]
      have hret : exs (callN D n) [.ret (.frz (.sorted (.var 1)))] [some (enc (.sign s ps)), some (.lst ((nmTs [] ps).map W.str)), o2', none] st = .rt (.lst ((nmT (.sign s ps)).map W.str)) st := by
        simp only [exs, ex_ret]
        rw [ev, evL_sorted]
        simp only [ev, List.getElem?_cons_succ, List.getElem?_cons_zero, bind_ok, hs, ret_some, go_ok, sbind_rt]
      have hfirst : exs (callN D n) d_law_letters.body [some (enc (.sign s ps)), none, none, none] st = .rt (.lst ((nmT (.sign s ps)).map W.str)) st := by
        rw [← hret]
        simp [d_law_letters, enc] at e' ⊢
        rw [e']
        rfl
      have : start0 d_law_letters [enc (.sign s ps)] = [some (enc (.sign s ps)), none, none, none] := rfl
      rw [this, hfirst]
      rfl
/-! ### count, size, letters -/
theorem count_ok : ∀ {n : Nat} {t : Tm} {st : Sto}, okT t = true → dpT t + 1 ≤ n → callN D n f_count [enc t] st = .ok (.int (szT t : Nat)) st
  | 0, t, _, _, h => by omega
  | n + 1, t, st, h, hd => by
    have hp := dp_pos t
    obtain ⟨m, rfl⟩ : ∃ m, n = m + 1 := ⟨n - 1, by omega⟩
    rw [call_eq (d := d_count) rfl rfl]
    have hps := parts_okT h
    have hsz := parts_sz t
    have hdp : dpTs (partsT t) + 1 ≤ dpT t := by
      cases t with
      | letter s => show 0 + 1 ≤ 1; omega
      | sign s ps => rw [partsT, dpT]; omega
    have hl3 : (partsT t).length ≤ 3 := by
      cases t with
      | letter s => show 0 ≤ 3; omega
      | sign s ps => simp only [okT, Bool.and_eq_true, decide_eq_true_eq] at h; exact h.1.2
    have hlc := lc_mapf (cl := callN D (m + 1)) (vs := [("part", 1)]) (i := 1) (it := .seq (.call f_parts_of [.var 0])) (elt := .call f_count [.var 1]) (ρ := [some (enc t), none]) (st := st) (st1 := st) (l := partsT t) (e := enc) (g := fun t => .int (szT t : Nat))
      (by simp [parts_ok, encs_map]) (by show _ ≤ 16777216; omega) (fun u hu => by
        have i1 := count_ok (n := m + 1) (t := u) (st := st) (okTs_mem hps hu) (by have := dpTs_mem hu; omega)
        simp [i1])
    have hs : Option.map (fun l : List Int => W.int l.sum) (intsOf ((partsT t).map fun t => W.int (szT t : Nat))) = some (.int (szTs (partsT t) : Nat)) := by
      rw [intsOf_map, Option.map_some, sum_sz]
    have e1 : (1 : Int) + (szTs (partsT t) : Nat) = (szT t : Nat) := by omega
    simp [d_count, start0, hlc, hs, e1]
theorem size_ok {n : Nat} {t : Tm} {st : Sto} (h : okT t = true) (hz : szT t ≤ 100) (hn : 101 ≤ n) : callN D (n + 1) f_size [enc t] st = .ok (.int (szT t : Nat)) (st ++ [.lst []]) := by
  rw [call_eq (d := d_size) rfl rfl]
  obtain ⟨m, rfl⟩ : ∃ m, n = m + 3 := ⟨n - 3, by omega⟩
  have h1 := need_term_ok (n := m) (st := st) h hz
  have h2 := count_ok (n := m + 3) (st := st ++ [.lst []]) h (by have := dp_le_sz t; omega)
  simp [d_size, start0, h1, h2]
theorem letters_ok {S : List Str} (hS : S.length ≤ 7) {n : Nat} {t : Tm} {st : Sto} (h : okT t = true) (hz : szT t ≤ 100) (hl : ltT S t = true) (hn : 100 ≤ n) :
    ∃ g m, callN D (n + 1) f_letters [enc t] st = .ok (.ref m) (st ++ g) ∧ st.length ≤ m ∧ (st ++ g)[m]? = some (.lst ((nmT t).map W.str)) := by
  rw [call_eq (d := d_letters) rfl rfl]
  obtain ⟨m, rfl⟩ : ∃ m, n = m + 3 := ⟨n - 3, by omega⟩
  have h1 := need_term_ok (n := m) (st := st) h hz
  obtain ⟨g, k, e, hk, hx⟩ := names_in_ok hS (m + 3) t (st ++ [.lst []]) h hl (by have := dp_le_sz t; omega)
  refine ⟨.lst [] :: g, k, ?_, by rw [List.length_append] at hk; omega, by rw [show st ++ Cell.lst [] :: g = st ++ [Cell.lst []] ++ g by simp]; exact hx⟩
  simp [d_letters, start0, h1, e]
/-! ### places -/
def atT : Tm → List Int → Option Tm
  | t, [] => some t
  | t, i :: is => if 0 ≤ i ∧ i < (partsT t).length then ((partsT t)[i.toNat]?).bind fun u => atT u is else none
theorem atT_ok : ∀ {is : List Int} {t u : Tm}, okT t = true → atT t is = some u → okT u = true ∧ szT u ≤ szT t
  | [], t, u, h, e => by
    rw [atT] at e
    cases e
    exact ⟨h, Nat.le_refl _⟩
  | i :: is, t, u, h, e => by
    rw [atT] at e
    split at e
    · rename_i hi
      cases hp : (partsT t)[i.toNat]? with
      | none => rw [hp] at e; cases e
      | some p =>
        rw [hp] at e
        have hm := List.mem_of_getElem? hp
        have := atT_ok (okTs_mem (parts_okT h) hm) e
        have h2 := szTs_mem hm
        have h3 := parts_sz t
        exact ⟨this.1, by omega⟩
    · cases e
def encO : Option Tm → W
  | .none => .non
  | some t => enc t
theorem for_rt {b : Rho → Sto → SR} {ρ : Rho} {st st1 : Sto} {v w : W} {ws : List W} {f : W → Rho → Option Rho} {ρ0 : Rho} (hf : f w ρ0 = some ρ) (hb : b ρ st = .rt v st1) : forGo f b (w :: ws) ρ0 st = .rt v st1 := by
  rw [forGo, hf]
  show ((b ρ st).turn (forGo f b ws)) = _
  rw [hb]; rfl
theorem enc_at {t : Tm} {i : Int} (h0 : 0 ≤ i) (h1 : i < (partsT t).length) : ∃ p, (partsT t)[i.toNat]? = some p ∧ atI (encs (partsT t)) i = some (enc p) := by
  have hi : i.toNat < (partsT t).length := by omega
  refine ⟨(partsT t)[i.toNat], List.getElem?_eq_getElem hi, ?_⟩
  rw [at_in h0 (by rw [encs_len]; exact h1), encs_map, List.getElem?_map, List.getElem?_eq_getElem hi]
  rfl
theorem found_loop {n : Nat} {pl : Option W} {st : Sto} : ∀ (is : List Int) (t : Tm) (o2 : Option W),
    (atT t is = Option.none → forGo (setTg [2] true) (exs (callN D (n + 1)) lb_found_at_0) (is.map W.int) [some (enc t), pl, o2] st = .rt .non st) ∧
    (∀ u, atT t is = some u → ∃ o2', forGo (setTg [2] true) (exs (callN D (n + 1)) lb_found_at_0) (is.map W.int) [some (enc t), pl, o2] st = .nx [some (enc u), pl, o2'] st)
  | [], t, o2 => ⟨fun h => (by rw [atT] at h; cases h), fun u h => (by rw [atT] at h; cases h; exact ⟨o2, rfl⟩)⟩
  | i :: is, t, o2 => by
    rw [atT, List.map_cons]
    by_cases h : 0 ≤ i ∧ i < (partsT t).length
    · rw [if_pos h]
      obtain ⟨p, hp, hat⟩ := enc_at h.1 h.2
      rw [hp, Option.bind_some]
      have e : exs (callN D (n + 1)) lb_found_at_0 [some (enc t), pl, some (.int i)] st = .nx [some (enc p), pl, some (.int i)] st := by
        simp [lb_found_at_0, parts_ok, h.1, encs_len, h.2, hat]
      rw [for_turn (ρ := [some (enc t), pl, some (.int i)]) setTg_one e]
      exact found_loop is p (some (.int i))
    · rw [if_neg h]
      refine ⟨fun _ => ?_, fun u hu => by cases hu⟩
      have e : exs (callN D (n + 1)) lb_found_at_0 [some (enc t), pl, some (.int i)] st = .rt .non st := by
        by_cases h0 : 0 ≤ i
        · have h1 : ¬ i < (partsT t).length := fun z => h ⟨h0, z⟩
          simp [lb_found_at_0, parts_ok, h0, encs_len, h1]
        · simp [lb_found_at_0, parts_ok, h0]
      exact for_rt setTg_one e
theorem found_at_ok {n : Nat} {is : List Int} {t : Tm} {st : Sto} : callN D (n + 2) f_found_at [enc t, .tup (is.map W.int)] st = .ok (encO (atT t is)) st := by
  rw [call_eq (d := d_found_at) rfl rfl]
  have hit : evIt (callN D (n + 1)) (.seq (.var 1)) [some (enc t), some (.tup (is.map W.int)), none] st = .ok (is.map W.int) st := by simp
  have h := found_loop (n := n) (pl := some (.tup (is.map W.int))) (st := st) is t none
  cases ha : atT t is with
  | none =>
    have e : ex (callN D (n + 1)) lp_found_at_0 [some (enc t), some (.tup (is.map W.int)), none] st = .rt .non st := by
      unfold lp_found_at_0
      rw [ex_for, hit, go_ok]
      exact h.1 ha
    simp [d_found_at, start0, e, encO]
  | some u =>
    obtain ⟨o2', e0⟩ := h.2 u ha
    have e : ex (callN D (n + 1)) lp_found_at_0 [some (enc t), some (.tup (is.map W.int)), none] st = .nx [some (enc u), some (.tup (is.map W.int)), o2'] st := by
      unfold lp_found_at_0
      rw [ex_for, hit, go_ok]
      exact e0
    simp [d_found_at, start0, e, encO]
theorem law_at_loop {n : Nat} {pl : Option W} {st : Sto} : ∀ (is : List Int) (t : Tm) (o2 : Option W),
    (atT t is = Option.none → forGo (setTg [2] true) (exs (callN D n) lb_law_at_0) (is.map W.int) [some (enc t), pl, o2] st = .rt .non st) ∧
    (∀ u, atT t is = some u → ∃ o2', forGo (setTg [2] true) (exs (callN D n) lb_law_at_0) (is.map W.int) [some (enc t), pl, o2] st = .nx [some (enc u), pl, o2'] st)
  | [], t, o2 => ⟨fun h => (by rw [atT] at h; cases h), fun u h => (by rw [atT] at h; cases h; exact ⟨o2, rfl⟩)⟩
  | i :: is, .letter s, o2 => by
    have hn : atT (.letter s) (i :: is) = Option.none := by
      rw [atT, if_neg (fun h => by have h1 : i < ((0 : Nat) : Int) := h.2; omega)]
    rw [hn, List.map_cons]
    refine ⟨fun _ => ?_, fun u hu => by cases hu⟩
    exact for_rt (ρ := [some (enc (.letter s)), pl, some (.int i)]) setTg_one (by simp [lb_law_at_0, enc])
  | i :: is, .sign s ps, o2 => by
    rw [atT, List.map_cons]
    by_cases h : 0 ≤ i ∧ i < (partsT (.sign s ps)).length
    · rw [if_pos h]
      obtain ⟨p, hp, hat⟩ := enc_at h.1 h.2
      rw [hp, Option.bind_some]
      have h2 := h.2
      rw [partsT] at hat h2
      have e : exs (callN D n) lb_law_at_0 [some (enc (.sign s ps)), pl, some (.int i)] st = .nx [some (enc p), pl, some (.int i)] st := by
        simp [lb_law_at_0, enc, h.1, encs_len, h2, hat]
      rw [for_turn (ρ := [some (enc (.sign s ps)), pl, some (.int i)]) setTg_one e]
      exact law_at_loop is p (some (.int i))
    · rw [if_neg h]
      refine ⟨fun _ => ?_, fun u hu => by cases hu⟩
      have e : exs (callN D n) lb_law_at_0 [some (enc (.sign s ps)), pl, some (.int i)] st = .rt .non st := by
        by_cases h0 : 0 ≤ i
        · have h1 : ¬ i < ps.length := fun z => h ⟨h0, z⟩
          simp [lb_law_at_0, enc, h0, encs_len, h1]
        · simp [lb_law_at_0, enc, h0]
      exact for_rt setTg_one e
theorem law_at_ok {n : Nat} {is : List Int} {t : Tm} {st : Sto} : callN D (n + 1) f_law_at [enc t, .tup (is.map W.int)] st = .ok (encO (atT t is)) st := by
  rw [call_eq (d := d_law_at) rfl rfl]
  have hit : evIt (callN D n) (.seq (.var 1)) [some (enc t), some (.tup (is.map W.int)), none] st = .ok (is.map W.int) st := by simp
  have h := law_at_loop (n := n) (pl := some (.tup (is.map W.int))) (st := st) is t none
  cases ha : atT t is with
  | none =>
    have e : ex (callN D n) lp_law_at_0 [some (enc t), some (.tup (is.map W.int)), none] st = .rt .non st := by
      unfold lp_law_at_0
      rw [ex_for, hit, go_ok]
      exact h.1 ha
    simp [d_law_at, start0, e, encO]
  | some u =>
    obtain ⟨o2', e0⟩ := h.2 u ha
    have e : ex (callN D n) lp_law_at_0 [some (enc t), some (.tup (is.map W.int)), none] st = .nx [some (enc u), some (.tup (is.map W.int)), o2'] st := by
      unfold lp_law_at_0
      rw [ex_for, hit, go_ok]
      exact e0
    simp [d_law_at, start0, e, encO]
theorem part_at_ok {n : Nat} {is : List Int} {t : Tm} {st : Sto} (h : okT t = true) (hz : szT t ≤ 100) : callN D (n + 4) f_part_at [enc t, .tup (is.map W.int)] st = .ok (encO (atT t is)) (st ++ [.lst []]) := by
  rw [call_eq (d := d_part_at) rfl rfl]
  have h1 := need_term_ok (n := n) (st := st) h hz
  have h2 := found_at_ok (n := n + 1) (is := is) (t := t) (st := st ++ [.lst []])
  simp [d_part_at, start0, h1, h2]
/-! ### is it that term -/
theorem cut_last {α : Type} (l : List α) : cutL l none (some (-1)) = l.dropLast := by
  unfold cutL
  rw [HT.sIx_none, List.drop_zero, List.dropLast_eq_take]
  congr 1
  have : HT.sIx l.length l.length (some (-1)) = ((-1 : Int) + (l.length : Int)).toNat := rfl
  rw [this]
  omega
theorem at_last {α : Type} {l : List α} {x : α} : atI (l ++ [x]) (-1) = some x := by
  unfold atI ixN
  rw [List.length_append, List.length_singleton]
  rw [if_neg (by omega), if_pos (by omega)]
  have : ((-1 : Int) + ((l.length + 1 : Nat) : Int)).toNat = l.length := by omega
  simp only [this, Option.bind_some]
  simp
theorem isterm_turn {cl : Nat → List W → Sto → Res W} {ts : List Tm} {t : Tm} {w0 w1 o3 : Option W} {st : Sto} (h : (encs ts).length ≤ 100) (ht : okT t = true) :
    exs cl lb_law_is_term_0 [w0, w1, some (.lst (encs (ts ++ [t]))), o3] st = .nx [w0, w1, some (.lst (encs (ts ++ partsT t))), some (enc t)] st := by
  have e1 : encs (ts ++ [t]) = encs ts ++ [enc t] := by rw [encs_append]; rfl
  have e2 : cutL (encs ts ++ [enc t]) none (some (-1)) = encs ts := by rw [cut_last, List.dropLast_concat]
  have e3 : atI (encs ts ++ [enc t]) (-1) = some (enc t) := at_last
  rw [e1]
  cases t with
  | letter s =>
    rw [show ts ++ partsT (.letter s) = ts from List.append_nil _]
    rw [enc] at e2 e3 ⊢
    simp [lb_law_is_term_0, e2, e3]
  | sign s ps =>
    simp only [okT, Bool.and_eq_true, decide_eq_true_eq] at ht
    have hg : (encs ts).length + (encs ps).length ≤ lim := by rw [encs_len ps]; show _ ≤ 16777216; omega
    rw [partsT, encs_append]
    rw [enc] at e2 e3 ⊢
    simp [lb_law_is_term_0, e2, e3, hg]
theorem isterm_loop {cl : Nat → List W → Sto → Res W} {w0 w1 : Option W} {st : Sto} : ∀ (fuel : Nat) (ts : List Tm) (o : Option W), okTs ts = true → szTs ts ≤ 100 → szTs ts < fuel →
    ∃ o', whGo (fun ρ st => boolW (ev cl (.cmp .ne (.var 2) (.frz (.disp []))) ρ st)) (exs cl lb_law_is_term_0) fuel [w0, w1, some (.lst (encs ts)), o] st = .nx [w0, w1, some (.lst []), o'] st
  | 0, _, _, _, _, h => absurd h (Nat.not_lt_zero _)
  | fuel + 1, ts, o, hok, hm, hf => by
    have hd := encs_data hok
    have hne := ne_nil (st := st) (w := .lst (encs ts)) deref_l hd.1 hd.2.1
    rcases List.eq_nil_or_concat ts with rfl | ⟨ts', t, rfl⟩
    · have e : (encs ([] : List Tm)).isEmpty = true := rfl
      rw [e] at hne
      refine ⟨o, ?_⟩
      rw [wh_stop (st1 := st) (by simp [hne])]
      rfl
    · rw [List.concat_eq_append] at *
      rw [okTs_append] at hok
      simp only [okTs, Bool.and_eq_true, Bool.and_true] at hok
      rw [szTs_append] at hm hf
      simp only [szTs, Nat.add_zero] at hm hf
      have hne' : cmpW st .ne (.lst (encs (ts' ++ [t]))) (.lst []) = some true := by
        rw [hne, encs_append]
        simp [encs]
      have ht : okT t = true := by simpa using hok.2
      have hp := sz_pos t
      have hq := parts_sz t
      have hl := encs_len_le ts'
      obtain ⟨o', ih⟩ := isterm_loop (cl := cl) (w0 := w0) (w1 := w1) (st := st) fuel (ts' ++ partsT t) (some (enc t))
        (by rw [okTs_append, Bool.and_eq_true]; exact ⟨hok.1, parts_okT ht⟩) (by rw [szTs_append]; omega) (by rw [szTs_append]; omega)
      refine ⟨o', ?_⟩
      rw [wh_turn (st1 := st) (by simp [hne']) (isterm_turn (by omega) ht)]
      exact ih
theorem is_term_ok {n : Nat} {t : Tm} {st : Sto} (h : okT t = true) (hz : szT t ≤ 100) : callN D (n + 1) f_law_is_term [enc t, enc t] st = .ok (.bl true) st := by
  rw [call_eq (d := d_law_is_term) rfl rfl]
  obtain ⟨o', e⟩ := isterm_loop (cl := callN D n) (w0 := some (enc t)) (w1 := some (enc t)) (st := st) 100000 [t] none (by simp [okTs, h]) (by simp [szTs]; omega) (by simp [szTs]; omega)
  rw [← ex_while] at e
  change ex _ lp_law_is_term_0 _ _ = _ at e
  have hd := enc_data h
  have hq : cmpW st .eq (enc t) (enc t) = some true := by
    cases t with
    | letter s => rw [enc] at hd ⊢; exact eq_same deref_t deref_t hd.1 hd.2.1 (by have := hd.2.2; have := dp_le_sz (.letter s); omega)
    | sign s ps => rw [enc] at hd ⊢; exact eq_same deref_t deref_t hd.1 hd.2.1 (by have := hd.2.2; have := dp_le_sz (.sign s ps); omega)
  have e2 : encs [t] = [enc t] := rfl
  rw [e2] at e
  simp [d_law_is_term, start0, e, hq]
/-! ### k01: the law -/
section
variable {cl : Nat → List W → Sto → Res W} {ρ ρ' : Rho} {st st' : Sto} {s : S} {ss : List S} {R : Sto → SR}
theorem ex_step (h : ex cl s ρ st = .nx ρ' st') (k : ∃ z, exs cl ss ρ' st' = R z) : ∃ z, exs cl (s :: ss) ρ st = R z := by
  rw [exs, h]; exact k
end
theorem enc_isN {st : Sto} (t : Tm) : cmpW st .isN (enc t) .non = some false := by cases t <;> rfl
theorem enc_notN {st : Sto} (t : Tm) : cmpW st .notN (enc t) .non = some true := by cases t <;> rfl
theorem ne_bl {st : Sto} (b : Bool) : cmpW st .ne (.bl b) (.bl b) = some false := by
  refine ne_same (w := .bl b) rfl rfl rfl rfl (by cases b <;> decide)
theorem typ_r {st : Sto} {i : Nat} {ws : List W} (h : st[i]? = some (.lst ws)) : typW st (.ref i) = some "list" := by
  unfold typW; simp only [h]
theorem sz_dp1 : ∀ {ts : List Tm}, dpTs ts ≤ 1 → szTs ts ≤ ts.length
  | [], _ => Nat.le_refl _
  | .letter s :: ts, h => by
    rw [dpTs] at h
    have := sz_dp1 (ts := ts) (by omega)
    rw [szTs, szT, List.length_cons]; omega
  | .sign s ps :: ts, h => by
    rw [dpTs, dpT] at h
    have := sz_dp1 (ts := ts) (by omega)
    have h0 : ps = [] := by
      cases ps with
      | nil => rfl
      | cons p ps => rw [dpTs] at h; have := dp_pos p; omega
    subst h0
    rw [szTs, szT, szTs, List.length_cons]; omega
theorem sz_dp2 {t : Tm} (h : okT t = true) (hd : dpT t ≤ 2) : szT t ≤ 4 := by
  cases t with
  | letter s => rw [szT]; omega
  | sign s ps =>
    simp only [okT, Bool.and_eq_true, decide_eq_true_eq] at h
    rw [dpT] at hd
    have := sz_dp1 (ts := ps) (by omega)
    rw [szT]; omega
theorem whole_ok {n : Nat} {i : Int} {st : Sto} : callN D (n + 1) f_law_whole [.int i] st = .ok (.bl true) st := by
  rw [call_eq (d := d_law_whole) rfl rfl]
  simp [d_law_whole, start0]
/-- the dice's cell, the names' cell, the rest -/
def Sh (nms : List W) (st : Sto) : Prop := ∃ (a b : Int) (tl : Sto), 0 ≤ a ∧ st = .lst [.int a, .int b] :: .lst nms :: tl
theorem Sh.app {nms : List W} {st : Sto} (h : Sh nms st) (g : Sto) : Sh nms (st ++ g) := by
  obtain ⟨a, b, tl, ha, rfl⟩ := h
  exact ⟨a, b, tl ++ g, ha, rfl⟩
theorem Sh.set {nms : List W} {st : Sto} {m : Nat} {c : Cell} (h : Sh nms st) (hm : 2 ≤ m) : Sh nms (st.set m c) := by
  obtain ⟨a, b, tl, ha, rfl⟩ := h
  obtain ⟨k, rfl⟩ : ∃ k, m = k + 2 := ⟨m - 2, by omega⟩
  exact ⟨a, b, tl.set k c, ha, rfl⟩
theorem Sh.two {nms : List W} {st : Sto} (h : Sh nms st) : 2 ≤ st.length := by
  obtain ⟨a, b, tl, ha, rfl⟩ := h
  simp
theorem roll_sh {n : Nat} {nms : List W} {st : Sto} {m : Int} (h : Sh nms st) (h0 : 0 < m) (h1 : m < 100) : ∃ r st', 0 ≤ r ∧ r < m ∧ Sh nms st' ∧ callN D (n + 1) f_law_roll [.ref 0, .int m] st = .ok (.int r) st' := by
  obtain ⟨a, b, tl, ha, rfl⟩ := h
  obtain ⟨r, a', b', h2, h3, h4, e⟩ := roll_ok (n := n) (k := 0) (a := a) (b := b) (st := .lst [.int a, .int b] :: .lst nms :: tl) rfl ha h0 h1
  exact ⟨r, _, h2, h3, ⟨a', b', tl, h4, rfl⟩, e⟩
theorem term_sh {N deep : Nat} {nms : List Str} {st : Sto} (h : Sh (nms.map W.str) st) (hN : deep + 2 ≤ N) (h7 : nms.length = 7) (hn : ∀ s ∈ nms, isNm s = true) :
    ∃ t st', okT t = true ∧ dpT t ≤ deep + 1 ∧ ltT (nms.take 3) t = true ∧ Sh (nms.map W.str) st' ∧ callN D N f_law_term [.ref 0, .ref 1, .int (deep : Nat)] st = .ok (enc t) st' := by
  obtain ⟨a, b, tl, ha, rfl⟩ := h
  obtain ⟨t, a', b', h1, h2, h3, h4, e⟩ := term_ok2 (b := b) (tail := tl) hN ha h7 hn
  exact ⟨t, _, h1, h2, h3, ⟨a', b', tl, h4, rfl⟩, e⟩
theorem place_ok {nms : List W} {st : Sto} {ρ : Rho} (h : Sh nms st) (hr : ρ[1]? = some (some (.ref 0))) (hl : ρ.length = 10) :
    ∃ (is : List Int) (st' : Sto), Sh nms st' ∧ ev (callN D 216) (.tupof (.frz (.lc [("_law_k", 9)] [9] true (.range1 (.call f_law_roll [.var 1, .int 5])) [] (.bin .sub (.call f_law_roll [.var 1, .int 4]) (.intof (.cmp .eq (.call f_law_roll [.var 1, .int 9]) (.int 0))))))) ρ st = .ok (.tup (is.map W.int)) st' := by
  obtain ⟨m, st1, h1, h2, h3, e1⟩ := roll_sh (n := 215) h (m := 5) (by omega) (by omega)
  replace e1 : callN D 216 f_law_roll [.ref 0, .int 5] st = .ok (.int m) st1 := e1
  obtain ⟨k, rfl⟩ := Int.eq_ofNat_of_zero_le h1
  obtain ⟨ws, st', eL, hsh, hi⟩ := lcGo_rng (st := st1) (f := fun w s => (evConds (callN D 216) [] (((wipeR ρ [9])).set 9 (some w)) s).noerr.bind fun b s => if b = true then (ev (callN D 216) (.bin .sub (.call f_law_roll [.var 1, .int 4]) (.intof (.cmp .eq (.call f_law_roll [.var 1, .int 9]) (.int 0)))) (((wipeR ρ [9])).set 9 (some w)) s).noerr.bind fun y s => .ok (some y) s else .ok none s)
    (fun i pre s => Sh nms s ∧ ∃ is : List Int, pre = is.map W.int) (rangeL 0 k) 0 [] ⟨h3, [], rfl⟩ (fun i pre s w hw ⟨u1, is, u2⟩ => by
      subst u2
      obtain ⟨r1, s1, _, _, k1, d1⟩ := roll_sh (n := 215) u1 (m := 4) (by omega) (by omega)
      replace d1 : callN D 216 f_law_roll [.ref 0, .int 4] s = .ok (.int r1) s1 := d1
      obtain ⟨r2, s2, _, _, k2, d2⟩ := roll_sh (n := 215) k1 (m := 9) (by omega) (by omega)
      replace d2 : callN D 216 f_law_roll [.ref 0, .int 9] s1 = .ok (.int r2) s2 := d2
      refine ⟨.int (r1 - (if r2 = 0 then 1 else 0)), s2, ?_, k2, is ++ [r1 - (if r2 = 0 then 1 else 0)], by simp⟩
      have hr9 : (((ρ.set 9 none).set 9 (some w)) : Rho)[1]? = some (some (.ref 0)) := by
        rw [List.getElem?_set_ne (by omega), List.getElem?_set_ne (by omega), hr]
      by_cases hz : r2 = 0
      · subst hz
        simp [hr, d1, d2]
      · simp [hr, d1, d2, hz])
  obtain ⟨is, hws⟩ := hi
  rw [List.nil_append] at hws
  subst hws
  have hkl : (rangeL 0 k).length = k := by unfold rangeL; simp
  have hlc := lc_go (cl := callN D 216) (vs := [("_law_k", 9)]) (i := 9) (it := .range1 (.call f_law_roll [.var 1, .int 5])) (cond := []) (elt := .bin .sub (.call f_law_roll [.var 1, .int 4]) (.intof (.cmp .eq (.call f_law_roll [.var 1, .int 9]) (.int 0)))) (ρ := ρ) (st := st)
    (it_rng (n := k) (st1 := st1) (by simp [hr, e1]) (by omega)) (by rw [hkl]; show _ ≤ 16777216; omega) eL
  refine ⟨is, st', hsh, ?_⟩
  rw [ev, ev, hlc]
  simp
theorem law_turn1 {nms : List W} {st : Sto} {t : Tm} {w0 w2 w4 o5 o6 o7 o8 o9 : Option W} (h : Sh nms st) (ht : okT t = true) (hz : szT t ≤ 100) :
    ∃ o6' o7' o8' st', Sh nms st' ∧ exs (callN D 216) lb_law_0 [w0, some (.ref 0), w2, some (enc t), w4, o5, o6, o7, o8, o9] st = .nx [w0, some (.ref 0), w2, some (enc t), w4, o5, o6', o7', o8', o9] st' := by
  obtain ⟨is, st', hs, e⟩ := place_ok (ρ := [w0, some (.ref 0), w2, some (enc t), w4, o5, o6, o7, o8, o9]) h rfl rfl
  have e1 : ∀ s, callN D 216 f_law_at [enc t, .tup (is.map W.int)] s = .ok (encO (atT t is)) s := fun s => law_at_ok (n := 215)
  have e2 : ∀ s, callN D 216 f_part_at [enc t, .tup (is.map W.int)] s = .ok (encO (atT t is)) (s ++ [.lst []]) := fun s => part_at_ok (n := 212) ht hz
  refine ⟨some (.tup (is.map W.int)), some (encO (atT t is)), some (encO (atT t is)), st' ++ [.lst []], hs.app _, ?_⟩
  simp only [lb_law_0, exs, ex_set, e, go_ok, sbind_nx, List.set_cons_succ, List.set_cons_zero]
  cases ha : atT t is with
  | none =>
    rw [ha] at e1 e2
    rw [encO] at e1 e2 ⊢
    have q1 : ∀ s, cmpW s .isN .non .non = some true := fun _ => rfl
    have q2 : ∀ s, cmpW s .notN .non .non = some false := fun _ => rfl
    have q3 := fun s => ne_bl (st := s) true
    simp [e1, e2, q1, q2, q3]
  | some u =>
    have hu := atT_ok ht ha
    rw [ha] at e1 e2
    rw [encO] at e1 e2 ⊢
    have e3 : ∀ s, callN D 216 f_law_is_term [enc u, enc u] s = .ok (.bl true) s := fun s => is_term_ok (n := 215) hu.1 (by omega)
    have q3 := fun s => ne_bl (st := s) false
    simp [e1, e2, e3, enc_isN, enc_notN, q3]
theorem law_loop {nms : List W} {st : Sto} {t : Tm} {w0 w2 w4 : Option W} (h : Sh nms st) (ht : okT t = true) (hz : szT t ≤ 100) :
    ∃ ρ' st', ex (callN D 216) lp_law_0 [w0, some (.ref 0), w2, some (enc t), w4, none, none, none, none, none] st = .nx ρ' st' := by
  unfold lp_law_0
  rw [ex_for, it_rng (n := 4) (st1 := st) (by simp) (by omega), go_ok]
  obtain ⟨ρ', st', e, _⟩ := for_rng (m := 4) (f := setTg [5] true) (b := exs (callN D 216) lb_law_0) (ρ := [w0, some (.ref 0), w2, some (enc t), w4, none, none, none, none, none]) (st := st)
    (fun j ρ s => ∃ (o5 o6 o7 o8 : Option W), ρ = [w0, some (.ref 0), w2, some (enc t), w4, o5, o6, o7, o8, none] ∧ Sh nms s)
    ⟨none, none, none, none, rfl, h⟩ (fun j ρ s hj ⟨o5, o6, o7, o8, e1, e2⟩ => by
      subst e1
      obtain ⟨o6', o7', o8', st', hs, e⟩ := law_turn1 (w0 := w0) (w2 := w2) (w4 := w4) (o5 := some (.int (j : Nat))) (o6 := o6) (o7 := o7) (o8 := o8) (o9 := none) e2 ht hz
      exact ⟨_, _, _, setTg_one, e, some (.int (j : Nat)), o6', o7', o8', rfl, hs⟩)
  exact ⟨ρ', st', e⟩
theorem law_tail {nms : List Str} {st : Sto} {t : Tm} {w0 : Option W} (h : Sh (nms.map W.str) st) (h7 : nms.length = 7) (ht : okT t = true) (hz : szT t ≤ 100) (hl : ltT (nms.take 3) t = true) :
    ∃ z, exs (callN D 216) (d_law.body.drop 4) [w0, some (.ref 0), some (.ref 1), some (enc t), none, none, none, none, none, none] st = .rt (.bl true) z := by
  have hS : (nms.take 3).length ≤ 7 := by rw [List.length_take]; omega
  have hsz : ∀ s, callN D 216 f_size [enc t] s = .ok (.int (szT t : Nat)) (s ++ [.lst []]) := fun s => size_ok (n := 215) ht hz (by omega)
  have hls : ∀ s, callN D 216 f_law_size [enc t] s = .ok (.int (szT t : Nat)) s := fun s => law_size_ok (n := 216) ht (by have := dp_le_sz t; omega)
  have hwh : ∀ i s, callN D 216 f_law_whole [.int i] s = .ok (.bl true) s := fun i s => whole_ok (n := 215)
  have hll : ∀ s, callN D 216 f_law_letters [enc t] s = .ok (.lst ((nmT t).map W.str)) s := fun s => law_letters_ok hS 216 t s ht hl (by have := dp_le_sz t; omega)
  have hnm := nmT_ok ht hl
  have hsd := strs_data hnm.2.2
  have hok : okD (.lst ((nmT t).map W.str)) = true := by rw [okD]; exact hsd.1
  have hcl : (toD (.lst ((nmT t).map W.str))).canLay0 = true := by rw [toD, PyData.canLay0]; exact hsd.2.1
  have hdp : (toD (.lst ((nmT t).map W.str))).depth ≤ 400 := by rw [toD, PyData.depth, hsd.2.2]; omega
  have hln := nm_len ht hl
  -- the sizes
  refine ex_step (ρ' := [w0, some (.ref 0), some (.ref 1), some (enc t), none, none, none, none, none, none]) (st' := st ++ [.lst []] ++ [.lst []]) (by simp [hsz, hls, hwh]) ?_
  generalize hs1 : st ++ [Cell.lst []] ++ [Cell.lst []] = s1
  have sh1 : Sh (nms.map W.str) s1 := by rw [← hs1]; exact (h.app _).app _
  -- the letters
  obtain ⟨g, m, e1, hm, hx⟩ : ∃ g m, callN D 216 f_letters [enc t] s1 = .ok (.ref m) (s1 ++ g) ∧ s1.length ≤ m ∧ (s1 ++ g)[m]? = some (.lst ((nmT t).map W.str)) := letters_ok hS (n := 215) ht hz hl (by omega)
  have sh2 := sh1.app g
  have h2m : 2 ≤ m := Nat.le_trans sh1.two hm
  generalize s1 ++ g = s2 at *
  refine ex_step (ρ' := [w0, some (.ref 0), some (.ref 1), some (enc t), some (.ref m), none, none, none, none, none]) (st' := s2) (by simp [e1]) ?_
  have c1 : cmpW s2 .ne (.ref m) (.lst ((nmT t).map W.str)) = some false := ne_same (deref_r hx) deref_l hok hcl hdp
  refine ex_step (ρ' := [w0, some (.ref 0), some (.ref 1), some (enc t), some (.ref m), none, none, none, none, none]) (st' := s2) (by simp [typ_r hx, hll, c1]) ?_
  have hg : ((nmT t).map W.str).length < lim := by rw [List.length_map]; show _ < 16777216; omega
  refine ex_step (ρ' := [w0, some (.ref 0), some (.ref 1), some (enc t), some (.ref m), none, none, none, none, none]) (st' := s2.set m (.lst ((nmT t).map W.str ++ [.str "x"]))) (by
    have happ : ev (callN D 216) (.app (.var 4) (.str "x")) [w0, some (.ref 0), some (.ref 1), some (enc t), some (.ref m), none, none, none, none, none] s2 = .ok .non (s2.set m (.lst ((nmT t).map W.str ++ [.str "x"]))) := by
      simp only [ev, List.getElem?_cons_succ, List.getElem?_cons_zero, bind_ok, hx, guard_of (decide_eq_true hg)]
    rw [ex_expr, happ, go_ok]) ?_
  have sh3 : Sh (nms.map W.str) (s2.set m (.lst ((nmT t).map W.str ++ [.str "x"]))) := sh2.set h2m
  generalize s2.set m (.lst ((nmT t).map W.str ++ [.str "x"])) = s3 at *
  obtain ⟨g2, m2, e2, hm2, hx2⟩ : ∃ g m, callN D 216 f_letters [enc t] s3 = .ok (.ref m) (s3 ++ g) ∧ s3.length ≤ m ∧ (s3 ++ g)[m]? = some (.lst ((nmT t).map W.str)) := letters_ok hS (n := 215) ht hz hl (by omega)
  have sh4 := sh3.app g2
  generalize s3 ++ g2 = s4 at *
  have c2 : cmpW s4 .ne (.ref m2) (.lst ((nmT t).map W.str)) = some false := ne_same (deref_r hx2) deref_l hok hcl hdp
  refine ex_step (ρ' := [w0, some (.ref 0), some (.ref 1), some (enc t), some (.ref m), none, none, none, none, none]) (st' := s4) (by simp [e2, hll, c2]) ?_
  obtain ⟨ρ5, s5, e5⟩ := law_loop (w0 := w0) (w2 := some (.ref 1)) (w4 := some (.ref m)) sh4 ht hz
  refine ex_step e5 ?_
  exact ⟨s5, by simp⟩
theorem pure_law (ns : List Int) (hl : ns.length ≤ 63) : ∃ st, callN D 217 f_law [.scr (ns.map W.int)] [] = .ok (.bl true) st := by
  rw [call_eq (d := d_law) rfl rfl]
  obtain ⟨c0, hc0⟩ : ∃ c : Int, callN D 216 _ _ _ = .ok (.int c) _ := cell_at_ok (n := 215) (ns := ns) (k := 0) (st := [])
  obtain ⟨a, b, ha, hd⟩ := dice_ok (n := 215) (c := c0) (st := [])
  obtain ⟨c1, hc1⟩ : ∃ c : Int, callN D 216 _ _ _ = .ok (.int c) _ := cell_at_ok (n := 215) (ns := ns) (k := 1) (st := [.lst [.int a, .int b]])
  obtain ⟨nms, h7, hn, hnm⟩ := names_ok (n := 215) (C := c1) (st := [.lst [.int a, .int b]])
  replace hd : callN D 216 _ _ _ = .ok (.ref 0) [.lst [.int a, .int b]] := hd
  replace hnm : callN D 216 _ _ _ = .ok (.ref 1) [.lst [.int a, .int b], .lst (nms.map W.str)] := hnm
  rw [show ((0 : Nat) : Int) = 0 from rfl] at hc0
  rw [show ((1 : Nat) : Int) = 1 from rfl] at hc1
  have sh0 : Sh (nms.map W.str) [.lst [.int a, .int b], .lst (nms.map W.str)] := ⟨a, b, [], ha, rfl⟩
  have key : ∃ z, exs (callN D 216) d_law.body (start0 d_law [.scr (ns.map W.int)]) [] = .rt (.bl true) z := by
    have es : start0 d_law [.scr (ns.map W.int)] = [some (.scr (ns.map W.int)), none, none, none, none, none, none, none, none, none] := rfl
    rw [es]
    refine ex_step (ρ' := [some (.scr (ns.map W.int)), some (.ref 0), none, none, none, none, none, none, none, none]) (st' := [.lst [.int a, .int b]]) (by simp [hc0, hd]) ?_
    refine ex_step (ρ' := [some (.scr (ns.map W.int)), some (.ref 0), some (.ref 1), none, none, none, none, none, none, none]) (st' := [.lst [.int a, .int b], .lst (nms.map W.str)]) (by simp [hc1, hnm]) ?_
    obtain ⟨t, s1, ht, hdp, hlt, sh1, e1⟩ := term_sh (N := 216) (deep := 4) sh0 (by omega) h7 hn
    refine ex_step (ρ' := [some (.scr (ns.map W.int)), some (.ref 0), some (.ref 1), some (enc t), none, none, none, none, none, none]) (st' := s1) (by
      rw [show ((4 : Nat) : Int) = 4 from rfl] at e1
      simp [e1]) ?_
    have hls := law_size_ok (n := 216) (t := t) (st := s1) ht (by omega)
    by_cases hz : szT t ≤ 100
    · have hi : ¬ (100 : Int) < (szT t : Nat) := by omega
      refine ex_step (ρ' := [some (.scr (ns.map W.int)), some (.ref 0), some (.ref 1), some (enc t), none, none, none, none, none, none]) (st' := s1) (by simp [hls, hi]) ?_
      exact law_tail sh1 h7 ht hz hlt
    · have hi : (100 : Int) < (szT t : Nat) := by omega
      obtain ⟨u, s2, hu, hdu, hlu, sh2, e2⟩ := term_sh (N := 216) (deep := 1) sh1 (by omega) h7 hn
      have h3 : 3 < nms.length := by omega
      have hx : ixW s1 (.ref 1) (.int 3) = some (.str nms[3]) := by
        obtain ⟨a', b', tl, _, rfl⟩ := sh1
        rw [ix_r (ws := nms.map W.str) rfl, at_in (by omega) (by rw [List.length_map]; omega)]
        simp [h3]
      have h4 := sz_dp2 hu hdu
      have hn3 := hn _ (List.getElem_mem h3)
      refine ex_step (ρ' := [some (.scr (ns.map W.int)), some (.ref 0), some (.ref 1), some (enc (.sign nms[3] [u])), none, none, none, none, none, none]) (st' := s2) (by
        rw [show ((1 : Nat) : Int) = 1 from rfl] at e2
        generalize nms[3] = n3 at *
        simp [hls, hi, hx, e2, enc, encs]) ?_
      exact law_tail sh2 h7 (by simp [okT, okTs, hn3, hu]) (by rw [szT, szTs, szTs]; omega) (by rw [ltT, ltTs, ltTs, hlu]; rfl)
  obtain ⟨z, e⟩ := key
  exact ⟨z, by rw [e]; rfl⟩
end Mz
end
section
namespace Mz
open PySem PySem.Spec PyProof.Rows L2
def top (i : Nat) : Stmt := PySem.Challenge.pw_proofshare_k01_terms_counted.main.body.getD i (.Pass ⟨0, 0, 0, 0⟩)
def sts : List Stmt := [top 8, top 9, top 10, top 11, top 12, top 13, top 14, top 15, top 16, top 17, top 19, top 20, top 21, top 22, top 23, top 24, top 25, top 26, top 28, top 29, top 30]
def G : Gam := ⟨["is_name", "parts_of", "is_head", "need_term", "count", "names_in", "size", "letters", "found_at", "part_at", "_law_cell_at", "_law_dice", "_law_roll", "_law_whole", "_law_names", "_law_term", "_law_size", "_law_letters", "_law_is_term", "_law_at", "law"], [("LONGEST_NAME", 8), ("MOST_PARTS", 3), ("MOST_SIZE", 100)], [("NAME_SIGNS", "abcdefghijklmnopqrstuvwxyz")], ["bool", "int", "isinstance", "len", "list", "range", "sorted", "str", "sum", "tuple"]⟩
theorem chk_all : (D.zip sts).all (fun p => chkDef G p.1 (defBody p.2) (defScope p.2)) = true := by decide +kernel
theorem bind_all : AllB (D.zip sts) :=
  ⟨fun _ _ _ _ _ _ us hl => match us, hl with | [_], _ => rfl,
   fun _ _ _ _ _ _ us hl => match us, hl with | [_], _ => rfl,
   fun _ _ _ _ _ _ us hl => match us, hl with | [_], _ => rfl,
   fun _ _ _ _ _ _ us hl => match us, hl with | [_], _ => rfl,
   fun _ _ _ _ _ _ us hl => match us, hl with | [_], _ => rfl,
   fun _ _ _ _ _ _ us hl => match us, hl with | [_], _ => rfl,
   fun _ _ _ _ _ _ us hl => match us, hl with | [_], _ => rfl,
   fun _ _ _ _ _ _ us hl => match us, hl with | [_], _ => rfl,
   fun _ _ _ _ _ _ us hl => match us, hl with | [_, _], _ => rfl,
   fun _ _ _ _ _ _ us hl => match us, hl with | [_, _], _ => rfl,
   fun _ _ _ _ _ _ us hl => match us, hl with | [_, _], _ => rfl,
   fun _ _ _ _ _ _ us hl => match us, hl with | [_], _ => rfl,
   fun _ _ _ _ _ _ us hl => match us, hl with | [_, _], _ => rfl,
   fun _ _ _ _ _ _ us hl => match us, hl with | [_], _ => rfl,
   fun _ _ _ _ _ _ us hl => match us, hl with | [_, _], _ => rfl,
   fun _ _ _ _ _ _ us hl => match us, hl with | [_, _, _], _ => rfl,
   fun _ _ _ _ _ _ us hl => match us, hl with | [_], _ => rfl,
   fun _ _ _ _ _ _ us hl => match us, hl with | [_], _ => rfl,
   fun _ _ _ _ _ _ us hl => match us, hl with | [_, _], _ => rfl,
   fun _ _ _ _ _ _ us hl => match us, hl with | [_, _], _ => rfl,
   fun _ _ _ _ _ _ us hl => match us, hl with | [_], _ => rfl, trivial⟩
def loose0 : List PySem.Str := ["ProofError", "BadTerm", "NAME_SIGNS", "LONGEST_NAME", "MOST_PARTS", "MOST_SIZE", "is_name", "parts_of", "is_head", "need_term", "count", "names_in", "size", "letters", "found_at", "part_at", "_law_cell_at", "_law_dice", "_law_roll", "_law_whole", "_law_names", "_law_term", "_law_size", "_law_letters", "_law_fill", "_law_is_term", "_law_at"]
def loose : List PySem.Str := loose0
def fnl : List He.DefD := List.zipWith mkD D sts
abbrev R : PySem.W.OpenRow := PySem.W.OpenLaw.row PySem.Challenge.rw_proofshare_k01_terms_counted
abbrev hk : PySem.W.Hook := He.hookD 4 (faOf G) fnl
def ob (s : PySem.W.SharedT) : He.AlD := He.obsDG 4 (faOf G) fnl (HandSHeadRun.getT s)
theorem ob_eq (s : PySem.W.SharedT) : ob s = hk.obs s.abs := He.obsDG_eq (HandSHeadRun.getT_eq s)
theorem run (w : World) : HandSHeadRun.RunEq R (PySem.W.view R.prog [30]) hk ob 4000 loose w := by
  intro os
  kernel_rfl

end Mz
end
open PySem PySem.W PySem.Calls PyProof.Rows
theorem PySem.Challenge.cw_proofshare_k01_terms_counted_holds : PySem.Challenge.rw_proofshare_k01_terms_counted.Holds := by
  w_on; o_law
  refine HandSHeadRun.head_any (r := OpenLaw.row PySem.Challenge.rw_proofshare_k01_terms_counted) (q := view (OpenLaw.row PySem.Challenge.rw_proofshare_k01_terms_counted).prog [30]) (H := Mz.hk) (ob := Mz.ob) (M := 4000) (loose := Mz.loose) (d := HandSHeadRun.topDef (OpenLaw.row PySem.Challenge.rw_proofshare_k01_terms_counted).prog 30) (kwd := []) Mz.ob_eq
    (by kernel_rfl) (fun s => by kernel_rfl) Mz.run (by kernel_rfl) (by kernel_rfl) (by kernel_rfl) (by rfl) (by first | assumption | decide +kernel) (by decide +kernel) ⟨rfl, rfl, rfl, rfl, rfl, by decide +kernel⟩ ?hw ?hc
  case hw => w_witness2
  case hc =>
    refine L2.walk_ofE (l := PySem.Challenge.rw_proofshare_k01_terms_counted) (n := 63) (k := 231) (x := "_law_script") (CX := L2.CX0) rfl (by decide) (by kernel_rfl) ⟨rfl, by decide, by decide⟩ ?F (fun _ _ _ _ z => z)
    intro w mg fa h Y G hmg0
    obtain ⟨K, KX, c⟩ := Y
    have hmg : mg ("law" : PySem.Str) = some (.ref fa) := by
      have e : (HandSHeadRun.topDef (OpenLaw.row PySem.Challenge.rw_proofshare_k01_terms_counted).prog 30).name = ("law" : PySem.Str) := by kernel_rfl
      rw [← e]
      exact hmg0
    obtain ⟨fdt, Fc, hB⟩ := Mz.facts_of (P := (PySem.Challenge.rw_proofshare_k01_terms_counted).prog) (w := w) KX G c rfl rfl Mz.bind_all Mz.chk_all
    have hd : Mz.D[20]? = some Mz.d_law := rfl
    have hfa : fa = He.ga K "law" := by
      have := (Fc.df 20 _ hd).1
      rw [show Mz.d_law.name = ("law" : PySem.Str) from rfl, hmg] at this
      cases this
      rfl
    subst hfa
    exact ⟨K, fdt 20, fun vs H Q _ => Mz.spOf K (Mz.callN Mz.D 217 20) 1 vs H Q fun _ _ _ => False, KX, fun s u => hB 20 _ hd s [u] rfl,
      fun H a ns hl hO hS => Mz.law_sp hO hS (Mz.pure_law ns hl), fun base _ _ => Mz.law_ok Fc 216 20 _ hd⟩
